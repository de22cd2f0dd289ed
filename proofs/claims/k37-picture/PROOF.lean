import PyProof.Rows.All
import Wide.All
import OpenK.AllK
import Wide.FinOn
import KE.KeyNested
import KE.KDictWalk
import PyProof.DictRoadsH
import PyProof.DictDisplay
import PyProof.DictTable
import HandS.ForMost
import HandS.Exc
import HandS.ExcOwn
import HandS.TryOnly
import HandS.WordsExc
import HandS.Head2
import HandS.HeadHook1
import HandS.Words
import HandS.Wide
import HandS.Style
import HandS.Flow
import HandS.ExcCtx
import PyProof.P3Eq
import HandS.RevRange
import HandS.Rev
import HandS.CallSlots
import HandS.Property
import HandS.IsInst
import HandS.ExcInit
import HandS.ExcField
import HandS.ExcIs
import HandS.HotCalls
import KE.KExcIs
import KE.KDictZip
import HandS.OwnIter
import PyProof.StrBlock2
import HandS.SlotsOwn
import KE.KOpsOwn
import HandS.Replace
import HandS.ExcInitHot
import HandS.IterNext
import HandS.IterVal
import KE.KOwnIter
import KE.KCallOwn
import KE.KRevSl
import KE.KSuper
import HandS.NestedK
import HandS.ClsMeth
import HandS.MakeKwOnly
import HandS.Star
import HandS.HeadEnd
import HandS.Steps
import HandS.Zip
import KE.GoesMore
import KE.KStar
import KE.DataCmp
import HandS.Conv
import HandS.TupLen
import HandS.SortInts
import HandS.Finally
import HandS.Deep
import HandS.OwnEq
import HandS.Defaults
import HandS.GenList
import HandS.SetFor
import HandS.FStr
import HandS.Text
import HandS.StrMore
import PyProof.StrLawsIn
import PySem.Challenge.RW_siltmeet_k37_picture
set_option Elab.async false
set_option linter.all false
set_option maxRecDepth 100000
namespace PySem
open Sem (wp)
open SeqAt
def notText : NestedKey → Bool
  | .text _ => false
  | _ => true
/-- the value is the key -/
def KeyIs (h : Heap) (k : NestedKey) (v : Value) : Prop := NestedIs h k v ∧ k.depth ≤ 8 ∧ notText k = true
def entV (w : World) (x : NestedKey × Value × Value) : DictEntry := ⟨x.1.hash w, x.2.1, x.2.2⟩
theorem KeyIs.at {h h' : Heap} {k : NestedKey} {v : Value} (hk : ∀ a o vs n, h.get? a = some o → o.data = .seq vs n → h'.get? a = some o) (x : KeyIs h k v) : KeyIs h' k v := ⟨NestedIs.at hk _ _ x.1, x.2⟩
section
variable {prog : Program} {w : World} {A : Around} {E : Value → Shared → Prop} {s : Shared} {d : Addr} {o : Obj} {es : Array DictEntry} {ep : Nat} {xs : List (NestedKey × Value × Value)} {k : NestedKey} {key : Value}
def DictV (w : World) (h : Heap) (d : Addr) (xs : List (NestedKey × Value × Value)) : Prop :=
  ∃ o es ep, h.get? d = some o ∧ o.ExactDict ∧ o.data = .dict es ep ∧ es.toList = xs.map (entV w) ∧ (∀ x ∈ xs, KeyIs h x.1 x.2.1) ∧ (xs.map (·.1)).Nodup
theorem DictV.keep {h h' : Heap} (hm : DictV w h d xs) (hk : ∀ b o, h.get? b = some o → h'.get? b = some o) : DictV w h' d xs := by
  obtain ⟨o, es, ep, ho, hc, hd, he, his, hn⟩ := hm
  exact ⟨o, es, ep, hk _ _ ho, hc, hd, he, fun x hx => (his x hx).at (fun a o _ _ e _ => hk a o e), hn⟩
theorem KeyIs.keeps {h h' : Heap} {k : NestedKey} {v : Value} (x : KeyIs h k v) (ho : h.get? d = some o) (hd : o.data = .dict es ep) (hs : Heap.SameBut d h h') : KeyIs h' k v :=
  x.at (fun b ob vs n hb hc => by
    refine (hs.2 b fun e => ?_).trans hb
    subst e
    rw [ho] at hb
    cases hb
    rw [hd] at hc
    cases hc)
theorem DictV.new (h : Heap) : DictV w (h.push { cls := .type "dict", data := .dict #[] }) h.objs.size [] :=
  ⟨_, #[], 0, Heap.get?_push_size _ rfl, ⟨rfl, rfl, rfl⟩, rfl, rfl, fun _ hx => by simp at hx, List.nodup_nil⟩
end
end PySem
set_option Elab.async false
set_option linter.all false
set_option maxRecDepth 100000
namespace ZZ
open PySem PySem.Spec L2
inductive D where
  | non | bl (b : Bool) | int (i : Int) | str (s : Str)
  | tup (xs : List D) | lst (xs : List D)
  | ins (c : Nat) (xs : List D)
  | wl (xs : List D)
  | dct (ks vs : List D)
mutual
/-- a tree as a dict's key -/
def nk : D → Option NestedKey
  | .non => some .none
  | .bl b => some (.num (if b = true then 1 else 0))
  | .int i => some (.num i)
  | .str s => some (.text s)
  | .tup ds => (nks ds).map .tup
  | .lst _ => none
  | .ins _ _ => none
  | .wl _ => none
  | .dct _ _ => none
def nks : List D → Option (List NestedKey)
  | [] => some []
  | d :: ds => match nk d, nks ds with
    | some k, some ks => some (k :: ks)
    | _, _ => none
end
/-- a class's address; the exception that a suite holds -/
structure Zx where
  K : PySem.W.Frag
  cl : Nat → Addr
  fl : Nat → List Str
  wd : World
/-- the dict at a has these entries -/
def rawV (w : World) (a : Addr) (xs : List (NestedKey × Value × Value)) (ep : Nat) (h : Heap) : Prop := ∃ o es, h.get? a = some o ∧ o.ExactDict ∧ o.data = .dict es ep ∧ es.toList = xs.map (entV w)
/-- keys, values, entries -/
def Ent3 : List D → List V → List V → List (NestedKey × Value × Value) → Prop
  | [], [], [], [] => True
  | k :: ks, x :: kvs, y :: vvs, e :: xs => nk k = some e.1 ∧ e.1.depth ≤ 8 ∧ notText e.1 = true ∧ RelV x e.2.1 ∧ RelV y e.2.2 ∧ Ent3 ks kvs vvs xs
  | _, _, _, _ => False
/-- a dict's shape -/
def DShape (w : World) (ks : List D) (kvs vvs : List V) (a : Addr) (o : HO) : Prop := (a == sysModules) = false ∧ ks.length ≤ 16777216 ∧ ∃ xs ep, o = .ext (rawV w a xs ep) ∧ Ent3 ks kvs vvs xs ∧ (xs.map (·.1)).Nodup
structure Zy extends Zx where
  hd : Option (Addr × Nat × Option Addr)
mutual
def Rep (Z : Zx) (F : Hp) : D → V → Prop
  | .non, v => v = .non
  | .bl b, v => v = .bl b
  | .int i, v => v = .int i
  | .str s, v => v = .str s
  | .tup ds, v => ∃ a vs, v = .ref a ∧ SqT Z.K F a vs ∧ Reps Z F ds vs
  | .lst ds, v => ∃ a vs, v = .ref a ∧ F a = some (.lst vs) ∧ Reps Z F ds vs
  | .ins c ds, v => ∃ a dx fs, v = .ref a ∧ F a = some (.ins (Z.cl c) dx fs) ∧ fs.map (·.1) = Z.fl c ∧ Reps Z F ds (fs.map (·.2))
  | .wl ds, v => ∃ a vs, v = .ref a ∧ SqL Z.K F a vs ∧ Reps Z F ds vs
  | .dct ks vs, v => ∃ a o kvs vvs, v = .ref a ∧ F a = some o ∧ DShape Z.wd ks kvs vvs a o ∧ Reps Z F ks kvs ∧ Reps Z F vs vvs
def Reps (Z : Zx) (F : Hp) : List D → List V → Prop
  | [], vs => vs = []
  | d :: ds, vs => ∃ v r, vs = v :: r ∧ Rep Z F d v ∧ Reps Z F ds r
end
theorem same_seqT {K : PySem.W.Frag} {H H' : Hp} {a : Addr} {xs : List V} (e : Same H H') (h : SqT K H a xs) : SqT K H' a xs := by
  rcases h with (h | ⟨o, h⟩) | h
  · exact .inl (.inl (e _ _ h))
  · exact .inl (.inr ⟨o, e _ _ h⟩)
  · exact .inr h
section
variable {Z : Zx} {F F' : Hp}
mutual
theorem Rep.mono (e : Same F F') : ∀ {d : D} {v : V}, Rep Z F d v → Rep Z F' d v
  | .non, _, h => h
  | .bl _, _, h => h
  | .int _, _, h => h
  | .str _, _, h => h
  | .tup ds, v, h => by
    unfold Rep at h ⊢
    obtain ⟨a, vs, h1, h2, h3⟩ := h
    exact ⟨a, vs, h1, same_seqT e h2, Reps.mono e h3⟩
  | .lst ds, v, h => by
    unfold Rep at h ⊢
    obtain ⟨a, vs, h1, h2, h3⟩ := h
    exact ⟨a, vs, h1, e _ _ h2, Reps.mono e h3⟩
  | .ins c ds, v, h => by
    unfold Rep at h ⊢
    obtain ⟨a, dx, fs, h1, h2, h3, h4⟩ := h
    exact ⟨a, dx, fs, h1, e _ _ h2, h3, Reps.mono e h4⟩
  | .wl ds, v, h => by
    unfold Rep at h ⊢
    obtain ⟨a, vs, h1, h2, h3⟩ := h
    exact ⟨a, vs, h1, e.seq h2, Reps.mono e h3⟩
  | .dct ks vs, v, h => by
    unfold Rep at h ⊢
    obtain ⟨a, o, kvs, vvs, h1, h2, h3, h4, h5⟩ := h
    exact ⟨a, o, kvs, vvs, h1, e _ _ h2, h3, Reps.mono e h4, Reps.mono e h5⟩
theorem Reps.mono (e : Same F F') : ∀ {ds : List D} {vs : List V}, Reps Z F ds vs → Reps Z F' ds vs
  | [], _, h => h
  | d :: ds, vs, h => by
    unfold Reps at h ⊢
    obtain ⟨v, r, h1, h2, h3⟩ := h
    exact ⟨v, r, h1, Rep.mono e h2, Reps.mono e h3⟩
end
theorem reps_nil : Reps Z F [] [] := by unfold Reps; rfl
theorem reps_cons {d : D} {v : V} {ds : List D} {vs : List V} (h : Rep Z F d v) (h' : Reps Z F ds vs) : Reps Z F (d :: ds) (v :: vs) := by
  unfold Reps
  exact ⟨v, vs, rfl, h, h'⟩
theorem reps_cons_inv {d : D} {ds : List D} {vs : List V} (h : Reps Z F (d :: ds) vs) : ∃ v r, vs = v :: r ∧ Rep Z F d v ∧ Reps Z F ds r := by
  unfold Reps at h
  exact h
theorem reps_nil_inv {vs : List V} (h : Reps Z F [] vs) : vs = [] := by
  unfold Reps at h
  exact h
theorem Reps.length : ∀ {ds : List D} {vs : List V}, Reps Z F ds vs → ds.length = vs.length
  | [], _, h => by
    rw [reps_nil_inv h]
    rfl
  | d :: ds, vs, h => by
    obtain ⟨v, r, rfl, _, h3⟩ := reps_cons_inv h
    simp [Reps.length h3]
theorem Reps.get : ∀ {ds : List D} {vs : List V} {i : Nat} {v : V}, Reps Z F ds vs → vs[i]? = some v → ∃ d, ds[i]? = some d ∧ Rep Z F d v
  | [], _, i, v, h, e => by
    rw [reps_nil_inv h] at e
    simp at e
  | d :: ds, vs, 0, v, h, e => by
    obtain ⟨w, r, rfl, h2, h3⟩ := reps_cons_inv h
    simp at e
    subst e
    exact ⟨d, rfl, h2⟩
  | d :: ds, vs, i + 1, v, h, e => by
    obtain ⟨w, r, rfl, h2, h3⟩ := reps_cons_inv h
    obtain ⟨d', e1, e2⟩ := Reps.get (i := i) h3 (by simpa using e)
    exact ⟨d', by simpa using e1, e2⟩
theorem Reps.get' : ∀ {ds : List D} {vs : List V} {i : Nat} {d : D}, Reps Z F ds vs → ds[i]? = some d → ∃ v, vs[i]? = some v ∧ Rep Z F d v
  | [], _, i, v, h, e => by simp at e
  | d :: ds, vs, 0, v, h, e => by
    obtain ⟨w, r, rfl, h2, h3⟩ := reps_cons_inv h
    simp at e
    subst e
    exact ⟨w, rfl, h2⟩
  | d :: ds, vs, i + 1, v, h, e => by
    obtain ⟨w, r, rfl, h2, h3⟩ := reps_cons_inv h
    obtain ⟨d', e1, e2⟩ := Reps.get' (i := i) h3 (by simpa using e)
    exact ⟨d', by simpa using e1, e2⟩
theorem Reps.append : ∀ {ds es : List D} {vs ws : List V}, Reps Z F ds vs → Reps Z F es ws → Reps Z F (ds ++ es) (vs ++ ws)
  | [], es, vs, ws, h, h' => by
    rw [reps_nil_inv h]
    exact h'
  | d :: ds, es, vs, ws, h, h' => by
    obtain ⟨v, r, rfl, h2, h3⟩ := reps_cons_inv h
    exact reps_cons h2 (Reps.append h3 h')
theorem Reps.take : ∀ {ds : List D} {vs : List V} (n : Nat), Reps Z F ds vs → Reps Z F (ds.take n) (vs.take n)
  | _, _, 0, _ => by simp [reps_nil]
  | [], vs, n + 1, h => by
    rw [reps_nil_inv h]
    simp [reps_nil]
  | d :: ds, vs, n + 1, h => by
    obtain ⟨v, r, rfl, h2, h3⟩ := reps_cons_inv h
    exact reps_cons h2 (Reps.take n h3)
theorem Reps.drop : ∀ {ds : List D} {vs : List V} (n : Nat), Reps Z F ds vs → Reps Z F (ds.drop n) (vs.drop n)
  | _, _, 0, h => by simpa using h
  | [], vs, n + 1, h => by
    rw [reps_nil_inv h]
    simp [reps_nil]
  | d :: ds, vs, n + 1, h => by
    obtain ⟨v, r, rfl, h2, h3⟩ := reps_cons_inv h
    simpa using Reps.drop n h3
theorem Reps.reverse : ∀ {ds : List D} {vs : List V}, Reps Z F ds vs → Reps Z F ds.reverse vs.reverse
  | [], vs, h => by
    rw [reps_nil_inv h]
    simp [reps_nil]
  | d :: ds, vs, h => by
    obtain ⟨v, r, rfl, h2, h3⟩ := reps_cons_inv h
    rw [List.reverse_cons, List.reverse_cons]
    exact Reps.append (Reps.reverse h3) (reps_cons h2 reps_nil)
theorem Reps.set : ∀ {ds : List D} {vs : List V} {d : D} {v : V} (i : Nat), Reps Z F ds vs → Rep Z F d v → Reps Z F (ds.set i d) (vs.set i v)
  | [], vs, _, _, i, h, _ => by
    rw [reps_nil_inv h]
    simp [reps_nil]
  | d :: ds, vs, _, _, 0, h, h' => by
    obtain ⟨v, r, rfl, h2, h3⟩ := reps_cons_inv h
    exact reps_cons h' h3
  | d :: ds, vs, _, _, i + 1, h, h' => by
    obtain ⟨v, r, rfl, h2, h3⟩ := reps_cons_inv h
    exact reps_cons h2 (Reps.set i h3 h')
theorem Reps.eraseIdx : ∀ {ds : List D} {vs : List V} (i : Nat), Reps Z F ds vs → Reps Z F (ds.eraseIdx i) (vs.eraseIdx i)
  | [], vs, i, h => by
    rw [reps_nil_inv h]
    simp [reps_nil]
  | d :: ds, vs, 0, h => by
    obtain ⟨v, r, rfl, h2, h3⟩ := reps_cons_inv h
    simpa using h3
  | d :: ds, vs, i + 1, h => by
    obtain ⟨v, r, rfl, h2, h3⟩ := reps_cons_inv h
    simpa using reps_cons h2 (Reps.eraseIdx i h3)
end
inductive Val where
  | im (d : D) | cell (k : Nat) | exn (c : Nat) (ds : List D)
inductive Cell where
  | dead | lst (ds : List D) | ins (c : Nat) (ds : List D) | ptr (ks : List Nat) | dct (ks vs : List D)
def ExcOk (Z : Zx) (F : Hp) (c : Nat) (ds : List D) (dx : Option Addr) : Prop :=
  (ds = [] ∧ dx = none) ∨ ∃ d fs, dx = some d ∧ F d = some (.xd fs) ∧ fs.map (·.1) = Z.fl c ∧ Reps Z F ds (fs.map (·.2))
def VRep (Z : Zy) (A : List Addr) (F : Hp) : Val → V → Prop
  | .im d, v => Rep Z.toZx F d v
  | .cell k, v => ∃ a, A[k]? = some a ∧ v = .ref a
  | .exn c ds, v => ∃ a dx, Z.hd = some (a, c, dx) ∧ v = .ref a ∧ ExcOk Z.toZx F c ds dx
/-- the cells ks stand at bs, all below k -/
def PtrL (A : List Addr) (k : Nat) : List Nat → List Addr → Prop
  | [], bs => bs = []
  | j :: js, bs => ∃ b t, bs = b :: t ∧ j < k ∧ A[j]? = some b ∧ PtrL A k js t
def CellOk (Z : Zx) (A : List Addr) (F H : Hp) (a : Addr) : Cell → Prop
  | .dead => ∃ o, H a = some o
  | .lst ds => F a = none ∧ ∃ vs, H a = some (.lst vs) ∧ Reps Z F ds vs
  | .ins c ds => F a = none ∧ ∃ dx fs, H a = some (.ins (Z.cl c) dx fs) ∧ fs.map (·.1) = (Z.fl c).take ds.length ∧ Reps Z F ds (fs.map (·.2))
  | .ptr ks => F a = none ∧ ∃ k bs, A[k]? = some a ∧ H a = some (.lst (bs.map V.ref)) ∧ PtrL A k ks bs
  | .dct ks vs => F a = none ∧ ∃ o kvs vvs, H a = some o ∧ DShape Z.wd ks kvs vvs a o ∧ Reps Z F ks kvs ∧ Reps Z F vs vvs
/-- the store: F what never changes any more, A the cells' addresses -/
structure SO (Z : Zx) (A : List Addr) (F : Hp) (ce : List Cell) (H : Hp) : Prop where
  sub : Same F H
  len : A.length = ce.length
  nd : A.Nodup
  ok : ∀ (k : Nat) (a : Addr) (c : Cell), A[k]? = some a → ce[k]? = some c → CellOk Z A F H a c
abbrev Sl : Type := List (Option Val)
structure SL (Z : Zy) (A : List Addr) (F : Hp) (sl : Sl) (σ : St) : Prop where
  len : sl.length = σ.length
  is : ∀ (i : Nat) (v : Val), sl[i]? = some (some v) → ∃ x, σ[i]? = some (some x) ∧ VRep Z A F v x
section
variable {Z : Zx} {A A' : List Addr} {F F' H : Hp} {ce : List Cell} {sl : Sl} {σ : St}
theorem ExcOk.mono {c ds dx} (e : Same F F') (h : ExcOk Z F c ds dx) : ExcOk Z F' c ds dx := by
  rcases h with h | ⟨d, fs, h1, h2, h3, h4⟩
  · exact .inl h
  · exact .inr ⟨d, fs, h1, e _ _ h2, h3, h4.mono e⟩
theorem pre_get {k : Nat} {a : Addr} (p : A <+: A') (h : A[k]? = some a) : A'[k]? = some a := by
  obtain ⟨t, rfl⟩ := p
  have := (List.getElem?_eq_some_iff.mp h).1
  rw [List.getElem?_append_left this]
  exact h
theorem VRep.mono {Z : Zy} {v : Val} {x : V} (p : A <+: A') (e : Same F F') (h : VRep Z A F v x) : VRep Z A' F' v x := by
  cases v with
  | im d => exact Rep.mono e h
  | cell k =>
    obtain ⟨a, h1, h2⟩ := h
    exact ⟨a, pre_get p h1, h2⟩
  | exn c ds =>
    obtain ⟨a, dx, h1, h2, h3⟩ := h
    exact ⟨a, dx, h1, h2, h3.mono e⟩
theorem SL.mono {Z : Zy} (p : A <+: A') (e : Same F F') (h : SL Z A F sl σ) : SL Z A' F' sl σ :=
  ⟨h.len, fun i v q => let ⟨x, h1, h2⟩ := h.is i v q; ⟨x, h1, h2.mono p e⟩⟩
theorem SL.set {Z : Zy} {i : Nat} {v : Val} {x : V} (h : SL Z A F sl σ) (hv : VRep Z A F v x) : SL Z A F (sl.set i (some v)) (σ.set i (some x)) := by
  refine ⟨by simp [h.len], fun j w q => ?_⟩
  by_cases hj : i = j
  · subst hj
    by_cases hl : i < sl.length
    · rw [List.getElem?_set_self hl] at q
      cases q
      refine ⟨x, ?_, hv⟩
      rw [List.getElem?_set_self (by rw [← h.len]; exact hl)]
    · rw [List.getElem?_eq_none (by simpa using hl)] at q
      cases q
  · rw [List.getElem?_set_ne hj] at q
    obtain ⟨y, h1, h2⟩ := h.is j w q
    exact ⟨y, by rw [List.getElem?_set_ne hj]; exact h1, h2⟩
theorem SL.gone {Z : Zy} {i : Nat} (h : SL Z A F sl σ) : SL Z A F (sl.set i none) (σ.set i none) := by
  refine ⟨by simp [h.len], fun j w q => ?_⟩
  by_cases hj : i = j
  · subst hj
    by_cases hl : i < sl.length
    · rw [List.getElem?_set_self hl] at q
      cases q
    · rw [List.getElem?_eq_none (by simpa using hl)] at q
      cases q
  · rw [List.getElem?_set_ne hj] at q
    rw [List.getElem?_set_ne hj]
    exact h.is j w q
theorem SO.tracked (s : SO Z A F ce H) {k : Nat} {a : Addr} (h : A[k]? = some a) : ∃ o, H a = some o := by
  have hl : k < ce.length := by rw [← s.len]; exact (List.getElem?_eq_some_iff.mp h).1
  have := s.ok k a ce[k] h (List.getElem?_eq_getElem hl)
  cases hc : ce[k] with
  | dead => rw [hc] at this; exact this
  | lst ds => rw [hc] at this; obtain ⟨_, vs, h1, _⟩ := this; exact ⟨_, h1⟩
  | ins c ds => rw [hc] at this; obtain ⟨_, dx, fs, h1, _⟩ := this; exact ⟨_, h1⟩
  | ptr ks => rw [hc] at this; obtain ⟨_, k, bs, _, h1, _⟩ := this; exact ⟨_, h1⟩
  | dct ks vs => rw [hc] at this; obtain ⟨_, o, kvs, vvs, h1, _⟩ := this; exact ⟨_, h1⟩
theorem PtrL.mono {k : Nat} (p : A <+: A') : ∀ {ks : List Nat} {bs : List Addr}, PtrL A k ks bs → PtrL A' k ks bs
  | [], bs, h => h
  | j :: js, bs, ⟨b, t, e, h1, h2, h3⟩ => ⟨b, t, e, h1, pre_get p h2, PtrL.mono p h3⟩
theorem SO.fnone (s : SO Z A F ce H) {p : Addr} (hp : H p = none) : F p = none := by
  cases e : F p with
  | none => rfl
  | some o => rw [s.sub _ _ e] at hp; cases hp
theorem same_up {p : Addr} {o : HO} (h : F p = none) : Same F (upd F p o) := fun b x e => by
  rw [upd_ne (ne_of_none e h)]
  exact e
theorem CellOk.mono {a : Addr} {c : Cell} {H' : Hp} (p : A <+: A') (e : Same F F') (h : CellOk Z A F H a c) (hH : H' a = H a) (hF : F a = none → F' a = none) : CellOk Z A' F' H' a c := by
  cases c with
  | dead => obtain ⟨o, h⟩ := h; exact ⟨o, by rw [hH]; exact h⟩
  | lst ds => obtain ⟨h0, vs, h1, h2⟩ := h; exact ⟨hF h0, vs, by rw [hH]; exact h1, h2.mono e⟩
  | ins c ds => obtain ⟨h0, dx, fs, h1, h2, h3⟩ := h; exact ⟨hF h0, dx, fs, by rw [hH]; exact h1, h2, h3.mono e⟩
  | ptr ks => obtain ⟨h0, k, bs, h1, h2, h3⟩ := h; exact ⟨hF h0, k, bs, pre_get p h1, by rw [hH]; exact h2, h3.mono p⟩
  | dct ks vs => obtain ⟨h0, o, kvs, vvs, h1, h2, h3, h4⟩ := h; exact ⟨hF h0, o, kvs, vvs, by rw [hH]; exact h1, h2, h3.mono e, h4.mono e⟩
theorem SO.new (s : SO Z A F ce H) {p : Addr} {o : HO} (hp : H p = none) : SO Z A (upd F p o) ce (upd H p o) := by
  have fp := s.fnone hp
  refine ⟨fun b x e => ?_, s.len, s.nd, fun k a c h1 h2 => ?_⟩
  · by_cases hb : b = p
    · subst hb
      rw [upd_same] at e ⊢
      exact e
    · rw [upd_ne hb] at e ⊢
      exact s.sub _ _ e
  · obtain ⟨u, hu⟩ := s.tracked h1
    have hne : a ≠ p := ne_of_none hu hp
    exact (s.ok k a c h1 h2).mono (List.prefix_refl _) (same_up fp) (upd_ne hne) (fun h => by rw [upd_ne hne]; exact h)
theorem SO.newCell (s : SO Z A F ce H) {p : Addr} {o : HO} {c : Cell} (hp : H p = none) (hc : CellOk Z (A ++ [p]) F (upd H p o) p c) : SO Z (A ++ [p]) F (ce ++ [c]) (upd H p o) := by
  refine ⟨fun b x e => ?_, by simp [s.len], ?_, fun k a d h1 h2 => ?_⟩
  · rw [upd_ne (ne_of_none (s.sub _ _ e) hp)]
    exact s.sub _ _ e
  · refine List.nodup_append.mpr ⟨s.nd, by simp, fun a ha b hb e => ?_⟩
    simp at hb
    subst hb
    subst e
    obtain ⟨k, hk⟩ := List.getElem?_of_mem ha
    obtain ⟨u, hu⟩ := s.tracked hk
    rw [hp] at hu
    cases hu
  · by_cases hk : k < A.length
    · rw [List.getElem?_append_left hk] at h1
      rw [List.getElem?_append_left (by rw [← s.len]; exact hk)] at h2
      obtain ⟨u, hu⟩ := s.tracked h1
      exact (s.ok k a d h1 h2).mono (List.prefix_append _ _) (Same.refl _) (upd_ne (ne_of_none hu hp)) id
    · rw [List.getElem?_append_right (by omega)] at h1
      rw [List.getElem?_append_right (by rw [← s.len]; omega), ← s.len] at h2
      have : k - A.length = 0 := by
        have := (List.getElem?_eq_some_iff.mp h1).1
        simp at this
        omega
      rw [this] at h1 h2
      simp at h1 h2
      subst h1 h2
      exact hc
theorem SO.write (s : SO Z A F ce H) {k : Nat} {a : Addr} {o : HO} {c : Cell} (hk : A[k]? = some a) (hf : F a = none) (hc : CellOk Z A F (upd H a o) a c) : SO Z A F (ce.set k c) (upd H a o) := by
  refine ⟨fun b x e => ?_, by simp [s.len], s.nd, fun j b d h1 h2 => ?_⟩
  · rw [upd_ne (ne_of_none e hf)]
    exact s.sub _ _ e
  · by_cases hj : k = j
    · subst hj
      rw [hk] at h1
      cases h1
      have hl : k < ce.length := by rw [← s.len]; exact (List.getElem?_eq_some_iff.mp hk).1
      rw [List.getElem?_set_self hl] at h2
      cases h2
      exact hc
    · rw [List.getElem?_set_ne hj] at h2
      have hne : b ≠ a := fun e => by
        subst e
        exact hj ((List.getElem?_inj (List.getElem?_eq_some_iff.mp hk).1 s.nd).mp (hk.trans h1.symm))
      exact (s.ok j b d h1 h2).mono (List.prefix_refl _) (Same.refl _) (upd_ne hne) id
theorem SO.freeze (s : SO Z A F ce H) {k : Nat} {a : Addr} {o : HO} (hk : A[k]? = some a) (hf : F a = none) (ho : H a = some o) : SO Z A (upd F a o) (ce.set k .dead) H := by
  refine ⟨fun b x e => ?_, by simp [s.len], s.nd, fun j b d h1 h2 => ?_⟩
  · by_cases hb : b = a
    · subst hb
      rw [upd_same] at e
      cases e
      exact ho
    · rw [upd_ne hb] at e
      exact s.sub _ _ e
  · by_cases hj : k = j
    · subst hj
      rw [hk] at h1
      cases h1
      have hl : k < ce.length := by rw [← s.len]; exact (List.getElem?_eq_some_iff.mp hk).1
      rw [List.getElem?_set_self hl] at h2
      cases h2
      exact ⟨o, ho⟩
    · rw [List.getElem?_set_ne hj] at h2
      have hne : b ≠ a := fun e => by
        subst e
        exact hj ((List.getElem?_inj (List.getElem?_eq_some_iff.mp hk).1 s.nd).mp (hk.trans h1.symm))
      exact (s.ok j b d h1 h2).mono (List.prefix_refl _) (same_up hf) rfl (fun h => by rw [upd_ne hne]; exact h)
end
inductive EOut where
  | ok (v : Val) (ce : List Cell) | exc (c : Nat) (ds : List D) (ce : List Cell) | stuck
abbrev DE := Sl → List Cell → EOut
def PostE (Z : Zy) (A : List Addr) (F : Hp) (W : WX) (σ : St) (Q : VK) : EOut → Prop
  | .ok v ce => ∀ A' F' H' x, A <+: A' → Same F F' → SO Z.toZx A' F' ce H' → VRep Z A' F' v x → Q x H'
  | .exc c ds ce => ∀ A' F' H' dx, A <+: A' → Same F F' → SO Z.toZx A' F' ce H' → ExcOk Z.toZx F' c ds dx → W (.ref (Z.cl c)) dx σ H'
  | .stuck => False
def tE (Z : Zy) (W : WX) (f : DE) : TE := fun σ H Q => ∃ A F sl ce, SO Z.toZx A F ce H ∧ SL Z A F sl σ ∧ PostE Z A F W σ Q (f sl ce)
def eBind (f : DE) (k : Val → DE) : DE := fun sl ce => match f sl ce with
  | .ok v ce' => k v sl ce'
  | .exc c ds ce' => .exc c ds ce'
  | .stuck => .stuck
section
variable {Z : Zy} {A A' : List Addr} {F F' H : Hp} {ce : List Cell} {sl : Sl} {σ : St} {W : WX} {Q Q' : VK}
theorem PostE.mono {r : EOut} (p : A <+: A') (e : Same F F') (h : PostE Z A F W σ Q r) : PostE Z A' F' W σ Q r := by
  cases r with
  | ok v ce => exact fun A2 F2 H2 x p2 e2 => h A2 F2 H2 x (p.trans p2) (e.trans e2)
  | exc c ds ce => exact fun A2 F2 H2 x p2 e2 => h A2 F2 H2 x (p.trans p2) (e.trans e2)
  | stuck => exact h
theorem PostE.imp {r : EOut} (hq : ∀ x H, Q x H → Q' x H) (h : PostE Z A F W σ Q r) : PostE Z A F W σ Q' r := by
  cases r with
  | ok v ce => exact fun A2 F2 H2 x p2 e2 s r => hq _ _ (h A2 F2 H2 x p2 e2 s r)
  | exc c ds ce => exact h
  | stuck => exact h
/-- the state behind: grown, with the store -/
theorem PostE.bind {f : DE} {k : Val → DE} (so : SO Z.toZx A F ce H) (hs : SL Z A F sl σ) (h : PostE Z A F W σ Q (eBind f k sl ce)) :
    PostE Z A F W σ (fun x H1 => ∃ A1 F1 ce1 v, A <+: A1 ∧ Same F F1 ∧ SO Z.toZx A1 F1 ce1 H1 ∧ VRep Z A1 F1 v x ∧ PostE Z A1 F1 W σ Q (k v sl ce1)) (f sl ce) := by
  unfold eBind at h
  cases e : f sl ce with
  | ok v ce1 =>
    rw [e] at h
    exact fun A1 F1 H1 x p1 e1 s1 r1 => ⟨A1, F1, ce1, v, p1, e1, s1, r1, PostE.mono p1 e1 h⟩
  | exc c ds ce1 =>
    rw [e] at h
    exact h
  | stuck =>
    rw [e] at h
    exact h.elim
theorem tE_imp {f : DE} (hq : ∀ x H, Q x H → Q' x H) (h : tE Z W f σ H Q) : tE Z W f σ H Q' := by
  obtain ⟨A, F, sl, ce, so, hs, p⟩ := h
  exact ⟨A, F, sl, ce, so, hs, p.imp hq⟩
/-- one operand -/
theorem tE1 {f : DE} {k : Val → DE} (h : tE Z W (eBind f k) σ H Q) :
    tE Z W f σ H fun x H1 => ∃ A F sl ce v, SO Z.toZx A F ce H1 ∧ SL Z A F sl σ ∧ VRep Z A F v x ∧ PostE Z A F W σ Q (k v sl ce) := by
  obtain ⟨A, F, sl, ce, so, hs, p⟩ := h
  refine ⟨A, F, sl, ce, so, hs, (PostE.bind so hs p).imp fun x H1 ⟨A1, F1, ce1, v, p1, e1, s1, r1, q1⟩ => ⟨A1, F1, sl, ce1, v, s1, hs.mono p1 e1, r1, q1⟩⟩
/-- two operands -/
theorem tE2 {f g : DE} {k : Val → Val → DE} (h : tE Z W (eBind f fun v => eBind g (k v)) σ H Q) :
    tE Z W f σ H fun x H1 => tE Z W g σ H1 fun y H2 => ∃ A F sl ce v u, SO Z.toZx A F ce H2 ∧ SL Z A F sl σ ∧ VRep Z A F v x ∧ VRep Z A F u y ∧ PostE Z A F W σ Q (k v u sl ce) := by
  refine tE_imp (fun x H1 ⟨A, F, sl, ce, v, so, hs, r, p⟩ => ?_) (tE1 h)
  refine ⟨A, F, sl, ce, so, hs, (PostE.bind so hs p).imp fun y H2 ⟨A1, F1, ce1, u, p1, e1, s1, r1, q1⟩ => ⟨A1, F1, sl, ce1, v, u, s1, hs.mono p1 e1, r.mono p1 e1, r1, q1⟩⟩
end
theorem _root_.L2.PE.weak {X : Cx} {e : Expr} {t t' : TE} (h : PE X e t) (hw : ∀ σ H Q, t' σ H Q → t σ H Q) : PE X e t' :=
  ⟨fun pins s σ H Q I q => h.run pins s σ H Q I (hw σ H Q q)⟩
theorem _root_.L2.PT.weak {X : Cx} {e : Expr} {t t' : TT} (h : PT X e t) (hw : ∀ σ H Q, t' σ H Q → t σ H Q) : PT X e t' :=
  ⟨fun pins s σ H Q I q => h.run pins s σ H Q I (hw σ H Q q)⟩
theorem _root_.L2.PA.weak {X : Cx} {e : List Expr} {t t' : TA} (h : PA X e t) (hw : ∀ σ H Q, t' σ H Q → t σ H Q) : PA X e t' :=
  ⟨fun pos pins s σ H Q I q => h.run pos pins s σ H Q I (hw σ H Q q)⟩
theorem _root_.L2.PS.weak {X : Cx} {e : Stmt} {t t' : TS} (h : PS X e t) (hw : ∀ D σ H, t' D σ H → t D σ H) : PS X e t' :=
  ⟨fun pins s σ H D I q => h.run pins s σ H D I (hw D σ H q)⟩
theorem _root_.L2.PSs.weak {X : Cx} {e : List Stmt} {t t' : TS} (h : PSs X e t) (hw : ∀ D σ H, t' D σ H → t D σ H) : PSs X e t' :=
  ⟨fun pins s σ H D I q => h.run pins s σ H D I (hw D σ H q)⟩
end ZZ
set_option Elab.async false
set_option linter.all false
set_option maxRecDepth 100000
namespace ZH
open PySem PySem.Spec PyProof.Rows L2 ZZ
abbrev Fr : Type := PySem.W.Frag
theorem ba {a b : Bool} (h : (a && b) = true) : a = true ∧ b = true := Bool.and_eq_true_iff.mp h
abbrev FnO : Type := Option (Str × Str × Arguments × FuncBody × Scope × Addr × List (Str × Addr) × Addr)
def fnO (K : Fr) (a : Addr) : FnO := match K.lookup a with
  | some ⟨_, _, .func fd, _⟩ => some (fd.name, fd.qualname, fd.params, fd.body, fd.scope, fd.globals, fd.closure, fd.builtins)
  | _ => none
structure DefZ where
  a : Addr
  name : Str
  qual : Str
  st : Stmt
  cda : Addr
  clo : List (Str × Addr) := []
  dfl : Option Addr := none
  kwd : Option Addr := none
def DefZ.val (d : DefZ) : FnO := some (d.name, d.qual, defArgs d.st, .stmts (defBody d.st), defScope d.st, mainGlobals, d.clo, builtinsNs)
def vO : Option Addr → Value
  | none => .none
  | some a => .ref a
def DefZ.ok (K : Fr) (d : DefZ) : Bool := PySem.W.keepIn K (.ref d.a) && (match K.lookup d.a with
  | some ⟨_, _, .func fd, _⟩ => PySem.W.codeIn K (.ref d.cda) d.qual && (decide (fd.code = .ref d.cda) && (decide (fd.defaults = vO d.dfl) && decide (fd.kwdefaults = vO d.kwd)))
  | _ => false)
/-- what a def's place holds -/
def FnAt (K : Fr) (d : DefZ) : Prop := ∃ oc od doc pm an ct osl, K.lookup d.a = some ⟨oc, od, .func { name := d.name, qualname := d.qual, params := defArgs d.st, body := .stmts (defBody d.st), scope := defScope d.st, globals := mainGlobals, closure := d.clo, defaults := vO d.dfl, kwdefaults := vO d.kwd, doc, pyModule := pm, annotations := an, code := .ref d.cda, closureTuple := ct, builtins := builtinsNs }, osl⟩ ∧ PySem.W.codeIn K (.ref d.cda) d.qual = true ∧ PySem.W.keepIn K (.ref d.a) = true
theorem fn_at {K : Fr} {d : DefZ} (e : fnO K d.a = d.val) (c : d.ok K = true) : FnAt K d := by
  obtain ⟨kp, c2⟩ := ba c
  unfold fnO at e
  cases q : K.lookup d.a with
  | none =>
    rw [q] at c2
    cases c2
  | some o =>
    obtain ⟨oc, od, dt, osl⟩ := o
    rw [q] at c2 e
    cases dt with
    | func fd =>
      obtain ⟨n1, n2, n3, n4, n5, n6, n7, n8, n9, n10, n11, n12, n13, n14, n15⟩ := fd
      have e2 : (some (n1, n2, n3, n4, n5, n6, n7, n15) : FnO) = some (d.name, d.qual, defArgs d.st, .stmts (defBody d.st), defScope d.st, mainGlobals, d.clo, builtinsNs) := e
      simp only [Option.some.injEq, Prod.mk.injEq] at e2
      obtain ⟨h1, h2, h3, h4, h5, h6, h7, h8⟩ := e2
      subst h1 h2 h3 h4 h5 h6 h7 h8
      obtain ⟨c3, c4⟩ := ba (show (PySem.W.codeIn K (.ref d.cda) d.qual && (decide (n13 = .ref d.cda) && (decide (n8 = vO d.dfl) && decide (n9 = vO d.kwd)))) = true from c2)
      obtain ⟨c5, c6⟩ := ba c4
      obtain ⟨c7, c8⟩ := ba c6
      have e5 := of_decide_eq_true c5
      have e7 := of_decide_eq_true c7
      have e8 := of_decide_eq_true c8
      subst e5 e7 e8
      exact ⟨oc, od, n10, n11, n12, n14, osl, q, c3, kp⟩
    | _ => cases c2
def valD : Value → Option D
  | .str s _ => some (.str s)
  | .int i _ => some (.int i)
  | .none => some .non
  | _ => none
abbrev EnO : Type := Option (Str × Int × Option D)
def enO (e : DictEntry) : EnO := match e.key with
  | .str x _ => some (x, e.hash, valD e.val)
  | _ => none
def enV (P : Params) (q : Str × D) : EnO := some (q.1, PyData.keyHash P q.1, some q.2)
def tbO (K : Fr) (a : Addr) : Option (List EnO) := match K.lookup a with
  | some ⟨.type c, none, .dict es _, sl⟩ => (match decide (c = "dict") && (sl.isEmpty && !(a == sysModules)) with
    | true => some (es.toList.map enO)
    | false => none)
  | _ => none
abbrev Tab : Type := Addr × List (Str × D)
abbrev AlZ : Type := Bool × List FnO × List (Option (List EnO))
abbrev Bs : Type := List (List (Fr → Bool))
def obsZ (bs : Bs) (fn : List DefZ) (tb : List Tab) (K : Fr) : AlZ := ((bs.all fun l => l.all fun f => f K) && fn.all fun d => d.ok K, fn.map (fun d => fnO K d.a), tb.map fun t => tbO K t.1)
def valZ (fn : List DefZ) (tb : List Tab) (w : World) : AlZ := (true, fn.map DefZ.val, tb.map fun t => some (t.2.map (enV w.params)))
def SaysZ (bs : Bs) (fn : List DefZ) (tb : List Tab) (w : World) (K : Fr) : Prop := obsZ bs fn tb K = valZ fn tb w
def obsZG (as : List Addr) (bs : Bs) (fn : List DefZ) (tb : List Tab) (g : Addr → Option Obj) : AlZ := obsZ bs fn tb (He.frG g as)
def hookZ (as : List Addr) (bs : Bs) (fn : List DefZ) (tb : List Tab) : PySem.W.Hook where
  α := AlZ
  obs := fun s => obsZG as bs fn tb s.heap.get?
  val := fun w => valZ fn tb w
  says := fun w h => ∃ K : Fr, K.In h ∧ SaysZ bs fn tb w K
  of := fun _ _ e => ⟨_, He.frG_in, e⟩
  keeps := fun _ _ _ ⟨K, hK, c⟩ k => ⟨K, PySem.W.Frag.In.keeps hK k, c⟩
theorem obsZG_eq {as : List Addr} {bs : Bs} {fn : List DefZ} {tb : List Tab} {g : Addr → Option Obj} {s : Shared} (h : ∀ a, g a = s.heap.get? a) : obsZG as bs fn tb g = (hookZ as bs fn tb).obs s := by
  have e : g = s.heap.get? := funext h
  rw [e] <;> rfl
section
variable {bs : Bs} {fn : List DefZ} {tb : List Tab} {w : World} {K : Fr}
theorem SaysZ.fact (c : SaysZ bs fn tb w K) {i j : Nat} {l : List (Fr → Bool)} {f : Fr → Bool} (h1 : bs[i]? = some l) (h2 : l[j]? = some f) : f K = true := by
  have c1 := (ba (show ((bs.all fun l => l.all fun f => f K) && fn.all fun d => d.ok K) = true from congrArg (fun z : AlZ => z.1) c)).1
  exact List.all_eq_true.mp (List.all_eq_true.mp c1 l (List.mem_of_getElem? h1)) f (List.mem_of_getElem? h2)
theorem SaysZ.dec (c : SaysZ bs fn tb w K) {i j : Nat} {l : List (Fr → Bool)} {p : Prop} [Decidable p] {f : Fr → Bool} (h1 : bs[i]? = some l) (h2 : l[j]? = some f) (e : f K = decide p) : p := of_decide_eq_true (e.symm.trans (c.fact h1 h2))
theorem SaysZ.fns (c : SaysZ bs fn tb w K) {i : Nat} {d : DefZ} (h : fn[i]? = some d) : FnAt K d := by
  have c2 := (ba (show ((bs.all fun l => l.all fun f => f K) && fn.all fun d => d.ok K) = true from congrArg (fun z : AlZ => z.1) c)).2
  have e : fn.map (fun d => fnO K d.a) = fn.map DefZ.val := congrArg (fun z : AlZ => z.2.1) c
  have e2 : (fn.map fun d => fnO K d.a)[i]? = (fn.map DefZ.val)[i]? := by rw [e]
  rw [List.getElem?_map, List.getElem?_map, h] at e2
  exact fn_at (Option.some.inj e2) (List.all_eq_true.mp c2 d (List.mem_of_getElem? h))
end
/-- defaults: a tuple of these -/
def relFB : D → Value → Bool
  | .int i, .int j _ => decide (i = j)
  | .str s, .str t _ => decide (s = t)
  | .non, .none => true
  | .bl b, .bool c => b == c
  | _, _ => false
def relFsB : List D → List Value → Bool
  | [], [] => true
  | d :: ds, u :: us => relFB d u && relFsB ds us
  | _, _ => false
/-- the tuple at a -/
def tupB (K : Fr) (a : Addr) (ds : List D) : Bool := match K.lookup a with
  | some ⟨.type c, _, .seq its _, _⟩ => decide (c = "tuple") && (decide (its.size ≤ 1000) && relFsB ds its.toList)
  | _ => false
def dflZ (K : Fr) : Option Addr → List D → Bool
  | none, [] => true
  | some a, d :: ds => tupB K a (d :: ds)
  | _, _ => false
def kwdZ (K : Fr) : Option Addr → List (Str × D) → Bool
  | _, [] => true
  | some a, q :: qs => (q :: qs).all fun q => (match PySem.W.nsIn K a q.1 with
    | some (some u) => relFB q.2 u
    | _ => false)
  | none, _ :: _ => false
def excB (K : Fr) (C : Addr) : Bool := match K.lookup C with
  | some ⟨.type t, _, .cls cd, sl⟩ => decide (t = "type") && (cd.hasDict && (!cd.hasDel && ((match cd.mro with
    | .ref c :: bm => decide (c = C) && PySem.HandSPX.refsVE bm
    | _ => false) && (match sl.toList with
    | [_, _, _, _, some (.builtin id), _] => decide (id = "ValueError.__new__")
    | _ => false))))
  | _ => false
/-- a record's head -/
def recB (K : Fr) (p : Addr) (T : String) (v : Addr) : Bool := match PySem.W.recIn K p T with
  | some (.ref u :: _) => decide (u = v)
  | _ => false
def strB (K : Fr) (x s : Str) : Bool := match PySem.W.nsIn K mainGlobals x with
  | some (some (.str y _)) => decide (y = s)
  | _ => false
/-- a class's constant, read off the class -/
def cvB (K : Fr) (C : Addr) (a : Str) (d : D) : Bool := match PySem.W.findCls K (.ref C) (.type "type") a with
  | some (.val u) => relFB d u
  | _ => false
theorem map_trip {α β δ γ : Type} {e : Option γ} {f : γ → α} {g : γ → β} {k : γ → δ} {a : α} {b : β} {c : δ} (h1 : e.map (fun s => (f s, g s)) = some (a, b)) (h2 : e.map k = some c) : e.map (fun s => (f s, g s, k s)) = some (a, b, c) := by
  cases e with
  | none => cases h1
  | some s => cases h1; cases h2; rfl
end ZH
set_option Elab.async false
set_option linter.all false
set_option maxRecDepth 100000
set_option maxHeartbeats 4000000
namespace ZZ
open PySem PySem.Spec L2
def top (i : Nat) : Stmt := PySem.Challenge.pw_siltmeet_k37_picture.main.body.getD i (.Pass ⟨0, 0, 0, 0⟩)
abbrev s_Core___iter__ : Stmt := inClass (top 23) 5
abbrev s_Record___iter__ : Stmt := inClass (top 31) 7
abbrev s_BadLayer___init__ : Stmt := inClass (top 4) 0
abbrev s_BadJoint___init__ : Stmt := inClass (top 5) 0
abbrev s_BadRecord___init__ : Stmt := inClass (top 9) 0
abbrev s_NoLayer___init__ : Stmt := inClass (top 6) 0
abbrev s_NoJoint___init__ : Stmt := inClass (top 7) 0
def d_SWAPPED : List (Str × D) := [("<", .str ">"), ("=", .str "="), (">", .str "<")]
abbrev s_is_layer : Stmt := top 15
abbrev n_is_layer : List Str := ["layer", "kind", "thickness", "char"]
abbrev s_is_joint : Stmt := top 16
abbrev n_is_joint : List Str := ["joint", "least", "most"]
abbrev s_written_layer : Stmt := top 20
abbrev n_written_layer : List Str := ["layer"]
abbrev s_Core___init__ : Stmt := inClass (top 23) 1
abbrev n_Core___init__ : List Str := ["self", "layers", "joints", "index", "layer", "joint"]
abbrev s_Core___len__ : Stmt := inClass (top 23) 4
abbrev n_Core___len__ : List Str := ["self"]
abbrev s_Core___getitem__ : Stmt := inClass (top 23) 6
abbrev n_Core___getitem__ : List Str := ["self", "k"]
abbrev s_Core_joint : Stmt := inClass (top 23) 8
abbrev n_Core_joint : List Str := ["self", "k"]
abbrev s_Core_thickness : Stmt := inClass (top 23) 9
abbrev n_Core_thickness : List Str := ["self", "layer"]
abbrev s_Record___init__ : Stmt := inClass (top 31) 0
abbrev n_Record___init__ : List Str := ["self", "steps", "rows", "left", "right", "index", "sign"]
abbrev s_Record___add__ : Stmt := inClass (top 31) 17
abbrev n_Record___add__ : List Str := ["self", "other"]
abbrev s_Record_lefts : Stmt := inClass (top 31) 3
abbrev n_Record_lefts : List Str := ["self"]
abbrev s_Record_rights : Stmt := inClass (top 31) 4
abbrev n_Record_rights : List Str := ["self"]
abbrev s_picture : Stmt := top 25
abbrev n_picture : List Str := ["record", "left", "right", "rows", "sign", "one", "other", "here", "there"]
abbrev s__law_mix : Stmt := top 33
abbrev n__law_mix : List Str := ["_law_cell", "_law_turn", "_law_number_here"]
abbrev s__law_pool : Stmt := top 34
abbrev n__law_pool : List Str := ["_law_script", "_law_many", "_law_pool_here", "_law_seed", "_law_k", "_law_rest", "_law_great", "_law_turn"]
abbrev s__law_draw : Stmt := top 35
abbrev n__law_draw : List Str := ["_law_pool_here", "_law_bound"]
abbrev s__law_number : Stmt := top 36
abbrev n__law_number : List Str := ["_law_pool_here", "_law_shape", "_law_number_here", "_law_turn"]
abbrev s__law_kind : Stmt := top 37
abbrev n__law_kind : List Str := ["_law_pool_here", "_law_size", "_law_place", "_law_letters", "_law_letter"]
abbrev s__law_path : Stmt := top 38
abbrev n__law_path : List Str := ["_law_pool_here", "_law_lefts", "_law_rights", "_law_steps", "_law_x", "_law_y", "_law_turn", "_law_sign"]
abbrev s__law_names : Stmt := top 39
abbrev n__law_names : List Str := ["_law_lefts", "_law_rights", "_law_paths", "_law_names_here", "_law_steps", "_law_x", "_law_y", "_law_sign", "_law_old", "_law_new", "_law_k", "_law_name"]
abbrev s__law_lost : Stmt := top 40
abbrev n__law_lost : List Str := ["_law_steps", "_law_lefts", "_law_rights", "_law_lost_here", "_law_x", "_law_y", "_law_sign"]
abbrev s__law_joints : Stmt := top 41
abbrev n__law_joints : List Str := ["_law_pool_here", "_law_one", "_law_other", "_law_joints_here", "_law_k", "_law_low", "_law_high"]
abbrev s__law_world : Stmt := top 42
abbrev n__law_world : List Str := ["_law_pool_here", "_law_sizes", "_law_paths", "_law_names_here", "_law_kinds", "_law_lefts", "_law_rights", "_law_one", "_law_other", "_law_name", "_law_k"]
abbrev s__law_cores : Stmt := top 43
abbrev n__law_cores : List Str := ["_law_world_here"]
abbrev s__law_whole : Stmt := top 44
abbrev n__law_whole : List Str := ["_law_number_here"]
abbrev s__law_same : Stmt := top 45
abbrev n__law_same : List Str := ["_law_core", "_law_layers", "_law_joints_here", "_law_total_here", "_law_k", "_law_layer", "_law_bound"]
abbrev s__law_commas : Stmt := top 46
abbrev n__law_commas : List Str := ["_law_number_here", "_law_text", "_law_parts", "_law_turn"]
abbrev s__law_total : Stmt := top 47
abbrev n__law_total : List Str := ["_law_layers", "_law_total_here", "_law_layer"]
abbrev s__law_line : Stmt := top 48
abbrev n__law_line : List Str := ["_law_one", "_law_sign", "_law_other"]
abbrev s__law_due : Stmt := top 49
abbrev n__law_due : List Str := ["_law_steps", "_law_world_here", "_law_rows", "_law_x", "_law_y", "_law_sign", "_law_one", "_law_other"]
abbrev s__law_unlike : Stmt := top 50
abbrev n__law_unlike : List Str := ["_law_record", "_law_cores_here", "e"]
abbrev s__law_far : Stmt := top 51
abbrev n__law_far : List Str := ["_law_pool_here", "_law_steps", "_law_texts", "_law_k"]
abbrev s_law : Stmt := top 52
abbrev n_law : List Str := ["_law_script", "_law_pool_here", "_law_top", "_law_sizes", "_law_paths", "_law_world_here", "_law_cores_here", "_law_turned", "_law_others", "_law_steps", "_law_half", "_law_record", "_law_told", "_law_k", "_law_row"]
end ZZ
set_option Elab.async false
set_option linter.all false
set_option maxRecDepth 100000
set_option maxHeartbeats 4000000
namespace ZZ
open PySem PySem.Spec L2
open ZH PyProof.Rows
abbrev dz_0 : DefZ := { a := 189, name := "is_layer", qual := "is_layer", st := s_is_layer, cda := 188, clo := [], dfl := none, kwd := none }
abbrev dz_1 : DefZ := { a := 196, name := "is_joint", qual := "is_joint", st := s_is_joint, cda := 195, clo := [], dfl := none, kwd := none }
abbrev dz_2 : DefZ := { a := 222, name := "written_layer", qual := "written_layer", st := s_written_layer, cda := 221, clo := [], dfl := none, kwd := none }
abbrev dz_3 : DefZ := { a := 251, name := "__init__", qual := "Core.__init__", st := s_Core___init__, cda := 250, clo := [], dfl := (some 244), kwd := none }
abbrev dz_4 : DefZ := { a := 275, name := "__len__", qual := "Core.__len__", st := s_Core___len__, cda := 274, clo := [], dfl := none, kwd := none }
abbrev dz_5 : DefZ := { a := 289, name := "__getitem__", qual := "Core.__getitem__", st := s_Core___getitem__, cda := 288, clo := [], dfl := none, kwd := none }
abbrev dz_6 : DefZ := { a := 303, name := "joint", qual := "Core.joint", st := s_Core_joint, cda := 302, clo := [], dfl := none, kwd := none }
abbrev dz_7 : DefZ := { a := 308, name := "thickness", qual := "Core.thickness", st := s_Core_thickness, cda := 307, clo := [], dfl := none, kwd := none }
abbrev dz_8 : DefZ := { a := 388, name := "__init__", qual := "Record.__init__", st := s_Record___init__, cda := 387, clo := [], dfl := none, kwd := none }
abbrev dz_9 : DefZ := { a := 510, name := "__add__", qual := "Record.__add__", st := s_Record___add__, cda := 509, clo := [], dfl := none, kwd := none }
abbrev dz_10 : DefZ := { a := 415, name := "lefts", qual := "Record.lefts", st := s_Record_lefts, cda := 414, clo := [], dfl := none, kwd := none }
abbrev dz_11 : DefZ := { a := 423, name := "rights", qual := "Record.rights", st := s_Record_rights, cda := 422, clo := [], dfl := none, kwd := none }
abbrev dz_12 : DefZ := { a := 352, name := "picture", qual := "picture", st := s_picture, cda := 351, clo := [], dfl := none, kwd := none }
abbrev dz_13 : DefZ := { a := 536, name := "_law_mix", qual := "_law_mix", st := s__law_mix, cda := 535, clo := [], dfl := none, kwd := none }
abbrev dz_14 : DefZ := { a := 543, name := "_law_pool", qual := "_law_pool", st := s__law_pool, cda := 542, clo := [], dfl := none, kwd := none }
abbrev dz_15 : DefZ := { a := 550, name := "_law_draw", qual := "_law_draw", st := s__law_draw, cda := 549, clo := [], dfl := none, kwd := none }
abbrev dz_16 : DefZ := { a := 557, name := "_law_number", qual := "_law_number", st := s__law_number, cda := 556, clo := [], dfl := none, kwd := none }
abbrev dz_17 : DefZ := { a := 564, name := "_law_kind", qual := "_law_kind", st := s__law_kind, cda := 563, clo := [], dfl := none, kwd := none }
abbrev dz_18 : DefZ := { a := 571, name := "_law_path", qual := "_law_path", st := s__law_path, cda := 570, clo := [], dfl := none, kwd := none }
abbrev dz_19 : DefZ := { a := 576, name := "_law_names", qual := "_law_names", st := s__law_names, cda := 575, clo := [], dfl := none, kwd := none }
abbrev dz_20 : DefZ := { a := 583, name := "_law_lost", qual := "_law_lost", st := s__law_lost, cda := 582, clo := [], dfl := none, kwd := none }
abbrev dz_21 : DefZ := { a := 590, name := "_law_joints", qual := "_law_joints", st := s__law_joints, cda := 589, clo := [], dfl := none, kwd := none }
abbrev dz_22 : DefZ := { a := 595, name := "_law_world", qual := "_law_world", st := s__law_world, cda := 594, clo := [], dfl := none, kwd := none }
abbrev dz_23 : DefZ := { a := 602, name := "_law_cores", qual := "_law_cores", st := s__law_cores, cda := 601, clo := [], dfl := none, kwd := none }
abbrev dz_24 : DefZ := { a := 609, name := "_law_whole", qual := "_law_whole", st := s__law_whole, cda := 608, clo := [], dfl := none, kwd := none }
abbrev dz_25 : DefZ := { a := 614, name := "_law_same", qual := "_law_same", st := s__law_same, cda := 613, clo := [], dfl := none, kwd := none }
abbrev dz_26 : DefZ := { a := 621, name := "_law_commas", qual := "_law_commas", st := s__law_commas, cda := 620, clo := [], dfl := none, kwd := none }
abbrev dz_27 : DefZ := { a := 628, name := "_law_total", qual := "_law_total", st := s__law_total, cda := 627, clo := [], dfl := none, kwd := none }
abbrev dz_28 : DefZ := { a := 635, name := "_law_line", qual := "_law_line", st := s__law_line, cda := 634, clo := [], dfl := none, kwd := none }
abbrev dz_29 : DefZ := { a := 642, name := "_law_due", qual := "_law_due", st := s__law_due, cda := 641, clo := [], dfl := none, kwd := none }
abbrev dz_30 : DefZ := { a := 649, name := "_law_unlike", qual := "_law_unlike", st := s__law_unlike, cda := 648, clo := [], dfl := none, kwd := none }
abbrev dz_31 : DefZ := { a := 656, name := "_law_far", qual := "_law_far", st := s__law_far, cda := 655, clo := [], dfl := none, kwd := none }
abbrev dz_32 : DefZ := { a := 661, name := "law", qual := "law", st := s_law, cda := 660, clo := [], dfl := none, kwd := none }
abbrev dz_33 : DefZ := { a := 282, name := "__iter__", qual := "Core.__iter__", st := s_Core___iter__, cda := 281, clo := [], dfl := none, kwd := none }
abbrev dz_34 : DefZ := { a := 446, name := "__iter__", qual := "Record.__iter__", st := s_Record___iter__, cda := 445, clo := [], dfl := none, kwd := none }
abbrev dz_35 : DefZ := { a := 60, name := "__init__", qual := "BadLayer.__init__", st := s_BadLayer___init__, cda := 59, clo := [], dfl := none, kwd := none }
abbrev dz_36 : DefZ := { a := 79, name := "__init__", qual := "BadJoint.__init__", st := s_BadJoint___init__, cda := 78, clo := [], dfl := none, kwd := none }
abbrev dz_37 : DefZ := { a := 155, name := "__init__", qual := "BadRecord.__init__", st := s_BadRecord___init__, cda := 154, clo := [], dfl := none, kwd := none }
abbrev dz_38 : DefZ := { a := 98, name := "__init__", qual := "NoLayer.__init__", st := s_NoLayer___init__, cda := 97, clo := [], dfl := none, kwd := none }
abbrev dz_39 : DefZ := { a := 117, name := "__init__", qual := "NoJoint.__init__", st := s_NoJoint___init__, cda := 116, clo := [], dfl := none, kwd := none }
abbrev dz_40 : DefZ := { a := 661, name := "law", qual := "law", st := s_law, cda := 660, clo := [], dfl := none, kwd := none }
abbrev fnl : List DefZ := [dz_0, dz_1, dz_2, dz_3, dz_4, dz_5, dz_6, dz_7, dz_8, dz_9, dz_10, dz_11, dz_12, dz_13, dz_14, dz_15, dz_16, dz_17, dz_18, dz_19, dz_20, dz_21, dz_22, dz_23, dz_24, dz_25, dz_26, dz_27, dz_28, dz_29, dz_30, dz_31, dz_32, dz_33, dz_34, dz_35, dz_36, dz_37, dz_38, dz_39, dz_40]
def fb_0 : List (Fr → Bool) := [fun K => decide (PySem.W.nsIn K mainGlobals "ValueError" = some none),
  fun K => decide (PySem.W.nsIn K mainGlobals "abs" = some none),
  fun K => decide (PySem.W.nsIn K mainGlobals "all" = some none),
  fun K => decide (PySem.W.nsIn K mainGlobals "bool" = some none),
  fun K => decide (PySem.W.nsIn K mainGlobals "enumerate" = some none),
  fun K => decide (PySem.W.nsIn K mainGlobals "int" = some none),
  fun K => decide (PySem.W.nsIn K mainGlobals "isinstance" = some none),
  fun K => decide (PySem.W.nsIn K mainGlobals "len" = some none),
  fun K => decide (PySem.W.nsIn K mainGlobals "list" = some none),
  fun K => decide (PySem.W.nsIn K mainGlobals "max" = some none),
  fun K => decide (PySem.W.nsIn K mainGlobals "min" = some none),
  fun K => decide (PySem.W.nsIn K mainGlobals "range" = some none),
  fun K => decide (PySem.W.nsIn K mainGlobals "reversed" = some none),
  fun K => decide (PySem.W.nsIn K mainGlobals "str" = some none),
  fun K => decide (PySem.W.nsIn K mainGlobals "sum" = some none),
  fun K => decide (PySem.W.nsIn K mainGlobals "tuple" = some none),
  fun K => decide (PySem.W.nsIn K mainGlobals "zip" = some none),
  fun K => decide (PySem.W.nsIn K mainGlobals "is_layer" = some (some (.ref 189))),
  fun K => decide (PySem.W.nsIn K mainGlobals "is_joint" = some (some (.ref 196))),
  fun K => decide (PySem.W.nsIn K mainGlobals "written_layer" = some (some (.ref 222))),
  fun K => dflZ K dz_3.dfl [.non],
  fun K => decide (PySem.W.findIn K (.ref 341) "__len__" = some (some (.ref 275))),
  fun K => PySem.W.isFn K (.ref 275),
  fun K => decide (PySem.W.findIn K (.ref 341) "__getitem__" = some (some (.ref 289))),
  fun K => PySem.W.isFn K (.ref 289)]
def fb_1 : List (Fr → Bool) := [fun K => PySem.W.keepIn K (.ref 289),
  fun K => decide (PySem.W.findIn K (.ref 341) "joint" = some (some (.ref 303))),
  fun K => PySem.W.isFn K (.ref 303),
  fun K => PySem.W.keepIn K (.ref 303),
  fun K => decide (PySem.W.findIn K (.ref 341) "thickness" = some (some (.ref 309))),
  fun K => decide (PySem.W.specialIn K (.ref 309) "__get__" = some (some (.builtin "property.__get__"))),
  fun K => decide (PySem.W.takesIn K (.ref 309) = some true),
  fun K => recB K 309 "property" 308,
  fun K => PySem.W.selfFirst K 525,
  fun K => decide (PySem.W.findIn K (.ref 525) "__add__" = some (some (.ref 510))),
  fun K => PySem.W.isFn K (.ref 510),
  fun K => decide (PySem.W.findIn K (.ref 525) "lefts" = some (some (.ref 416))),
  fun K => decide (PySem.W.specialIn K (.ref 416) "__get__" = some (some (.builtin "property.__get__"))),
  fun K => decide (PySem.W.takesIn K (.ref 416) = some true),
  fun K => recB K 416 "property" 415,
  fun K => decide (PySem.W.findIn K (.ref 525) "rights" = some (some (.ref 424))),
  fun K => decide (PySem.W.specialIn K (.ref 424) "__get__" = some (some (.builtin "property.__get__"))),
  fun K => decide (PySem.W.takesIn K (.ref 424) = some true),
  fun K => recB K 424 "property" 423,
  fun K => decide (PySem.W.nsIn K mainGlobals "picture" = some (some (.ref 352))),
  fun K => decide (PySem.W.nsIn K mainGlobals "_law_mix" = some (some (.ref 536))),
  fun K => decide (PySem.W.nsIn K mainGlobals "_law_pool" = some (some (.ref 543))),
  fun K => decide (PySem.W.nsIn K mainGlobals "_law_draw" = some (some (.ref 550))),
  fun K => decide (PySem.W.nsIn K mainGlobals "_law_number" = some (some (.ref 557))),
  fun K => decide (PySem.W.nsIn K mainGlobals "_law_kind" = some (some (.ref 564)))]
def fb_2 : List (Fr → Bool) := [fun K => decide (PySem.W.nsIn K mainGlobals "_law_path" = some (some (.ref 571))),
  fun K => decide (PySem.W.nsIn K mainGlobals "_law_names" = some (some (.ref 576))),
  fun K => decide (PySem.W.nsIn K mainGlobals "_law_lost" = some (some (.ref 583))),
  fun K => decide (PySem.W.nsIn K mainGlobals "_law_joints" = some (some (.ref 590))),
  fun K => decide (PySem.W.nsIn K mainGlobals "_law_world" = some (some (.ref 595))),
  fun K => decide (PySem.W.nsIn K mainGlobals "_law_cores" = some (some (.ref 602))),
  fun K => decide (PySem.W.nsIn K mainGlobals "_law_whole" = some (some (.ref 609))),
  fun K => decide (PySem.W.nsIn K mainGlobals "_law_same" = some (some (.ref 614))),
  fun K => decide (PySem.W.nsIn K mainGlobals "_law_commas" = some (some (.ref 621))),
  fun K => decide (PySem.W.nsIn K mainGlobals "_law_total" = some (some (.ref 628))),
  fun K => decide (PySem.W.nsIn K mainGlobals "_law_line" = some (some (.ref 635))),
  fun K => decide (PySem.W.nsIn K mainGlobals "_law_due" = some (some (.ref 642))),
  fun K => decide (PySem.W.nsIn K mainGlobals "_law_unlike" = some (some (.ref 649))),
  fun K => decide (PySem.W.nsIn K mainGlobals "_law_far" = some (some (.ref 656))),
  fun K => decide (PySem.W.nsIn K mainGlobals "law" = some (some (.ref 661))),
  fun K => decide (PySem.W.nsIn K mainGlobals "Core" = some (some (.ref 341))),
  fun K => PySem.W.plainGet K 341 Str.empty,
  fun K => PySem.W.hasDictIn K 341,
  fun K => PySem.W.plainOver K 341,
  fun K => decide (PySem.W.findIn K (.ref 341) "__setattr__" = some (some (.builtin "object.__setattr__"))),
  fun K => decide (PySem.W.findIn K (.ref 341) "layers" = some none),
  fun K => decide (PySem.W.findIn K (.ref 341) "joints" = some none),
  fun K => PySem.W.makesIn K 341,
  fun K => decide (PySem.W.findIn K (.ref 341) "__init__" = some (some (.ref 251))),
  fun K => PySem.W.isFn K (.ref 251)]
def fb_3 : List (Fr → Bool) := [fun K => PySem.W.keepIn K (.ref 341),
  fun K => decide (PySem.W.nsIn K mainGlobals "Record" = some (some (.ref 525))),
  fun K => PySem.W.plainGet K 525 Str.empty,
  fun K => PySem.W.hasDictIn K 525,
  fun K => PySem.W.plainOver K 525,
  fun K => decide (PySem.W.findIn K (.ref 525) "__setattr__" = some (some (.builtin "object.__setattr__"))),
  fun K => decide (PySem.W.findIn K (.ref 525) "steps" = some none),
  fun K => decide (PySem.W.findIn K (.ref 525) "rows" = some none),
  fun K => PySem.W.makesIn K 525,
  fun K => decide (PySem.W.findIn K (.ref 525) "__init__" = some (some (.ref 388))),
  fun K => PySem.W.isFn K (.ref 388),
  fun K => PySem.W.keepIn K (.ref 525),
  fun K => decide (PySem.W.nsIn K mainGlobals "SiltError" = some (some (.ref 31))),
  fun K => strB K "LETTERS" "abcdefghijklmnopqrstuvwxyz",
  fun K => decide (PySem.W.findIn K (.ref 341) "__getitem__" = some (some (.ref 289))),
  fun K => PySem.W.isFn K (.ref 289),
  fun K => PySem.W.fnIn K 289,
  fun K => PySem.W.readsIn K 341 (.type "type"),
  fun K => decide (PySem.W.specialIn K (.ref 341) "__getattribute__" = some (some (.builtin "type.__getattribute__"))),
  fun K => cvB K 341 "MOST" (.int 20),
  fun K => decide (PySem.W.nsIn K mainGlobals "iter" = some none),
  fun K => decide (PySem.W.findIn K (.ref 341) "__iter__" = some (some (.ref 282))),
  fun K => PySem.W.isFn K (.ref 282),
  fun K => decide (PySem.W.findIn K (.ref 525) "__iter__" = some (some (.ref 446))),
  fun K => PySem.W.isFn K (.ref 446)]
def fb_4 : List (Fr → Bool) := [fun K => decide (PySem.W.nsIn K mainGlobals "BadCore" = some (some (.ref 44))),
  fun K => PySem.W.keepIn K (.ref 44),
  fun K => decide (PySem.W.subIn K (.ref 44) (.type "BaseException") = some true),
  fun K => decide (PySem.W.typeIn K (.ref 44) = some (.type "type")),
  fun K => PySem.W.excIn K 44 [.type "ValueError", .type "Exception", .type "BaseException", .type "object"] "ValueError.__new__",
  fun K => decide (PySem.W.nsIn K mainGlobals "BadLayer" = some (some (.ref 63))),
  fun K => PySem.W.keepIn K (.ref 63),
  fun K => decide (PySem.W.subIn K (.ref 63) (.type "BaseException") = some true),
  fun K => decide (PySem.W.typeIn K (.ref 63) = some (.type "type")),
  fun K => decide (PySem.W.findIn K (.ref 63) "__setattr__" = some (some (.builtin "object.__setattr__"))),
  fun K => excB K 63,
  fun K => decide (PySem.W.findIn K (.ref 63) "__init__" = some (some (.ref 60))),
  fun K => decide (PySem.W.typeIn K (.ref 60) = some (.type "function")),
  fun K => decide (PySem.W.findIn K (.ref 63) "index" = some none),
  fun K => decide (PySem.W.nsIn K mainGlobals "BadJoint" = some (some (.ref 82))),
  fun K => PySem.W.keepIn K (.ref 82),
  fun K => decide (PySem.W.subIn K (.ref 82) (.type "BaseException") = some true),
  fun K => decide (PySem.W.typeIn K (.ref 82) = some (.type "type")),
  fun K => decide (PySem.W.findIn K (.ref 82) "__setattr__" = some (some (.builtin "object.__setattr__"))),
  fun K => excB K 82,
  fun K => decide (PySem.W.findIn K (.ref 82) "__init__" = some (some (.ref 79))),
  fun K => decide (PySem.W.typeIn K (.ref 79) = some (.type "function")),
  fun K => decide (PySem.W.findIn K (.ref 82) "index" = some none),
  fun K => decide (PySem.W.nsIn K mainGlobals "BadRecord" = some (some (.ref 158))),
  fun K => PySem.W.keepIn K (.ref 158)]
def fb_5 : List (Fr → Bool) := [fun K => decide (PySem.W.subIn K (.ref 158) (.type "BaseException") = some true),
  fun K => decide (PySem.W.typeIn K (.ref 158) = some (.type "type")),
  fun K => decide (PySem.W.findIn K (.ref 158) "__setattr__" = some (some (.builtin "object.__setattr__"))),
  fun K => excB K 158,
  fun K => decide (PySem.W.findIn K (.ref 158) "__init__" = some (some (.ref 155))),
  fun K => decide (PySem.W.typeIn K (.ref 155) = some (.type "function")),
  fun K => decide (PySem.W.findIn K (.ref 158) "index" = some none),
  fun K => decide (PySem.W.nsIn K mainGlobals "NoLayer" = some (some (.ref 101))),
  fun K => PySem.W.keepIn K (.ref 101),
  fun K => decide (PySem.W.subIn K (.ref 101) (.type "BaseException") = some true),
  fun K => decide (PySem.W.typeIn K (.ref 101) = some (.type "type")),
  fun K => decide (PySem.W.findIn K (.ref 101) "__setattr__" = some (some (.builtin "object.__setattr__"))),
  fun K => excB K 101,
  fun K => decide (PySem.W.findIn K (.ref 101) "__init__" = some (some (.ref 98))),
  fun K => decide (PySem.W.typeIn K (.ref 98) = some (.type "function")),
  fun K => decide (PySem.W.findIn K (.ref 101) "index" = some none),
  fun K => decide (PySem.W.nsIn K mainGlobals "NoJoint" = some (some (.ref 120))),
  fun K => PySem.W.keepIn K (.ref 120),
  fun K => decide (PySem.W.subIn K (.ref 120) (.type "BaseException") = some true),
  fun K => decide (PySem.W.typeIn K (.ref 120) = some (.type "type")),
  fun K => decide (PySem.W.findIn K (.ref 120) "__setattr__" = some (some (.builtin "object.__setattr__"))),
  fun K => excB K 120,
  fun K => decide (PySem.W.findIn K (.ref 120) "__init__" = some (some (.ref 117))),
  fun K => decide (PySem.W.typeIn K (.ref 117) = some (.type "function")),
  fun K => decide (PySem.W.findIn K (.ref 120) "index" = some none)]
def fb_6 : List (Fr → Bool) := [fun K => decide (PySem.W.nsIn K mainGlobals "Unlike" = some (some (.ref 170))),
  fun K => PySem.W.keepIn K (.ref 170),
  fun K => decide (PySem.W.subIn K (.ref 170) (.type "BaseException") = some true),
  fun K => decide (PySem.W.typeIn K (.ref 170) = some (.type "type")),
  fun K => PySem.W.excIn K 170 [.type "ValueError", .type "Exception", .type "BaseException", .type "object"] "ValueError.__new__",
  fun K => decide (PySem.W.nsIn K mainGlobals "NotFitting" = some (some (.ref 182))),
  fun K => PySem.W.keepIn K (.ref 182),
  fun K => decide (PySem.W.subIn K (.ref 182) (.type "BaseException") = some true),
  fun K => decide (PySem.W.typeIn K (.ref 182) = some (.type "type")),
  fun K => PySem.W.excIn K 182 [.type "ValueError", .type "Exception", .type "BaseException", .type "object"] "ValueError.__new__",
  fun K => decide (PySem.W.specialIn K (.builtin "object.__class__") "__get__" = some (some (.builtin "getset_descriptor.__get__"))),
  fun K => decide (PySem.W.takesIn K (.builtin "object.__class__") = some true),
  fun K => decide (PySem.W.findIn K (.ref 44) "__getattribute__" = some (some (.builtin "BaseException.__getattribute__"))),
  fun K => decide (PySem.W.findIn K (.ref 44) "__getattr__" = some none),
  fun K => PySem.W.hasDictIn K 44,
  fun K => decide (PySem.W.findIn K (.ref 44) "__class__" = some (some (.builtin "object.__class__"))),
  fun K => decide (PySem.W.mroIn K 44 (.type "object") = some true),
  fun K => decide (PySem.W.findIn K (.ref 63) "__getattribute__" = some (some (.builtin "BaseException.__getattribute__"))),
  fun K => decide (PySem.W.findIn K (.ref 63) "__getattr__" = some none),
  fun K => PySem.W.hasDictIn K 63,
  fun K => decide (PySem.W.findIn K (.ref 63) "__class__" = some (some (.builtin "object.__class__"))),
  fun K => decide (PySem.W.mroIn K 63 (.type "object") = some true),
  fun K => decide (PySem.W.findIn K (.ref 82) "__getattribute__" = some (some (.builtin "BaseException.__getattribute__"))),
  fun K => decide (PySem.W.findIn K (.ref 82) "__getattr__" = some none),
  fun K => PySem.W.hasDictIn K 82]
def fb_7 : List (Fr → Bool) := [fun K => decide (PySem.W.findIn K (.ref 82) "__class__" = some (some (.builtin "object.__class__"))),
  fun K => decide (PySem.W.mroIn K 82 (.type "object") = some true),
  fun K => decide (PySem.W.findIn K (.ref 158) "__getattribute__" = some (some (.builtin "BaseException.__getattribute__"))),
  fun K => decide (PySem.W.findIn K (.ref 158) "__getattr__" = some none),
  fun K => PySem.W.hasDictIn K 158,
  fun K => decide (PySem.W.findIn K (.ref 158) "__class__" = some (some (.builtin "object.__class__"))),
  fun K => decide (PySem.W.mroIn K 158 (.type "object") = some true),
  fun K => decide (PySem.W.findIn K (.ref 101) "__getattribute__" = some (some (.builtin "BaseException.__getattribute__"))),
  fun K => decide (PySem.W.findIn K (.ref 101) "__getattr__" = some none),
  fun K => PySem.W.hasDictIn K 101,
  fun K => decide (PySem.W.findIn K (.ref 101) "__class__" = some (some (.builtin "object.__class__"))),
  fun K => decide (PySem.W.mroIn K 101 (.type "object") = some true),
  fun K => decide (PySem.W.findIn K (.ref 120) "__getattribute__" = some (some (.builtin "BaseException.__getattribute__"))),
  fun K => decide (PySem.W.findIn K (.ref 120) "__getattr__" = some none),
  fun K => PySem.W.hasDictIn K 120,
  fun K => decide (PySem.W.findIn K (.ref 120) "__class__" = some (some (.builtin "object.__class__"))),
  fun K => decide (PySem.W.mroIn K 120 (.type "object") = some true),
  fun K => decide (PySem.W.findIn K (.ref 170) "__getattribute__" = some (some (.builtin "BaseException.__getattribute__"))),
  fun K => decide (PySem.W.findIn K (.ref 170) "__getattr__" = some none),
  fun K => PySem.W.hasDictIn K 170,
  fun K => decide (PySem.W.findIn K (.ref 170) "__class__" = some (some (.builtin "object.__class__"))),
  fun K => decide (PySem.W.mroIn K 170 (.type "object") = some true),
  fun K => decide (PySem.W.findIn K (.ref 182) "__getattribute__" = some (some (.builtin "BaseException.__getattribute__"))),
  fun K => decide (PySem.W.findIn K (.ref 182) "__getattr__" = some none),
  fun K => PySem.W.hasDictIn K 182]
def fb_8 : List (Fr → Bool) := [fun K => decide (PySem.W.findIn K (.ref 182) "__class__" = some (some (.builtin "object.__class__"))),
  fun K => decide (PySem.W.mroIn K 182 (.type "object") = some true),
  fun K => decide (PySem.W.exmOne K (.ref 44) (.ref 31) = some true),
  fun K => decide (PySem.W.exmOne K (.ref 63) (.ref 31) = some true),
  fun K => decide (PySem.W.exmOne K (.ref 82) (.ref 31) = some true),
  fun K => decide (PySem.W.exmOne K (.ref 158) (.ref 31) = some true),
  fun K => decide (PySem.W.exmOne K (.ref 101) (.ref 31) = some true),
  fun K => decide (PySem.W.exmOne K (.ref 120) (.ref 31) = some true),
  fun K => decide (PySem.W.exmOne K (.ref 170) (.ref 31) = some true),
  fun K => decide (PySem.W.exmOne K (.ref 182) (.ref 31) = some true),
  fun K => decide (PySem.W.kitOne K (.ref 44) (.ref 182) = some false),
  fun K => decide (PySem.W.kitOne K (.ref 63) (.ref 182) = some false),
  fun K => decide (PySem.W.kitOne K (.ref 82) (.ref 182) = some false),
  fun K => decide (PySem.W.kitOne K (.ref 158) (.ref 182) = some false),
  fun K => decide (PySem.W.kitOne K (.ref 101) (.ref 182) = some false),
  fun K => decide (PySem.W.kitOne K (.ref 120) (.ref 182) = some false),
  fun K => decide (PySem.W.kitOne K (.ref 170) (.ref 182) = some false),
  fun K => decide (PySem.W.kitOne K (.ref 182) (.ref 182) = some true),
  fun K => decide (PySem.W.kitOne K (.ref 44) (.ref 170) = some false),
  fun K => decide (PySem.W.kitOne K (.ref 63) (.ref 170) = some false),
  fun K => decide (PySem.W.kitOne K (.ref 82) (.ref 170) = some false),
  fun K => decide (PySem.W.kitOne K (.ref 158) (.ref 170) = some false),
  fun K => decide (PySem.W.kitOne K (.ref 101) (.ref 170) = some false),
  fun K => decide (PySem.W.kitOne K (.ref 120) (.ref 170) = some false),
  fun K => decide (PySem.W.kitOne K (.ref 170) (.ref 170) = some true)]
def fb_9 : List (Fr → Bool) := [fun K => decide (PySem.W.kitOne K (.ref 182) (.ref 170) = some false),
  fun K => decide (PySem.W.kitOne K (.ref 44) (.type "ValueError") = some true),
  fun K => decide (PySem.W.kitOne K (.ref 63) (.type "ValueError") = some true),
  fun K => decide (PySem.W.kitOne K (.ref 82) (.type "ValueError") = some true),
  fun K => decide (PySem.W.kitOne K (.ref 158) (.type "ValueError") = some true),
  fun K => decide (PySem.W.kitOne K (.ref 101) (.type "ValueError") = some true),
  fun K => decide (PySem.W.kitOne K (.ref 120) (.type "ValueError") = some true),
  fun K => decide (PySem.W.kitOne K (.ref 170) (.type "ValueError") = some true),
  fun K => decide (PySem.W.kitOne K (.ref 182) (.type "ValueError") = some true),
  fun K => decide (PySem.W.kitOne K (.type "NoneType") (.ref 341) = some false),
  fun K => decide (PySem.W.kitOne K (.type "bool") (.ref 341) = some false),
  fun K => decide (PySem.W.kitOne K (.type "int") (.ref 341) = some false),
  fun K => decide (PySem.W.kitOne K (.type "str") (.ref 341) = some false),
  fun K => decide (PySem.W.kitOne K (.type "tuple") (.ref 341) = some false),
  fun K => decide (PySem.W.kitOne K (.type "list") (.ref 341) = some false),
  fun K => decide (PySem.W.kitOne K (.ref 341) (.ref 341) = some true),
  fun K => decide (PySem.W.kitOne K (.ref 525) (.ref 341) = some false),
  fun K => decide (PySem.W.findIn K (.ref 341) "__class__" = some (some (.builtin "object.__class__"))),
  fun K => decide (PySem.W.mroIn K 341 (.type "object") = some true),
  fun K => decide (PySem.W.findIn K (.ref 525) "__class__" = some (some (.builtin "object.__class__"))),
  fun K => decide (PySem.W.mroIn K 525 (.type "object") = some true),
  fun K => decide (PySem.W.kitOne K (.ref 341) (.type "bool") = some false),
  fun K => decide (PySem.W.kitOne K (.ref 525) (.type "bool") = some false),
  fun K => decide (PySem.W.kitOne K (.ref 341) (.type "int") = some false),
  fun K => decide (PySem.W.kitOne K (.ref 525) (.type "int") = some false)]
def fb_10 : List (Fr → Bool) := [fun K => decide (PySem.W.kitOne K (.ref 341) (.type "list") = some false),
  fun K => decide (PySem.W.kitOne K (.ref 525) (.type "list") = some false),
  fun K => decide (PySem.W.kitOne K (.ref 341) (.type "tuple") = some false),
  fun K => decide (PySem.W.kitOne K (.ref 525) (.type "tuple") = some false),
  fun K => decide (PySem.W.nsIn K mainGlobals "SWAPPED" = some (some (.ref 353)))]
abbrev fbp_0 : Bs := [fb_0, fb_1, fb_2, fb_3, fb_4, fb_5, fb_6, fb_7, fb_8, fb_9, fb_10]
abbrev fbs : Bs := fbp_0
abbrev tbs : List ZH.Tab := [(353, d_SWAPPED)]
def as_0 : List Addr := [3, 2, 31, 44, 63, 82, 101, 120, 139, 158, 170, 182, 341, 525, 0, 1, 6, 24, 30, 37, 43, 49, 62, 68, 81, 87, 100, 106, 119, 125, 138, 144, 157, 163, 169, 175, 181, 239, 259, 261]
def as_1 : List Addr := [331, 340, 353, 377, 396, 398, 406, 408, 524, 9, 13, 20, 21, 23, 27, 32, 33, 34, 36, 40, 45, 46, 48, 52, 59, 60, 64, 65, 67, 71, 78, 79, 83, 84, 86, 90, 97, 98, 102, 103]
def as_2 : List Addr := [105, 109, 116, 117, 121, 122, 124, 128, 135, 136, 140, 141, 143, 147, 154, 155, 159, 160, 162, 166, 171, 172, 174, 178, 183, 184, 188, 189, 195, 196, 200, 201, 207, 208, 214, 215, 221, 222, 228, 229]
def as_3 : List Addr := [235, 236, 238, 242, 250, 251, 257, 258, 260, 267, 268, 274, 275, 281, 282, 288, 289, 295, 296, 302, 303, 307, 308, 309, 315, 316, 322, 323, 329, 330, 337, 338, 342, 343, 344, 345, 351, 352, 359, 360]
def as_4 : List Addr := [366, 367, 373, 374, 376, 380, 387, 388, 394, 395, 397, 404, 405, 407, 414, 415, 416, 422, 423, 424, 430, 431, 432, 438, 439, 445, 446, 452, 453, 459, 460, 466, 467, 473, 474, 480, 481, 485, 486, 492]
def as_5 : List Addr := [493, 497, 498, 502, 503, 509, 510, 516, 517, 521, 522, 526, 527, 528, 529, 535, 536, 542, 543, 549, 550, 556, 557, 563, 564, 570, 571, 575, 576, 582, 583, 589, 590, 594, 595, 601, 602, 608, 609, 613]
def as_6 : List Addr := [614, 620, 621, 627, 628, 634, 635, 641, 642, 648, 649, 655, 656, 660, 661, 7, 11, 15, 17, 18, 22, 25, 29, 35, 38, 42, 47, 50, 54, 56, 57, 61, 66, 69, 73, 75, 76, 80, 85, 88]
def as_7 : List Addr := [92, 94, 95, 99, 104, 107, 111, 113, 114, 118, 123, 126, 130, 132, 133, 137, 142, 145, 149, 151, 152, 156, 161, 164, 168, 173, 176, 180, 185, 190, 192, 193, 197, 202, 204, 205, 209, 211, 212, 216]
def as_8 : List Addr := [218, 219, 223, 225, 226, 230, 232, 233, 237, 240, 244, 245, 247, 248, 252, 254, 255, 262, 264, 265, 269, 271, 272, 276, 278, 279, 283, 285, 286, 290, 292, 293, 297, 299, 300, 304, 310, 312, 313, 317]
def as_9 : List Addr := [319, 320, 324, 326, 327, 332, 334, 335, 339, 346, 348, 349, 354, 356, 357, 361, 363, 364, 368, 370, 371, 375, 378, 382, 384, 385, 389, 391, 392, 399, 401, 402, 409, 411, 412, 417, 419, 420, 425, 427]
def as_10 : List Addr := [428, 433, 435, 436, 440, 442, 443, 447, 449, 450, 454, 456, 457, 461, 463, 464, 468, 470, 471, 475, 477, 478, 482, 487, 489, 490, 494, 499, 504, 506, 507, 511, 513, 514, 518, 523, 530, 532, 533, 537]
def as_11 : List Addr := [539, 540, 544, 546, 547, 551, 553, 554, 558, 560, 561, 565, 567, 568, 572, 577, 579, 580, 584, 586, 587, 591, 596, 598, 599, 603, 605, 606, 610, 615, 617, 618, 622, 624, 625, 629, 631, 632, 636, 638]
def as_12 : List Addr := [639, 643, 645, 646, 650, 652, 653, 657]
def as_all : List Addr := as_0 ++ (as_1 ++ (as_2 ++ (as_3 ++ (as_4 ++ (as_5 ++ (as_6 ++ (as_7 ++ (as_8 ++ (as_9 ++ (as_10 ++ (as_11 ++ (as_12))))))))))))
def nm_0 : List PySem.Str := ["_wall", "SiltError", "BadCore", "BadLayer", "BadJoint", "NoLayer", "NoJoint", "BadText", "BadRecord", "Unlike", "NotFitting", "LETTERS", "DIGITS", "is_layer", "is_joint", "parse_number", "parse_layer", "parse_joint", "written_layer", "written_joint", "joined_joint", "Core", "picture", "SWAPPED", "heights", "from_heights", "paired_heights", "Record", "_law_mix", "_law_pool"]
def nm_1 : List PySem.Str := ["_law_draw", "_law_number", "_law_kind", "_law_path", "_law_names", "_law_lost", "_law_joints", "_law_world", "_law_cores", "_law_whole", "_law_same", "_law_commas", "_law_total", "_law_line", "_law_due", "_law_unlike", "_law_far"]
def nm_all : List PySem.Str := nm_0 ++ nm_1
abbrev RR : PySem.W.OpenRow := PySem.W.OpenLaw.row PySem.Challenge.rw_siltmeet_k37_picture
abbrev qq : Program := PySem.W.view RR.prog [52]
abbrev hkk : PySem.W.Hook := hookZ as_all fbs fnl tbs
noncomputable def obk (s : PySem.W.SharedT) : ZH.AlZ := obsZG as_all fbs fnl tbs (HandSHeadRun.getT s)
theorem obk_eq (s : PySem.W.SharedT) : obk s = hkk.obs s.abs := obsZG_eq (HandSHeadRun.getT_eq s)
/-- the run at a world -/
noncomputable abbrev rn (w : World) (os : OsState) : Option PySem.W.SharedT := HandSHeadRun.endF (HandSHeadRun.stepQ (HandSHeadRun.denQ HandSHeadRun.tabQ) RR.prog w) 30000 RR.prog w os
end ZZ
set_option Elab.async false
set_option linter.all false
set_option maxRecDepth 100000
set_option maxHeartbeats 4000000
namespace ZZ
open PySem PySem.Spec L2
open ZH
theorem ra_f (w : World) (os : OsState) : (rn (w.withFollow "special-get-raises" false) os).map (fun s => (HandSHeadRun.looksF RR.prog (PySem.W.boot_heap (w.withFollow "special-get-raises" false).params) s.abs, HandSHeadRun.seenQ qq nm_all (PySem.importedModules RR.prog.main.body) (fun s => PySem.W.xlAt qq [] s && PySem.W.recOk RR.toRowW.records s) s.abs)) = some (true, PySem.W.openGood qq nm_all) := by
  kernel_rfl
end ZZ
set_option Elab.async false
set_option linter.all false
set_option maxRecDepth 100000
set_option maxHeartbeats 4000000
namespace ZZ
open PySem PySem.Spec L2
open ZH
theorem rb_f_0 (w : World) (os : OsState) : (rn (w.withFollow "special-get-raises" false) os).map (fun s => obsZ fbp_0 fnl tbs (He.frG (HandSHeadRun.getT s) as_all)) = some (true, (valZ fnl tbs (w.withFollow "special-get-raises" false)).2) := by
  kernel_rfl
end ZZ
set_option Elab.async false
set_option linter.all false
set_option maxRecDepth 100000
set_option maxHeartbeats 4000000
namespace ZZ
open PySem PySem.Spec L2
open ZH
theorem ra_t (w : World) (os : OsState) : (rn (w.withFollow "special-get-raises" true) os).map (fun s => (HandSHeadRun.looksF RR.prog (PySem.W.boot_heap (w.withFollow "special-get-raises" true).params) s.abs, HandSHeadRun.seenQ qq nm_all (PySem.importedModules RR.prog.main.body) (fun s => PySem.W.xlAt qq [] s && PySem.W.recOk RR.toRowW.records s) s.abs)) = some (true, PySem.W.openGood qq nm_all) := by
  kernel_rfl
end ZZ
set_option Elab.async false
set_option linter.all false
set_option maxRecDepth 100000
set_option maxHeartbeats 4000000
namespace ZZ
open PySem PySem.Spec L2
open ZH
theorem rb_t_0 (w : World) (os : OsState) : (rn (w.withFollow "special-get-raises" true) os).map (fun s => obsZ fbp_0 fnl tbs (He.frG (HandSHeadRun.getT s) as_all)) = some (true, (valZ fnl tbs (w.withFollow "special-get-raises" true)).2) := by
  kernel_rfl
end ZZ
set_option Elab.async false
set_option linter.all false
set_option maxRecDepth 100000
namespace ZZ
open PySem PySem.Spec L2
/-- what a call lets out is wished for -/
def TW (X : Cx) (W : WX) : Prop := ∀ σ, PassesAt (L2N.CX X.prog X.w) X σ (WE W σ)
theorem tw_of {X : Cx} {W : WX} (t : L2N.Takes X W) : TW X W := fun σ => L2N.passAt t σ
abbrev WF : WX := fun _ _ _ _ => False
theorem takesN0 {X : Cx} : L2N.Takes X WF := fun _ _ x => by
  obtain ⟨_, _, _, _, _, _, _, _, _, _, _, _, _, _, _, _, z⟩ := x
  exact z.elim
theorem tw_none {X : Cx} : TW X WF := tw_of takesN0
def eC (d : D) : DE := fun _ ce => .ok (.im d) ce
def eV (i : Nat) : DE := fun sl ce => match sl[i]? with
  | some (some v) => .ok v ce
  | _ => .stuck
def kStuck : DE := fun _ _ => .stuck
def asL (ce : List Cell) : Val → Option (List D)
  | .im (.lst ds) => some ds
  | .cell k => match ce[k]? with
    | some (.lst ds) => some ds
    | _ => none
  | _ => none
/-- a list or tuple that is only read -/
def asSq (ce : List Cell) : Val → Option (List D)
  | .im (.lst ds) => some ds
  | .im (.wl ds) => some ds
  | .im (.tup ds) => some ds
  | .cell k => match ce[k]? with
    | some (.lst ds) => some ds
    | _ => none
  | _ => none
abbrev LINE : Nat := 16777216
def kAdd (v u : Val) : DE := fun sl ce => match v, u with
  | .im (.int i), .im (.int j) => .ok (.im (.int (i + j))) ce
  | .im (.str a), .im (.str b) => if a.length + b.length ≤ LINE then .ok (.im (.str (a ++ b))) ce else .stuck
  | v, u => match asL ce v, asL ce u with
    | some xs, some ys => if xs.length + ys.length ≤ LINE then .ok (.im (.lst (xs ++ ys))) ce else .stuck
    | _, _ => .stuck
def kSub (v u : Val) : DE := fun _ ce => match v, u with
  | .im (.int i), .im (.int j) => .ok (.im (.int (i - j))) ce
  | _, _ => .stuck
/-- bits of a product -/
def mulOK (i j : Int) : Bool := decide (i.natAbs < 2 ^ 400000) && decide (j.natAbs < 2 ^ 400000) || (decide (i.natAbs < 2 ^ 64) || decide (j.natAbs < 2 ^ 64))
def kMul (v u : Val) : DE := fun _ ce => match v, u with
  | .im (.int i), .im (.int j) => if mulOK i j then .ok (.im (.int (i * j))) ce else .stuck
  | _, _ => .stuck
def kDiv (v u : Val) : DE := fun _ ce => match v, u with
  | .im (.int i), .im (.int j) => if 0 < j ∧ j < 1073741824 then .ok (.im (.int (i / j))) ce else .stuck
  | _, _ => .stuck
def kMod (v u : Val) : DE := fun _ ce => match v, u with
  | .im (.int i), .im (.int j) => if 0 < j then .ok (.im (.int (i % j))) ce else .stuck
  | _, _ => .stuck
def kPow (v u : Val) : DE := fun _ ce => match v, u with
  | .im (.int i), .im (.int j) => if 0 ≤ j ∧ j ≤ 1000000 ∧ i.natAbs < 2 ^ 64 then .ok (.im (.int (i ^ j.toNat))) ce else .stuck
  | _, _ => .stuck
def kCmp (g : Int → Int → Bool) (v u : Val) : DE := fun _ ce => match v, u with
  | .im (.int i), .im (.int j) => .ok (.im (.bl (g i j))) ce
  | _, _ => .stuck
abbrev kLt := kCmp fun i j => decide (i < j)
abbrev kLe := kCmp fun i j => decide (i ≤ j)
abbrev kGt := kCmp fun i j => decide (j < i)
abbrev kGe := kCmp fun i j => decide (j ≤ i)
mutual
def toPy : D → Option PyData
  | .non => some .none
  | .bl b => some (.bool b)
  | .int i => some (.int i)
  | .str s => some (.str s)
  | .tup ds => (toPys ds).map .tuple
  | .lst ds => (toPys ds).map .list
  | .wl ds => (toPys ds).map .list
  | .ins _ _ => none
  | .dct _ _ => none
def toPys : List D → Option (List PyData)
  | [] => some []
  | d :: ds => match toPy d, toPys ds with
    | some p, some ps => some (p :: ps)
    | _, _ => none
end
def asIm (ce : List Cell) : Val → Option D
  | .im d => some d
  | .cell k => match ce[k]? with
    | some (.lst ds) => some (.lst ds)
    | _ => none
  | _ => none
def pyEq (d e : D) : Option Bool := match toPy d, toPy e with
  | some p, some q => if SeqAt.shaped p = true ∧ SeqAt.shaped q = true then some (PyData.eqv p q) else none
  | _, _ => none
def kEqG (neg : Bool) (v u : Val) : DE := fun _ ce => match asIm ce v, asIm ce u with
  | some d, some e => match pyEq d e with
    | some b => .ok (.im (.bl (if neg then !b else b))) ce
    | none => .stuck
  | _, _ => .stuck
abbrev kEq := kEqG false
abbrev kNe := kEqG true
def D.isNon : D → Bool
  | .non => true
  | _ => false
def kIsN (neg : Bool) (v u : Val) : DE := fun _ ce => match v, u with
  | .im d, .im .non => .ok (.im (.bl (if neg then !d.isNon else d.isNon))) ce
  | _, _ => .stuck
def kIsB (neg : Bool) (v u : Val) : DE := fun _ ce => match v, u with
  | .im (.bl a), .im (.bl b) => .ok (.im (.bl (if neg then !decide (a = b) else decide (a = b)))) ce
  | _, _ => .stuck
def kIx (v u : Val) : DE := fun _ ce => match u with
  | .im (.int i) => match v with
    | .im (.str z) => if z.length ≤ LINE then (match atI z.cps.toList i with
      | some c => .ok (.im (.str ⟨#[c]⟩)) ce
      | none => .stuck) else .stuck
    | v => match asSq ce v with
      | some ds => match atI ds i with
        | some d => .ok (.im d) ce
        | none => .stuck
      | none => .stuck
  | _ => .stuck
/-- one sign in a text -/
def kInS (neg : Bool) (v u : Val) : DE := fun _ ce => match v, u with
  | .im (.str a), .im (.str z) => match a.cps.toList with
    | [c] => .ok (.im (.bl (if neg then !decide (c ∈ z.cps.toList) else decide (c ∈ z.cps.toList)))) ce
    | _ => .stuck
  | _, _ => .stuck
def eBin (k : Val → Val → DE) (f g : DE) : DE := eBind f fun v => eBind g (k v)
def eUn (k : Val → DE) (f : DE) : DE := eBind f k
def kBool (k : Bool → DE) (v : Val) : DE := match v with
  | .im (.bl b) => k b
  | _ => kStuck
def eAnd (f g : DE) : DE := eBind f (kBool fun b => if b then g else eC (.bl false))
def eOr (f g : DE) : DE := eBind f (kBool fun b => if b then eC (.bl true) else g)
def eNot (f : DE) : DE := eBind f (kBool fun b => eC (.bl (!b)))
def eIf (c f g : DE) : DE := eBind c (kBool fun b => if b then f else g)
/-- a op b op' c -/
def eChain (k k' : Val → Val → DE) (f g h : DE) : DE := eBind f fun v => eBind g fun u => eBind (k v u) (kBool fun b => if b then eBind h (k' u) else eC (.bl false))
/-- a value as a test -/
def truV (ce : List Cell) : Val → Option Bool
  | .im .non => some false
  | .im (.bl b) => some b
  | .im (.int i) => some (i != 0)
  | .im (.str y) => if y.length ≤ LINE then some ((y.length : Int) != 0) else none
  | v => (asSq ce v).map fun ds => !ds.isEmpty
def kTru (v : Val) : DE := fun _ ce => match truV ce v with
  | some b => .ok (.im (.bl b)) ce
  | none => .stuck
def eTru (f : DE) : DE := eBind f kTru
section
variable {Z : Zy} {A A' : List Addr} {F F' H : Hp} {ce : List Cell} {sl : Sl} {σ : L2.St} {W : WX} {Q Q' : VK}
theorem asL_rd {v : Val} {x : V} {ds : List D} (so : SO Z.toZx A F ce H) (r : VRep Z A F v x) (e : asL ce v = some ds) : ∃ l vs, x = .ref l ∧ H l = some (.lst vs) ∧ Reps Z.toZx F ds vs := by
  unfold asL at e
  split at e
  · cases e
    unfold VRep Rep at r
    obtain ⟨a, vs, rfl, h1, h2⟩ := r
    exact ⟨a, vs, rfl, so.sub _ _ h1, h2⟩
  · rename_i k
    split at e
    · rename_i ds' hk
      cases e
      obtain ⟨a, h1, rfl⟩ := r
      obtain ⟨_, vs, h2, h3⟩ := so.ok k a _ h1 hk
      exact ⟨a, vs, rfl, h2, h3⟩
    · cases e
  · cases e
theorem asSq_rd {v : Val} {x : V} {ds : List D} (so : SO Z.toZx A F ce H) (r : VRep Z A F v x) (e : asSq ce v = some ds) : ∃ l vs, x = .ref l ∧ (SqL Z.K H l vs ∨ SqT Z.K H l vs) ∧ Reps Z.toZx F ds vs := by
  unfold asSq at e
  split at e
  · cases e
    unfold VRep Rep at r
    obtain ⟨a, vs, rfl, h1, h2⟩ := r
    exact ⟨a, vs, rfl, .inl (SqL.of (so.sub _ _ h1)), h2⟩
  · cases e
    unfold VRep Rep at r
    obtain ⟨a, vs, rfl, h1, h2⟩ := r
    exact ⟨a, vs, rfl, .inl (so.sub.seq h1), h2⟩
  · cases e
    unfold VRep Rep at r
    obtain ⟨a, vs, rfl, h1, h2⟩ := r
    exact ⟨a, vs, rfl, .inr (same_seqT so.sub h1), h2⟩
  · rename_i k
    split at e
    · rename_i ds' hk
      cases e
      obtain ⟨a, h1, rfl⟩ := r
      obtain ⟨_, vs, h2, h3⟩ := so.ok k a _ h1 hk
      exact ⟨a, vs, rfl, .inl (SqL.of h2), h3⟩
    · cases e
  · cases e
mutual
theorem dp_of (e : Same F H) : ∀ {d : D} {v : V} {p : PyData}, Rep Z.toZx F d v → toPy d = some p → Dp Z.K H v p
  | .non, v, p, r, t => by
    unfold Rep at r; unfold toPy at t; cases t; subst r; exact .non
  | .bl b, v, p, r, t => by
    unfold Rep at r; unfold toPy at t; cases t; subst r; exact .bl b
  | .int b, v, p, r, t => by
    unfold Rep at r; unfold toPy at t; cases t; subst r; exact .int b
  | .str b, v, p, r, t => by
    unfold Rep at r; unfold toPy at t; cases t; subst r; exact .str b
  | .tup ds, v, p, r, t => by
    unfold Rep at r; unfold toPy at t
    obtain ⟨a, vs, rfl, h1, h2⟩ := r
    cases q : toPys ds with
    | none => rw [q] at t; cases t
    | some ps => rw [q] at t; cases t; exact .tup (same_seqT e h1) (dps_of e h2 q)
  | .lst ds, v, p, r, t => by
    unfold Rep at r; unfold toPy at t
    obtain ⟨a, vs, rfl, h1, h2⟩ := r
    cases q : toPys ds with
    | none => rw [q] at t; cases t
    | some ps => rw [q] at t; cases t; exact .lst (SqL.of (e _ _ h1)) (dps_of e h2 q)
  | .wl ds, v, p, r, t => by
    unfold Rep at r; unfold toPy at t
    obtain ⟨a, vs, rfl, h1, h2⟩ := r
    cases q : toPys ds with
    | none => rw [q] at t; cases t
    | some ps => rw [q] at t; cases t; exact .lst (e.seq h1) (dps_of e h2 q)
  | .ins _ _, v, p, r, t => by
    unfold toPy at t; cases t
  | .dct _ _, v, p, r, t => by
    unfold toPy at t; cases t
theorem dps_of (e : Same F H) : ∀ {ds : List D} {vs : List V} {ps : List PyData}, Reps Z.toZx F ds vs → toPys ds = some ps → DpAll Z.K H vs ps
  | [], vs, ps, r, t => by
    rw [reps_nil_inv r]; unfold toPys at t; cases t; exact .nil
  | d :: ds, vs, ps, r, t => by
    obtain ⟨v, r', rfl, h1, h2⟩ := reps_cons_inv r
    unfold toPys at t
    split at t
    · rename_i p ps' q1 q2
      cases t
      exact .cons (dp_of e h1 q1) (dps_of e h2 q2)
    · cases t
end
theorem asIm_dp {v : Val} {x : V} {d : D} {p : PyData} (so : SO Z.toZx A F ce H) (r : VRep Z A F v x) (e : asIm ce v = some d) (t : toPy d = some p) : Dp Z.K H x p := by
  unfold asIm at e
  split at e
  · cases e
    exact dp_of so.sub r t
  · rename_i k
    split at e
    · rename_i ds' hk
      cases e
      obtain ⟨a, h1, rfl⟩ := r
      obtain ⟨_, vs, h2, h3⟩ := so.ok k a _ h1 hk
      unfold toPy at t
      cases q : toPys ds' with
      | none => rw [q] at t; cases t
      | some ps => rw [q] at t; cases t; exact .lst (SqL.of h2) (dps_of so.sub h3 q)
    · cases e
  · cases e
theorem truV_ok {v : Val} {x : V} {b : Bool} (so : SO Z.toZx A F ce H) (r : VRep Z A F v x) (e : truV ce v = some b) : TruV Z.K x H b := by
  unfold truV at e
  split at e
  · cases e; unfold VRep Rep at r; subst r; rfl
  · cases e; unfold VRep Rep at r; subst r; rfl
  · cases e; unfold VRep Rep at r; subst r; rfl
  · split at e
    · rename_i h
      cases e; unfold VRep Rep at r; subst r
      exact ⟨by rw [sizeLine_eq]; exact h, rfl⟩
    · cases e
  · cases q : asSq ce v with
    | none => rw [q] at e; cases e
    | some ds =>
      rw [q] at e
      cases e
      obtain ⟨l, vs, rfl, h1, h2⟩ := asSq_rd so r q
      have hv : (!ds.isEmpty) = !vs.isEmpty := by
        have := h2.length
        cases ds <;> cases vs <;> simp_all
      rcases h1 with h1 | h1
      · exact .inl ⟨vs, h1, by simpa using hv⟩
      · exact .inr (.inl ⟨vs, h1, by simpa using hv⟩)
theorem fin_flat {d : D} {x : V} (so : SO Z.toZx A F ce H) (h : PostE Z A F W σ Q (.ok (.im d) ce)) (r : Rep Z.toZx F d x) : Q x H :=
  h A F H x (List.prefix_refl _) (Same.refl _) so r
theorem fin_newL {ds : List D} {vs : List V} (so : SO Z.toZx A F ce H) (h : PostE Z A F W σ Q (.ok (.im (.lst ds)) ce)) (r : Reps Z.toZx F ds vs) {p : Addr} (hp : H p = none) : Q (.ref p) (upd H p (.lst vs)) := by
  refine h A (upd F p (.lst vs)) _ _ (List.prefix_refl _) (same_up (so.fnone hp)) (so.new hp) ?_
  unfold VRep Rep
  exact ⟨p, vs, rfl, upd_same, r.mono (same_up (so.fnone hp))⟩
theorem fin_newT {ds : List D} {vs : List V} (so : SO Z.toZx A F ce H) (h : PostE Z A F W σ Q (.ok (.im (.tup ds)) ce)) (r : Reps Z.toZx F ds vs) {p : Addr} (hp : H p = none) : Q (.ref p) (upd H p (.tup vs)) := by
  refine h A (upd F p (.tup vs)) _ _ (List.prefix_refl _) (same_up (so.fnone hp)) (so.new hp) ?_
  unfold VRep Rep
  exact ⟨p, vs, rfl, SqT.of upd_same, r.mono (same_up (so.fnone hp))⟩
theorem fin_newC {ds : List D} {vs : List V} (so : SO Z.toZx A F ce H) (h : PostE Z A F W σ Q (.ok (.cell ce.length) (ce ++ [.lst ds]))) (r : Reps Z.toZx F ds vs) {p : Addr} (hp : H p = none) : Q (.ref p) (upd H p (.lst vs)) := by
  refine h (A ++ [p]) F _ _ (List.prefix_append _ _) (Same.refl _) (so.newCell hp ⟨so.fnone hp, vs, upd_same, r⟩) ?_
  exact ⟨p, by rw [← so.len]; simp, rfl⟩
/-- what a rule on two values asks -/
def Ok2 (Z : Zy) (W : WX) (k : Val → Val → DE) (r : R2) : Prop := ∀ A F sl ce v u x y H σ Q, SO Z.toZx A F ce H → SL Z A F sl σ → VRep Z A F v x → VRep Z A F u y → PostE Z A F W σ Q (k v u sl ce) → r x y H Q
theorem rep_int {i : Int} {x : V} (r : VRep Z A F (.im (.int i)) x) : x = .int i := by unfold VRep Rep at r; exact r
theorem rep_bl {i : Bool} {x : V} (r : VRep Z A F (.im (.bl i)) x) : x = .bl i := by unfold VRep Rep at r; exact r
theorem rep_str {i : Str} {x : V} (r : VRep Z A F (.im (.str i)) x) : x = .str i := by unfold VRep Rep at r; exact r
theorem rep_non {x : V} (r : VRep Z A F (.im .non) x) : x = .non := by unfold VRep Rep at r; exact r
theorem repI {i : Int} : Rep Z.toZx F (.int i) (.int i) := by unfold Rep; rfl
theorem repB {i : Bool} : Rep Z.toZx F (.bl i) (.bl i) := by unfold Rep; rfl
theorem repS {i : Str} : Rep Z.toZx F (.str i) (.str i) := by unfold Rep; rfl
theorem repN : Rep Z.toZx F .non .non := by unfold Rep; rfl
end
section
variable {X : Cx} {Z : Zy} {W : WX} {a b c : Expr} {f g h : DE} {pos : Pos}
def rAddA : R2 := fun x y H Q => (∃ i j, x = .int i ∧ y = .int j ∧ Q (.int (i + j)) H) ∨ (∃ i j, x = .str i ∧ y = .str j ∧ i.length + j.length ≤ sizeLine ∧ Q (.str (i ++ j)) H) ∨ rCat x y H Q
theorem op_or2 {f : Value → Value → Sem Value} {r r' : R2} (h : OpR X f r) (h' : OpR X f r') : OpR X f (fun x y H Q => r x y H Q ∨ r' x y H Q) := by
  intro pins s σ H x y v u Q I rx ry q
  rcases q with q | q
  · exact h pins s σ H x y v u Q I rx ry q
  · exact h' pins s σ H x y v u Q I rx ry q
theorem op_addA : OpR X (binaryOp .Add) rAddA := op_or2 op_add (op_or2 op_add_str op_cat)
theorem ok_add : Ok2 Z W kAdd rAddA := by
  intro A F sl ce v u x y H σ Q so hs rv ru p
  unfold kAdd at p
  split at p
  · exact .inl ⟨_, _, rep_int rv, rep_int ru, fin_flat so p repI⟩
  · split at p
    · rename_i hl
      exact .inr (.inl ⟨_, _, rep_str rv, rep_str ru, by rw [sizeLine_eq]; exact hl, fin_flat so p repS⟩)
    · exact p.elim
  · split at p
    · rename_i xs ys e1 e2
      split at p
      · rename_i hl
        obtain ⟨l, vs, rfl, h1, h2⟩ := asL_rd so rv e1
        obtain ⟨l', vs', rfl, h1', h2'⟩ := asL_rd so ru e2
        exact .inr (.inr ⟨l, l', vs, vs', rfl, rfl, h1, h1', by rw [sizeLine_eq, ← h2.length, ← h2'.length]; exact hl, fun p' hp => fin_newL so p (h2.append h2') hp⟩)
      · exact p.elim
    · exact p.elim
theorem ok_int {k : Val → Val → DE} {C : Int → Int → Prop} {g : Int → Int → D} {gv : Int → Int → V} (hk : ∀ v u sl ce, (∃ i j, v = .im (.int i) ∧ u = .im (.int j) ∧ C i j ∧ k v u sl ce = .ok (.im (g i j)) ce) ∨ k v u sl ce = .stuck)
    (hg : ∀ F i j, Rep Z.toZx F (g i j) (gv i j)) : Ok2 Z W k (rI C gv) := by
  intro A F sl ce v u x y H σ Q so hs rv ru p
  rcases hk v u sl ce with ⟨i, j, rfl, rfl, hc, e⟩ | e
  · rw [e] at p
    exact ⟨i, j, rep_int rv, rep_int ru, hc, fin_flat so p (hg _ _ _)⟩
  · rw [e] at p
    exact p.elim
theorem op_rI0 {f : Value → Value → Sem Value} {g : Int → Int → V} (h : OpR X f (rI0 g)) : OpR X f (rI (fun _ _ => True) g) := by
  intro pins s σ H x y v u Q I rx ry ⟨i, j, e1, e2, _, q⟩
  exact h pins s σ H x y v u Q I rx ry ⟨i, j, e1, e2, q⟩
theorem ok_sub : Ok2 Z W kSub (rI (fun _ _ => True) fun i j => .int (i - j)) := ok_int (g := fun i j => .int (i - j)) (fun v u sl ce => by
  unfold kSub; split
  · exact .inl ⟨_, _, rfl, rfl, trivial, rfl⟩
  · exact .inr rfl) fun _ _ _ => repI
theorem ok_cmp {g : Int → Int → Bool} : Ok2 Z W (kCmp g) (rI (fun _ _ => True) fun i j => .bl (g i j)) := ok_int (g := fun i j => .bl (g i j)) (fun v u sl ce => by
  unfold kCmp; split
  · exact .inl ⟨_, _, rfl, rfl, trivial, rfl⟩
  · exact .inr rfl) fun _ _ _ => repB
def CMulA (i j : Int) : Prop := CMul i j ∨ CMulW i j
theorem op_mulA : OpR X (binaryOp .Mult) (rI CMulA fun i j => .int (i * j)) := by
  intro pins s σ H x y v u Q I rx ry ⟨i, j, e1, e2, hc, q⟩
  rcases hc with hc | hc
  · exact op_mul pins s σ H x y v u Q I rx ry ⟨i, j, e1, e2, hc, q⟩
  · exact op_mulW pins s σ H x y v u Q I rx ry ⟨i, j, e1, e2, hc, q⟩
theorem mulOK_ok {i j : Int} (h : mulOK i j = true) : CMulA i j := by
  unfold mulOK at h
  simp only [Bool.or_eq_true, Bool.and_eq_true, decide_eq_true_eq] at h
  rcases h with ⟨h1, h2⟩ | h | h
  · exact .inr (wide_mul h1 h2 (by decide) (by decide) (by decide))
  · exact .inl (.inl (by constructor <;> omega))
  · exact .inl (.inr (by constructor <;> omega))
theorem ok_mul : Ok2 Z W kMul (rI CMulA fun i j => .int (i * j)) := ok_int (g := fun i j => .int (i * j)) (fun v u sl ce => by
  unfold kMul; split
  · split
    · rename_i h
      exact .inl ⟨_, _, rfl, rfl, mulOK_ok h, rfl⟩
    · exact .inr rfl
  · exact .inr rfl) fun _ _ _ => repI
theorem ok_div : Ok2 Z W kDiv (rI CDiv fun i j => .int (i / j)) := ok_int (g := fun i j => .int (i / j)) (fun v u sl ce => by
  unfold kDiv; split
  · split
    · rename_i h
      exact .inl ⟨_, _, rfl, rfl, h, rfl⟩
    · exact .inr rfl
  · exact .inr rfl) fun _ _ _ => repI
theorem ok_mod : Ok2 Z W kMod (rI (fun _ j => 0 < j) fun i j => .int (i % j)) := ok_int (g := fun i j => .int (i % j)) (fun v u sl ce => by
  unfold kMod; split
  · split
    · rename_i h
      exact .inl ⟨_, _, rfl, rfl, h, rfl⟩
    · exact .inr rfl
  · exact .inr rfl) fun _ _ _ => repI
theorem ok_pow : Ok2 Z W kPow (rI CPow fun i j => .int (i ^ j.toNat)) := ok_int (g := fun i j => .int (i ^ j.toNat)) (fun v u sl ce => by
  unfold kPow; split
  · split
    · rename_i h
      exact .inl ⟨_, _, rfl, rfl, h, rfl⟩
    · exact .inr rfl
  · exact .inr rfl) fun _ _ _ => repI
theorem ok_eqG (neg : Bool) : Ok2 Z W (kEqG neg) (fun x y H Q => ∃ d e, Dp Z.K H x d ∧ Dp Z.K H y e ∧ SeqAt.shaped d = true ∧ SeqAt.shaped e = true ∧ Q (.bl (if neg then !PyData.eqv d e else PyData.eqv d e)) H) := by
  intro A F sl ce v u x y H σ Q so hs rv ru p
  unfold kEqG at p
  split at p
  · rename_i d e e1 e2
    unfold pyEq at p
    cases t1 : toPy d with
    | none => simp only [t1] at p; exact p.elim
    | some p1 =>
      cases t2 : toPy e with
      | none => simp only [t1, t2] at p; exact p.elim
      | some p2 =>
        simp only [t1, t2] at p
        by_cases hs : SeqAt.shaped p1 = true ∧ SeqAt.shaped p2 = true
        · rw [if_pos hs] at p
          exact ⟨p1, p2, asIm_dp so rv e1 t1, asIm_dp so ru e2 t2, hs.1, hs.2, fin_flat so p repB⟩
        · rw [if_neg hs] at p
          exact p.elim
  · exact p.elim
theorem ok_eq : Ok2 Z W kEq (rEqD Z.K) := ok_eqG false
theorem ok_ne : Ok2 Z W kNe (rNeD Z.K) := ok_eqG true
theorem rep_isNon {F : Hp} {d : D} {x : V} (r : Rep Z.toZx F d x) : decide (x = .non) = d.isNon := by
  cases d <;> unfold Rep at r <;> first | (subst r; rfl) | (obtain ⟨a, o, k, v, rfl, _⟩ := r; rfl) | (obtain ⟨a, vs, rfl, _⟩ := r; rfl) | (obtain ⟨a, dx, fs, rfl, _⟩ := r; rfl)
theorem ok_isN (neg : Bool) : Ok2 Z W (kIsN neg) (fun x y H Q => y = .non ∧ Q (.bl (if neg then !decide (x = .non) else decide (x = .non))) H) := by
  intro A F sl ce v u x y H σ Q so hs rv ru p
  unfold kIsN at p
  split at p
  · refine ⟨rep_non ru, ?_⟩
    rw [rep_isNon rv]
    exact fin_flat so p repB
  · exact p.elim
theorem atI_reps {F : Hp} {ds : List D} {vs : List V} {i : Int} {d : D} (r : Reps Z.toZx F ds vs) (e : atI ds i = some d) : ∃ x, atI vs i = some x ∧ Rep Z.toZx F d x := by
  unfold atI at e ⊢
  rw [← r.length]
  cases q : ixN ds.length i with
  | none => rw [q] at e; cases e
  | some j =>
    rw [q] at e
    exact r.get' e
theorem ok_ix : Ok2 Z W kIx (rIx Z.K) := by
  intro A F sl ce v u x y H σ Q so hs rv ru p
  unfold kIx at p
  split at p
  · split at p
    · split at p
      · rename_i hl
        split at p
        · rename_i c hc
          exact .inr (.inr ⟨_, _, c, rep_str rv, rep_int ru, by rw [sizeLine_eq]; exact hl, hc, fin_flat so p repS⟩)
        · exact p.elim
      · exact p.elim
    · split at p
      · rename_i ds e1
        split at p
        · rename_i d e2
          obtain ⟨l, vs, rfl, h1, h2⟩ := asSq_rd so rv e1
          obtain ⟨x, e3, r3⟩ := atI_reps h2 e2
          rcases h1 with h1 | h1
          · exact .inl ⟨l, vs, _, x, rfl, rep_int ru, h1, e3, fin_flat so p r3⟩
          · exact .inr (.inl ⟨l, vs, _, x, rfl, rep_int ru, h1, e3, fin_flat so p r3⟩)
        · exact p.elim
      · exact p.elim
  · exact p.elim
theorem ok_inS (neg : Bool) : Ok2 Z W (kInS neg) (fun x y H Q => ∃ (c : Nat) (z : Str), x = .str ⟨#[c]⟩ ∧ y = .str z ∧ Q (.bl (if neg then !decide (c ∈ z.cps.toList) else decide (c ∈ z.cps.toList))) H) := by
  intro A F sl ce v u x y H σ Q so hs rv ru p
  unfold kInS at p
  split at p
  · rename_i a z
    split at p
    · rename_i c hc
      have ea : a = ⟨#[c]⟩ := by
        cases a with
        | mk cps =>
          congr 1
          have h2 : cps.toList = [c] := hc
          rw [← Array.toArray_toList (xs := cps), h2]
      exact ⟨c, z, by rw [rep_str rv, ea], rep_str ru, fin_flat so p repB⟩
    · exact p.elim
  · exact p.elim
theorem de_c {d : D} {v : V} {e : Expr} (h : PE X e (tC v)) (r : ∀ F, Rep Z.toZx F d v) : PE X e (tE Z W (eC d)) := h.weak fun σ H Q ⟨A, F, sl, ce, so, hs, p⟩ => fin_flat so p (r F)
theorem de_int {i j} : PE X (.Constant (.int i) j pos) (tE Z W (eC (.int i))) := de_c pe_int fun _ => repI
theorem de_str {i j} : PE X (.Constant (.str i) j pos) (tE Z W (eC (.str i))) := de_c pe_str fun _ => repS
theorem de_bl {i j} : PE X (.Constant (.bool i) j pos) (tE Z W (eC (.bl i))) := de_c pe_bl fun _ => repB
theorem de_non {j} : PE X (.Constant .none j pos) (tE Z W (eC .non)) := de_c pe_non fun _ => repN
theorem de_var {e : Expr} {i : Nat} (h : PE X e (tVar i)) : PE X e (tE Z W (eV i)) := h.weak fun σ H Q ⟨A, F, sl, ce, so, hs, p⟩ => by
  unfold eV at p
  split at p
  · rename_i v e
    obtain ⟨x, h1, h2⟩ := hs.is i v e
    exact ⟨x, h1, p A F H x (List.prefix_refl _) (Same.refl _) so h2⟩
  · exact p.elim
theorem dv (i : Nat) {x : Str} {pos : Pos} (hN : X.N[i]? = some x := by rfl) (hv : Vis X.env.scope x := by first | exact Or.inl rfl | exact Or.inr (Or.inl rfl) | exact Or.inr (Or.inr rfl)) (hd : (x == ("__debug__" : Str)) = false := by decide)
    (hcd : (x == ("__classdict__" : Str)) = false := by decide) : PE X (.Name x pos) (tE Z W (eV i)) := de_var (pe_var hN hv hd hcd)
theorem t2 {k : Val → Val → DE} {r : R2} (hk : Ok2 Z W k r) {σ : L2.St} {H : Hp} {Q : VK} (h : tE Z W (eBin k f g) σ H Q) : tE Z W f σ H fun x H1 => tE Z W g σ H1 fun y H2 => r x y H2 Q :=
  tE_imp (fun x H1 h1 => tE_imp (fun y H2 ⟨A, F, sl, ce, v, u, so, hs, rv, ru, p⟩ => hk A F sl ce v u x y H2 σ Q so hs rv ru p) h1) (tE2 h)
theorem de_op {op : Operator} {k : Val → Val → DE} {r : R2} (ho : OpR X (binaryOp op) r) (hk : Ok2 Z W k r) (ha : PE X a (tE Z W f)) (hb : PE X b (tE Z W g)) : PE X (.BinOp a op b pos) (tE Z W (eBin k f g)) :=
  (pe_op ho ha hb).weak fun σ H Q h => t2 hk h
theorem de_add (ha : PE X a (tE Z W f)) (hb : PE X b (tE Z W g)) : PE X (.BinOp a .Add b pos) (tE Z W (eBin kAdd f g)) := de_op op_addA ok_add ha hb
theorem de_sub (ha : PE X a (tE Z W f)) (hb : PE X b (tE Z W g)) : PE X (.BinOp a .Sub b pos) (tE Z W (eBin kSub f g)) := de_op (op_rI0 op_sub) ok_sub ha hb
theorem de_mul (ha : PE X a (tE Z W f)) (hb : PE X b (tE Z W g)) : PE X (.BinOp a .Mult b pos) (tE Z W (eBin kMul f g)) := de_op op_mulA ok_mul ha hb
theorem de_div (ha : PE X a (tE Z W f)) (hb : PE X b (tE Z W g)) : PE X (.BinOp a .FloorDiv b pos) (tE Z W (eBin kDiv f g)) := de_op op_fdiv ok_div ha hb
theorem de_mod (ha : PE X a (tE Z W f)) (hb : PE X b (tE Z W g)) : PE X (.BinOp a .Mod b pos) (tE Z W (eBin kMod f g)) := de_op op_mod ok_mod ha hb
theorem de_pow (ha : PE X a (tE Z W f)) (hb : PE X b (tE Z W g)) : PE X (.BinOp a .Pow b pos) (tE Z W (eBin kPow f g)) := de_op op_pow ok_pow ha hb
theorem de_cmp {op : CmpOp} {k : Val → Val → DE} {r : R2} (ho : OpR X (compareOp op) r) (hk : Ok2 Z W k r) (ha : PE X a (tE Z W f)) (hb : PE X b (tE Z W g)) (hm : behindInMarks op b = false) : PE X (.Compare a [op] [b] pos) (tE Z W (eBin k f g)) :=
  (pe_cmpR ho ha hb hm).weak fun σ H Q h => t2 hk h
/-- a comparison's rule: what it is on values -/
structure CmpK (X : Cx) (Z : Zy) (W : WX) (op : CmpOp) (k : Val → Val → DE) : Prop where
  ex : ∃ r, OpR X (compareOp op) r ∧ Ok2 Z W k r
theorem c_lt : CmpK X Z W .Lt kLt := ⟨_, op_rI0 op_lt, ok_cmp⟩
theorem c_le : CmpK X Z W .LtE kLe := ⟨_, op_rI0 op_le, ok_cmp⟩
theorem c_gt : CmpK X Z W .Gt kGt := ⟨_, op_rI0 op_gt, ok_cmp⟩
theorem c_ge : CmpK X Z W .GtE kGe := ⟨_, op_rI0 op_ge, ok_cmp⟩
theorem c_eq {k : Nat} (hK : X.K = Z.K) (hr : Room k X.A) : CmpK X Z W .Eq kEq := ⟨rEqD Z.K, by rw [← hK]; exact op_eqD hr.units, ok_eq⟩
theorem c_ne {k : Nat} (hK : X.K = Z.K) (hr : Room k X.A) : CmpK X Z W .NotEq kNe := ⟨rNeD Z.K, by rw [← hK]; exact op_neD hr.units, ok_ne⟩
theorem c_isN : CmpK X Z W .Is (kIsN false) := ⟨_, op_isN, ok_isN false⟩
theorem c_notN : CmpK X Z W .IsNot (kIsN true) := ⟨_, op_notN, ok_isN true⟩
theorem c_inS : CmpK X Z W .In (kInS false) := ⟨_, op_in_sign, ok_inS false⟩
theorem de_cmpK {op : CmpOp} {k : Val → Val → DE} (c : CmpK X Z W op k) (ha : PE X a (tE Z W f)) (hb : PE X b (tE Z W g)) (hm : behindInMarks op b = false := by first | exact nomark _ (by decide) (by decide) | rfl) : PE X (.Compare a [op] [b] pos) (tE Z W (eBin k f g)) := by
  obtain ⟨r, ho, hk⟩ := c.ex
  exact de_cmp ho hk ha hb hm
theorem de_ix (hK : X.K = Z.K) (ha : PE X a (tE Z W f)) (hb : PE X b (tE Z W g)) (hs : PlainIx b := by exact fun _ _ => rfl) : PE X (.Subscript a b pos) (tE Z W (eBin kIx f g)) :=
  (pe_ix (r := rIx Z.K) (by rw [← hK]; exact ix_seq) ha hb hs).weak fun σ H Q h => t2 ok_ix h
/-- and, or, not, if: values that are bools -/
theorem PostE.bool {A F σ Q} {k : Bool → DE} {v : Val} {x : V} {sl ce} (r : VRep Z A F v x) (p : PostE Z A F W σ Q (kBool k v sl ce)) : ∃ b, x = .bl b ∧ PostE Z A F W σ Q (k b sl ce) := by
  unfold kBool at p
  split at p
  · exact ⟨_, rep_bl r, p⟩
  · exact p.elim
theorem de_and {rest} (ha : PE X a (tE Z W f)) (hb : PE X (.BoolOp .And (b :: rest) pos) (tE Z W g)) : PE X (.BoolOp .And (a :: b :: rest) pos) (tE Z W (eAnd f g)) :=
  (pe_and ha hb).weak fun σ H Q h => tE_imp (fun x H1 ⟨A, F, sl, ce, v, so, hs, r, p⟩ => by
    obtain ⟨b, rfl, p⟩ := p.bool r
    refine ⟨b, rfl, ?_⟩
    cases b with
    | true => exact iteT ⟨A, F, sl, ce, so, hs, p⟩
    | false => exact iteF (fin_flat so p repB)) (tE1 h)
theorem de_or {rest} (ha : PE X a (tE Z W f)) (hb : PE X (.BoolOp .Or (b :: rest) pos) (tE Z W g)) : PE X (.BoolOp .Or (a :: b :: rest) pos) (tE Z W (eOr f g)) :=
  (pe_or ha hb).weak fun σ H Q h => tE_imp (fun x H1 ⟨A, F, sl, ce, v, so, hs, r, p⟩ => by
    obtain ⟨b, rfl, p⟩ := p.bool r
    refine ⟨b, rfl, ?_⟩
    cases b with
    | true => exact iteT (fin_flat so p repB)
    | false => exact iteF ⟨A, F, sl, ce, so, hs, p⟩) (tE1 h)
theorem de_one {op} (h : PE X a (tE Z W f)) : PE X (.BoolOp op [a] pos) (tE Z W f) := pe_one h
theorem de_not (ha : PE X a (tE Z W f)) : PE X (.UnaryOp .Not a pos) (tE Z W (eNot f)) :=
  (pe_not ha).weak fun σ H Q h => tE_imp (fun x H1 ⟨A, F, sl, ce, v, so, hs, r, p⟩ => by
    obtain ⟨b, rfl, p⟩ := p.bool r
    exact ⟨b, rfl, fin_flat so p repB⟩) (tE1 h)
/-- a test -/
def tT (Z : Zy) (W : WX) (f : DE) : TT := fun σ H Q => tE Z W f σ H fun x H' => ∃ b, x = .bl b ∧ Q b H'
theorem dt_val {e : Expr} (h : PE X e (tE Z W f)) (he : ∀ whole, isTrue e X.env whole = (do let v ← whole; standAt e.pos; holding [v] (truthy v)) := by intro _; rfl) : PT X e (tT Z W f) := pt_val h he
theorem dt_cmp {op : CmpOp} {k : Val → Val → DE} (c : CmpK X Z W op k) (ha : PE X a (tE Z W f)) (hb : PE X b (tE Z W g)) (hm : behindInMarks op b = false := by first | exact nomark _ (by decide) (by decide) | rfl) : PT X (.Compare a [op] [b] pos) (tT Z W (eBin k f g)) := by
  obtain ⟨r, ho, hk⟩ := c.ex
  exact (pt_cmpR ho ha hb hm).weak fun σ H Q h => t2 hk h
theorem dt_tru {e : Expr} (hK : X.K = Z.K) (h : PE X e (tE Z W f)) (he : ∀ whole, isTrue e X.env whole = (do let v ← whole; standAt e.pos; holding [v] (truthy v)) := by intro _; rfl) : PT X e (tT Z W (eTru f)) :=
  (pt_truth h he).weak fun σ H Q q => tE_imp (fun x H1 ⟨A, F, sl, ce, v, so, hs, r, p⟩ => by
    unfold kTru at p
    split at p
    · rename_i b e
      obtain ⟨k, e2, q⟩ := fin_flat so p repB
      cases e2
      exact ⟨b, by rw [hK]; exact truV_ok so r e, q⟩
    · exact p.elim) (tE1 (f := f) (k := kTru) q)
theorem tT_and {σ H Q} (h : tT Z W (eAnd f g) σ H Q) : tAnd (tT Z W f) (tT Z W g) σ H Q := tE_imp (fun x H1 ⟨A, F, sl, ce, v, so, hs, r, p⟩ => by
  obtain ⟨b, rfl, p⟩ := p.bool r
  refine ⟨b, rfl, ?_⟩
  cases b with
  | true => exact iteT ⟨A, F, sl, ce, so, hs, p⟩
  | false =>
    obtain ⟨c, e, q⟩ := fin_flat so p repB
    cases e
    exact iteF q) (tE1 h)
theorem tT_or {σ H Q} (h : tT Z W (eOr f g) σ H Q) : tOr (tT Z W f) (tT Z W g) σ H Q := tE_imp (fun x H1 ⟨A, F, sl, ce, v, so, hs, r, p⟩ => by
  obtain ⟨b, rfl, p⟩ := p.bool r
  refine ⟨b, rfl, ?_⟩
  cases b with
  | true =>
    obtain ⟨c, e, q⟩ := fin_flat so p repB
    cases e
    exact iteT q
  | false => exact iteF ⟨A, F, sl, ce, so, hs, p⟩) (tE1 h)
theorem _root_.L2.PW.weak {e : Expr} {t t' : TT} (h : PW X e t) (hw : ∀ σ H Q, t' σ H Q → t σ H Q) : PW X e t' :=
  ⟨fun w pins s σ H Q I q => h.run w pins s σ H Q I (hw σ H Q q)⟩
theorem dw_and1 (ha : PT X a (tT Z W f)) : PW X (.BoolOp .And [a] pos) (tT Z W f) := pw_and1 ha
theorem dw_or1 (ha : PT X a (tT Z W f)) : PW X (.BoolOp .Or [a] pos) (tT Z W f) := pw_or1 ha
theorem dw_and {rest} (ha : PT X a (tT Z W f)) (hb : PW X (.BoolOp .And (b :: rest) pos) (tT Z W g)) : PW X (.BoolOp .And (a :: b :: rest) pos) (tT Z W (eAnd f g)) := (pw_and ha hb).weak fun _ _ _ h => tT_and h
theorem dw_or {rest} (ha : PT X a (tT Z W f)) (hb : PW X (.BoolOp .Or (b :: rest) pos) (tT Z W g)) : PW X (.BoolOp .Or (a :: b :: rest) pos) (tT Z W (eOr f g)) := (pw_or ha hb).weak fun _ _ _ h => tT_or h
theorem dt_not (ha : PT X a (tT Z W f)) : PT X (.UnaryOp .Not a pos) (tT Z W (eNot f)) := (pt_not ha).weak fun σ H Q h => tE_imp (fun x H1 ⟨A, F, sl, ce, v, so, hs, r, p⟩ => by
  obtain ⟨b, rfl, p⟩ := p.bool r
  obtain ⟨c, e, q⟩ := fin_flat so p repB
  cases e
  exact ⟨b, rfl, q⟩) (tE1 (f := f) (k := kBool fun b => eC (.bl (!b))) h)
theorem de_if {c a b : Expr} (hc : PT X c (tT Z W f)) (ha : PE X a (tE Z W g)) (hb : PE X b (tE Z W h)) : PE X (.IfExp c a b pos) (tE Z W (eIf f g h)) := (pe_ifExp hc ha hb).weak fun σ H Q q => tE_imp (fun x H1 ⟨A, F, sl, ce, v, so, hs, r, p⟩ => by
  obtain ⟨b, rfl, p⟩ := p.bool r
  refine ⟨b, rfl, ?_⟩
  cases b with
  | true => exact iteT ⟨A, F, sl, ce, so, hs, p⟩
  | false => exact iteF ⟨A, F, sl, ce, so, hs, p⟩) (tE1 (f := f) (k := kBool fun b => if b then g else h) q)
theorem t_chain {k k' : Val → Val → DE} {r r' : R2} (hk : Ok2 Z W k r) (hk' : Ok2 Z W k' r') {σ H Q} (q : tE Z W (eChain k k' f g h) σ H Q) : tChain r r' (tE Z W f) (tE Z W g) (tE Z W h) σ H Q := by
  refine tE_imp (fun x H1 h1 => tE_imp (fun y H2 ⟨A, F, sl, ce, v, u, so, hs, rv, ru, p⟩ => ?_) h1) (tE2 (f := f) (g := g) (k := fun v u => eBind (k v u) (kBool fun b => if b then eBind h (k' u) else eC (.bl false))) q)
  refine hk A F sl ce v u x y H2 σ _ so hs rv ru ((PostE.bind so hs p).imp fun z H3 ⟨A3, F3, ce3, w3, p3, e3, so3, r3, q3⟩ => ?_)
  obtain ⟨b, rfl, q3⟩ := q3.bool r3
  refine ⟨b, rfl, ?_⟩
  cases b with
  | true =>
    refine iteT ⟨A3, F3, sl, ce3, so3, hs.mono p3 e3, (PostE.bind so3 (hs.mono p3 e3) q3).imp fun z4 H4 ⟨A4, F4, ce4, w4, p4, e4, so4, r4, q4⟩ => ?_⟩
    exact hk' A4 F4 sl ce4 u w4 y z4 H4 σ Q so4 ((hs.mono p3 e3).mono p4 e4) ((ru.mono p3 e3).mono p4 e4) r4 q4
  | false => exact iteF (fin_flat so3 q3 repB)
theorem de_chain {op op' : CmpOp} {k k' : Val → Val → DE} (ck : CmpK X Z W op k) (ck' : CmpK X Z W op' k') (ha : PE X a (tE Z W f)) (hb : PE X b (tE Z W g)) (hc : PE X c (tE Z W h))
    (hm : lastMarks [op, op'] [b, c] = false := by with_unfolding_all rfl) : PE X (.Compare a [op, op'] [b, c] pos) (tE Z W (eChain k k' f g h)) := by
  obtain ⟨r, ho, hk⟩ := ck.ex
  obtain ⟨r', ho', hk'⟩ := ck'.ex
  exact (pe_chain ho ho' ha hb hc hm).weak fun σ H Q q => t_chain hk hk' q
theorem dt_chain {op op' : CmpOp} {k k' : Val → Val → DE} (ck : CmpK X Z W op k) (ck' : CmpK X Z W op' k') (ha : PE X a (tE Z W f)) (hb : PE X b (tE Z W g)) (hc : PE X c (tE Z W h))
    (hm : lastMarks [op, op'] [b, c] = false := by with_unfolding_all rfl) : PT X (.Compare a [op, op'] [b, c] pos) (tT Z W (eChain k k' f g h)) := by
  obtain ⟨r, ho, hk⟩ := ck.ex
  obtain ⟨r', ho', hk'⟩ := ck'.ex
  exact (pt_chain ho ho' ha hb hc hm).weak fun σ H Q q => t_chain hk hk' q
end
end ZZ
set_option Elab.async false
set_option linter.all false
set_option maxRecDepth 100000
namespace ZZ
open PySem PySem.Spec L2
def eArgs : List DE → (List Val → DE) → DE
  | [], k => k []
  | f :: fs, k => eBind f fun v => eArgs fs fun vs => k (v :: vs)
def tArgs (Z : Zy) (W : WX) : List DE → TA
  | [] => tNil
  | f :: fs => tCons (tE Z W f) (tArgs Z W fs)
def VReps (Z : Zy) (A : List Addr) (F : Hp) : List Val → List V → Prop
  | [], xs => xs = []
  | v :: vs, xs => ∃ x r, xs = x :: r ∧ VRep Z A F v x ∧ VReps Z A F vs r
section
variable {Z : Zy} {A A' : List Addr} {F F' H : Hp} {ce : List Cell} {sl : Sl} {σ : L2.St} {W : WX} {Q Q' : VK}
theorem VReps.length : ∀ {vs : List Val} {xs : List V}, VReps Z A F vs xs → vs.length = xs.length
  | [], xs, h => by unfold VReps at h; subst h; rfl
  | v :: vs, xs, h => by
    obtain ⟨x, r, rfl, _, h2⟩ := h
    simp [VReps.length h2]
theorem VReps.mono (p : A <+: A') (e : Same F F') : ∀ {vs : List Val} {xs : List V}, VReps Z A F vs xs → VReps Z A' F' vs xs
  | [], xs, h => h
  | v :: vs, xs, h => by
    obtain ⟨x, r, rfl, h1, h2⟩ := h
    exact ⟨x, r, rfl, h1.mono p e, VReps.mono p e h2⟩
theorem vreps1 {v : Val} {xs : List V} (h : VReps Z A F [v] xs) : ∃ x, xs = [x] ∧ VRep Z A F v x := by
  obtain ⟨x, r, rfl, h1, h2⟩ := h
  unfold VReps at h2
  subst h2
  exact ⟨x, rfl, h1⟩
theorem vreps2 {v u : Val} {xs : List V} (h : VReps Z A F [v, u] xs) : ∃ x y, xs = [x, y] ∧ VRep Z A F v x ∧ VRep Z A F u y := by
  obtain ⟨x, r, rfl, h1, h2⟩ := h
  replace h2 := vreps1 h2; obtain ⟨y, rfl, h2⟩ := h2
  exact ⟨x, y, rfl, h1, h2⟩
theorem tArgs_imp : ∀ {fs : List DE} {σ : L2.St} {H : Hp} {Q Q' : List V → Hp → Prop}, (∀ x H, Q x H → Q' x H) → tArgs Z W fs σ H Q → tArgs Z W fs σ H Q'
  | [], _, _, _, _, h, q => h _ _ q
  | f :: fs, _, _, _, _, h, q => tE_imp (fun x H1 q1 => tArgs_imp (fun xs H2 q2 => h _ _ q2) q1) q
theorem tArgs_ok : ∀ {fs : List DE} {k : List Val → DE} {A : List Addr} {F H : Hp} {ce : List Cell}, SO Z.toZx A F ce H → SL Z A F sl σ → PostE Z A F W σ Q (eArgs fs k sl ce) →
    tArgs Z W fs σ H fun xs H1 => ∃ A1 F1 ce1 vs, A <+: A1 ∧ Same F F1 ∧ SO Z.toZx A1 F1 ce1 H1 ∧ VReps Z A1 F1 vs xs ∧ vs.length = fs.length ∧ PostE Z A1 F1 W σ Q (k vs sl ce1)
  | [], k, A, F, H, ce, so, hs, p => ⟨A, F, ce, [], List.prefix_refl _, Same.refl _, so, rfl, rfl, p⟩
  | f :: fs, k, A, F, H, ce, so, hs, p => ⟨A, F, sl, ce, so, hs, (PostE.bind so hs p).imp fun x H1 ⟨A1, F1, ce1, v, p1, e1, s1, r1, q1⟩ =>
      tArgs_imp (fun xs H2 ⟨A2, F2, ce2, vs, p2, e2, s2, r2, l2, q2⟩ => ⟨A2, F2, ce2, v :: vs, p1.trans p2, e1.trans e2, s2, ⟨x, xs, rfl, r1.mono p2 e2, r2⟩, by simp [l2], q2⟩) (tArgs_ok s1 (hs.mono p1 e1) q1)⟩
theorem tN {fs : List DE} {k : List Val → DE} (h : tE Z W (eArgs fs k) σ H Q) :
    tArgs Z W fs σ H fun xs H1 => ∃ A F sl ce vs, SO Z.toZx A F ce H1 ∧ SL Z A F sl σ ∧ VReps Z A F vs xs ∧ vs.length = fs.length ∧ PostE Z A F W σ Q (k vs sl ce) := by
  obtain ⟨A, F, sl, ce, so, hs, p⟩ := h
  exact tArgs_imp (fun xs H2 ⟨A2, F2, ce2, vs, p2, e2, s2, r2, l2, q2⟩ => ⟨A2, F2, sl, ce2, vs, s2, hs.mono p2 e2, r2, l2, q2⟩) (tArgs_ok so hs p)
def ims : List Val → Option (List D)
  | [] => some []
  | .im d :: vs => (ims vs).map (d :: ·)
  | _ :: _ => none
theorem ims_rd : ∀ {vs : List Val} {xs : List V} {ds : List D}, VReps Z A F vs xs → ims vs = some ds → Reps Z.toZx F ds xs
  | [], xs, ds, r, e => by
    unfold VReps at r; subst r; cases e; exact reps_nil
  | .im d :: vs, xs, ds, r, e => by
    obtain ⟨x, r', rfl, h1, h2⟩ := r
    unfold ims at e
    cases q : ims vs with
    | none => rw [q] at e; cases e
    | some es => rw [q] at e; cases e; exact reps_cons h1 (ims_rd h2 q)
  | .cell _ :: _, xs, ds, r, e => by cases e
  | .exn _ _ :: _, xs, ds, r, e => by cases e
end
def kTup (vs : List Val) : DE := fun _ ce => match ims vs with
  | some ds => if ds.length ≤ LINE then .ok (.im (.tup ds)) ce else .stuck
  | none => .stuck
def kLst (vs : List Val) : DE := fun _ ce => match ims vs with
  | some ds => if ds.length ≤ LINE then .ok (.im (.lst ds)) ce else .stuck
  | none => .stuck
def kLstC (vs : List Val) : DE := fun _ ce => match ims vs with
  | some ds => if ds.length ≤ LINE then .ok (.cell ce.length) (ce ++ [.lst ds]) else .stuck
  | none => .stuck
def OkN (Z : Zy) (W : WX) (k : List Val → DE) (r : List V → Hp → VK → Prop) : Prop := ∀ A F sl ce vs xs H σ Q, SO Z.toZx A F ce H → SL Z A F sl σ → VReps Z A F vs xs → PostE Z A F W σ Q (k vs sl ce) → r xs H Q
section
variable {X : Cx} {Z : Zy} {W : WX} {a b c : Expr} {es : List Expr} {f g h : DE} {fs : List DE} {pos : Pos}
theorem da_nil : PA X [] (tArgs Z W []) := pa_nil
theorem da_cons {e : Expr} (ha : PE X e (tE Z W f)) (hr : PA X es (tArgs Z W fs)) (hs : starEach (e :: es) X.env = (false, eval e X.env) :: starEach es X.env := by rfl) : PA X (e :: es) (tArgs Z W (f :: fs)) := pa_cons ha hr hs
theorem de_tup {n} (ha : PA X es (tArgs Z W fs)) : PE X (.Tuple es n pos) (tE Z W (eArgs fs kTup)) := (pe_tup ha).weak fun σ H Q h => tArgs_imp (fun xs H1 ⟨A, F, sl, ce, vs, so, hs, r, _, p⟩ => by
  unfold kTup at p
  split at p
  · rename_i ds e
    have rr := ims_rd (Z := Z) r e
    split at p
    · rename_i hl
      exact ⟨by rw [sizeLine_eq, ← rr.length]; exact hl, fun q hq => fin_newT so p rr hq⟩
    · exact p.elim
  · exact p.elim) (tN h)
theorem de_lst (ha : PA X es (tArgs Z W fs)) : PE X (.List es pos) (tE Z W (eArgs fs kLst)) := (pe_lst ha).weak fun σ H Q h => tArgs_imp (fun xs H1 ⟨A, F, sl, ce, vs, so, hs, r, _, p⟩ => by
  unfold kLst at p
  split at p
  · rename_i ds e
    have rr := ims_rd (Z := Z) r e
    split at p
    · rename_i hl
      exact ⟨by rw [sizeLine_eq, ← rr.length]; exact hl, fun q hq => fin_newL so p rr hq⟩
    · exact p.elim
  · exact p.elim) (tN h)
theorem de_lstC (ha : PA X es (tArgs Z W fs)) : PE X (.List es pos) (tE Z W (eArgs fs kLstC)) := (pe_lst ha).weak fun σ H Q h => tArgs_imp (fun xs H1 ⟨A, F, sl, ce, vs, so, hs, r, _, p⟩ => by
  unfold kLstC at p
  split at p
  · rename_i ds e
    have rr := ims_rd (Z := Z) r e
    split at p
    · rename_i hl
      exact ⟨by rw [sizeLine_eq, ← rr.length]; exact hl, fun q hq => fin_newC so p rr hq⟩
    · exact p.elim
  · exact p.elim) (tN h)
theorem de_callB {id : String} {x : Str} {p : Pos} {e : Expr} {k : List Val → DE} {r : List V → Hp → VK → Prop} (hc : CallR X (.builtin id) r) (hk : OkN Z W k r) (hm : X.mg x = none) (hv : bootBuiltins x = some (.builtin id)) (ha : PA X (e :: es) (tArgs Z W fs))
    (hg : Gl X x := by rfl) (hn : x ≠ "__name__" := by decide) (hdb : (x == ("__debug__" : Str)) = false := by decide)
    (he : starEach (e :: es) X.env = (false, eval e X.env) :: starEach es X.env := by rfl) (hpl : (backTo pos (starEach es X.env)).any (·.1) = false := by rfl) : PE X (.Call (.Name x p) (e :: es) [] pos) (tE Z W (eArgs fs k)) :=
  (pe_callB hc hg hm hv ha hn hdb he hpl).weak fun σ H Q h => tArgs_imp (fun xs H1 ⟨A, F, sl, ce, vs, so, hs, r, _, p⟩ => hk A F sl ce vs xs H1 σ Q so hs r p) (tN h)
theorem de_callTy {T : String} {x : Str} {p : Pos} {e : Expr} {k : List Val → DE} {r : List V → Hp → VK → Prop} (hc : CallR X (.type T) r) (hk : OkN Z W k r) (hm : X.mg x = none) (hv : bootBuiltins x = some (.type T)) (ha : PA X (e :: es) (tArgs Z W fs))
    (hg : Gl X x := by rfl) (hn : x ≠ "__name__" := by decide) (hdb : (x == ("__debug__" : Str)) = false := by decide)
    (he : starEach (e :: es) X.env = (false, eval e X.env) :: starEach es X.env := by rfl) (hpl : (backTo pos (starEach es X.env)).any (·.1) = false := by rfl) : PE X (.Call (.Name x p) (e :: es) [] pos) (tE Z W (eArgs fs k)) :=
  (pe_callTy hc hg hm hv ha hn hdb he hpl).weak fun σ H Q h => tArgs_imp (fun xs H1 ⟨A, F, sl, ce, vs, so, hs, r, _, p⟩ => hk A F sl ce vs xs H1 σ Q so hs r p) (tN h)
end
def kLen : List Val → DE
  | [v] => fun _ ce => match v with
    | .im (.str s) => if s.length ≤ LINE then .ok (.im (.int s.length)) ce else .stuck
    | v => match asSq ce v with
      | some ds => .ok (.im (.int ds.length)) ce
      | none => .stuck
  | _ => kStuck
def kAbs : List Val → DE
  | [.im (.int i)] => eC (.int (if i < 0 then -i else i))
  | _ => kStuck
def kMin : List Val → DE
  | [.im (.int i), .im (.int j)] => eC (.int (if j < i then j else i))
  | _ => kStuck
def kMax : List Val → DE
  | [.im (.int i), .im (.int j)] => eC (.int (if j > i then j else i))
  | _ => kStuck
def kInt : List Val → DE
  | [.im (.int i)] => eC (.int i)
  | [.im (.bl k)] => eC (.int (if k then 1 else 0))
  | _ => kStuck
def kListI : List Val → DE
  | [v] => fun _ ce => match asSq ce v with
    | some ds => .ok (.im (.lst ds)) ce
    | none => .stuck
  | _ => kStuck
def asInts : List D → Option (List Int)
  | [] => some []
  | .int i :: ds => (asInts ds).map (i :: ·)
  | _ :: _ => none
def asBls : List D → Option (List Bool)
  | [] => some []
  | .bl i :: ds => (asBls ds).map (i :: ·)
  | _ :: _ => none
/-- the list's items, by an own or a settled list -/
def kSum : List Val → DE
  | [v] => fun _ ce => match asL ce v with
    | some ds => match asInts ds with
      | some ns => .ok (.im (.int ns.sum)) ce
      | none => .stuck
    | none => .stuck
  | _ => kStuck
def kAll : List Val → DE
  | [v] => fun _ ce => match asL ce v with
    | some ds => match asBls ds with
      | some bs => .ok (.im (.bl (bs.all id))) ce
      | none => .stuck
    | none => .stuck
  | _ => kStuck
section
variable {X : Cx} {Z : Zy} {W : WX} {A : List Addr} {F H : Hp} {ce : List Cell} {sl : Sl} {σ : L2.St} {Q : VK}
theorem reps_ints : ∀ {ds : List D} {vs : List V} {ns : List Int}, Reps Z.toZx F ds vs → asInts ds = some ns → vs = ns.map V.int
  | [], vs, ns, r, e => by rw [reps_nil_inv r]; cases e; rfl
  | d :: ds, vs, ns, r, e => by
    obtain ⟨v, r', rfl, h1, h2⟩ := reps_cons_inv r
    cases d with
    | int i =>
      unfold asInts at e
      cases q : asInts ds with
      | none => rw [q] at e; cases e
      | some ms =>
        rw [q] at e; cases e
        unfold Rep at h1
        rw [h1, reps_ints h2 q]; rfl
    | _ => cases e
theorem reps_bls : ∀ {ds : List D} {vs : List V} {ns : List Bool}, Reps Z.toZx F ds vs → asBls ds = some ns → vs = ns.map V.bl
  | [], vs, ns, r, e => by rw [reps_nil_inv r]; cases e; rfl
  | d :: ds, vs, ns, r, e => by
    obtain ⟨v, r', rfl, h1, h2⟩ := reps_cons_inv r
    cases d with
    | bl i =>
      unfold asBls at e
      cases q : asBls ds with
      | none => rw [q] at e; cases e
      | some ms =>
        rw [q] at e; cases e
        unfold Rep at h1
        rw [h1, reps_bls h2 q]; rfl
    | _ => cases e
theorem ok_len (hK : X.K = Z.K) : OkN Z W kLen (fun xs H Q => ∃ x n, xs = [x] ∧ LenV X.K x H n ∧ Q (.int n) H) := by
  intro A F sl ce vs xs H σ Q so hs r p
  rw [hK]
  unfold kLen at p
  split at p
  · replace r := vreps1 r; obtain ⟨x, rfl, r⟩ := r
    split at p
    · split at p
      · rename_i s hl
        rw [rep_str r]
        exact ⟨_, s.length, rfl, ⟨by rw [sizeLine_eq]; exact hl, rfl⟩, fin_flat so p repI⟩
      · exact p.elim
    · split at p
      · rename_i ds e
        obtain ⟨l, ws, rfl, h1, h2⟩ := asSq_rd so r e
        refine ⟨_, ds.length, rfl, ?_, fin_flat so p repI⟩
        rcases h1 with h1 | h1
        · exact .inl ⟨ws, h1, h2.length⟩
        · exact .inr ⟨ws, h1, h2.length⟩
      · exact p.elim
  · exact p.elim
theorem ok_abs : OkN Z W kAbs (fun xs H Q => ∃ i, xs = [.int i] ∧ Q (.int (if i < 0 then -i else i)) H) := by
  intro A F sl ce vs xs H σ Q so hs r p
  unfold kAbs at p
  split at p
  · replace r := vreps1 r; obtain ⟨x, rfl, r⟩ := r
    rw [rep_int r]
    exact ⟨_, rfl, fin_flat so p repI⟩
  · exact p.elim
theorem ok_min : OkN Z W kMin (fun xs H Q => ∃ i j, xs = [.int i, .int j] ∧ Q (.int (if j < i then j else i)) H) := by
  intro A F sl ce vs xs H σ Q so hs r p
  unfold kMin at p
  split at p
  · replace r := vreps2 r; obtain ⟨x, y, rfl, r, r'⟩ := r
    rw [rep_int r, rep_int r']
    exact ⟨_, _, rfl, fin_flat so p repI⟩
  · exact p.elim
theorem ok_max : OkN Z W kMax (fun xs H Q => ∃ i j, xs = [.int i, .int j] ∧ Q (.int (if j > i then j else i)) H) := by
  intro A F sl ce vs xs H σ Q so hs r p
  unfold kMax at p
  split at p
  · replace r := vreps2 r; obtain ⟨x, y, rfl, r, r'⟩ := r
    rw [rep_int r, rep_int r']
    exact ⟨_, _, rfl, fin_flat so p repI⟩
  · exact p.elim
theorem ok_int1 : OkN Z W kInt (fun xs H Q => (∃ i, xs = [.int i] ∧ Q (.int i) H) ∨ ∃ k, xs = [.bl k] ∧ Q (.int (if k then 1 else 0)) H) := by
  intro A F sl ce vs xs H σ Q so hs r p
  unfold kInt at p
  split at p
  · replace r := vreps1 r; obtain ⟨x, rfl, r⟩ := r
    rw [rep_int r]
    exact .inl ⟨_, rfl, fin_flat so p repI⟩
  · replace r := vreps1 r; obtain ⟨x, rfl, r⟩ := r
    rw [rep_bl r]
    exact .inr ⟨_, rfl, fin_flat so p repI⟩
  · exact p.elim
theorem ok_listI (hK : X.K = Z.K) : OkN Z W kListI (fun xs H Q => ∃ p ys, xs = [.ref p] ∧ (SqL X.K H p ys ∨ SqT X.K H p ys) ∧ ∀ l, H l = none → Q (.ref l) (upd H l (.lst ys))) := by
  intro A F sl ce vs xs H σ Q so hs r p
  rw [hK]
  unfold kListI at p
  split at p
  · replace r := vreps1 r; obtain ⟨x, rfl, r⟩ := r
    split at p
    · rename_i ds e
      obtain ⟨l, ws, rfl, h1, h2⟩ := asSq_rd so r e
      exact ⟨l, ws, rfl, h1, fun q hq => fin_newL so p h2 hq⟩
    · exact p.elim
  · exact p.elim
theorem ok_sum (hK : X.K = Z.K) : OkN Z W kSum (rSum X.K) := by
  intro A F sl ce vs xs H σ Q so hs r p
  rw [hK]
  unfold kSum at p
  split at p
  · replace r := vreps1 r; obtain ⟨x, rfl, r⟩ := r
    split at p
    · rename_i ds e
      split at p
      · rename_i ns e2
        obtain ⟨l, ws, rfl, h1, h2⟩ := asL_rd so r e
        have := reps_ints h2 e2
        subst this
        exact ⟨l, ns, rfl, SqL.of h1, fin_flat so p repI⟩
      · exact p.elim
    · exact p.elim
  · exact p.elim
theorem ok_all (hK : X.K = Z.K) : OkN Z W kAll (rAll X.K) := by
  intro A F sl ce vs xs H σ Q so hs r p
  rw [hK]
  unfold kAll at p
  split at p
  · replace r := vreps1 r; obtain ⟨x, rfl, r⟩ := r
    split at p
    · rename_i ds e
      split at p
      · rename_i ns e2
        obtain ⟨l, ws, rfl, h1, h2⟩ := asL_rd so r e
        have := reps_bls h2 e2
        subst this
        exact ⟨l, ns, rfl, SqL.of h1, fin_flat so p repB⟩
      · exact p.elim
    · exact p.elim
  · exact p.elim
end
def eOpt : Option DE → (Option Int → DE) → DE
  | none, k => k none
  | some f, k => eBind f fun v => match v with
    | .im (.int i) => k (some i)
    | _ => kStuck
def cutD (xs : List D) (lo hi : Option Int) : List D := (xs.drop (HT.sIx xs.length 0 lo)).take (HT.sIx xs.length xs.length hi - HT.sIx xs.length 0 lo)
def kSlL (v : Val) (lo hi : Option Int) : DE := fun _ ce => match v with
  | .im (.str z) => if z.length ≤ LINE then .ok (.im (.str (cutS z lo hi))) ce else .stuck
  | v => match asL ce v with
    | some ds => .ok (.im (.lst (cutD ds lo hi))) ce
    | none => .stuck
def eSlice (f : DE) (lo hi : Option DE) : DE := eBind f fun v => eOpt lo fun l => eOpt hi fun h => kSlL v l h
def rSlA (K : PySem.W.Frag) : V → Option Int → Option Int → Hp → VK → Prop := fun x lo hi H Q => rSlL K x lo hi H Q ∨ rSlS x lo hi H Q
section
variable {X : Cx} {Z : Zy} {W : WX} {a b c : Expr} {f g h : DE} {pos : Pos}
theorem sl_any : SlR X (rSlA X.K) := sl_list.or sl_str
def tOpt (Z : Zy) (W : WX) : Option DE → TO
  | none => tNoPart
  | some f => tPart (tE Z W f)
theorem dp_none : PO X none (tOpt Z W none) := po_none
theorem dp_some {e : Expr} (h : PE X e (tE Z W f)) : PO X (some e) (tOpt Z W (some f)) := po_some h
theorem opt_ok {fo : Option DE} {k : Option Int → DE} {A F sl ce H σ Q} {R : Option Int → Hp → Prop} (so : SO Z.toZx A F ce H) (hs : SL Z A F sl σ) (p : PostE Z A F W σ Q (eOpt fo k sl ce))
    (hR : ∀ A1 F1 ce1 i H1, A <+: A1 → Same F F1 → SO Z.toZx A1 F1 ce1 H1 → PostE Z A1 F1 W σ Q (k i sl ce1) → R i H1) : tOpt Z W fo σ H R := by
  cases fo with
  | none => exact hR A F ce none H (List.prefix_refl _) (Same.refl _) so p
  | some f =>
    refine ⟨A, F, sl, ce, so, hs, (PostE.bind so hs p).imp fun x H1 ⟨A1, F1, ce1, v, p1, e1, s1, r1, q1⟩ => ?_⟩
    split at q1
    · exact ⟨_, rep_int r1, hR A1 F1 ce1 _ H1 p1 e1 s1 q1⟩
    · exact q1.elim
theorem reps_cut {F : Hp} {ds : List D} {vs : List V} (lo hi : Option Int) (r : Reps Z.toZx F ds vs) : Reps Z.toZx F (cutD ds lo hi) (cutV vs lo hi) := by
  unfold cutD cutV
  rw [r.length]
  exact (r.drop _).take _
theorem de_slice {e : Expr} {lo hi : Option Expr} {fl fh : Option DE} {p2 : Pos} (hK : X.K = Z.K) (he : PE X e (tE Z W f)) (hl : PO X lo (tOpt Z W fl)) (hu : PO X hi (tOpt Z W fh)) : PE X (.Subscript e (.Slice lo hi none p2) pos) (tE Z W (eSlice f fl fh)) :=
  (pe_slice (r := rSlA Z.K) (by rw [← hK]; exact sl_any) he hl hu).weak fun σ H Q q => tE_imp (fun x H1 ⟨A, F, sl, ce, v, so, hs, r, p⟩ => by
    refine opt_ok so hs p fun A1 F1 ce1 i H2 p1 e1 so1 q1 => opt_ok so1 (hs.mono p1 e1) q1 fun A2 F2 ce2 j H3 p2 e2 so2 q2 => ?_
    have r2 := (r.mono p1 e1).mono p2 e2
    unfold kSlL at q2
    split at q2
    · split at q2
      · rename_i z hz
        exact .inr ⟨z, rep_str r2, by rw [sizeLine_eq]; exact hz, fin_flat so2 q2 repS⟩
      · exact q2.elim
    · split at q2
      · rename_i ds e
        obtain ⟨l, ws, rfl, h1, h2⟩ := asL_rd so2 r2 e
        exact .inl ⟨l, ws, rfl, SqL.of h1, fun q hq => fin_newL so2 q2 (reps_cut i j h2) hq⟩
      · exact q2.elim) (tE1 q)
end
def OkM (Z : Zy) (W : WX) (K : PySem.W.Frag) (T : String) (ty : List Cell → Val → Bool) (k : Val → List Val → DE) (r : V → List V → Hp → VK → Prop) : Prop :=
  (∀ A F ce v x H, SO Z.toZx A F ce H → VRep Z A F v x → ty ce v = true → tyV K T x H) ∧
  ∀ A F sl ce v x vs xs H σ Q, SO Z.toZx A F ce H → SL Z A F sl σ → VRep Z A F v x → VReps Z A F vs xs → PostE Z A F W σ Q (k v vs sl ce) → r x xs H Q
/-- the value's type is looked at, then the arguments -/
def eMth (ty : List Cell → Val → Bool) (k : Val → List Val → DE) (f : DE) (fs : List DE) : DE := eBind f fun v sl ce => if ty ce v then eArgs fs (k v) sl ce else .stuck
def tyL (ce : List Cell) (v : Val) : Bool := (asL ce v).isSome
def tyS (_ : List Cell) : Val → Bool
  | .im (.str _) => true
  | _ => false
section
variable {X : Cx} {Z : Zy} {W : WX} {o e : Expr} {es : List Expr} {f g h : DE} {fs : List DE} {pos apos cpos : Pos} {T id : String} {name : Str} {ty : List Cell → Val → Bool} {k : Val → List Val → DE} {r : V → List V → Hp → VK → Prop}
theorem de_bm (pa : PlainAttrs T) (slot : Slot T name id) (hty : typeOf (.builtin id) = pure (.type "method_descriptor")) (hm : MtR X id r) (hk : OkM Z W X.K T ty k r) (ho : PE X o (tE Z W f)) (ha : PA X (e :: es) (tArgs Z W fs))
    (hb : attributeBase o name X.env (eval o X.env) = eval o X.env := by rfl) (hl : (apos.endLine == cpos.line) = true := by rfl) (hs : starEach (e :: es) X.env = (false, eval e X.env) :: starEach es X.env := by rfl) (hpl : (backTo cpos (starEach es X.env)).any (·.1) = false := by rfl) (hfew : ((backTo cpos (starEach (e :: es) X.env)).all (fun x => !x.1) && (backToKw cpos (keywordEach [] X.env)).all (fun x => x.1.isSome)
      && decide ((e :: es).length + ([] : List Keyword).length + (if ([] : List Keyword).isEmpty then 0 else 1) < 30)) = true := by rfl) :
    PE X (.Call (.Attribute o name apos) (e :: es) [] cpos) (tE Z W (eMth ty k f fs)) := by
  refine (pe_bm pa slot hty hm ho ha hb hfew hl hs hpl).weak fun σ H Q q => tE_imp (fun x H1 ⟨A, F, sl, ce, v, so, hs, r, p⟩ => ?_) (tE1 q)
  by_cases ht : ty ce v = true
  · rw [if_pos ht] at p
    exact ⟨hk.1 A F ce v x H1 so r ht, tArgs_imp (fun xs H2 ⟨A2, F2, ce2, vs, p2, e2, s2, r2, l2, q2⟩ => hk.2 A2 F2 sl ce2 v x vs xs H2 σ Q s2 (hs.mono p2 e2) (r.mono p2 e2) r2 q2) (tArgs_ok so hs p)⟩
  · rw [if_neg ht] at p
    exact p.elim
end
section
variable {X : Cx} {Z : Zy} {W : WX}
theorem tyL_ok (hK : X.K = Z.K) : ∀ (A : List Addr) (F : Hp) (ce : List Cell) (v : Val) (x : V) (H : Hp), SO Z.toZx A F ce H → VRep Z A F v x → tyL ce v = true → tyV X.K "list" x H := by
  intro A F ce v x H so r t
  unfold tyL at t
  cases e : asL ce v with
  | none => rw [e] at t; cases t
  | some ds =>
    obtain ⟨l, ws, rfl, h1, h2⟩ := asL_rd so r e
    exact .inl ⟨rfl, ws, SqL.of h1⟩
theorem tyS_ok : ∀ (A : List Addr) (F : Hp) (ce : List Cell) (v : Val) (x : V) (H : Hp), SO Z.toZx A F ce H → VRep Z A F v x → tyS ce v = true → tyV X.K "str" x H := by
  intro A F ce v x H so r t
  unfold tyS at t
  split at t
  · rw [rep_str r]; rfl
  · cases t
end
def kAppend (v : Val) (vs : List Val) : DE := fun _ ce => match v, vs with
  | .cell n, [.im d] => match ce[n]? with
    | some (.lst ds) => if ds.length < LINE then .ok (.im .non) (ce.set n (.lst (ds ++ [d]))) else .stuck
    | _ => .stuck
  | _, _ => .stuck
/-- xs.pop(i) -/
def kPopAt (v : Val) (vs : List Val) : DE := fun _ ce => match v, vs with
  | .cell n, [.im (.int i)] => match ce[n]? with
    | some (.lst ds) => if -(2 ^ 63) ≤ i ∧ i < 2 ^ 63 then (match seqIndex? i ds.length with
      | some j => match ds[j]? with
        | some d => .ok (.im d) (ce.set n (.lst (ds.eraseIdx j)))
        | none => .stuck
      | none => .stuck) else .stuck
    | _ => .stuck
  | _, _ => .stuck
section
variable {X : Cx} {Z : Zy} {W : WX}
theorem cell_rd {A F ce H n x ds} (so : SO Z.toZx A F ce H) (r : VRep Z A F (.cell n) x) (hk : ce[n]? = some (.lst ds)) : ∃ l vs, A[n]? = some l ∧ x = .ref l ∧ F l = none ∧ H l = some (.lst vs) ∧ Reps Z.toZx F ds vs := by
  obtain ⟨a, h1, rfl⟩ := r
  obtain ⟨h0, vs, h2, h3⟩ := so.ok n a _ h1 hk
  exact ⟨a, vs, h1, rfl, h0, h2, h3⟩
theorem fin_write {A F ce H n l ds vs d x σ Q} (so : SO Z.toZx A F ce H) (hA : A[n]? = some l) (hF : F l = none) (r : Reps Z.toZx F ds vs) (rd : Rep Z.toZx F d x) (p : PostE Z A F W σ Q (.ok (.im d) (ce.set n (.lst ds)))) : Q x (upd H l (.lst vs)) :=
  p A F _ _ (List.prefix_refl _) (Same.refl _) (so.write hA hF ⟨hF, vs, upd_same, r⟩) rd
theorem okm_append (hK : X.K = Z.K) : OkM Z W X.K "list" tyL kAppend rAppend := by
  refine ⟨tyL_ok hK, fun A F sl ce v x vs xs H σ Q so hs rv rs p => ?_⟩
  unfold kAppend at p
  split at p
  · split at p
    · rename_i n d ds hk
      split at p
      · rename_i hl
        obtain ⟨l, ws, hA, rfl, hF, h2, h3⟩ := cell_rd so rv hk
        obtain ⟨y, rfl, ry⟩ := vreps1 rs
        exact ⟨l, ws, y, rfl, rfl, h2, by rw [sizeLine_eq, ← h3.length]; exact hl, fin_write so hA hF (h3.append (reps_cons ry reps_nil)) repN p⟩
      · exact p.elim
    · exact p.elim
  · exact p.elim
theorem okm_popAt (hK : X.K = Z.K) : OkM Z W X.K "list" tyL kPopAt rPopAt := by
  refine ⟨tyL_ok hK, fun A F sl ce v x vs xs H σ Q so hs rv rs p => ?_⟩
  unfold kPopAt at p
  split at p
  · split at p
    · rename_i n i _ ds hk
      split at p
      · rename_i hb
        split at p
        · rename_i j hj
          split at p
          · rename_i d hd
            obtain ⟨l, ws, hA, rfl, hF, h2, h3⟩ := cell_rd so rv hk
            obtain ⟨y, rfl, ry⟩ := vreps1 rs
            obtain ⟨y, hy, rd⟩ := h3.get' hd
            rw [rep_int ry]
            exact ⟨l, ws, i, j, y, rfl, rfl, h2, hb.1, hb.2, by rw [← h3.length]; exact hj, hy, fin_write so hA hF (h3.eraseIdx j) rd p⟩
          · exact p.elim
        · exact p.elim
      · exact p.elim
    · exact p.elim
  · exact p.elim
theorem de_append {o e : Expr} {f g : DE} {apos cpos : Pos} (hK : X.K = Z.K) (ho : PE X o (tE Z W f)) (ha : PE X e (tE Z W g))
    (hb : attributeBase o "append" X.env (eval o X.env) = eval o X.env := by rfl) (hl : (apos.endLine == cpos.line) = true := by rfl) (hs : starEach [e] X.env = (false, eval e X.env) :: starEach [] X.env := by rfl) (hfew : ((backTo cpos (starEach [e] X.env)).all (fun x => !x.1) && (backToKw cpos (keywordEach [] X.env)).all (fun x => x.1.isSome)
      && decide ([e].length + ([] : List Keyword).length + (if ([] : List Keyword).isEmpty then 0 else 1) < 30)) = true := by rfl) :
    PE X (.Call (.Attribute o "append" apos) [e] [] cpos) (tE Z W (eMth tyL kAppend f [g])) :=
  de_bm PySem.F.plainAttrs_list PySem.F.slot_list_append PySem.F.type_list_append mt_append (okm_append hK) ho (da_cons ha da_nil hs) hb hl hs rfl hfew
theorem de_popAt {o e : Expr} {f g : DE} {apos cpos : Pos} (hK : X.K = Z.K) (ho : PE X o (tE Z W f)) (ha : PE X e (tE Z W g))
    (hb : attributeBase o "pop" X.env (eval o X.env) = eval o X.env := by rfl) (hl : (apos.endLine == cpos.line) = true := by rfl) (hs : starEach [e] X.env = (false, eval e X.env) :: starEach [] X.env := by rfl) (hfew : ((backTo cpos (starEach [e] X.env)).all (fun x => !x.1) && (backToKw cpos (keywordEach [] X.env)).all (fun x => x.1.isSome)
      && decide ([e].length + ([] : List Keyword).length + (if ([] : List Keyword).isEmpty then 0 else 1) < 30)) = true := by rfl) :
    PE X (.Call (.Attribute o "pop" apos) [e] [] cpos) (tE Z W (eMth tyL kPopAt f [g])) :=
  de_bm PySem.F.plainAttrs_list PySem.F.slot_list_pop PySem.F.type_list_pop mt_popAt (okm_popAt hK) ho (da_cons ha da_nil hs) hb hl hs rfl hfew
end
end ZZ
set_option Elab.async false
set_option linter.all false
set_option maxRecDepth 100000
namespace ZZ
open PySem PySem.Spec L2
inductive Out where
  | nx (sl : Sl) (ce : List Cell) | rt (v : Val) (ce : List Cell) | bk (sl : Sl) (ce : List Cell) | ct (sl : Sl) (ce : List Cell)
  | exc (c : Nat) (ds : List D) (sl : Sl) (ce : List Cell) | stuck
abbrev DSt := Sl → List Cell → Out
def PostS (Z : Zy) (A : List Addr) (F : Hp) (W : WX) (D : Ends) : Out → Prop
  | .nx sl ce => ∀ A' F' H' σ', A <+: A' → Same F F' → SO Z.toZx A' F' ce H' → SL Z A' F' sl σ' → D.nx σ' H'
  | .bk sl ce => ∀ A' F' H' σ', A <+: A' → Same F F' → SO Z.toZx A' F' ce H' → SL Z A' F' sl σ' → D.bk σ' H'
  | .ct sl ce => ∀ A' F' H' σ', A <+: A' → Same F F' → SO Z.toZx A' F' ce H' → SL Z A' F' sl σ' → D.ct σ' H'
  | .rt v ce => ∀ A' F' H' x, A <+: A' → Same F F' → SO Z.toZx A' F' ce H' → VRep Z A' F' v x → D.rt x H'
  | .exc c ds sl ce => ∀ A' F' H' σ' dx, A <+: A' → Same F F' → SO Z.toZx A' F' ce H' → SL Z A' F' sl σ' → ExcOk Z.toZx F' c ds dx → W (.ref (Z.cl c)) dx σ' H'
  | .stuck => False
def tS (Z : Zy) (W : WX) (f : DSt) : TS := fun D σ H => ∃ A F sl ce, SO Z.toZx A F ce H ∧ SL Z A F sl σ ∧ PostS Z A F W D (f sl ce)
def sSeq (f g : DSt) : DSt := fun sl ce => match f sl ce with
  | .nx sl' ce' => g sl' ce'
  | o => o
def sNil : DSt := fun sl ce => .nx sl ce
def sExp (f : DE) (k : Val → DSt) : DSt := fun sl ce => match f sl ce with
  | .ok v ce' => k v sl ce'
  | .exc c ds ce' => .exc c ds sl ce'
  | .stuck => .stuck
def sSet (i : Nat) (f : DE) : DSt := sExp f fun v sl ce => .nx (sl.set i (some v)) ce
def sRet (f : DE) : DSt := sExp f fun v _ ce => .rt v ce
def sDrop (f : DE) : DSt := sExp f fun _ sl ce => .nx sl ce
def sStuck : DSt := fun _ _ => .stuck
def sIf (c : DE) (f g : DSt) : DSt := sExp c fun v => match v with
  | .im (.bl b) => if b then f else g
  | _ => sStuck
/-- a ghost step: the cell at slot i is settled -/
def frz (i : Nat) (f : DSt) : DSt := fun sl ce => match sl[i]? with
  | some (some (.cell k)) => match ce[k]? with
    | some (.lst ds) => f (sl.set i (some (.im (.lst ds)))) (ce.set k .dead)
    | some (.dct ks vs) => f (sl.set i (some (.im (.dct ks vs)))) (ce.set k .dead)
    | _ => .stuck
  | _ => .stuck
section
variable {Z : Zy} {A A' : List Addr} {F F' H : Hp} {ce : List Cell} {sl : Sl} {σ : L2.St} {W : WX} {Q Q' : VK} {D D' : Ends}
theorem PostS.mono {r : Out} (p : A <+: A') (e : Same F F') (h : PostS Z A F W D r) : PostS Z A' F' W D r := by
  cases r with
  | stuck => exact h
  | exc c ds sl ce => exact fun A2 F2 H2 x dx p2 e2 => h A2 F2 H2 x dx (p.trans p2) (e.trans e2)
  | nx sl ce => exact fun A2 F2 H2 x p2 e2 => h A2 F2 H2 x (p.trans p2) (e.trans e2)
  | rt sl ce => exact fun A2 F2 H2 x p2 e2 => h A2 F2 H2 x (p.trans p2) (e.trans e2)
  | bk sl ce => exact fun A2 F2 H2 x p2 e2 => h A2 F2 H2 x (p.trans p2) (e.trans e2)
  | ct sl ce => exact fun A2 F2 H2 x p2 e2 => h A2 F2 H2 x (p.trans p2) (e.trans e2)
theorem PostS.imp {r : Out} (h1 : ∀ σ H, D.nx σ H → D'.nx σ H) (h2 : ∀ x H, D.rt x H → D'.rt x H) (h3 : ∀ σ H, D.bk σ H → D'.bk σ H) (h4 : ∀ σ H, D.ct σ H → D'.ct σ H) (h : PostS Z A F W D r) : PostS Z A F W D' r := by
  cases r with
  | nx sl ce => exact fun A2 F2 H2 x p2 e2 s l => h1 _ _ (h A2 F2 H2 x p2 e2 s l)
  | rt v ce => exact fun A2 F2 H2 x p2 e2 s l => h2 _ _ (h A2 F2 H2 x p2 e2 s l)
  | bk sl ce => exact fun A2 F2 H2 x p2 e2 s l => h3 _ _ (h A2 F2 H2 x p2 e2 s l)
  | ct sl ce => exact fun A2 F2 H2 x p2 e2 s l => h4 _ _ (h A2 F2 H2 x p2 e2 s l)
  | exc c ds sl ce => exact h
  | stuck => exact h
theorem PostS.exp {f : DE} {k : Val → DSt} (so : SO Z.toZx A F ce H) (hs : SL Z A F sl σ) (h : PostS Z A F W D (sExp f k sl ce)) :
    PostE Z A F W σ (fun x H1 => ∃ A1 F1 ce1 v, A <+: A1 ∧ Same F F1 ∧ SO Z.toZx A1 F1 ce1 H1 ∧ VRep Z A1 F1 v x ∧ PostS Z A1 F1 W D (k v sl ce1)) (f sl ce) := by
  unfold sExp at h
  cases e : f sl ce with
  | ok v ce1 =>
    rw [e] at h
    exact fun A1 F1 H1 x p1 e1 s1 r1 => ⟨A1, F1, ce1, v, p1, e1, s1, r1, h.mono p1 e1⟩
  | exc c ds ce1 =>
    rw [e] at h
    exact fun A1 F1 H1 dx p1 e1 s1 x1 => h A1 F1 H1 σ dx p1 e1 s1 (hs.mono p1 e1) x1
  | stuck =>
    rw [e] at h
    exact h.elim
theorem tS1 {f : DE} {k : Val → DSt} (h : tS Z W (sExp f k) D σ H) :
    tE Z W f σ H fun x H1 => ∃ A F sl ce v, SO Z.toZx A F ce H1 ∧ SL Z A F sl σ ∧ VRep Z A F v x ∧ PostS Z A F W D (k v sl ce) := by
  obtain ⟨A, F, sl, ce, so, hs, p⟩ := h
  exact ⟨A, F, sl, ce, so, hs, (PostS.exp so hs p).imp fun x H1 ⟨A1, F1, ce1, v, p1, e1, s1, r1, q1⟩ => ⟨A1, F1, sl, ce1, v, s1, hs.mono p1 e1, r1, q1⟩⟩
theorem nxS (so : SO Z.toZx A F ce H) (hs : SL Z A F sl σ) (p : PostS Z A F W D (.nx sl ce)) : D.nx σ H := p A F H σ (List.prefix_refl _) (Same.refl _) so hs
end
section
variable {X : Cx} {Z : Zy} {W : WX} {st : Stmt} {sts : List Stmt} {f g : DSt} {e : Expr} {fe : DE} {pos : Pos}
theorem ds_nil : PSs X [] (tS Z W sNil) := pss_nil.weak fun D σ H ⟨A, F, sl, ce, so, hs, p⟩ => nxS so hs p
theorem ds_cons (h1 : PS X st (tS Z W f)) (h2 : PSs X sts (tS Z W g)) : PSs X (st :: sts) (tS Z W (sSeq f g)) := (pss_cons h1 h2).weak fun D σ H ⟨A, F, sl, ce, so, hs, p⟩ => by
  refine ⟨A, F, sl, ce, so, hs, ?_⟩
  unfold sSeq at p
  cases e : f sl ce with
  | nx sl1 ce1 =>
    rw [e] at p
    exact fun A1 F1 H1 σ1 p1 e1 s1 l1 => ⟨A1, F1, sl1, ce1, s1, l1, p.mono p1 e1⟩
  | rt v ce => rw [e] at p; exact p
  | bk v ce => rw [e] at p; exact p
  | ct v ce => rw [e] at p; exact p
  | exc c ds sl ce => rw [e] at p; exact p
  | stuck => rw [e] at p; exact p
theorem ds_one (h1 : PS X st (tS Z W f)) : PSs X [st] (tS Z W f) := pss_one h1
theorem ds_set {i : Nat} {x : Str} {pos' : Pos} (hN : X.N.Nodup) (he : PE X e (tE Z W fe)) (hi : X.N[i]? = some x := by rfl) (hx : Loc X.env.scope x := by first | exact Or.inl rfl | exact Or.inr rfl) (hs : swapsWith e (some (.Name x pos')) pos.line X.env = pure false := by rfl)
    (hf : X.fn x = true ∨ X.env.scope.names.lookup x = some .local := by first | exact .inl rfl | exact .inr rfl) : PS X (.Assign [.Name x pos'] e pos) (tS Z W (sSet i fe)) :=
  (ps_set hN hi hx he hs hf).weak fun D σ H h => tE_imp (fun x H1 ⟨A, F, sl, ce, v, so, hs, r, p⟩ => nxS so (hs.set r) p) (tS1 h)
theorem ds_ret (he : PE X e (tE Z W fe)) : PS X (.Return (some e) pos) (tS Z W (sRet fe)) :=
  (ps_ret he).weak fun D σ H h => tE_imp (fun x H1 ⟨A, F, sl, ce, v, so, hs, r, p⟩ => p A F H1 x (List.prefix_refl _) (Same.refl _) so r) (tS1 h)
theorem ds_expr (he : PE X e (tE Z W fe)) (hs : swapsWith e none pos.line X.env = pure false := by rfl) : PS X (.Expr e pos) (tS Z W (sDrop fe)) :=
  (ps_expr he hs).weak fun D σ H h => tE_imp (fun x H1 ⟨A, F, sl, ce, v, so, hs, r, p⟩ => nxS so hs p) (tS1 h)
theorem ds_if {c : Expr} {a b : List Stmt} (hc : PT X c (tT Z W fe)) (ha : PSs X a (tS Z W f)) (hb : PSs X b (tS Z W g)) : PS X (.If c a b pos) (tS Z W (sIf fe f g)) :=
  (ps_if hc ha hb).weak fun D σ H h => tE_imp (fun x H1 ⟨A, F, sl, ce, v, so, hs, r, p⟩ => by
    split at p
    · rename_i b
      refine ⟨b, rep_bl r, ?_⟩
      cases b with
      | true => exact iteT ⟨A, F, sl, ce, so, hs, p⟩
      | false => exact iteF ⟨A, F, sl, ce, so, hs, p⟩
    · exact p.elim) (tS1 h)
theorem tS_frz {i : Nat} {D σ H} (h : tS Z W (frz i f) D σ H) : tS Z W f D σ H := by
  obtain ⟨A, F, sl, ce, so, hs, p⟩ := h
  unfold frz at p
  split at p
  · rename_i k e1
    split at p
    · rename_i ds e2
      obtain ⟨x, h1, a, hA, rfl⟩ := hs.is i _ e1
      obtain ⟨hF, vs, hH, r⟩ := so.ok k a _ hA e2
      have up := same_up (o := .lst vs) hF
      have hs2 : SL Z A (upd F a (.lst vs)) (sl.set i (some (.im (.lst ds)))) σ := by
        have q := (hs.mono (List.prefix_refl _) up).set (i := i) (v := .im (.lst ds)) (x := .ref a) (by unfold VRep Rep; exact ⟨a, vs, rfl, upd_same, r.mono up⟩)
        have e3 : σ.set i (some (.ref a)) = σ := List.ext_getElem? fun j => by
          by_cases hj : i = j
          · subst hj
            rw [List.getElem?_set_self (List.getElem?_eq_some_iff.mp h1).1, h1]
          · rw [List.getElem?_set_ne hj]
        rw [e3] at q
        exact q
      exact ⟨A, upd F a (.lst vs), _, _, so.freeze hA hF hH, hs2, p.mono (List.prefix_refl _) up⟩
    · rename_i ks vs e2
      obtain ⟨x, h1, a, hA, rfl⟩ := hs.is i _ e1
      obtain ⟨hF, o, kvs, vvs, hH, sh, r1, r2⟩ := so.ok k a _ hA e2
      have up := same_up (o := o) hF
      have hs2 : SL Z A (upd F a o) (sl.set i (some (.im (.dct ks vs)))) σ := by
        have q := (hs.mono (List.prefix_refl _) up).set (i := i) (v := .im (.dct ks vs)) (x := .ref a) (by unfold VRep Rep; exact ⟨a, o, kvs, vvs, rfl, upd_same, sh, r1.mono up, r2.mono up⟩)
        have e3 : σ.set i (some (.ref a)) = σ := List.ext_getElem? fun j => by
          by_cases hj : i = j
          · subst hj
            rw [List.getElem?_set_self (List.getElem?_eq_some_iff.mp h1).1, h1]
          · rw [List.getElem?_set_ne hj]
        rw [e3] at q
        exact q
      exact ⟨A, upd F a o, _, _, so.freeze hA hF hH, hs2, p.mono (List.prefix_refl _) up⟩
    · exact p.elim
  · exact p.elim
theorem ds_frz {i : Nat} (h : PS X st (tS Z W f)) : PS X st (tS Z W (frz i f)) := h.weak fun D σ H q => tS_frz q
end
abbrev GD : Type := D → Sl → Option Sl
def gN (i : Nat) : GD := fun d sl => some (sl.set i (some (.im d)))
def gL : List GD → List D → Sl → Option Sl
  | [], [], sl => some sl
  | g :: gs, d :: ds, sl => (g d sl).bind fun sl' => gL gs ds sl'
  | _, _, _ => none
def gT (gs : List GD) : GD := fun d sl => match d with
  | .tup ds => gL gs ds sl
  | _ => none
/-- the slots but those at ix are as they were -/
def Agree (ix : List Nat) (σ σ' : L2.St) : Prop := σ'.length = σ.length ∧ ∀ j : Nat, j ∉ ix → σ'[j]? = σ[j]?
def tG (Z : Zy) (ix : List Nat) (g : GD) : TG := fun v σ H Q => ∃ A F sl ce d, SO Z.toZx A F ce H ∧ SL Z A F sl σ ∧ Rep Z.toZx F d v ∧ ∃ sl', g d sl = some sl' ∧ ∀ σ', SL Z A F sl' σ' → Agree ix σ σ' → Q σ' H
def tGs (Z : Zy) (ix : List Nat) (gs : List GD) : TGs := fun vs σ H Q => ∃ A F sl ce ds, SO Z.toZx A F ce H ∧ SL Z A F sl σ ∧ Reps Z.toZx F ds vs ∧ ∃ sl', gL gs ds sl = some sl' ∧ ∀ σ', SL Z A F sl' σ' → Agree ix σ σ' → Q σ' H
section
variable {X : Cx} {Z : Zy} {W : WX} {e : Expr} {es : List Expr} {g : GD} {gs : List GD} {ix ix' : List Nat} {pos : Pos}
theorem pg_weak {t t' : TG} (h : PG X e t) (hw : ∀ v σ H Q, t' v σ H Q → t v σ H Q) : PG X e t' := ⟨fun pins s σ H v u Q I r q => h.run pins s σ H v u Q I r (hw _ _ _ _ q)⟩
theorem pgs_weak {t t' : TGs} (h : PGs X es t) (hw : ∀ v σ H Q, t' v σ H Q → t v σ H Q) : PGs X es t' := ⟨fun pins s σ H v u Q I r q => h.run pins s σ H v u Q I r (hw _ _ _ _ q)⟩
theorem dg_name {i : Nat} {x : Str} (hN : X.N.Nodup) (hi : X.N[i]? = some x := by rfl) (hx : Loc X.env.scope x := by first | exact Or.inl rfl | exact Or.inr rfl)
    (hf : X.fn x = true ∨ X.env.scope.names.lookup x = some .local := by first | exact .inl rfl | exact .inr rfl) : PG X (.Name x pos) (tG Z [i] (gN i)) :=
  pg_weak (pg_name hN hi hx hf) fun v σ H Q ⟨A, F, sl, ce, d, so, hs, r, sl', e, q⟩ => by
    cases e
    refine q _ (hs.set r) ⟨by simp, fun j hj => ?_⟩
    have : i ≠ j := fun z => hj (by simp [z])
    rw [List.getElem?_set_ne this]
theorem dgs_nil : PGs X [] (tGs Z [] []) := pgs_weak pgs_nil fun v σ H Q ⟨A, F, sl, ce, ds, so, hs, r, sl', e, q⟩ => by
  cases ds with
  | nil =>
    cases e
    exact ⟨reps_nil_inv r, q σ hs ⟨rfl, fun _ _ => rfl⟩⟩
  | cons d ds => cases e
theorem dgs_cons (h1 : PG X e (tG Z ix g)) (h2 : PGs X es (tGs Z ix' gs)) (hs : (assignEach (e :: es) X.env).map (·.2) = assign e X.env :: (assignEach es X.env).map (·.2) := by rfl) : PGs X (e :: es) (tGs Z (ix ++ ix') (g :: gs)) := pgs_weak (pgs_cons h1 h2 hs) fun vs σ H Q ⟨A, F, sl, ce, ds, so, hs, r, sl', e, q⟩ => by
  cases ds with
  | nil => cases e
  | cons d ds =>
    obtain ⟨v, r', rfl, h1, h2⟩ := reps_cons_inv r
    refine ⟨v, r', rfl, A, F, sl, ce, d, so, hs, h1, ?_⟩
    unfold gL at e
    cases e1 : g d sl with
    | none => rw [e1] at e; cases e
    | some sl1 =>
      rw [e1] at e
      exact ⟨sl1, rfl, fun σ1 l1 a1 => ⟨A, F, sl1, ce, ds, so, l1, h2, sl', e, fun σ2 l2 a2 => q σ2 l2 ⟨a2.1.trans a1.1, fun j hj => (a2.2 j fun z => hj (by simp [z])).trans (a1.2 j fun z => hj (by simp [z]))⟩⟩⟩
theorem gL_len : ∀ {gs : List GD} {ds : List D} {sl sl' : Sl}, gL gs ds sl = some sl' → ds.length = gs.length
  | [], [], _, _, _ => rfl
  | [], _ :: _, _, _, h => by cases h
  | _ :: _, [], _, _, h => by cases h
  | g :: gs, d :: ds, sl, sl', h => by
    unfold gL at h
    cases e1 : g d sl with
    | none => rw [e1] at h; cases h
    | some sl1 => rw [e1] at h; simp [gL_len (show gL gs ds sl1 = some sl' from h)]
theorem dg_tup {k : Nat} (hK : X.K = Z.K) (hc : X.calm = true) (h : PGs X es (tGs Z ix gs)) (hl : (assignEach es X.env).length = gs.length := by rfl) (hst : (assignEach es X.env).findIdx? (·.1) = none := by rfl) : PG X (.Tuple es k pos) (tG Z ix (gT gs)) := pg_weak (pg_tup hc h hl hst) fun v σ H Q ⟨A, F, sl, ce, d, so, hs, r, sl', e, q⟩ => by
  unfold gT at e
  split at e
  · rename_i ds
    unfold Rep at r
    obtain ⟨a, vs, rfl, h1, h2⟩ := r
    exact ⟨a, vs, rfl, by rw [hK]; exact same_seqT so.sub h1, by rw [← h2.length, gL_len e], A, F, sl, ce, ds, so, hs, h2, sl', e, q⟩
  · cases e
/-- a, b = e -/
def sAsg (g : GD) (f : DE) : DSt := sExp f fun v sl ce => match v with
  | .im d => match g d sl with
    | some sl' => .nx sl' ce
    | none => .stuck
  | _ => .stuck
theorem ds_asg {tg : Expr} {fe : DE} (he : PE X e (tE Z W fe)) (hg : PG X tg (tG Z ix g)) (hs : swapsWithSole [tg] e pos.line X.env = pure false := by rfl) (hw : swappedStores [tg] e X.env = pure none := by rfl) (h1 : (assignEach [tg] X.env).map (·.2) = [assign tg X.env] := by rfl) : PS X (.Assign [tg] e pos) (tS Z W (sAsg g fe)) :=
  (ps_asg he hg hs hw h1).weak fun D σ H h => tE_imp (fun x H1 ⟨A, F, sl, ce, v, so, hs, r, p⟩ => by
    split at p
    · rename_i d
      split at p
      · rename_i sl' e1
        exact ⟨A, F, sl, ce, d, so, hs, r, sl', e1, fun σ' l' _ => nxS so l' p⟩
      · exact p.elim
    · exact p.elim) (tS1 h)
end
inductive IOut where
  | ok (ds : List D) (ce : List Cell) | exc (c : Nat) (ds : List D) (ce : List Cell) | stuck
abbrev DI := Sl → List Cell → IOut
def JOk (Z : Zx) (F : Hp) (J : It) (ds : List D) : Prop := ∀ F1 H i, Same F F1 → Same F1 H → (i = ds.length → J.stop i H) ∧
  ∀ d, ds[i]? = some d → J.go i H ∧ ∀ x H', J.yld i H x H' → (Rep Z F1 d x ∧ H' = H) ∨ ∃ p o, H p = none ∧ H' = upd H p o ∧ Rep Z (upd F1 p o) d x
def tI (Z : Zy) (W : WX) (f : DI) : TI := fun σ H R => ∃ A F sl ce, SO Z.toZx A F ce H ∧ SL Z A F sl σ ∧ match f sl ce with
  | .ok ds ce' => ∀ A' F' H' J, A <+: A' → Same F F' → SO Z.toZx A' F' ce' H' → JOk Z.toZx F' J ds → R J H'
  | .exc c ds ce' => ∀ A' F' H' dx, A <+: A' → Same F F' → SO Z.toZx A' F' ce' H' → ExcOk Z.toZx F' c ds dx → W (.ref (Z.cl c)) dx σ H'
  | .stuck => False
def iExp (f : DE) (k : Val → Option (List D)) : DI := fun sl ce => match f sl ce with
  | .ok v ce' => match k v with
    | some ds => .ok ds ce'
    | none => .stuck
  | .exc c ds ce' => .exc c ds ce'
  | .stuck => .stuck
def itL : Val → Option (List D)
  | .im (.lst ds) => some ds
  | .im (.wl ds) => some ds
  | _ => none
def itT : Val → Option (List D)
  | .im (.tup ds) => some ds
  | _ => none
def signs (z : Str) : List D := z.cps.toList.map fun c => .str ⟨#[c]⟩
def itS : Val → Option (List D)
  | .im (.str z) => some (signs z)
  | _ => none
section
variable {X : Cx} {Z : Zy} {W : WX} {tg e : Expr} {f : DE} {k : Val → Option (List D)} {pos : Pos}
theorem tI1 {σ H R} (h : tI Z W (iExp f k) σ H R) : tE Z W f σ H fun x H1 => ∃ A F ce v ds, SO Z.toZx A F ce H1 ∧ VRep Z A F v x ∧ k v = some ds ∧ ∀ J, JOk Z.toZx F J ds → R J H1 := by
  obtain ⟨A, F, sl, ce, so, hs, p⟩ := h
  refine ⟨A, F, sl, ce, so, hs, ?_⟩
  unfold iExp at p
  cases e : f sl ce with
  | ok v ce1 =>
    simp only [e] at p
    cases e2 : k v with
    | none => simp only [e2] at p
    | some ds =>
      simp only [e2] at p
      exact fun A1 F1 H1 x p1 e1 s1 r1 => ⟨A1, F1, ce1, v, ds, s1, r1, e2, fun J hJ => p A1 F1 H1 J p1 e1 s1 hJ⟩
  | exc c ds ce1 => simp only [e] at p; exact p
  | stuck => simp only [e] at p
theorem _root_.L2.PI.weak {t t' : TI} (h : PI X tg e t) (hw : ∀ σ H R, t' σ H R → t σ H R) : PI X tg e t' := ⟨fun pins s σ H R I q => h.run pins s σ H R I (hw _ _ _ q)⟩
theorem di_list (hK : X.K = Z.K) (he : PE X e (tE Z W f)) : PI X tg e (tI Z W (iExp f itL)) := (pi_list he).weak fun σ H R h => tE_imp (fun x H1 ⟨A, F, ce, v, ds, so, r, e, q⟩ => by
  unfold itL at e
  have key : ∀ a vs, SqL Z.K F a vs → Reps Z.toZx F ds vs → x = .ref a → ∃ a, x = .ref a ∧ (∃ xs, SqL X.K H1 a xs) ∧ R (Itl X.K a) H1 := fun a vs hl rr ex => by
    rw [hK]
    refine ⟨a, ex, ⟨vs, so.sub.seq hl⟩, q _ fun F1 H i e1 e2 => ?_⟩
    have hl' := e2.seq (e1.seq hl)
    refine ⟨fun h => ⟨vs, hl', by rw [h, rr.length]; exact Nat.le_refl _⟩, fun d hd => ?_⟩
    obtain ⟨v, hv, rv⟩ := rr.get' hd
    refine ⟨⟨vs, v, hl', hv⟩, fun x H' ⟨eH, hx⟩ => .inl ⟨?_, eH⟩⟩
    have := hx vs hl'
    rw [hv] at this
    cases this
    exact rv.mono e1
  split at e
  · cases e
    unfold VRep Rep at r
    obtain ⟨a, vs, ex, h1, h2⟩ := r
    exact key a vs (SqL.of h1) h2 ex
  · cases e
    unfold VRep Rep at r
    obtain ⟨a, vs, ex, h1, h2⟩ := r
    exact key a vs h1 h2 ex
  · cases e) (tI1 h)
theorem jok_s {F : Hp} (z : Str) : JOk Z.toZx F (Its z) (signs z) := by
  intro F1 H i e1 e2
  have hsz : (signs z).length = z.cps.size := by simp [signs]
  refine ⟨fun h => by show z.cps.size ≤ i; omega, fun d hd => ?_⟩
  have hi : i < z.cps.size := by rw [← hsz]; exact (List.getElem?_eq_some_iff.mp hd).1
  refine ⟨hi, fun x H' ⟨eH, c, hc, ex⟩ => .inl ⟨?_, eH⟩⟩
  have : d = .str ⟨#[c]⟩ := by
    unfold signs at hd
    rw [List.getElem?_map, Array.getElem?_toList, hc] at hd
    cases hd
    rfl
  rw [this, ex]
  exact repS
theorem di_str (he : PE X e (tE Z W f)) : PI X tg e (tI Z W (iExp f itS)) := (pi_str he).weak fun σ H R h => tE_imp (fun x H1 ⟨A, F, ce, v, ds, so, r, e, q⟩ => by
  unfold itS at e
  split at e
  · rename_i z
    cases e
    exact ⟨z, rep_str r, q _ (jok_s z)⟩
  · cases e) (tI1 h)
end
def forD (g : GD) (body : DSt) : List D → DSt
  | [], sl, ce => .nx sl ce
  | d :: ds, sl, ce => match g d sl with
    | none => .stuck
    | some sl1 => match body sl1 ce with
      | .nx sl2 ce2 => forD g body ds sl2 ce2
      | .ct sl2 ce2 => forD g body ds sl2 ce2
      | .bk sl2 ce2 => .nx sl2 ce2
      | o => o
def sFor (fi : DI) (g : GD) (body : DSt) : DSt := fun sl ce => match fi sl ce with
  | .ok ds ce' => forD g body ds sl ce'
  | .exc c ds ce' => .exc c ds sl ce'
  | .stuck => .stuck
section
variable {X : Cx} {Z : Zy} {W : WX} {tg iter : Expr} {fi : DI} {ix : List Nat} {g : GD} {fb : DSt} {body : List Stmt} {pos : Pos}
theorem ds_for (hp : PassesOwn (model X.prog X.w) X.A X.env X.xe) (hi : PI X tg iter (tI Z W fi)) (hg : PG X tg (tG Z ix g)) (hb : PSs X body (tS Z W fb)) (hc : X.calm = true := by rfl)
    (hs : ∀ x, foldedSetIterable iter X.env x = pure x := by intro _; rfl) : PS X (.For tg iter body [] pos) (tS Z W (sFor fi g fb)) := by
  refine (ps_for hp hc hi hg hb hs).weak fun D σ H ⟨A, F, sl, ce, so, hs, p⟩ => ⟨A, F, sl, ce, so, hs, ?_⟩
  unfold sFor at p
  cases e : fi sl ce with
  | stuck => rw [e] at p; exact p.elim
  | exc c ds ce1 =>
    rw [e] at p
    exact fun A1 F1 H1 dx p1 e1 s1 x1 => p A1 F1 H1 σ dx p1 e1 s1 (hs.mono p1 e1) x1
  | ok ds ce1 =>
    rw [e] at p
    intro A1 F1 H1 J p1 e1 so1 hJ
    refine ⟨fun i m σ H => m = ds.length - i ∧ i ≤ ds.length ∧ ∃ A F sl ce, Same F1 F ∧ SO Z.toZx A F ce H ∧ SL Z A F sl σ ∧ PostS Z A F W D (forD g fb (ds.drop i) sl ce),
      ⟨ds.length, rfl, Nat.zero_le _, A1, F1, sl, ce1, Same.refl _, so1, hs.mono p1 e1, p.mono p1 e1⟩, ?_⟩
    rintro i m σ H ⟨rfl, hi, A, F, sl, ce, eF, so, hs, p⟩
    obtain ⟨j1, j2⟩ := hJ F H i eF so.sub
    by_cases hlt : i < ds.length
    · have hd : ds[i]? = some ds[i] := List.getElem?_eq_getElem hlt
      obtain ⟨go, yl⟩ := j2 _ hd
      refine .inr ⟨go, fun σ H => i + 1 ≤ ds.length ∧ ∃ A F sl ce, Same F1 F ∧ SO Z.toZx A F ce H ∧ SL Z A F sl σ ∧ PostS Z A F W D (forD g fb (ds.drop (i + 1)) sl ce), fun σ' H' q => ⟨ds.length - (i + 1), by omega, rfl, q⟩, fun x H' hy => ?_⟩
      rw [List.drop_eq_getElem_cons hlt] at p
      have fin : ∀ F2 H2, Same F F2 → SO Z.toZx A F2 ce H2 → Rep Z.toZx F2 ds[i] x → tG Z ix g x σ H2 fun σ2 H3 => tS Z W fb { D with nx := fun σ H => i + 1 ≤ ds.length ∧ ∃ A F sl ce, Same F1 F ∧ SO Z.toZx A F ce H ∧ SL Z A F sl σ ∧ PostS Z A F W D (forD g fb (ds.drop (i + 1)) sl ce), ct := fun σ H => i + 1 ≤ ds.length ∧ ∃ A F sl ce, Same F1 F ∧ SO Z.toZx A F ce H ∧ SL Z A F sl σ ∧ PostS Z A F W D (forD g fb (ds.drop (i + 1)) sl ce), bk := D.nx } σ2 H3 := by
        intro F2 H2 e2 so2 r2
        refine ⟨A, F2, sl, ce, ds[i], so2, hs.mono (List.prefix_refl _) e2, r2, ?_⟩
        unfold forD at p
        cases eg : g ds[i] sl with
        | none => rw [eg] at p; exact p.elim
        | some sl1 =>
          rw [eg] at p
          refine ⟨sl1, rfl, fun σ' hs' _ => ⟨A, F2, sl1, ce, so2, hs', ?_⟩⟩
          simp only at p
          cases eb : fb sl1 ce with
          | nx sl2 ce2 => rw [eb] at p; exact fun A3 F3 H3 σ3 p3 e3 so3 hs3 => ⟨hlt, A3, F3, sl2, ce2, (eF.trans e2).trans e3, so3, hs3, p.mono p3 (e2.trans e3)⟩
          | ct sl2 ce2 => rw [eb] at p; exact fun A3 F3 H3 σ3 p3 e3 so3 hs3 => ⟨hlt, A3, F3, sl2, ce2, (eF.trans e2).trans e3, so3, hs3, p.mono p3 (e2.trans e3)⟩
          | bk sl2 ce2 => rw [eb] at p; exact fun A3 F3 H3 σ3 p3 e3 so3 hs3 => p A3 F3 H3 σ3 p3 (e2.trans e3) so3 hs3
          | rt v ce2 => rw [eb] at p; exact fun A3 F3 H3 x3 p3 e3 so3 hs3 => p A3 F3 H3 x3 p3 (e2.trans e3) so3 hs3
          | exc c es sl2 ce2 => rw [eb] at p; exact fun A3 F3 H3 σ3 dx p3 e3 so3 hs3 => p A3 F3 H3 σ3 dx p3 (e2.trans e3) so3 hs3
          | stuck => rw [eb] at p; exact p.elim
      rcases yl x H' hy with ⟨rx, rfl⟩ | ⟨q, o, hq, rfl, rx⟩
      · exact fin F _ (Same.refl _) so rx
      · exact fin _ _ (same_up (so.fnone hq)) (so.new hq) rx
    · have ei : i = ds.length := by omega
      refine .inl ⟨j1 ei, ?_⟩
      rw [ei, List.drop_length] at p
      exact nxS so hs p
end
end ZZ
set_option Elab.async false
set_option linter.all false
set_option maxRecDepth 100000
namespace L2
open PySem PySem.Spec PyProof.Rows
def ItEz (x : Str) : It := ⟨fun i _ => i < x.cps.size, fun i H v H' => ∃ T c, v = .ref T ∧ H T = none ∧ H' = upd H T (.tup [.int (i : Nat), .str ⟨#[c]⟩]) ∧ x.cps[i]? = some c, fun i _ => i = x.cps.size⟩
theorem strIter_cases (x : Str) : strIterType x = "str_ascii_iterator" ∨ strIterType x = "str_iterator" := by
  unfold strIterType
  split
  · exact .inl rfl
  · exact .inr rfl
theorem draws_str {prog : Program} {w : World} {A : Around} (hh : A.handled = none) (it : Addr) (x : Str) (t : Tok) :
    ∃ P : Nat → Value → Prop, Draws prog w A it [it] x.cps.size P (fun i h => h.IsStrIter it (strIterType x) x t i) ∧ ∀ i v, P i v → ∃ c u, x.cps[i]? = some c ∧ v = .str ⟨#[c]⟩ u := by
  rcases strIter_cases x with e | e
  · rw [e]
    exact ⟨_, Draws.strAscii hh it x t, fun i v h => h⟩
  · rw [e]
    exact ⟨_, Draws.strWide hh it x t, fun i v h => h⟩
theorem turn_enumS {P : Program} {w : World} {K : PySem.W.Frag} {elts : List Expr} {kk : Nat} {tpos : Pos} (x : Str) (t : Tok) (e it : Addr) :
    Turn P w K (.Tuple elts kk tpos) (ItEz x) [e, it] e (fun i h => (∃ old, IsEnum h e it ((i : Nat) : Int) old) ∧ h.IsStrIter it (strIterType x) x t i ∧ e ≠ it) where
  mem := by simp
  obj := fun i h st b hb => by
    obtain ⟨⟨old, he⟩, ⟨o, ho, hc, hd⟩, _⟩ := st
    have e' : b = e ∨ b = it := by simpa using hb
    rcases e' with z | z
    · rw [z]; exact ⟨_, he, fun v q => nomatch q⟩
    · rw [z]; exact ⟨o, ho, fun v q => by rw [hd] at q; cases q⟩
  keep := fun i h h' st k => let ⟨⟨old, he⟩, hi, hne⟩ := st; ⟨⟨old, k e (by simp) _ he⟩, (let ⟨o, ho, r⟩ := hi; ⟨o, k it (by simp) o ho, r⟩), hne⟩
  item := by
    intro X hP hw hK hc i pins s σ H E I hf st hg
    subst hP hw hK
    obtain ⟨⟨old, he⟩, hit, hne⟩ := st
    have hel : e < s.heap.objs.size := Heap.lt_size he
    have hil : it < s.heap.objs.size := by obtain ⟨_, q, _⟩ := hit; exact Heap.lt_size q
    obtain ⟨PP, DD, hPP⟩ := draws_str (prog := X.prog) (w := X.w) (A := X.A.in1) (I.ok.hd hc) it x t
    refine wpAny_pyNext_enum_itemD DD he hit hg hne (by simp [hne]) fun v h' tk hv ho hit' hT hsz hk => ?_
    obtain ⟨c, u, hcx, rfl⟩ := hPP i v hv
    refine ⟨_, rfl, wpAny_letOwnedTupleGo_enum (s := { s with heap := h', toks := tk + 1 }) ho fun h'' he' sb => ?_⟩
    have hT2 : h''.get? s.heap.objs.size = some { cls := .type "tuple", data := .seq #[.int i tk, .str ⟨#[c]⟩ u] } := (sb.2 _ (Nat.ne_of_gt hel)).trans hT
    have new : ObjOk X.prog X.w (upd H s.heap.objs.size (.tup [.int (i : Nat), .str ⟨#[c]⟩])) h'' s.heap.objs.size (.tup [.int (i : Nat), .str ⟨#[c]⟩]) :=
      ⟨by show 2 ≤ sizeLine; decide, [.int i tk, .str ⟨#[c]⟩ u], .cons ⟨_, rfl⟩ (.cons ⟨_, rfl⟩ .nil), ⟨_, hT2, rfl, _, rfl⟩⟩
    have I1 : Inv X pins σ (upd H s.heap.objs.size (.tup [.int (i : Nat), .str ⟨#[c]⟩])) { s with heap := h'', toks := tk + 1 } :=
      I.turnedNew (ch := [e, it]) (fun b ob hb q => (sb.2 b (fun z => hb (by simp [z]))).trans (hk b ob (fun z => hb (by simp [z])) (fun z => hb (by simp [z])) q)) hf (Nat.le_refl _) new
    refine ⟨.ref s.heap.objs.size, _, I1, rfl, ⟨_, c, rfl, I.hok.fresh (Nat.le_refl _), rfl, hcx⟩, ⟨⟨.str ⟨#[c]⟩ u, ?_⟩, (let ⟨o, ho, r⟩ := hit'; ⟨o, (sb.2 it (Ne.symm hne)).trans ho, r⟩), hne⟩, fun b hb => ?_⟩
    · have e1 : ((i + 1 : Nat) : Int) = (i : Int) + 1 := by omega
      rw [e1]; exact he'
    · have hb' : b < s.heap.objs.size := by
        have e' : b = e ∨ b = it := by simpa using hb
        rcases e' with z | z
        · rw [z]; exact hel
        · rw [z]; exact hil
      rw [upd_ne (Nat.ne_of_lt hb')]
      exact (hf b hb).1
  done := by
    intro X hP hw hK hc i pins s σ H E I hf st hg
    subst hP hw hK
    obtain ⟨⟨old, he⟩, hit, hne⟩ := st
    obtain ⟨f0, f1, f2, f3, f4, f5⟩ := hf it (by simp)
    obtain ⟨PP, DD, hPP⟩ := draws_str (prog := X.prog) (w := X.w) (A := X.A.in1) (I.ok.hd hc) it x t
    have hg' : i = x.cps.size := hg
    subst hg'
    exact wpAny_pyNext_enum_endD DD he hit fun h' eb => ⟨rfl, I.turned (t' := s.toks) (fun b o hb q => eb b o hb q) f0 f1 f3 f4 f5⟩
  self := fun A i s Q E st h => let ⟨⟨_, he⟩, _⟩ := st; wpAny_pyIter_enum he h
def iEnumS (ta : TA) : TI := fun σ H R => ta σ H fun vs H1 => ∃ x, vs = [.str x] ∧ R (ItEz x) H1
theorem pi_enumS {X : Cx} {e : Expr} {ta : TA} {p pos tpos : Pos} {elts : List Expr} {kk : Nat} (hg : Gl X "enumerate") (hm : X.mg "enumerate" = none) (ha : PA X [e] ta) (hs : starEach [e] X.env = [(false, eval e X.env)] := by rfl) :
    PI X (.Tuple elts kk tpos) (.Call (.Name "enumerate" p) [e] [] pos) (iEnumS ta) := by
  refine ⟨fun pins s σ H R I h => ?_⟩
  refine Call_ (ld_blt I hg hm boot_enumerate (PyProof.Rows.callWith_type1 (thn (ha.run pos pins s σ H _ I h) fun us s1 ⟨vs, H1, I1, r1, q1⟩ => ?_) hs rfl))
  obtain ⟨x, ex, q⟩ := q1
  subst ex
  cases r1 with
  | cons r rr =>
    cases rr
    obtain ⟨t, rfl⟩ := r
    refine call_enumerate_str fun h' he hit hsz hk => wpAny_pyIter_enum he ?_
    have I2 : Inv X pins σ H1 { s1 with heap := h' } := I1.kept (t' := s1.toks) hk
    refine ⟨s1.heap.objs.size + 1, [s1.heap.objs.size + 1, s1.heap.objs.size], _, _, H1, rfl, I2, turn_enumS x t (s1.heap.objs.size + 1) s1.heap.objs.size, ⟨⟨.none, he⟩, hit, Nat.succ_ne_self _⟩, fun b hb => ?_, q⟩
    have e' : b = s1.heap.objs.size + 1 ∨ b = s1.heap.objs.size := by simpa using hb
    have hle : s1.heap.objs.size ≤ b := by
      rcases e' with z | z
      · rw [z]; exact Nat.le_add_right _ _
      · rw [z]; exact Nat.le_refl _
    exact I1.fpOk hle (I1.hok.fresh hle)
end L2
namespace ZZ
open PySem PySem.Spec L2
def rangeD (lo c : Int) (n : Nat) : List D := (List.range n).map fun (i : Nat) => D.int (lo + (i : Int) * c)
def enumD (ds : List D) : List D := (List.range ds.length).filterMap fun (i : Nat) => ds[i]?.map fun d => D.tup [.int (i : Int), d]
/-- the walk of a call with arguments -/
def iArgs (fs : List DE) (k : List Val → Option (List D)) : DI := iExp (eArgs fs fun vs _ ce => match k vs with
  | some ds => .ok (.im (.lst ds)) ce
  | none => .stuck) itL
def isz (i : Int) : Bool := Nat.ble i.natAbs 4611686018427387903
theorem isz_of {i : Int} (h : -(2 ^ 62) < i ∧ i < 2 ^ 62) : isz i = true := by
  unfold isz
  rw [Nat.ble_eq]
  omega
def kRng1 : List Val → Option (List D)
  | [.im (.int j)] => if isz j then some (rangeD 0 1 j.toNat) else none
  | _ => none
def kEnum : List Val → Option (List D)
  | [.im (.lst ds)] => some (enumD ds)
  | [.im (.wl ds)] => some (enumD ds)
  | _ => none
def kEnumS : List Val → Option (List D)
  | [.im (.str z)] => some (enumD (signs z))
  | _ => none
def wlst : Val → Option (List D)
  | .im (.lst ds) => some ds
  | .im (.wl ds) => some ds
  | _ => none
def kRevL : List Val → Option (List D)
  | [v] => (wlst v).map List.reverse
  | _ => none
section
variable {X : Cx} {Z : Zy} {W : WX} {tg e : Expr} {fs : List DE} {k : List Val → Option (List D)} {pos : Pos}
/-- the arguments' end, without an object of its own -/
theorem tIN {σ H R} (h : tI Z W (iArgs fs k) σ H R) : tArgs Z W fs σ H fun xs H1 => ∃ A F ce vs ds, SO Z.toZx A F ce H1 ∧ VReps Z A F vs xs ∧ k vs = some ds ∧ ∀ J, JOk Z.toZx F J ds → R J H1 := by
  obtain ⟨A, F, sl, ce, so, hs, p⟩ := h
  unfold iArgs iExp at p
  have key : PostE Z A F W σ (fun _ _ => True) (eArgs fs (fun vs _ ce => match k vs with
      | some ds => .ok (.im (.lst ds)) ce
      | none => .stuck) sl ce) → True := fun _ => trivial
  -- the walk's wish as a wish on the arguments
  let kk : List Val → DE := fun vs _ ce => match k vs with
    | some ds => .ok (.im (.lst ds)) ce
    | none => .stuck
  have go : ∀ (fs : List DE) (kv : List Val → DE) (A : List Addr) (F H : Hp) (ce : List Cell) (pre : List Val), SO Z.toZx A F ce H → SL Z A F sl σ → (∀ vs, kv vs = kk (pre ++ vs)) →
      (match (match eArgs fs kv sl ce with
        | .ok v ce' => (match itL v with
          | some ds => IOut.ok ds ce'
          | none => IOut.stuck)
        | .exc c ds ce' => IOut.exc c ds ce'
        | .stuck => IOut.stuck) with
      | .ok ds ce' => ∀ A' F' H' J, A <+: A' → Same F F' → SO Z.toZx A' F' ce' H' → JOk Z.toZx F' J ds → R J H'
      | .exc c ds ce' => ∀ A' F' H' dx, A <+: A' → Same F F' → SO Z.toZx A' F' ce' H' → ExcOk Z.toZx F' c ds dx → W (.ref (Z.cl c)) dx σ H'
      | .stuck => False) →
      tArgs Z W fs σ H fun xs H1 => ∃ A1 F1 ce1 vs ds, A <+: A1 ∧ Same F F1 ∧ SO Z.toZx A1 F1 ce1 H1 ∧ VReps Z A1 F1 vs xs ∧ k (pre ++ vs) = some ds ∧ ∀ J, JOk Z.toZx F1 J ds → R J H1 := by
    intro fs
    induction fs with
    | nil =>
      intro kv A F H ce pre so hs hkv p
      unfold eArgs at p
      rw [hkv] at p
      simp only [kk] at p
      cases e : k (pre ++ []) with
      | none => simp only [e] at p
      | some ds =>
        simp only [e, itL] at p
        exact ⟨A, F, ce, [], ds, List.prefix_refl _, Same.refl _, so, rfl, e, fun J hJ => p A F H J (List.prefix_refl _) (Same.refl _) so hJ⟩
    | cons f fs ih =>
      intro kv A F H ce pre so hs hkv p
      unfold eArgs eBind at p
      refine ⟨A, F, sl, ce, so, hs, ?_⟩
      cases e : f sl ce with
      | stuck => simp only [e] at p
      | exc c ds ce1 => simp only [e] at p; exact p
      | ok v ce1 =>
        simp only [e] at p
        intro A1 F1 H1 x p1 e1 so1 r1
        refine tArgs_imp (fun xs H2 ⟨A2, F2, ce2, vs, ds, p2, e2, so2, r2, hk, q⟩ => ⟨A2, F2, ce2, v :: vs, ds, p1.trans p2, e1.trans e2, so2, ⟨x, xs, rfl, r1.mono p2 e2, r2⟩, by simpa using hk, q⟩)
          (ih (fun vs => kv (v :: vs)) A1 F1 H1 ce1 (pre ++ [v]) so1 (hs.mono p1 e1) (fun vs => by simp [hkv]) ?_)
        revert p
        cases eArgs fs (fun vs => kv (v :: vs)) sl ce1 with
        | stuck => exact id
        | exc c ds ce2 => exact fun p A' F' H' dx pp ee => p A' F' H' dx (p1.trans pp) (e1.trans ee)
        | ok u ce2 =>
          dsimp only
          cases itL u with
          | none => exact id
          | some ds => exact fun p A' F' H' J pp ee => p A' F' H' J (p1.trans pp) (e1.trans ee)
  exact tArgs_imp (fun xs H2 ⟨A2, F2, ce2, vs, ds, p2, e2, so2, r2, hk, q⟩ => ⟨A2, F2, ce2, vs, ds, so2, r2, by simpa using hk, q⟩) (go fs kk A F H ce [] so hs (fun vs => rfl) p)
theorem repIx {Z : Zx} {F : Hp} {i : Int} : Rep Z F (.int i) (.int i) := by unfold Rep; rfl
theorem repSx {Z : Zx} {F : Hp} {i : Str} : Rep Z F (.str i) (.str i) := by unfold Rep; rfl
theorem isz_ok {i : Int} (h : isz i = true) : -(2 ^ 62) ≤ i ∧ i < 2 ^ 62 := by
  unfold isz at h
  rw [Nat.ble_eq] at h
  omega
theorem jok_r {Z : Zx} {F : Hp} (lo : Int) (n : Nat) : JOk Z F (Itr lo n) (rangeD lo 1 n) := by
  intro F1 H i e1 e2
  refine ⟨fun h => by show n ≤ i; rw [h]; simp [rangeD], fun d hd => ?_⟩
  have hi : i < n := by
    have := (List.getElem?_eq_some_iff.mp hd).1
    simpa [rangeD] using this
  refine ⟨hi, fun x H' ⟨eH, ex⟩ => .inl ⟨?_, eH⟩⟩
  have : d = .int (lo + (i : Int) * 1) := by
    unfold rangeD at hd
    rw [List.getElem?_map, List.getElem?_range hi] at hd
    cases hd
    rfl
  rw [this, ex, Int.mul_one]
  exact repIx
theorem di_range1 {a : Expr} {p : Pos} {f : DE} (hm : X.mg "range" = none) (ha : PA X [a] (tArgs Z W [f])) (hg : Gl X "range" := by rfl) (hs : starEach [a] X.env = [(false, eval a X.env)] := by rfl) : PI X tg (.Call (.Name "range" p) [a] [] pos) (tI Z W (iArgs [f] kRng1)) :=
  (pi_range1 hg hm ha hs).weak fun σ H R h => tArgs_imp (fun xs H1 ⟨A, F, ce, vs, ds, so, r, hk, q⟩ => by
    unfold kRng1 at hk
    split at hk
    · split at hk
      · rename_i j hj
        cases hk
        replace r := vreps1 r
        obtain ⟨x, rfl, r⟩ := r
        rw [rep_int r]
        exact ⟨j, rfl, (isz_ok hj).1, (isz_ok hj).2, q _ (jok_r 0 _)⟩
      · cases hk
    · cases hk) (tIN h)
theorem enum_get {ds : List D} {i : Nat} {d : D} (h : (enumD ds)[i]? = some d) : ∃ e, ds[i]? = some e ∧ d = .tup [.int (i : Int), e] := by
  have e : enumD ds = (List.range ds.length).map fun (i : Nat) => D.tup [.int (i : Int), (ds[i]?).getD .non] := by
    unfold enumD
    have : ∀ l : List Nat, (∀ i ∈ l, i < ds.length) → l.filterMap (fun (i : Nat) => ds[i]?.map fun d => D.tup [.int (i : Int), d]) = l.map fun (i : Nat) => D.tup [.int (i : Int), (ds[i]?).getD .non] := by
      intro l hl
      induction l with
      | nil => rfl
      | cons a l ih =>
        have ha : a < ds.length := hl a (by simp)
        rw [List.map_cons, ← ih fun i hi => hl i (by simp [hi])]
        simp [List.getElem?_eq_getElem ha]
    exact this _ fun i hi => by simpa using hi
  rw [e, List.getElem?_map] at h
  cases q : (List.range ds.length)[i]? with
  | none => rw [q] at h; cases h
  | some j =>
    rw [q] at h
    have hi : i < ds.length := by
      have := (List.getElem?_eq_some_iff.mp q).1
      simpa using this
    rw [List.getElem?_range hi] at q
    cases q
    cases h
    exact ⟨ds[i], List.getElem?_eq_getElem hi, by simp [List.getElem?_eq_getElem hi]⟩
theorem enum_len {ds : List D} : (enumD ds).length = ds.length := by
  unfold enumD
  have : ∀ l : List Nat, (∀ i ∈ l, i < ds.length) → (l.filterMap (fun (i : Nat) => ds[i]?.map fun d => D.tup [.int (i : Int), d])).length = l.length := by
    intro l hl
    induction l with
    | nil => rfl
    | cons a l ih =>
      have ha : a < ds.length := hl a (by simp)
      simp [List.getElem?_eq_getElem ha, ih fun i hi => hl i (by simp [hi])]
  rw [this _ fun i hi => by simpa using hi, List.length_range]
theorem rep_pair {Z : Zx} {F : Hp} {p : Addr} {d e : D} {x y : V} (hp : F p = none) (r1 : Rep Z F d x) (r2 : Rep Z F e y) : Rep Z (upd F p (.tup [x, y])) (.tup [d, e]) (.ref p) := by
  unfold Rep
  exact ⟨p, _, rfl, SqT.of upd_same, reps_cons (r1.mono (same_up hp)) (reps_cons (r2.mono (same_up hp)) reps_nil)⟩
theorem same_none {F H : Hp} (e : Same F H) {p : Addr} (h : H p = none) : F p = none := e.free h
theorem jok_es {Z : Zx} {F : Hp} (z : Str) : JOk Z F (ItEz z) (enumD (signs z)) := by
  intro F1 H i e1 e2
  have hsz : (signs z).length = z.cps.size := by simp [signs]
  refine ⟨fun h => by show i = z.cps.size; rw [h, enum_len, hsz], fun d hd => ?_⟩
  obtain ⟨e, he, rfl⟩ := enum_get hd
  have hi : i < z.cps.size := by rw [← hsz]; exact (List.getElem?_eq_some_iff.mp he).1
  refine ⟨hi, fun x H' ⟨T, c, ex, hT, eH, hc⟩ => .inr ⟨T, _, hT, eH, ?_⟩⟩
  have : e = .str ⟨#[c]⟩ := by
    unfold signs at he
    rw [List.getElem?_map, Array.getElem?_toList, hc] at he
    cases he
    rfl
  rw [this, ex]
  exact rep_pair (same_none e2 hT) repIx repSx
theorem jok_e {Z : Zx} {F : Hp} {a : Addr} {vs : List V} {ds : List D} (hl : SqL Z.K F a vs) (rr : Reps Z F ds vs) : JOk Z F (Ite Z.K a) (enumD ds) := by
  intro F1 H i e1 e2
  have hl' := e2.seq (e1.seq hl)
  refine ⟨fun h => ⟨vs, hl', by rw [h, enum_len, rr.length]; exact Nat.le_refl _⟩, fun d hd => ?_⟩
  obtain ⟨e, he, rfl⟩ := enum_get hd
  obtain ⟨v, hv, rv⟩ := rr.get' he
  refine ⟨⟨vs, v, hl', hv⟩, fun x H' ⟨T, y, ex, hT, eH, hy⟩ => .inr ⟨T, _, hT, eH, ?_⟩⟩
  have := hy vs hl'
  rw [hv] at this
  cases this
  rw [ex]
  exact rep_pair (same_none e2 hT) repIx (rv.mono e1)
theorem wlst_rd {A F ce H} {v : Val} {x : V} {ds : List D} (so : SO Z.toZx A F ce H) (r : VRep Z A F v x) (e : wlst v = some ds) : ∃ a vs, x = .ref a ∧ SqL Z.K F a vs ∧ Reps Z.toZx F ds vs := by
  unfold wlst at e
  split at e
  · cases e
    unfold VRep Rep at r
    obtain ⟨a, vs, ex, h1, h2⟩ := r
    exact ⟨a, vs, ex, SqL.of h1, h2⟩
  · cases e
    unfold VRep Rep at r
    exact r
  · cases e
theorem di_enum {e : Expr} {p tpos : Pos} {elts : List Expr} {kk : Nat} {f : DE} (hK : X.K = Z.K) (hm : X.mg "enumerate" = none) (ha : PA X [e] (tArgs Z W [f])) (hg : Gl X "enumerate" := by rfl) (hs : starEach [e] X.env = [(false, eval e X.env)] := by rfl) :
    PI X (.Tuple elts kk tpos) (.Call (.Name "enumerate" p) [e] [] pos) (tI Z W (iArgs [f] kEnum)) :=
  (pi_enum hg hm ha hs).weak fun σ H R h => tArgs_imp (fun xs H1 ⟨A, F, ce, vs, ds, so, r, hk, q⟩ => by
    rw [hK]
    unfold kEnum at hk
    split at hk
    · cases hk
      replace r := vreps1 r
      obtain ⟨x, rfl, r⟩ := r
      obtain ⟨a, ws, rfl, h1, h2⟩ := wlst_rd so r rfl
      exact ⟨a, ws, rfl, so.sub.seq h1, q _ (jok_e h1 h2)⟩
    · cases hk
      replace r := vreps1 r
      obtain ⟨x, rfl, r⟩ := r
      obtain ⟨a, ws, rfl, h1, h2⟩ := wlst_rd so r rfl
      exact ⟨a, ws, rfl, so.sub.seq h1, q _ (jok_e h1 h2)⟩
    · cases hk) (tIN h)
theorem di_enumS {e : Expr} {p tpos : Pos} {elts : List Expr} {kk : Nat} {f : DE} (hm : X.mg "enumerate" = none) (ha : PA X [e] (tArgs Z W [f])) (hg : Gl X "enumerate" := by rfl) (hs : starEach [e] X.env = [(false, eval e X.env)] := by rfl) :
    PI X (.Tuple elts kk tpos) (.Call (.Name "enumerate" p) [e] [] pos) (tI Z W (iArgs [f] kEnumS)) :=
  (pi_enumS hg hm ha hs).weak fun σ H R h => tArgs_imp (fun xs H1 ⟨A, F, ce, vs, ds, so, r, hk, q⟩ => by
    unfold kEnumS at hk
    split at hk
    · cases hk
      replace r := vreps1 r
      obtain ⟨x, rfl, r⟩ := r
      rw [rep_str r]
      exact ⟨_, rfl, q _ (jok_es _)⟩
    · cases hk) (tIN h)
theorem jok_v {Z : Zx} {F : Hp} {a : Addr} {vs : List V} {ds : List D} (hl : SqL Z.K F a vs) (rr : Reps Z F ds vs) : JOk Z F (Itv Z.K a vs.length) ds.reverse := by
  intro F1 H i e1 e2
  have hl' := e2.seq (e1.seq hl)
  have ll := rr.length
  refine ⟨fun h => by show vs.length ≤ i; rw [h, List.length_reverse, ll]; exact Nat.le_refl _, fun d hd => ?_⟩
  have hi : i < ds.length := by
    have := (List.getElem?_eq_some_iff.mp hd).1
    simpa using this
  rw [List.getElem?_reverse hi] at hd
  rw [ll] at hd
  obtain ⟨v, hv, rv⟩ := rr.get' hd
  refine ⟨⟨by omega, vs, v, hl', hv⟩, fun x H' ⟨eH, hx⟩ => .inl ⟨?_, eH⟩⟩
  have := hx vs hl'
  rw [hv] at this
  cases this
  exact rv.mono e1
theorem di_rev {e : Expr} {p : Pos} {f : DE} (hK : X.K = Z.K) (hm : X.mg "reversed" = none) (ha : PA X [e] (tArgs Z W [f])) (hg : Gl X "reversed" := by rfl) (hs : starEach [e] X.env = [(false, eval e X.env)] := by rfl) :
    PI X tg (.Call (.Name "reversed" p) [e] [] pos) (tI Z W (iArgs [f] kRevL)) :=
  (pi_reversed hg hm ha hs).weak fun σ H R h => tArgs_imp (fun xs H1 ⟨A, F, ce, vs, ds, so, r, hk, q⟩ => by
    rw [hK]
    unfold kRevL at hk
    split at hk
    · rename_i v
      cases e1 : wlst v with
      | none => rw [e1] at hk; cases hk
      | some ys =>
        rw [e1] at hk
        cases hk
        replace r := vreps1 r
        obtain ⟨x, rfl, r⟩ := r
        obtain ⟨a, ws, rfl, h1, h2⟩ := wlst_rd so r e1
        exact ⟨a, ws, rfl, so.sub.seq h1, q _ (jok_v h1 h2)⟩
    · cases hk) (tIN h)
end
end ZZ
set_option Elab.async false
set_option linter.all false
set_option maxRecDepth 100000
namespace ZZ
open PySem PySem.Spec L2
def wipeD (sl : Sl) : List Nat → Sl
  | [] => sl
  | v :: vs => (wipeD sl vs).set v none
def lcD (own : List Nat) (g : GD) (t f : DE) (n : Nat) : List D → Sl → List Cell → EOut
  | [], sl, ce => .ok (.cell n) ce
  | d :: ds, sl, ce => match g d (wipeD sl own) with
    | none => .stuck
    | some sl1 => match t sl1 ce with
      | .ok (.im (.bl b)) ce1 => if b then (match f sl1 ce1 with
        | .ok (.im y) ce2 => match ce2[n]? with
          | some (.lst acc) => if acc.length < LINE then lcD own g t f n ds sl (ce2.set n (.lst (acc ++ [y]))) else .stuck
          | _ => .stuck
        | _ => .stuck) else lcD own g t f n ds sl ce1
      | _ => .stuck
/-- a comprehension's list, as an own list -/
def eLcC (own : List Nat) (fi : DI) (g : GD) (t f : DE) : DE := fun sl ce => match fi sl ce with
  | .ok ds ce' => lcD own g t f ce'.length ds sl (ce' ++ [.lst []])
  | .exc c ds ce' => .exc c ds ce'
  | .stuck => .stuck
/-- an own list that an expression gives, settled -/
def eSettle (f : DE) : DE := fun sl ce => match f sl ce with
  | .ok (.cell n) ce2 => match ce2[n]? with
    | some (.lst ds) => .ok (.im (.lst ds)) ((ce2.set n .dead).take ce.length)
    | some (.dct ks vs) => .ok (.im (.dct ks vs)) ((ce2.set n .dead).take ce.length)
    | _ => .stuck
  | r => r
section
variable {Z : Zy} {A A' : List Addr} {F F' H : Hp} {ce : List Cell} {sl : Sl} {σ : L2.St} {W : WX} {Q Q' : VK}
theorem PtrL.cut {A : List Addr} {n k : Nat} (hk : k < n) : ∀ {ks : List Nat} {bs : List Addr}, PtrL A k ks bs → PtrL (A.take n) k ks bs
  | [], bs, h => h
  | j :: js, bs, ⟨b, t, e, h1, h2, h3⟩ => ⟨b, t, e, h1, by rw [List.getElem?_take_of_lt (by omega)]; exact h2, PtrL.cut hk h3⟩
theorem CellOk.cut {Z : Zx} {a : Addr} {c : Cell} {k n : Nat} (nd : A.Nodup) (hk : A[k]? = some a) (hn : k < n) (h : CellOk Z A F H a c) : CellOk Z (A.take n) F H a c := by
  cases c with
  | dead => exact h
  | lst ds => exact h
  | ins c ds => exact h
  | dct ks vs => exact h
  | ptr ks =>
    obtain ⟨h0, k0, bs, h1, h2, h3⟩ := h
    have e : k0 = k := (List.getElem?_inj (List.getElem?_eq_some_iff.mp h1).1 nd).mp (h1.trans hk.symm)
    subst e
    exact ⟨h0, k0, bs, by rw [List.getElem?_take_of_lt hn]; exact h1, h2, h3.cut hn⟩
theorem SO.take (n : Nat) (so : SO Z.toZx A F ce H) : SO Z.toZx (A.take n) F (ce.take n) H := by
  refine ⟨so.sub, by simp [so.len], ?_, fun k a c h1 h2 => ?_⟩
  · exact List.Nodup.sublist (List.take_sublist _ _) so.nd
  · have hk : k < n := by
      have := (List.getElem?_eq_some_iff.mp h1).1
      simp at this
      omega
    rw [List.getElem?_take_of_lt hk] at h1 h2
    exact (so.ok k a c h1 h2).cut so.nd h1 hk
theorem SL.wipe (hs : SL Z A F sl σ) : ∀ vs : List Nat, SL Z A F (wipeD sl vs) (L2.wipe σ vs)
  | [] => hs
  | v :: vs => (SL.wipe hs vs).gone
theorem wipe_get (σ : L2.St) : ∀ (vs : List Nat) (j : Nat), (L2.wipe σ vs)[j]? = if j ∈ vs then (if j < σ.length then some none else none) else σ[j]?
  | [], j => by simp [L2.wipe]
  | v :: vs, j => by
    unfold L2.wipe
    by_cases hj : v = j
    · subst hj
      by_cases hl : v < σ.length
      · rw [List.getElem?_set_self (by rw [wipe_length]; exact hl)]
        simp [hl]
      · rw [List.getElem?_eq_none (by rw [List.length_set, wipe_length]; omega)]
        simp [hl]
    · rw [List.getElem?_set_ne hj, wipe_get σ vs j]
      have : (j ∈ v :: vs) ↔ j ∈ vs := by
        simp only [List.mem_cons]
        exact ⟨fun h => h.resolve_left fun e => hj e.symm, .inr⟩
      simp only [this]
theorem wipe_agree {ix vs : List Nat} {σ2 : L2.St} (h : Agree ix (L2.wipe σ vs) σ2) (hi : ∀ i ∈ ix, i ∈ vs) : L2.wipe σ2 vs = L2.wipe σ vs := by
  refine List.ext_getElem? fun j => ?_
  have hl : σ2.length = σ.length := by rw [h.1, wipe_length]
  rw [wipe_get, wipe_get, hl]
  by_cases hj : j ∈ vs
  · simp [hj]
  · simp only [hj, if_false]
    have := h.2 j fun z => hj (hi j z)
    rw [this, wipe_get]
    simp [hj]
end
section
variable {X : Cx} {Z : Zy} {elt tg iter : Expr} {ifs : List Expr} {scope : Scope} {own : List (Str × Nat)} {ix : List Nat} {fi : DI} {g : GD} {t f : DE} {pos : Pos} {W : WX}
theorem dts_nil : PTs X [] (tT Z W (eC (.bl true))) := ⟨fun pins s σ H Q I h => pts_nil.run pins s σ H Q I (by
  obtain ⟨A, F, sl, ce, so, hs, p⟩ := h
  obtain ⟨b, e, q⟩ := fin_flat so p repB
  cases e
  exact q)⟩
/-- the reading of a comprehension: a wish on the cell's end -/
theorem lc_read {σ : L2.St} {H : Hp} {Q : VK} {A F sl ce} (hix : ∀ i ∈ ix, i ∈ own.map (·.2)) (so : SO Z.toZx A F ce H) (hs : SL Z A F sl σ)
    (p : match fi sl ce with
      | .ok ds ce' => PostE Z A F W σ Q (lcD (own.map (·.2)) g t f ce'.length ds sl (ce' ++ [.lst []]))
      | .exc c ds ce' => PostE Z A F W σ Q (.exc c ds ce')
      | .stuck => False) : tLc (tI Z W fi) (tG Z ix g) (tT Z WF t) (tE Z WF f) (own.map (·.2)) σ H Q := by
  refine ⟨A, F, sl, ce, so, hs, ?_⟩
  cases e : fi sl ce with
  | stuck => rw [e] at p; exact p.elim
  | exc c ds ce1 => rw [e] at p; exact p
  | ok ds ce1 =>
    rw [e] at p
    intro A1 F1 H1 J p1 e1 so1 hJ D hD
    have hn : A1.length = ce1.length := so1.len
    have so2 : SO Z.toZx (A1 ++ [D]) F1 (ce1 ++ [.lst []]) (upd H1 D (.lst [])) := so1.newCell hD ⟨so1.fnone hD, [], upd_same, reps_nil⟩
    refine ⟨fun i m H => m = ds.length - i ∧ i ≤ ds.length ∧ ∃ A2 F2 ce2, A1 ++ [D] <+: A2 ∧ Same F1 F2 ∧ SO Z.toZx A2 F2 ce2 H ∧ PostE Z A2 F2 W σ Q (lcD (own.map (·.2)) g t f ce1.length (ds.drop i) sl ce2),
      ⟨ds.length, rfl, Nat.zero_le _, A1 ++ [D], F1, _, List.prefix_refl _, Same.refl _, so2, p.mono (p1.trans (List.prefix_append _ _)) e1⟩, ?_⟩
    rintro i m H ⟨rfl, hi, A2, F2, ce2, pA, eF, so, q⟩
    have hA2 : A2[ce1.length]? = some D := by
      refine pre_get pA ?_
      rw [← hn]
      simp
    obtain ⟨j1, j2⟩ := hJ F2 H i eF so.sub
    by_cases hlt : i < ds.length
    · have hd : ds[i]? = some ds[i] := List.getElem?_eq_getElem hlt
      obtain ⟨go, yl⟩ := j2 _ hd
      refine .inr ⟨go, fun H => i + 1 ≤ ds.length ∧ ∃ A2 F2 ce2, A1 ++ [D] <+: A2 ∧ Same F1 F2 ∧ SO Z.toZx A2 F2 ce2 H ∧ PostE Z A2 F2 W σ Q (lcD (own.map (·.2)) g t f ce1.length (ds.drop (i + 1)) sl ce2), fun H' q => ⟨ds.length - (i + 1), by omega, rfl, q⟩, fun x H' hy => ?_⟩
      rw [List.drop_eq_getElem_cons hlt] at q
      have hsW := (hs.mono (p1.trans ((List.prefix_append _ _).trans pA)) (e1.trans eF)).wipe (own.map (·.2))
      have fin : ∀ F3 H3, Same F2 F3 → SO Z.toZx A2 F3 ce2 H3 → Rep Z.toZx F3 ds[i] x → tG Z ix g x (L2.wipe σ (own.map (·.2))) H3 fun σ2 H2 => L2.wipe σ2 (own.map (·.2)) = L2.wipe σ (own.map (·.2)) ∧ tT Z WF t σ2 H2 fun b H3 =>
          if b = true then tE Z WF f σ2 H3 fun y H4 => ∃ acc, H4 D = some (.lst acc) ∧ acc.length < sizeLine ∧ (fun H => i + 1 ≤ ds.length ∧ ∃ A2 F2 ce2, A1 ++ [D] <+: A2 ∧ Same F1 F2 ∧ SO Z.toZx A2 F2 ce2 H ∧ PostE Z A2 F2 W σ Q (lcD (own.map (·.2)) g t f ce1.length (ds.drop (i + 1)) sl ce2)) (upd H4 D (.lst (acc ++ [y])))
          else (fun H => i + 1 ≤ ds.length ∧ ∃ A2 F2 ce2, A1 ++ [D] <+: A2 ∧ Same F1 F2 ∧ SO Z.toZx A2 F2 ce2 H ∧ PostE Z A2 F2 W σ Q (lcD (own.map (·.2)) g t f ce1.length (ds.drop (i + 1)) sl ce2)) H3 := by
        intro F3 H3 e3 so3 r3
        refine ⟨A2, F3, wipeD sl (own.map (·.2)), ce2, ds[i], so3, hsW.mono (List.prefix_refl _) e3, r3, ?_⟩
        unfold lcD at q
        cases eg : g ds[i] (wipeD sl (own.map (·.2))) with
        | none => rw [eg] at q; exact q.elim
        | some sl1 =>
          simp only [eg] at q
          refine ⟨sl1, rfl, fun σ2 hs2 ag => ⟨wipe_agree ag hix, A2, F3, sl1, ce2, so3, hs2, ?_⟩⟩
          cases et : t sl1 ce2 with
          | stuck => rw [et] at q; exact q.elim
          | exc c ds ce3 => rw [et] at q; exact q.elim
          | ok vt ce3 =>
            rw [et] at q
            intro A4 F4 H4 xb p4 e4 so4 rb
            cases vt with
            | cell n => exact q.elim
            | exn c ds => exact q.elim
            | im d => cases d with
              | bl b =>
                refine ⟨b, rep_bl rb, ?_⟩
                cases b with
                | false =>
                  refine iteF ⟨hlt, A4, F4, ce3, pA.trans p4, (eF.trans e3).trans e4, so4, ?_⟩
                  exact PostE.mono p4 (e3.trans e4) (by simpa using q)
                | true =>
                  simp only [if_true] at q
                  refine iteT ⟨A4, F4, sl1, ce3, so4, hs2.mono p4 e4, ?_⟩
                  cases ef : f sl1 ce3 with
                  | stuck => rw [ef] at q; exact q.elim
                  | exc c ds ce5 => rw [ef] at q; exact q.elim
                  | ok vy ce5 =>
                    rw [ef] at q
                    intro A5 F5 H5 xy p5 e5 so5 ry
                    cases vy with
                    | cell n => exact q.elim
                    | exn c ds => exact q.elim
                    | im y =>
                      dsimp only at q
                      split at q
                      · rename_i acc hacc
                        split at q
                        · rename_i hline
                          have hA5 : A5[ce1.length]? = some D := pre_get p5 (pre_get p4 hA2)
                          obtain ⟨hF5, vs, hH5, r5⟩ := so5.ok _ _ _ hA5 hacc
                          refine ⟨vs, hH5, by rw [sizeLine_eq, ← r5.length]; exact hline, hlt, A5, F5, _, (pA.trans p4).trans p5, ((eF.trans e3).trans e4).trans e5, so5.write (c := .lst (acc ++ [y])) hA5 hF5 ⟨hF5, _, upd_same, r5.append (reps_cons ry reps_nil)⟩, ?_⟩
                          exact PostE.mono (p4.trans p5) ((e3.trans e4).trans e5) q
                        · exact q.elim
                      · exact q.elim
              | _ => exact q.elim
      rcases yl x H' hy with ⟨rx, rfl⟩ | ⟨q', o, hq', rfl, rx⟩
      · exact fin F2 _ (Same.refl _) so rx
      · exact fin _ _ (same_up (so.fnone hq')) (so.new hq') rx
    · have ei : i = ds.length := by omega
      refine .inl ⟨j1 ei, ?_⟩
      rw [ei, List.drop_length] at q
      exact q A2 F2 H (.ref D) (List.prefix_refl _) (Same.refl _) so ⟨D, hA2, rfl⟩
theorem lc_of (hix : ∀ i ∈ ix, i ∈ own.map (·.2)) {σ : L2.St} {H : Hp} {Q : VK} (h : tE Z W (eLcC (own.map (·.2)) fi g t f) σ H Q) : tLc (tI Z W fi) (tG Z ix g) (tT Z WF t) (tE Z WF f) (own.map (·.2)) σ H Q := by
  obtain ⟨A, F, sl, ce, so, hs', p⟩ := h
  refine lc_read hix so hs' ?_
  unfold eLcC at p
  cases e : fi sl ce with
  | stuck => rw [e] at p; exact p
  | exc c ds ce1 => rw [e] at p; exact p
  | ok ds ce1 => rw [e] at p; exact p
theorem de_lcC (hc : X.calm = true) (hN : X.N.Nodup) (ok : BlkOk X.N X.env.scope scope own) (hix : ∀ i ∈ ix, i ∈ own.map (·.2)) (hi : PI X tg iter (tI Z W fi))
    (hg : ∀ (s : Shared) (H : Hp) (C : Addr) (cl : List (Str × Addr)) (fp : List Addr), PG (X.blk s H scope (compEnvC scope cl C X.env) fp) tg (tG Z ix g)) (ht : ∀ (s : Shared) (H : Hp) (C : Addr) (cl : List (Str × Addr)) (fp : List Addr), PTs (X.blk s H scope (compEnvC scope cl C X.env) fp) ifs (tT Z WF t))
    (he : ∀ (s : Shared) (H : Hp) (C : Addr) (cl : List (Str × Addr)) (fp : List Addr), PE (X.blk s H scope (compEnvC scope cl C X.env) fp) elt (tE Z WF f)) (hs : ∀ x, foldedSetIterable iter X.env x = pure x := by intro _; rfl) :
    PE X (.ListComp elt [⟨tg, iter, ifs, 0⟩] scope pos) (tE Z W (eLcC (own.map (·.2)) fi g t f)) :=
  (pe_lc hc hN hi ok hg ht he hs).weak fun σ H Q h => lc_of hix h
theorem tE_settle {f : DE} {σ : L2.St} {H : Hp} {Q : VK} (h : tE Z W (eSettle f) σ H Q) : tE Z W f σ H Q := by
  obtain ⟨A, F, sl, ce, so, hs, p⟩ := h
  refine ⟨A, F, sl, ce, so, hs, ?_⟩
  unfold eSettle at p
  cases e : f sl ce with
  | stuck => rw [e] at p; exact p
  | exc c ds ce1 => rw [e] at p; exact p
  | ok v ce2 =>
    rw [e] at p
    cases v with
    | im d => exact p
    | exn c ds => exact p
    | cell n =>
      intro A' F' H' x pA eF so2 rx
      obtain ⟨a, ha, rfl⟩ := rx
      dsimp only at p
      split at p
      · rename_i acc hacc
        obtain ⟨hF, vs, hH, rr⟩ := so2.ok _ _ _ ha hacc
        have up := same_up (o := .lst vs) hF
        refine p (A'.take ce.length) (upd F' a (.lst vs)) H' (.ref a) ?_ (eF.trans up) ((so2.freeze ha hF hH).take _) ?_
        · obtain ⟨t, rfl⟩ := pA
          rw [← so.len, List.take_left]
          exact List.prefix_refl _
        · unfold VRep Rep
          exact ⟨a, vs, rfl, upd_same, rr.mono up⟩
      · rename_i ks vs hacc
        obtain ⟨hF, o, kvs, vvs, hH, sh, r1, r2⟩ := so2.ok _ _ _ ha hacc
        have up := same_up (o := o) hF
        refine p (A'.take ce.length) (upd F' a o) H' (.ref a) ?_ (eF.trans up) ((so2.freeze ha hF hH).take _) ?_
        · obtain ⟨t, rfl⟩ := pA
          rw [← so.len, List.take_left]
          exact List.prefix_refl _
        · unfold VRep Rep
          exact ⟨a, o, kvs, vvs, rfl, upd_same, sh, r1.mono up, r2.mono up⟩
      · exact p.elim
theorem de_settle {e : Expr} {f : DE} (h : PE X e (tE Z W f)) : PE X e (tE Z W (eSettle f)) := h.weak fun σ H Q q => tE_settle q
theorem ds_setLc {i : Nat} {y : Str} {py spos : Pos} (hc : X.calm = true) (hN : X.N.Nodup) (ok : BlkOk X.N X.env.scope scope own) (hix : ∀ i ∈ ix, i ∈ own.map (·.2)) (hi : PI X tg iter (tI Z W fi))
    (hg : ∀ (s : Shared) (H : Hp) (C : Addr) (cl : List (Str × Addr)) (fp : List Addr), PG (X.blk s H scope (compEnvC scope cl C X.env) fp) tg (tG Z ix g)) (ht : ∀ (s : Shared) (H : Hp) (C : Addr) (cl : List (Str × Addr)) (fp : List Addr), PTs (X.blk s H scope (compEnvC scope cl C X.env) fp) ifs (tT Z WF t))
    (he : ∀ (s : Shared) (H : Hp) (C : Addr) (cl : List (Str × Addr)) (fp : List Addr), PE (X.blk s H scope (compEnvC scope cl C X.env) fp) elt (tE Z WF f)) (hy : X.N[i]? = some y := by rfl) (hyl : X.env.scope.names.lookup y = some .local := by rfl)
    (hsw : swapsWith (.ListComp elt [⟨tg, iter, ifs, 0⟩] scope pos) (some (.Name y py)) spos.line X.env = pure true := by exact sw_true rfl rfl rfl (by decide +kernel)) (hs : ∀ x, foldedSetIterable iter X.env x = pure x := by intro _; rfl) :
    PS X (.Assign [.Name y py] (.ListComp elt [⟨tg, iter, ifs, 0⟩] scope pos) spos) (tS Z W (sSet i (eLcC (own.map (·.2)) fi g t f))) :=
  (ps_setLc hc hN hy hyl hsw hi ok hg ht he hs).weak fun D σ H h => lc_of hix (tE_imp (fun x H1 ⟨A, F, sl, ce, v, so, hs, r, p⟩ => nxS so (hs.set r) p) (tS1 h))
theorem ds_setLcI {i : Nat} {y : Str} {py spos : Pos} (hc : X.calm = true) (hN : X.N.Nodup) (ok : BlkOk X.N X.env.scope scope own) (hix : ∀ i ∈ ix, i ∈ own.map (·.2)) (hi : PI X tg iter (tI Z W fi))
    (hg : ∀ (s : Shared) (H : Hp) (C : Addr) (cl : List (Str × Addr)) (fp : List Addr), PG (X.blk s H scope (compEnvC scope cl C X.env) fp) tg (tG Z ix g)) (ht : ∀ (s : Shared) (H : Hp) (C : Addr) (cl : List (Str × Addr)) (fp : List Addr), PTs (X.blk s H scope (compEnvC scope cl C X.env) fp) ifs (tT Z WF t))
    (he : ∀ (s : Shared) (H : Hp) (C : Addr) (cl : List (Str × Addr)) (fp : List Addr), PE (X.blk s H scope (compEnvC scope cl C X.env) fp) elt (tE Z WF f)) (hy : X.N[i]? = some y := by rfl) (hyl : X.env.scope.names.lookup y = some .local := by rfl)
    (hsw : swapsWith (.ListComp elt [⟨tg, iter, ifs, 0⟩] scope pos) (some (.Name y py)) spos.line X.env = pure true := by exact sw_true rfl rfl rfl (by decide +kernel)) (hs : ∀ x, foldedSetIterable iter X.env x = pure x := by intro _; rfl) :
    PS X (.Assign [.Name y py] (.ListComp elt [⟨tg, iter, ifs, 0⟩] scope pos) spos) (tS Z W (sSet i (eSettle (eLcC (own.map (·.2)) fi g t f)))) :=
  (ps_setLc hc hN hy hyl hsw hi ok hg ht he hs).weak fun D σ H h => lc_of hix (tE_settle (tE_imp (fun x H1 ⟨A, F, sl, ce, v, so, hs, r, p⟩ => nxS so (hs.set r) p) (tS1 h)))
end
end ZZ
set_option Elab.async false
set_option linter.all false
set_option maxRecDepth 100000
namespace L2
open PySem PySem.Spec
section
variable {X : Cx} {CX : CXT} {k : Nat} {f C : Addr} {fd : FuncData} {ps : List Str} {sp : Sp} {dvs : List V} {ds : List Value} {E : L2.St → XK} {x m : Str} {p pos apos : Pos} {e o : Expr} {es : List Expr} {ta : TE} {t : TA}
def tMethZS (C : Addr) (m : Str) (sp : Sp) (dvs : List V) (E : L2.St → XK) (ta : TE) (t : TA) : TE := fun σ H Q => ta σ H fun x H1 => ∃ a dx fs, x = .ref a ∧ H1 a = some (.ins C dx fs) ∧ fs.lookup m = none ∧
  t σ H1 fun vs H2 => sp (x :: (vs ++ dvs)) H2 Q (E σ)
theorem pe_methZS {pl : Sem Bool} (he : PE X o ta) (c : Cls X.K C) (hm : Meth X.K C m f) (F : FnOk X.prog X.w X.K X.mg X.base CX k f fd ps sp) (hr : Room k X.A) (hb : Binds X.K fd ps ds) (hd : Vals dvs ds) (hx : ∀ σ, PassesAt CX X σ (E σ)) (ha : PA X (e :: es) t)
    (hst : starEach (e :: es) X.env = (false, eval e X.env) :: starEach es X.env := by rfl) (hpl : (backTo pos (starEach es X.env)).any (·.1) = false := by rfl)
    (ht : eval (.Call (.Attribute o m apos) (e :: es) [] pos) X.env = (do
      let ov ← eval o X.env
      standAt apos.atName
      let (f, first) ← holding [ov] (getMethod ov m pl)
      callWith pos f first (backTo pos (starEach (e :: es) X.env)) (backToKw pos (keywordEach [] X.env))) := by rfl) :
    PE X (.Call (.Attribute o m apos) (e :: es) [] pos) (tMethZS C m sp dvs E ta t) := by
  refine ⟨fun pins s σ H Q I h => ?_⟩
  refine PySem.W.methodCall_KW (pl := pl) (thn (he.run pins s σ H _ I h) fun u s1 ⟨x, H1, I1, rx, a, dx, fs, ex, ea, l, q⟩ => ?_) ht
  subst ex
  obtain rfl : u = Value.ref a := rx
  refine getmeth_ok I1 ea c hm l ?_
  refine PySem.W.callWith_K (first := [.ref a]) (h₀ := X.base) I.ok.mod.kin hm.kp (thn (ha.run pos pins s1 σ H1 _ I1 q) fun us s2 ⟨vs, H2, I2, r, q2⟩ => ⟨I2.kIn, ?_⟩) hst hpl
  exact run_fnSD (us := .ref a :: us) (vs := .ref a :: vs) F hr hb hd (hx σ) I2 (.cons rfl r) q2
def tMakeZS (C : Addr) (sp : Sp) (dvs : List V) (E : L2.St → XK) (t : TA) : TE := fun σ H Q => t σ H fun vs H1 => ∀ x dx, H1 x = none → H1 dx = none → dx ≠ x →
  sp (.ref x :: (vs ++ dvs)) (upd (upd H1 dx (.own x)) x (.ins C dx [])) (fun v H2 => v = .non ∧ Q (.ref x) H2) (E σ)
theorem run_makeZS {pins : List (Addr × Obj)} {σ : L2.St} {H : Hp} {s : Shared} {Q : VK} {us : List Value} {vs : List V} (M : Mk X.K C f) (F : FnOk X.prog X.w X.K X.mg X.base CX k f fd ps sp) (hr : Room (k + 1) X.A) (hb : Binds X.K fd ps ds) (hd : Vals dvs ds)
    (hx : PassesAt CX X σ (E σ)) (I : Inv X pins σ H s) (r : Vals vs us)
    (h : ∀ x dx, H x = none → H dx = none → dx ≠ x → sp (.ref x :: (vs ++ dvs)) (upd (upd H dx (.own x)) x (.ins C dx [])) (fun v H2 => v = .non ∧ Q (.ref x) H2) (E σ)) :
    wpAny (model X.prog X.w) X.A (call (.ref C) us) (EP X pins σ Q) X.xe s := by
  have hq := h (s.heap.objs.size + 1) s.heap.objs.size (I.hok.fresh (Nat.le_succ _)) (I.hok.fresh (Nat.le_refl _)) (Nat.ne_of_lt (Nat.lt_succ_self _))
  have I2 := Inv.made (C := C) I
  have r2 : Vals (V.ref (s.heap.objs.size + 1) :: (vs ++ dvs)) (Value.ref (s.heap.objs.size + 1) :: (us ++ ds)) := .cons rfl (r.append hd)
  have hl : (Value.ref (s.heap.objs.size + 1) :: us ++ ds).length = ps.length := by
    have e := r2.length
    rw [F.len _ _ _ _ hq] at e
    exact e.symm
  refine wpAny_call (make_map (f := f) I.kIn M.makes M.init (beq_iff_eq.mp M.fn) (codeAny_mono (F.run _ X.stack _ _ ⟨Value.ref (s.heap.objs.size + 1) :: us, []⟩ (Value.ref (s.heap.objs.size + 1) :: (us ++ ds)) _ _ (E σ) (hr.make C us [])
    (I2.env0.make C us []) (hb _ (Value.ref (s.heap.objs.size + 1) :: us) I2.kIn hl) r2 hq) fun r s' hq' => ?_))
  cases r with
  | error e => exact hx pins _ _ e s' I2 hq'
  | ok fl =>
    cases fl with
    | ret u =>
      obtain ⟨v, H', I3, rv, ev, q3⟩ := I2.after hq'
      subst ev
      exact ⟨rv, ⟨V.ref (s.heap.objs.size + 1), H', I3, rfl, q3⟩⟩
    | next => exact False.elim hq'
    | brk => exact False.elim hq'
    | cont => exact False.elim hq'
theorem pe_makeZS (M : Mk X.K C f) (F : FnOk X.prog X.w X.K X.mg X.base CX k f fd ps sp) (hr : Room (k + 1) X.A) (hg : Gl X x) (hm : X.mg x = some (.ref C)) (hb : Binds X.K fd ps ds) (hd : Vals dvs ds) (hx : ∀ σ, PassesAt CX X σ (E σ))
    (ha : PA X (e :: es) t) (hdb : (x == ("__debug__" : Str)) = false := by decide) (he : starEach (e :: es) X.env = (false, eval e X.env) :: starEach es X.env := by rfl) (hpl : (backTo pos (starEach es X.env)).any (·.1) = false := by rfl) :
    PE X (.Call (.Name x p) (e :: es) [] pos) (tMakeZS C sp dvs E t) := by
  refine ⟨fun pins s σ H Q I h => ?_⟩
  refine wpAny_Call_Name_kw (ld_glob I hg hm ?_ hdb)
  refine PySem.W.callWith_K (h₀ := X.base) I.ok.mod.kin M.kp (thn (ha.run pos pins s σ H _ I h) fun us s1 ⟨vs, H1, I1, r, q⟩ => ⟨I1.kIn, ?_⟩) he hpl
  exact run_makeZS M F hr hb hd (hx σ) I1 r q
end
end L2
namespace ZZ
open PySem PySem.Spec L2
abbrev Zx.z (Z : Zx) : Zy := ⟨Z, none⟩
abbrev DF : Type := List Val → List Cell → EOut
/-- a def's promise: it computes fh -/
def spD (Z : Zx) (fh : DF) (n : Nat) : Sp := fun vs H Q E => ∃ A F ce ds, SO Z A F ce H ∧ VReps Z.z A F ds vs ∧ ds.length = n ∧ PostE Z.z A F (fun c d _ H => E c d H) [] Q (fh ds ce)
/-- a def's value: its body run, the store cut -/
def finD (n : Nat) (v : Val) (ce : List Cell) : EOut := match v with
  | .im d => .ok (.im d) (ce.take n)
  | .cell k => if k < n then .ok (.cell k) (ce.take n) else (match ce[k]? with
    | some (.ptr _) => .stuck
    | some c => .ok (.cell n) (ce.take n ++ [c])
    | none => .stuck)
  | .exn _ _ => .stuck
def mkD (nsl : Nat) (body : DSt) : DF := fun ds ce => match body (ds.map some ++ List.replicate (nsl - ds.length) none) ce with
  | .nx _ ce' => finD ce.length (.im .non) ce'
  | .rt v ce' => finD ce.length v ce'
  | .exc c es _ ce' => .exc c es (ce'.take ce.length)
  | _ => .stuck
section
variable {Z : Zx} {A A' : List Addr} {F F' H : Hp} {ce : List Cell} {sl : Sl} {σ : L2.St} {W : WX} {Q Q' : VK}
theorem SO.cut {n : Nat} (so : SO Z A' F ce H) (p : A <+: A') (hn : A.length = n) : SO Z A F (ce.take n) H := by
  have := SO.take (Z := Z.z) n so
  obtain ⟨t, rfl⟩ := p
  rw [← hn, List.take_left] at this
  rw [← hn]
  exact this
theorem vrep_z {Y : Zy} (hy : Y.toZx = Z) {v : Val} {x : V} (h1 : VRep Z.z A F v x) : VRep Y A F v x := by
  subst hy
  cases v with
  | im d => exact h1
  | cell k => exact h1
  | exn c ds => obtain ⟨a, dx, h, _⟩ := h1; cases h
/-- values that a callee may take -/
def plainV : Val → Bool
  | .exn _ _ => false
  | _ => true
theorem VReps.nohd {Y : Zy} : ∀ {vs : List Val} {xs : List V}, vs.all plainV = true → VReps Y A F vs xs → VReps (Zx.z Y.toZx) A F vs xs
  | [], _, _, h => h
  | v :: vs, _, hp, ⟨x, r, e, h1, h2⟩ => by
    simp only [List.all_cons, Bool.and_eq_true] at hp
    refine ⟨x, r, e, ?_, VReps.nohd hp.2 h2⟩
    cases v with
    | im d => exact h1
    | cell k => exact h1
    | exn c ds => cases hp.1
theorem vreps_start {N : List Str} {ds : List Val} {vs : List V} (h : VReps Z.z A F ds vs) : SL Z.z A F (ds.map some ++ List.replicate (N.length - ds.length) none) (L2.start N vs) := by
  have hl := h.length
  unfold L2.start
  rw [hl]
  refine ⟨by simp [hl], ?_⟩
  have key : ∀ {ds : List Val} {vs : List V} (m : Nat), VReps Z.z A F ds vs → ∀ (i : Nat) (v : Val), (ds.map some ++ List.replicate m none)[i]? = some (some v) → ∃ x, (vs.map some ++ List.replicate m none)[i]? = some (some x) ∧ VRep Z.z A F v x := by
    intro ds
    induction ds with
    | nil =>
      intro vs m h i v e
      unfold VReps at h
      subst h
      simp [List.getElem?_replicate] at e
    | cons d ds ih =>
      intro vs m h i v e
      obtain ⟨x, r, rfl, h1, h2⟩ := h
      cases i with
      | zero =>
        simp at e
        subst e
        exact ⟨x, by simp, h1⟩
      | succ i =>
        obtain ⟨y, e2, r2⟩ := ih m h2 i v (by simpa using e)
        exact ⟨y, by simpa using e2, r2⟩
  exact key _ h
theorem fin_ok {n : Nat} {v : Val} {ce' : List Cell} {H' : Hp} {x : V} (hn : A.length = n) (p : A <+: A') (e : Same F F') (so : SO Z A' F' ce' H') (r : VRep Z.z A' F' v x) (q : PostE Z.z A F W σ Q (finD n v ce')) : Q x H' := by
  cases v with
  | im d => exact q A F' H' x (List.prefix_refl _) e (so.cut p hn) r
  | exn c ds => exact q.elim
  | cell k =>
    unfold finD at q
    obtain ⟨a, ha, rfl⟩ := r
    dsimp only at q
    by_cases hk : k < n
    · rw [if_pos hk] at q
      refine q A F' H' _ (List.prefix_refl _) e (so.cut p hn) ⟨a, ?_, rfl⟩
      obtain ⟨t, rfl⟩ := p
      rw [List.getElem?_append_left (by omega)] at ha
      exact ha
    · rw [if_neg hk] at q
      have hlen : k < ce'.length := by rw [← so.len]; exact (List.getElem?_eq_some_iff.mp ha).1
      rw [List.getElem?_eq_getElem hlen] at q
      have s2 := so.cut p hn
      have hc2 := so.ok k a _ ha (List.getElem?_eq_getElem hlen)
      have hnp : ∀ ks, ce'[k] ≠ .ptr ks := fun ks e => by
        rw [e] at q
        exact q.elim
      have q2 : PostE Z.z A F W σ Q (.ok (.cell n) (ce'.take n ++ [ce'[k]])) := by
        cases hc : ce'[k] with
        | ptr ks => exact absurd hc (hnp ks)
        | dead => rw [hc] at q; exact q
        | lst ds => rw [hc] at q; exact q
        | ins c ds => rw [hc] at q; exact q
        | dct ks vs => rw [hc] at q; exact q
      refine q2 (A ++ [a]) F' H' _ (List.prefix_append _ _) e ⟨s2.sub, by simp [s2.len], ?_, fun j b c h1 h2 => ?_⟩ ⟨a, by simp [← hn], rfl⟩
      · refine List.nodup_append.mpr ⟨s2.nd, by simp, fun b hb c hc ebc => ?_⟩
        simp at hc
        subst hc
        subst ebc
        obtain ⟨t, rfl⟩ := p
        obtain ⟨j, hj⟩ := List.getElem?_of_mem hb
        have hjl := (List.getElem?_eq_some_iff.mp hj).1
        have hj' : (A ++ t)[j]? = some b := by rw [List.getElem?_append_left hjl]; exact hj
        have := (List.getElem?_inj (List.getElem?_eq_some_iff.mp hj').1 so.nd).mp (hj'.trans ha.symm)
        omega
      · by_cases hj : j < A.length
        · rw [List.getElem?_append_left hj] at h1
          rw [List.getElem?_append_left (by rw [← s2.len]; exact hj)] at h2
          exact (s2.ok j b c h1 h2).mono (List.prefix_append _ _) (Same.refl _) rfl id
        · rw [List.getElem?_append_right (by omega)] at h1
          rw [List.getElem?_append_right (by rw [← s2.len]; omega), ← s2.len] at h2
          have hj0 : j - A.length = 0 := by
            have := (List.getElem?_eq_some_iff.mp h1).1
            simp at this
            omega
          rw [hj0] at h1 h2
          simp at h1 h2
          subst h1 h2
          cases hc : ce'[k] with
          | ptr ks => exact absurd hc (hnp ks)
          | dead => rw [hc] at hc2; exact hc2
          | lst ds => rw [hc] at hc2; exact hc2
          | ins c ds => rw [hc] at hc2; exact hc2
          | dct ks vs => rw [hc] at hc2; exact hc2
end
section
variable {P : Program} {w : World} {K : PySem.W.Frag} {mg : Str → Option Value} {base : Heap}
/-- a def keeps its promise: its body's rule -/
theorem fnD {Z : Zx} {x qual : Str} {st : Stmt} {f : Addr} {fd : FuncData} {N ps : List Str} {k nsl n : Nat} {body : DSt} (Fn : Fun K x qual st f fd) (S : FnScope N ps (defScope st)) (hN : N.length = nsl) (hn : ps.length = n)
    (hbody : ∀ (cdv : Value) (A : Around) (outer : List Env) (s : Shared) (H : Hp) (E : XK), Room k (A.deeper (PyProof.Rows.envOfC qual (defScope st) s.heap.objs.size f cdv)) →
      PSs (cxOf (L2N.CX P w) P w K mg base N qual (defScope st) f cdv A outer s H E) (defBody st) (tS Z.z (fun cls d _ H => E cls d H) body)) : FnOk P w K mg base (L2N.CX P w) (k + 1) f fd ps (spD Z (mkD nsl body) n) := by
  subst hN hn
  obtain ⟨oc, od, kV, doc, pm, an, cdv, ct, osl, rfl, lk, hcd⟩ := Fn.ex
  refine fn_of lk hcd S (fun vs H Q E ⟨A, F, ce, ds, so, r, l, p⟩ => by rw [← r.length]; exact l) fun A outer s H vs Q E hr ⟨A0, F0, ce, ds, so, r, l, p⟩ => ⟨_, hbody cdv A outer s H E hr, A0, F0, _, ce, so, vreps_start r, ?_⟩
  unfold mkD at p
  have hn := so.len
  cases e : body (ds.map some ++ List.replicate (N.length - ds.length) none) ce with
  | nx sl ce' => rw [e] at p; exact fun A' F' H' σ' pA eF so' hs' => fin_ok hn pA eF so' (show VRep Z.z A' F' (.im .non) .non by unfold VRep Rep; rfl) p
  | rt v ce' => rw [e] at p; exact fun A' F' H' x pA eF so' r' => fin_ok hn pA eF so' r' p
  | exc c es sl ce' => rw [e] at p; exact fun A' F' H' σ' dx pA eF so' hs' xo => p A0 F' H' dx (List.prefix_refl _) eF (so'.cut pA hn) xo
  | bk sl ce' => rw [e] at p; exact p.elim
  | ct sl ce' => rw [e] at p; exact p.elim
  | stuck => rw [e] at p; exact p.elim
end
def kCall (fh : DF) (vs : List Val) : DE := fun _ ce => if vs.all plainV then fh vs ce else .stuck
/-- o.m(..): o is an instance of the class c -/
def isC (c : Nat) (ce : List Cell) : Val → Bool
  | .im (.ins d _) => d == c
  | .cell k => match ce[k]? with
    | some (.ins d _) => d == c
    | _ => false
  | _ => false
def kMeth (fh : DF) (v : Val) (vs : List Val) : DE := fun _ ce => if (v :: vs).all plainV then fh (v :: vs) ce else .stuck
/-- C(..), settled -/
def kMake (c nf : Nat) (fh : DF) (vs : List Val) : DE := fun _ ce => if vs.all plainV then (match fh (.cell ce.length :: vs) (ce ++ [.ins c []]) with
  | .ok (.im .non) ce' => match ce'[ce.length]? with
    | some (.ins d ds) => if d = c ∧ ds.length = nf then .ok (.im (.ins c ds)) (ce'.take ce.length) else .stuck
    | _ => .stuck
  | .exc d ds ce' => .exc d ds (ce'.take ce.length)
  | _ => .stuck) else .stuck
section
variable {X : Cx} {Z : Zy} {W : WX} {k : Nat} {fa C : Addr} {fd : FuncData} {ps : List Str} {fh : DF} {x m : Str} {p pos apos : Pos} {e o : Expr} {es : List Expr} {f : DE} {fs : List DE} {n : Nat}
theorem spD_call {A : List Addr} {F : Hp} {sl : Sl} {ce : List Cell} {σ : L2.St} {Q : VK} {vs : List Val} {xs : List V} {H : Hp} (so : SO Z.toZx A F ce H) (r : VReps Z A F vs xs) (hl : vs.length = n) (pl : vs.all plainV = true) (q : PostE Z A F W σ Q (fh vs ce)) : spD Z.toZx fh n xs H Q (WE W σ) := by
  refine ⟨A, F, ce, vs, so, r.nohd pl, hl, ?_⟩
  cases e : fh vs ce with
  | ok v ce' => rw [e] at q; exact fun A' F' H' x pA eF so' r' => q A' F' H' x pA eF so' (vrep_z rfl r')
  | exc c ds ce' => rw [e] at q; exact q
  | stuck => rw [e] at q; exact q
theorem de_call (F : FnOk X.prog X.w X.K X.mg X.base (L2N.CX X.prog X.w) k fa fd ps (spD Z.toZx fh n)) (hr : Room k X.A) (hm : X.mg x = some (.ref fa)) (hk : PySem.W.keepIn X.K (.ref fa) = true) (hb : Binds X.K fd ps []) (tw : TW X W) (ha : PA X (e :: es) (tArgs Z W fs))
    (hg : Gl X x := by rfl) (hl : fs.length = n := by rfl) (hdb : (x == ("__debug__" : Str)) = false := by decide) (he : starEach (e :: es) X.env = (false, eval e X.env) :: starEach es X.env := by rfl) (hpl : (backTo pos (starEach es X.env)).any (·.1) = false := by rfl) :
    PE X (.Call (.Name x p) (e :: es) [] pos) (tE Z W (eArgs fs (kCall fh))) :=
  (pe_callS F hr hg hm hk hb tw ha hdb he hpl).weak fun σ H Q h => tArgs_imp (fun xs H1 ⟨A, F, sl, ce, vs, so, hs, r, l, q⟩ => by
    unfold kCall at q
    by_cases hp : vs.all plainV = true
    · rw [if_pos hp] at q
      exact spD_call (sl := sl) so r (by rw [l, hl]) hp q
    · rw [if_neg hp] at q
      exact q.elim) (tN h)
/-- a class's plain facts -/
structure ClsOk (K : PySem.W.Frag) (Z : Zx) (c : Nat) : Prop where
  cls : Cls K (Z.cl c)
  nd : (Z.fl c).Nodup
theorem take_lookup {m : Str} {fs : List (Str × V)} {l : List Str} {n : Nat} (e : fs.map (·.1) = l.take n) (h : m ∉ l) : fs.lookup m = none := by
  have : m ∉ fs.map (·.1) := by rw [e]; exact fun z => h (List.mem_of_mem_take z)
  rw [List.lookup_eq_none_iff]
  intro p hp
  refine bne_iff_ne.mpr fun z => this ?_
  rw [z]
  exact List.mem_map_of_mem hp
theorem isC_rd {A F ce H c v y} (so : SO Z.toZx A F ce H) (r : VRep Z A F v y) (h : isC c ce v = true) : ∃ a dx fs n, y = .ref a ∧ H a = some (.ins (Z.cl c) dx fs) ∧ fs.map (·.1) = (Z.fl c).take n := by
  unfold isC at h
  split at h
  · rename_i d ds
    unfold VRep Rep at r
    obtain ⟨a, dx, fs, rfl, h1, h2, h3⟩ := r
    have := beq_iff_eq.mp h
    subst this
    exact ⟨a, dx, fs, (Z.fl d).length, rfl, so.sub _ _ h1, by rw [h2, List.take_length]⟩
  · split at h
    · rename_i k d ds hk
      have := beq_iff_eq.mp h
      subst this
      obtain ⟨a, ha, rfl⟩ := r
      obtain ⟨_, dx, fs, h1, h2, h3⟩ := so.ok _ _ _ ha hk
      exact ⟨a, dx, fs, _, rfl, h1, h2⟩
    · cases h
  · cases h
theorem isC_plain {ce c v} (h : isC c ce v = true) : plainV v = true := by
  unfold isC at h
  split at h <;> first | rfl | cases h
theorem de_meth {pl : Sem Bool} {c : Nat} (he : PE X o (tE Z W f)) (hc : ClsOk X.K Z.toZx c) (hmt : Meth X.K (Z.cl c) m fa) (hno : m ∉ Z.fl c) (F : FnOk X.prog X.w X.K X.mg X.base (L2N.CX X.prog X.w) k fa fd ps (spD Z.toZx fh (n + 1))) (hr : Room k X.A) (hb : Binds X.K fd ps []) (tw : TW X W) (ha : PA X (e :: es) (tArgs Z W fs))
    (hl : fs.length = n := by rfl) (hst : starEach (e :: es) X.env = (false, eval e X.env) :: starEach es X.env := by rfl) (hpl : (backTo pos (starEach es X.env)).any (·.1) = false := by rfl)
    (ht : eval (.Call (.Attribute o m apos) (e :: es) [] pos) X.env = (do
      let ov ← eval o X.env
      standAt apos.atName
      let (f, first) ← holding [ov] (getMethod ov m pl)
      callWith pos f first (backTo pos (starEach (e :: es) X.env)) (backToKw pos (keywordEach [] X.env))) := by rfl) :
    PE X (.Call (.Attribute o m apos) (e :: es) [] pos) (tE Z W (eMth (isC c) (kMeth fh) f fs)) :=
  (pe_methZS he hc.cls hmt F hr hb .nil tw ha hst hpl ht).weak fun σ H Q q => tE_imp (fun x H1 ⟨A, F, sl, ce, v, so, hs, r, p⟩ => by
    by_cases hi : isC c ce v = true
    · rw [if_pos hi] at p
      obtain ⟨a, dx, fs', n', rfl, h1, h2⟩ := isC_rd so r hi
      refine ⟨a, dx, fs', rfl, h1, take_lookup h2 hno, tArgs_imp (fun xs H2 ⟨A2, F2, ce2, vs, p2, e2, s2, r2, l2, q2⟩ => ?_) (tArgs_ok so hs p)⟩
      rw [List.append_nil]
      unfold kMeth at q2
      by_cases hp : (v :: vs).all plainV = true
      · rw [if_pos hp] at q2
        exact spD_call (sl := sl) (vs := v :: vs) s2 ⟨_, _, rfl, r.mono p2 e2, r2⟩ (by simp [l2, hl]) hp q2
      · rw [if_neg hp] at q2
        exact q2.elim
    · rw [if_neg hi] at p
      exact p.elim) (tE1 q)
theorem de_make {c nf : Nat} (M : Mk X.K (Z.cl c) fa) (F : FnOk X.prog X.w X.K X.mg X.base (L2N.CX X.prog X.w) k fa fd ps (spD Z.toZx fh (n + 1))) (hr : Room (k + 1) X.A) (hm : X.mg x = some (.ref (Z.cl c))) (hb : Binds X.K fd ps []) (tw : TW X W) (ha : PA X (e :: es) (tArgs Z W fs)) (hfl : (Z.fl c).length = nf)
    (hg : Gl X x := by rfl) (hl : fs.length = n := by rfl) (hdb : (x == ("__debug__" : Str)) = false := by decide) (he : starEach (e :: es) X.env = (false, eval e X.env) :: starEach es X.env := by rfl) (hpl : (backTo pos (starEach es X.env)).any (·.1) = false := by rfl) :
    PE X (.Call (.Name x p) (e :: es) [] pos) (tE Z W (eArgs fs (kMake c nf fh))) :=
  (pe_makeZS M F hr hg hm hb .nil tw ha hdb he hpl).weak fun σ H Q h => tArgs_imp (fun xs H1 ⟨A, F, sl, ce, vs, so, hs, r, l, q⟩ => by
    intro a dx ha' hdx hne
    rw [List.append_nil]
    unfold kMake at q
    by_cases hp : vs.all plainV = true
    · rw [if_pos hp] at q
      -- the new instance's dict, then the instance as a cell
      have so1 := so.new (o := .own a) hdx
      have fa1 : (upd F dx (.own a)) a = none := by rw [upd_ne (Ne.symm hne)]; exact so.fnone ha'
      have ha1 : (upd H1 dx (.own a)) a = none := by rw [upd_ne (Ne.symm hne)]; exact ha'
      have so2 := so1.newCell (o := .ins (Z.cl c) dx []) (c := .ins c []) ha1 ⟨so1.fnone ha1, dx, [], upd_same, rfl, reps_nil⟩
      have up1 : Same F (upd F dx (.own a)) := same_up (so.fnone hdx)
      refine ⟨A ++ [a], upd F dx (.own a), ce ++ [.ins c []], .cell ce.length :: vs, so2, ⟨.ref a, xs, rfl, ⟨a, by rw [← so.len]; simp, rfl⟩, (r.mono (List.prefix_append _ _) up1).nohd hp⟩, by simp [l, hl], ?_⟩
      cases e : fh (.cell ce.length :: vs) (ce ++ [.ins c []]) with
      | stuck => rw [e] at q; exact q.elim
      | exc d ds ce' =>
        rw [e] at q
        exact fun A' F' H' dx' pA eF so' xo => q A F' H' dx' (List.prefix_refl _) (up1.trans eF) (so'.cut ((List.prefix_append _ _).trans pA) so.len) xo
      | ok v ce' =>
        rw [e] at q
        cases v with
        | cell n => exact q.elim
        | exn c ds => exact q.elim
        | im d => cases d with
          | non =>
            intro A' F' H' y pA eF so' ry
            refine ⟨rep_non (Z := Z.toZx.z) ry, ?_⟩
            have hAa : A'[ce.length]? = some a := pre_get pA (by rw [← so.len]; simp)
            dsimp only at q
            split at q
            · rename_i d ds hds
              by_cases hdc : d = c ∧ ds.length = nf
              · rw [if_pos hdc] at q
                obtain ⟨rfl, hll⟩ := hdc
                obtain ⟨hF, dx', fs', hH, hfs, rr⟩ := so'.ok _ _ _ hAa hds
                have up := same_up (o := .ins (Z.cl d) dx' fs') hF
                have s2 := (so'.freeze hAa hF hH).cut (A := A) ((List.prefix_append _ _).trans pA) so.len
                have e3 : (ce'.set ce.length .dead).take ce.length = ce'.take ce.length := by
                  refine List.ext_getElem? fun j => ?_
                  by_cases hj : j < ce.length
                  · rw [List.getElem?_take_of_lt hj, List.getElem?_take_of_lt hj, List.getElem?_set_ne (by omega)]
                  · rw [List.getElem?_eq_none (by simp; omega), List.getElem?_eq_none (by simp; omega)]
                rw [e3] at s2
                refine q A _ H' (.ref a) (List.prefix_refl _) ((up1.trans eF).trans up) s2 ?_
                unfold VRep Rep
                exact ⟨a, dx', fs', rfl, upd_same, by rw [hfs, hll, ← hfl, List.take_length], rr.mono up⟩
              · rw [if_neg hdc] at q
                exact q.elim
            · exact q.elim
          | _ => exact q.elim
    · rw [if_neg hp] at q
      exact q.elim) (tN h)
end
end ZZ
set_option Elab.async false
set_option linter.all false
set_option maxRecDepth 100000
namespace ZZ
open PySem PySem.Spec L2
/-- the i-th field of an instance of the class c -/
def kFld (c i : Nat) (v : Val) : DE := fun _ ce => match v with
  | .im (.ins d ds) => if d = c then (match ds[i]? with
    | some x => .ok (.im x) ce
    | none => .stuck) else .stuck
  | .cell k => match ce[k]? with
    | some (.ins d ds) => if d = c then (match ds[i]? with
      | some x => .ok (.im x) ce
      | none => .stuck) else .stuck
    | _ => .stuck
  | _ => .stuck
theorem lookup_ix {Z : Zx} {F : Hp} : ∀ {l : List Str} {fs : List (Str × V)} {ds : List D} {i : Nat} {f : Str} {x : D} {n : Nat}, l.Nodup → fs.map (·.1) = l.take n → Reps Z F ds (fs.map (·.2)) → l[i]? = some f → ds[i]? = some x → ∃ v, fs.lookup f = some v ∧ Rep Z F x v
  | l, [], ds, i, f, x, n, nd, e, r, h1, h2 => by
    rw [List.map_nil] at r
    have := r.length
    have : ds = [] := List.eq_nil_of_length_eq_zero (by simpa using this)
    subst this
    simp at h2
  | [], p :: fs, ds, i, f, x, n, nd, e, r, h1, h2 => by simp at h1
  | g :: l, (a, b) :: fs, ds, i, f, x, 0, nd, e, r, h1, h2 => by simp at e
  | g :: l, (a, b) :: fs, [], i, f, x, n + 1, nd, e, r, h1, h2 => by simp at h2
  | g :: l, (a, b) :: fs, d :: ds, 0, f, x, n + 1, nd, e, r, h1, h2 => by
    simp at e h1 h2
    subst h1 h2
    obtain ⟨v, r', e2, h3, h4⟩ := reps_cons_inv r
    simp at e2
    refine ⟨b, ?_, by rw [e2.1]; exact h3⟩
    simp [List.lookup, e.1]
  | g :: l, (a, b) :: fs, d :: ds, i + 1, f, x, n + 1, nd, e, r, h1, h2 => by
    simp at e h1 h2
    obtain ⟨v, r', e2, h3, h4⟩ := reps_cons_inv r
    simp at e2
    have nd' := List.nodup_cons.mp nd
    obtain ⟨v', h5, h6⟩ := lookup_ix (fs := fs) (n := n) nd'.2 e.2 (by rw [e2.2]; exact h4) h1 h2
    refine ⟨v', ?_, h6⟩
    have hne : f ≠ a := fun z => nd'.1 (by
      rw [← e.1, ← z]
      exact List.mem_of_getElem? h1)
    have : (f == a) = false := by simpa using hne
    simp [List.lookup, this, h5]
section
variable {X : Cx} {Z : Zy} {W : WX} {e o : Expr} {f g : DE} {pos : Pos} {c i : Nat} {nm : Str}
theorem de_fld (he : PE X e (tE Z W f)) (hK : X.K = Z.K) (hc : ClsOk X.K Z.toZx c) (hn : NoAttr X.K (Z.cl c) nm) (hi : (Z.fl c)[i]? = some nm) (hb : attributeBase e nm X.env (eval e X.env) = eval e X.env := by rfl) : PE X (.Attribute e nm pos) (tE Z W (eUn (kFld c i) f)) :=
  (pe_fld he hb).weak fun σ H Q q => tE_imp (fun x H1 ⟨A, F, sl, ce, v, so, hs, r, p⟩ => by
    unfold kFld at p
    split at p
    · rename_i d ds
      by_cases hd : d = c
      · rw [if_pos hd] at p
        subst hd
        split at p
        · rename_i y hy
          unfold VRep Rep at r
          obtain ⟨a, dx, fs, rfl, h1, h2, h3⟩ := r
          obtain ⟨v, h4, h5⟩ := lookup_ix (n := (Z.fl d).length) hc.nd (by rw [h2, List.take_length]) h3 hi hy
          exact ⟨a, _, dx, fs, v, rfl, so.sub _ _ h1, hc.cls, hn, h4, fin_flat so p h5⟩
        · exact p.elim
      · rw [if_neg hd] at p
        exact p.elim
    · split at p
      · rename_i k d ds hk
        by_cases hd : d = c
        · rw [if_pos hd] at p
          subst hd
          split at p
          · rename_i y hy
            obtain ⟨a, ha, rfl⟩ := r
            obtain ⟨_, dx, fs, h1, h2, h3⟩ := so.ok _ _ _ ha hk
            obtain ⟨v, h4, h5⟩ := lookup_ix hc.nd h2 h3 hi hy
            exact ⟨a, _, dx, fs, v, rfl, h1, hc.cls, hn, h4, fin_flat so p h5⟩
          · exact p.elim
        · rw [if_neg hd] at p
          exact p.elim
      · exact p.elim
    · exact p.elim) (tE1 q)
/-- self.f = e: f is the i-th field -/
def sFldSet (c i : Nat) (f g : DE) : DSt := sExp g fun u => sExp f fun v sl ce => match v, u with
  | .cell k, .im d => match ce[k]? with
    | some (.ins c' ds) => if c' = c then (if i < ds.length then .nx sl (ce.set k (.ins c (ds.set i d))) else if i = ds.length then .nx sl (ce.set k (.ins c (ds ++ [d]))) else .stuck) else .stuck
    | _ => .stuck
  | _, _ => .stuck
theorem putF_old {Z : Zx} {F : Hp} : ∀ {l : List Str} {fs : List (Str × V)} {ds : List D} {i : Nat} {nm : Str} {x : D} {v : V} {n : Nat}, l.Nodup → fs.map (·.1) = l.take n → Reps Z F ds (fs.map (·.2)) → l[i]? = some nm → i < ds.length → Rep Z F x v →
    (putF nm v fs).map (·.1) = l.take n ∧ Reps Z F (ds.set i x) ((putF nm v fs).map (·.2))
  | l, [], ds, i, nm, x, v, n, nd, e, r, h1, h2, rx => by
    have := r.length
    simp at this
    subst this
    simp at h2
  | [], p :: fs, ds, i, nm, x, v, n, nd, e, r, h1, h2, rx => by simp at h1
  | g :: l, (a, b) :: fs, ds, i, nm, x, v, 0, nd, e, r, h1, h2, rx => by simp at e
  | g :: l, (a, b) :: fs, [], i, nm, x, v, n + 1, nd, e, r, h1, h2, rx => by simp at h2
  | g :: l, (a, b) :: fs, d :: ds, 0, nm, x, v, n + 1, nd, e, r, h1, h2, rx => by
    simp at e h1
    subst h1
    obtain ⟨w, r', e2, h3, h4⟩ := reps_cons_inv r
    simp at e2
    unfold putF
    rw [if_pos e.1]
    refine ⟨by simp [e], ?_⟩
    simp only [List.map_cons, List.set_cons_zero]
    exact reps_cons rx (by rw [e2.2]; exact h4)
  | g :: l, (a, b) :: fs, d :: ds, i + 1, nm, x, v, n + 1, nd, e, r, h1, h2, rx => by
    simp at e h1 h2
    obtain ⟨w, r', e2, h3, h4⟩ := reps_cons_inv r
    simp at e2
    have nd' := List.nodup_cons.mp nd
    have hne : ¬ a = nm := fun z => nd'.1 (by
      rw [← e.1, z]
      exact List.mem_of_getElem? h1)
    obtain ⟨h5, h6⟩ := putF_old (fs := fs) (n := n) nd'.2 e.2 (by rw [e2.2]; exact h4) h1 (by omega) rx
    unfold putF
    rw [if_neg hne]
    refine ⟨by simp [e.1, h5], ?_⟩
    simp only [List.map_cons, List.set_cons_succ]
    exact reps_cons (by rw [e2.1]; exact h3) h6
theorem putF_new : ∀ {fs : List (Str × V)} {nm : Str} {v : V}, nm ∉ fs.map (·.1) → putF nm v fs = fs ++ [(nm, v)]
  | [], nm, v, h => rfl
  | (a, b) :: fs, nm, v, h => by
    simp at h
    unfold putF
    rw [if_neg fun z => h.1 z.symm, putF_new (by simpa using h.2)]
    rfl
theorem ds_fld {pos' : Pos} (ho : PE X o (tE Z W f)) (he : PE X e (tE Z W g)) (hK : X.K = Z.K) (hc : ClsOk X.K Z.toZx c) (hn : NoAttr X.K (Z.cl c) nm) (hi : (Z.fl c)[i]? = some nm) (hfew : (Z.fl c).length < 1000) (hs : swapsWith e (some (.Attribute o nm pos')) pos.line X.env = pure false := by rfl) : PS X (.Assign [.Attribute o nm pos'] e pos) (tS Z W (sFldSet c i f g)) :=
  (ps_fld ho he hs).weak fun D σ H q => tE_imp (fun y H1 ⟨A, F, sl, ce, u, so, hs, ru, p⟩ => by
    refine ⟨A, F, sl, ce, so, hs, (PostS.exp so hs p).imp fun x H2 ⟨A1, F1, ce1, v, p1, e1, s1, r1, q1⟩ => ?_⟩
    have ru1 := ru.mono p1 e1
    split at q1
    · split at q1
      · rename_i k d _ _ c' ds hk
        by_cases hcc : c' = c
        · rw [if_pos hcc] at q1
          subst hcc
          obtain ⟨a, ha, rfl⟩ := r1
          obtain ⟨hF, dx, fs, h1, h2, h3⟩ := s1.ok _ _ _ ha hk
          have hlen : fs.length = ds.length := by rw [h3.length, List.length_map]
          have hfs : fs.length < 1000 := by
            have : (fs.map (·.1)).length ≤ (Z.fl c').length := by rw [h2]; simp; omega
            simp at this
            omega
          refine ⟨a, _, dx, fs, rfl, h1, hc.cls, hn, hfs, ?_⟩
          by_cases hl : i < ds.length
          · rw [if_pos hl] at q1
            obtain ⟨h5, h6⟩ := putF_old hc.nd h2 h3 hi hl ru1
            exact nxS (s1.write (c := .ins c' (ds.set i d)) ha hF ⟨hF, dx, _, upd_same, by simpa using h5, h6⟩) (hs.mono p1 e1) q1
          · rw [if_neg hl] at q1
            by_cases hl2 : i = ds.length
            · rw [if_pos hl2] at q1
              have hil : i < (Z.fl c').length := (List.getElem?_eq_some_iff.mp hi).1
              have hno : nm ∉ fs.map (·.1) := by
                rw [h2]
                intro z
                obtain ⟨j, hj⟩ := List.getElem?_of_mem z
                have hjl : j < ds.length := by
                  have := (List.getElem?_eq_some_iff.mp hj).1
                  simp at this
                  omega
                rw [List.getElem?_take_of_lt hjl] at hj
                have := (List.getElem?_inj (List.getElem?_eq_some_iff.mp hi).1 hc.nd).mp (hi.trans hj.symm)
                omega
              refine nxS (s1.write (c := .ins c' (ds ++ [d])) ha hF ⟨hF, dx, _, upd_same, ?_, ?_⟩) (hs.mono p1 e1) q1
              · rw [putF_new hno, List.map_append, h2]
                simp only [List.map_cons, List.map_nil, List.length_append, List.length_cons, List.length_nil]
                rw [List.take_add_one, ← hl2, hi]
                rfl
              · rw [putF_new hno, List.map_append]
                exact h3.append (reps_cons ru1 reps_nil)
            · rw [if_neg hl2] at q1
              exact q1.elim
        · rw [if_neg hcc] at q1
          exact q1.elim
      · exact q1.elim
    · exact q1.elim) (tS1 q)
end
theorem passLN {X : Cx} : Passes (L2N.CX X.prog X.w) X E0 := fun _ _ _ _ _ _ _ h => by
  obtain ⟨_, _, _, _, _, _, _, _, _, _, _, _, z⟩ := h
  exact z.elim
section
variable {X : Cx} {Z : Zy} {W : WX} {k : Nat} {fa pa : Addr} {fd : FuncData} {ps : List Str} {fh : DF} {nm : Str} {pos : Pos} {e : Expr} {f : DE} {c : Nat}
/-- a property's value; it raises nothing -/
def kProp (c : Nat) (fh : DF) (v : Val) : DE := fun _ ce => if isC c ce v then (match fh [v] ce with
  | .ok u ce' => .ok u ce'
  | _ => .stuck) else .stuck
theorem de_prop (he : PE X e (tE Z W f)) (hc : ClsOk X.K Z.toZx c) (hp : PropOf X.K (Z.cl c) nm pa fa) (F : FnOk X.prog X.w X.K X.mg X.base (L2N.CX X.prog X.w) k fa fd ps (spD Z.toZx fh 1)) (hr : Room (k + 1) X.A) (hb : Binds X.K fd ps [])
    (hab : attributeBase e nm X.env (eval e X.env) = eval e X.env := by rfl) : PE X (.Attribute e nm pos) (tE Z W (eUn (kProp c fh) f)) :=
  (pe_prop he hc.cls hp F hr hb .nil passLN hab).weak fun σ H Q q => tE_imp (fun x H1 ⟨A, F, sl, ce, v, so, hs, r, p⟩ => by
    unfold kProp at p
    by_cases hi : isC c ce v = true
    · rw [if_pos hi] at p
      obtain ⟨a, dx, fs', n', rfl, h1, h2⟩ := isC_rd so r hi
      refine ⟨a, dx, fs', rfl, h1, A, F, ce, [v], so, VReps.nohd (by simp [isC_plain hi]) ⟨_, _, rfl, r, rfl⟩, rfl, ?_⟩
      cases e : fh [v] ce with
      | ok u ce' => rw [e] at p; exact fun A' F' H' x pA eF so' r' => p A' F' H' x pA eF so' (vrep_z rfl r')
      | exc c ds ce' => rw [e] at p; exact p.elim
      | stuck => rw [e] at p; exact p.elim
    · rw [if_neg hi] at p
      exact p.elim) (tE1 q)
end
inductive Ty where
  | t (n : String) | c (n : Nat)
  deriving DecidableEq
def D.ty : D → Ty
  | .non => .t "NoneType" | .bl _ => .t "bool" | .int _ => .t "int" | .str _ => .t "str" | .tup _ => .t "tuple" | .lst _ => .t "list" | .wl _ => .t "list" | .ins c _ => .c c | .dct _ _ => .t "dict"
def tyVal (Z : Zx) : Ty → Value
  | .t n => .type n
  | .c n => .ref (Z.cl n)
/-- isinstance(e, T): tst tells for which types -/
def kIsi (tst : Ty → Option Bool) (v : Val) : DE := fun _ ce => match v with
  | .im (.wl _) => .stuck
  | .im (.dct _ _) => .stuck
  | .im d => match tst d.ty with
    | some b => .ok (.im (.bl b)) ce
    | none => .stuck
  | _ => .stuck
section
variable {X : Cx} {Z : Zy} {W : WX} {p p2 pos : Pos} {e : Expr} {f : DE} {x : Str} {cv : V} {u : Value} {tst : Ty → Option Bool}
/-- what isinstance asks of an own class -/
structure IsiC (K : PySem.W.Frag) (C : Addr) : Prop where
  cl : Cls K C
  ha : PySem.W.findIn K (.ref C) "__class__" = some (some (.builtin "object.__class__"))
  hn : PySem.W.specialIn K (.builtin "object.__class__") "__get__" = some (some (.builtin "getset_descriptor.__get__"))
  ht : PySem.W.takesIn K (.builtin "object.__class__") = some true
  hm : PySem.W.mroIn K C (.type "object") = some true
theorem d_tyx {F H : Hp} {d : D} {y : V} (so : Same F H) (r : Rep Z.toZx F d y) (hcl : ∀ c ds, d = .ins c ds → IsiC Z.K (Z.cl c)) (hnd : ∀ ks vs, d ≠ .dct ks vs) : TyX Z.K H y (tyVal Z.toZx d.ty) := by
  cases d with
  | non => unfold Rep at r; subst r; exact .base .non
  | bl b => unfold Rep at r; subst r; exact .base (.bl b)
  | int b => unfold Rep at r; subst r; exact .base (.int b)
  | str b => unfold Rep at r; subst r; exact .base (.str b)
  | tup ds =>
    unfold Rep at r
    obtain ⟨a, vs, rfl, h1, h2⟩ := r
    rcases same_seqT so h1 with (h | ⟨o, h⟩) | ⟨o, its, n, h3, h4, _⟩
    · exact .base (.tup h)
    · exact .fTuple h
    · exact .kTuple h3 h4
  | lst ds =>
    unfold Rep at r
    obtain ⟨a, vs, rfl, h1, h2⟩ := r
    exact .base (.lst (so _ _ h1))
  | dct ks vs => exact absurd rfl (hnd ks vs)
  | ins c ds =>
    unfold Rep at r
    obtain ⟨a, dx, fs, rfl, h1, h2⟩ := r
    have q := hcl c ds rfl
    exact .base (.ins (so _ _ h1) q.cl q.ha q.hn q.ht q.hm)
  | wl ds =>
    unfold Rep at r
    obtain ⟨a, vs, rfl, h1, h2⟩ := r
    rcases so.seq h1 with (h | ⟨o, h⟩) | ⟨o, its, n, h3, h4, _⟩
    · exact .base (.lst h)
    · exact .base (.frz h)
    · exact .kList h3 h4
theorem de_isi {T : Expr} (hT : PE X T (tC cv)) (hcv : ClsV cv u) (hK : X.K = Z.K) (hk : ∀ ty b, tst ty = some b → PySem.W.kitOne X.K (tyVal Z.toZx ty) u = some b) (hcl : ∀ c b, tst (.c c) = some b → IsiC X.K (Z.cl c)) (he : PE X e (tE Z W f)) (hm : X.mg "isinstance" = none)
    (hg : Gl X "isinstance" := by rfl) (hs : starEach [e, T] X.env = (false, eval e X.env) :: starEach [T] X.env := by rfl) (hs2 : starEach [T] X.env = (false, eval T X.env) :: starEach [] X.env := by rfl) (hpl : (backTo pos (starEach [T] X.env)).any (·.1) = false := by rfl) :
    PE X (.Call (.Name "isinstance" p) [e, T] [] pos) (tE Z W (eUn (kIsi tst) f)) :=
  (pe_callB call_isi hg hm (by decide +kernel) (pa_cons he (pa_cons hT pa_nil hs2) hs) (by decide) (by decide) hs hpl).weak fun σ H Q q => tE_imp (fun x H1 ⟨A, F, sl, ce, v, so, hs, r, p⟩ => by
    unfold kIsi at p
    show rIsi X.K [x, cv] H1 Q
    split at p
    · exact p.elim
    · exact p.elim
    · rename_i d _ hnd
      split at p
      · rename_i b hb
        exact ⟨x, cv, _, u, b, rfl, hcv, by rw [hK]; exact d_tyx so.sub r (fun c ds e => by subst e; rw [← hK]; exact hcl c b hb) (fun ks vs e => hnd ks vs (by rw [e])), hk _ b hb, fin_flat so p repB⟩
      · exact p.elim
    · exact p.elim) (tE1 q)
end
end ZZ
set_option Elab.async false
set_option linter.all false
set_option maxRecDepth 100000
namespace L2N
open PySem PySem.Spec PyProof.Rows L2
theorem pmk_oex {X : Cx} {CX : CXT} {x : Str} {e : Expr} {es : List Expr} {ta : TA} {p pos : Pos} {C fI : Addr} {k : Nat} {fd : FuncData} {ps : List Str} {sp : Sp} {ds : List Value} {dvs : List V} (T : OexC X.K C) (iC : PySem.W.findIn X.K (.ref C) "__init__" = some (some (.ref fI))) (tI : PySem.W.typeIn X.K (.ref fI) = some (.type "function"))
    (F1 : FnOk X.prog X.w X.K X.mg X.base CX k fI fd ps sp) (hr : Room (k + 1) X.A) (hb : Binds X.K fd ps ds) (hd : Vals dvs ds) (hx : Passes CX X (fun _ _ _ => False)) (hg : Gl X x) (hm : X.mg x = some (.ref C)) (ha : PA X (e :: es) ta)
    (hdb : (x == ("__debug__" : Str)) = false := by decide) (he : starEach (e :: es) X.env = (false, eval e X.env) :: starEach es X.env := by rfl) (hpl : (backTo pos (starEach es X.env)).any (·.1) = false := by rfl) :
    L2N.PMk X (.Call (.Name x p) (e :: es) [] pos) (tMkO C sp dvs ta) := by
  intro pins s σ H Q I h
  obtain ⟨nm, q, N, bs, bm, sn, sub, ab, col, dd, k0, k1, k2, k3, k5, hC, hbm⟩ := T.cls
  refine wpAny_Call_Name_kw (ld_glob I hg hm ?_ hdb)
  refine PySem.W.callWith_K (h₀ := X.base) I.ok.mod.kin T.kC (thn (ha.run pos pins s σ H _ I h) fun us s1 ⟨vs, H1, I1, r1, hz, q1⟩ => ⟨I1.kIn, ?_⟩) he hpl
  show wpAny _ _ (call (.ref C) us) _ _ _
  obtain ⟨hp, g, dr, tk, os⟩ := s1
  have hsz : hp.objs.size ≤ hp.objs.size + 1 := Nat.le_succ _
  have hn : H1 (hp.objs.size + 1) = none := I1.hok.fresh hsz
  have hq := q1 (hp.objs.size + 1) hn
  have kk : ∀ b o, hp.get? b = some o → ((hp.push (PySem.W.kdv_tup us)).push (PySem.HandSPX.excO C hp.objs.size)).get? b = some o := fun b o e => Heap.get?_push_of_some _ (Heap.get?_push_of_some _ e)
  have hget : ((hp.push (PySem.W.kdv_tup us)).push (PySem.HandSPX.excO C hp.objs.size)).get? (hp.objs.size + 1) = some (PySem.HandSPX.excO C hp.objs.size) := by heap_get
  have I2 : Inv X pins σ (upd H1 (hp.objs.size + 1) (exo (hp.objs.size + 1) C none)) ⟨(hp.push (PySem.W.kdv_tup us)).push (PySem.HandSPX.excO C hp.objs.size), g, dr, tk, os⟩ :=
    I1.laid (t' := tk) (a := hp.objs.size + 1) (o := exo (hp.objs.size + 1) C none) (h' := (hp.push (PySem.W.kdv_tup us)).push (PySem.HandSPX.excO C hp.objs.size)) kk hsz (exo_ok hget)
  have r2 : Vals (V.ref (hp.objs.size + 1) :: (vs ++ dvs)) (Value.ref (hp.objs.size + 1) :: (us ++ ds)) := .cons rfl (r1.append hd)
  have hl : (Value.ref (hp.objs.size + 1) :: us ++ ds).length = ps.length := by
    have e := r2.length
    rw [F1.len _ _ _ _ hq] at e
    exact e.symm
  have hus : us.length ≤ sizeLine := by
    rw [← Paired.length r1, sizeLine_eq]
    omega
  refine wpAny_call (PySem.HandSPX.call_own F.excBase_ValueError (fun Y => PySem.HandSPX.refsVE_contains Y bm hbm) (I1.kIn _ _ hC) (PySem.W.looks_findIn I1.kIn iC) (fun self => PySem.W.bind_fn I1.kIn self tI) hus
    (codeAny_mono (F1.run _ X.stack _ _ ⟨Value.ref (hp.objs.size + 1) :: us, []⟩ (Value.ref (hp.objs.size + 1) :: (us ++ ds)) _ _ (fun _ _ _ => False) (hr.make C us []) (I2.env0.make C us []) (hb _ (Value.ref (hp.objs.size + 1) :: us) I2.kIn hl) r2 hq) fun r s' hq' => ?_))
  cases r with
  | error er => exact hx pins σ _ _ er s' I2 hq'
  | ok fl =>
    cases fl with
    | ret u =>
      obtain ⟨v, H2, os2, bare2, un2, hok2, rv, ev, d, fs, ea, ed, hd1, q2⟩ := hq'
      subst ev
      obtain ⟨h2, g2, d2, t2, os'⟩ := s'
      refine ⟨rv, ?_⟩
      obtain ⟨t0, G, J, kG, ge, hoe, na⟩ := mk_end0 (d2 := d2) (t2 := t2) I1 hsz kk un2 hok2 os2 bare2 ea ed hd1
      exact ⟨_, _, _, ⟨G, g2, d2, t2, os'⟩, _, .ref C, some d, rfl, J, kG, ge, hoe, ⟨rfl, rfl, fun vs e => by cases e; rfl⟩, rfl, rfl, na, rfl, bare2, raises_own T.exC T.tyC, q2⟩
    | next => exact False.elim hq'
    | brk => exact False.elim hq'
    | cont => exact False.elim hq'
end L2N
namespace ZZ
open PySem PySem.Spec L2
def spI1 (K : PySem.W.Frag) (f : Str) : Sp := fun vs H Q _ => ∃ a C v, vs = [.ref a, v] ∧ OexC K C ∧ PySem.W.findIn K (.ref C) f = some none ∧ H a = some (exo a C none) ∧
  ∀ dx, H dx = none → dx ≠ a → Q .non (upd (upd H dx (exd dx [(f, v)])) a (exo a C (some dx)))
def sRaiseT (c : Nat) : DSt := fun sl ce => .exc c [] sl ce
def sArgs : List DE → (List Val → DSt) → DSt
  | [], k => k []
  | f :: fs, k => sExp f fun v => sArgs fs fun vs => k (v :: vs)
/-- C(e, ..): the last argument's field stands first in the error's dict -/
def sRaise (c : Nat) (fs : List DE) : DSt := sArgs fs fun vs sl ce => match ims vs with
  | some ds => .exc c ds.reverse sl ce
  | none => .stuck
theorem tSN {Z : Zy} {W : WX} {D : Ends} {σ : L2.St} {sl : Sl} : ∀ {fs : List DE} {k : List Val → DSt} {A : List Addr} {F H : Hp} {ce : List Cell}, SO Z.toZx A F ce H → SL Z A F sl σ → PostS Z A F W D (sArgs fs k sl ce) →
    tArgs Z W fs σ H fun xs H1 => ∃ A1 F1 ce1 vs, A <+: A1 ∧ Same F F1 ∧ SO Z.toZx A1 F1 ce1 H1 ∧ VReps Z A1 F1 vs xs ∧ vs.length = fs.length ∧ PostS Z A1 F1 W D (k vs sl ce1)
  | [], k, A, F, H, ce, so, hs, p => ⟨A, F, ce, [], List.prefix_refl _, Same.refl _, so, rfl, rfl, p⟩
  | f :: fs, k, A, F, H, ce, so, hs, p => ⟨A, F, sl, ce, so, hs, (PostS.exp so hs p).imp fun x H1 ⟨A1, F1, ce1, v, p1, e1, s1, r1, q1⟩ =>
      tArgs_imp (fun xs H2 ⟨A2, F2, ce2, vs, p2, e2, s2, r2, l2, q2⟩ => ⟨A2, F2, ce2, v :: vs, p1.trans p2, e1.trans e2, s2, ⟨x, xs, rfl, r1.mono p2 e2, r2⟩, by simp [l2], q2⟩) (tSN s1 (hs.mono p1 e1) q1)⟩
/-- a class whose errors bear a text -/
structure ExT (K : PySem.W.Frag) (C : Addr) : Prop where
  q : PySem.W.excIn K C [.type "ValueError", .type "Exception", .type "BaseException", .type "object"] "ValueError.__new__" = true
  kC : PySem.W.keepIn K (.ref C) = true
  exC : PySem.W.subIn K (.ref C) (.type "BaseException") = some true
  tyC : PySem.W.typeIn K (.ref C) = some (.type "type")
section
variable {X : Cx} {Z : Zy} {W : WX} {p p2 pos pos2 : Pos} {x m : Str} {c j : Nat} {e e2 : Expr} {f g : DE}
theorem ds_raiseT (hc : X.calm = true) (tk : L2N.Takes X W) (T : ExT X.K (Z.cl c)) (hm : X.mg x = some (.ref (Z.cl c))) (hg : Gl X x := by rfl) (hdb : (x == ("__debug__" : Str)) = false := by decide) :
    PS X (.Raise (some (.Call (.Name x p) [.Constant (.str m) j p2] [] pos)) none pos2) (tS Z W (sRaiseT c)) :=
  (L2N.ps_raise hc tk (L2N.pmk_own PySem.F.excBase_ValueError T.q hm T.kC (raises_own T.exC T.tyC) hg hdb)).weak fun D σ H ⟨A, F, sl, ce, so, hs, p⟩ => p A F H σ none (List.prefix_refl _) (Same.refl _) so hs (.inl ⟨rfl, rfl⟩)
theorem upd_swap {H : Hp} {a dx : Addr} {o o1 o2 o3 : HO} (h1 : H a = none) (h2 : dx ≠ a) : upd (del (upd (upd (upd H a o1) dx o2) a o) a) dx o3 = upd H dx o3 := by
  funext b
  unfold upd del
  by_cases hb : b = dx
  · simp [hb]
  · by_cases ha : b = a
    · simp [hb, ha, h1, Ne.symm h2]
    · simp [hb, ha]
theorem ds_raise1 {k : Nat} {fI : Addr} {fd : FuncData} {ps : List Str} {nm : Str} (hK : X.K = Z.K) (hc : X.calm = true) (tk : L2N.Takes X W) (T : OexC X.K (Z.cl c)) (iC : PySem.W.findIn X.K (.ref (Z.cl c)) "__init__" = some (some (.ref fI))) (tI : PySem.W.typeIn X.K (.ref fI) = some (.type "function"))
    (nf : PySem.W.findIn X.K (.ref (Z.cl c)) nm = some none) (hfl : Z.fl c = [nm]) (F1 : FnOk X.prog X.w X.K X.mg X.base CX0 k fI fd ps (spI1 X.K nm)) (hr : Room (k + 1) X.A) (hb : Binds X.K fd ps []) (hm : X.mg x = some (.ref (Z.cl c))) (ha : PA X [e] (tArgs Z W [f]))
    (hg : Gl X x := by rfl) (hdb : (x == ("__debug__" : Str)) = false := by decide) (he : starEach [e] X.env = (false, eval e X.env) :: starEach [] X.env := by rfl) (hpl : (backTo pos (starEach [] X.env)).any (·.1) = false := by rfl) :
    PS X (.Raise (some (.Call (.Name x p) [e] [] pos)) none pos2) (tS Z W (sRaise c [f])) :=
  (L2N.ps_raise hc tk (L2N.pmk_oex T iC tI F1 hr hb .nil pass0 hg hm ha hdb he hpl)).weak fun D σ H ⟨A, F, sl, ce, so, hs, p⟩ => by
    refine tArgs_imp (fun xs H1 ⟨A1, F1, ce1, vs, p1, e1, s1, r1, l1, q1⟩ => ?_) (tSN so hs p)
    have hl := r1.length
    have hx : xs.length = 1 := by rw [← hl, l1]; rfl
    refine ⟨by omega, fun a ha => ?_⟩
    obtain ⟨y, rfl⟩ := List.length_eq_one_iff.mp hx
    cases e2 : ims vs with
    | none => rw [e2] at q1; exact q1.elim
    | some ds =>
      rw [e2] at q1
      have rd := ims_rd r1 e2
      refine ⟨a, Z.cl c, y, rfl, T, nf, upd_same, fun dx h1 h2 => ⟨rfl, dx, [(nm, y)], upd_same, ?_, ?_, ?_⟩⟩
      · rw [upd_ne h2, upd_same]
      · rw [upd_ne h2] at h1
        exact h1
      · rw [upd_ne h2] at h1
        rw [upd_swap ha h2]
        refine q1 A1 (upd F1 dx (.xd [(nm, y)])) _ σ (some dx) (List.prefix_refl _) (same_up (s1.fnone h1)) (s1.new h1) ((hs.mono p1 e1).mono (List.prefix_refl _) (same_up (s1.fnone h1))) (.inr ⟨dx, _, rfl, upd_same, by rw [hfl]; rfl, ?_⟩)
        exact (rd.mono (same_up (s1.fnone h1))).reverse
end
/-- a slot that holds the exception in hand is forgotten -/
def clean (sl : Sl) : Sl := sl.map fun o => match o with
  | some (.exn _ _) => none
  | o => o
abbrev Zy.hdl (Z : Zy) (a : Addr) (c : Nat) (d : Option Addr) : Zy := ⟨Z.toZx, some (a, c, d)⟩
def setO {α : Type} (i : Option Nat) (l : List (Option α)) : List (Option α) := match i with
  | some i => l.set i none
  | none => l
/-- behind a suite -/
def offD (i : Option Nat) : Out → Out
  | .nx sl ce => .nx (clean (setO i sl)) ce
  | .bk sl ce => .bk (clean (setO i sl)) ce
  | .ct sl ce => .ct (clean (setO i sl)) ce
  | .rt v ce => if plainV v then .rt v ce else .stuck
  | _ => .stuck
/-- nE classes of errors; sub: which of them the clause names -/
def sTry (nE : Nat) (sub : Nat → Bool) (i : Option Nat) (fb fs : DSt) : DSt := fun sl ce => match fb sl ce with
  | .exc c ds sl1 ce1 => if c < nE then (if sub c then offD i (fs (match i with
    | some i => sl1.set i (some (.exn c ds))
    | none => sl1) ce1) else .exc c ds sl1 ce1) else .stuck
  | o => o
section
variable {Z : Zy} {A A' : List Addr} {F F' H : Hp} {ce : List Cell} {sl : Sl} {σ : L2.St} {W : WX}
theorem SL.off {a c d} (hs : SL (Z.hdl a c d) A F sl σ) (hz : Z.hd = none) : SL Z A F (clean sl) σ := by
  refine ⟨by unfold clean; rw [List.length_map]; exact hs.len, fun i v q => ?_⟩
  unfold clean at q
  rw [List.getElem?_map] at q
  cases e : sl[i]? with
  | none => rw [e] at q; cases q
  | some o =>
    rw [e] at q
    cases o with
    | none => cases q
    | some u =>
      obtain ⟨x, h1, h2⟩ := hs.is i u e
      cases u with
      | im y => cases q; exact ⟨x, h1, h2⟩
      | cell k => cases q; exact ⟨x, h1, h2⟩
      | exn c ds => cases q
theorem SL.on {a c d} (hs : SL Z A F sl σ) (hz : Z.hd = none) : SL (Z.hdl a c d) A F sl σ := by
  refine ⟨hs.len, fun i v q => ?_⟩
  obtain ⟨x, h1, h2⟩ := hs.is i v q
  refine ⟨x, h1, ?_⟩
  cases v with
  | im y => exact h2
  | cell k => exact h2
  | exn c ds => obtain ⟨a, dx, h, _⟩ := h2; rw [hz] at h; cases h
end
section
variable {X : Cx} {Z : Zy} {Wout : WX} {x n : Str} {cv : Value} {i nE : Nat} {sub : Nat → Bool} {body suite : List Stmt} {b₀ : Stmt} {np pos pos' : Pos} {fb fs : DSt}
theorem suite_ok {D D' : Ends} {a : Addr} {c : Nat} {d : Option Addr} {io : Option Nat} {A F} {o : Out} (hz : Z.hd = none) (p : PostS Z A F Wout D (offD io o))
    (h1 : ∀ σ H, D.nx (setO io σ) H → D'.nx σ H) (h2 : ∀ σ H, D.bk (setO io σ) H → D'.bk σ H) (h3 : ∀ σ H, D.ct (setO io σ) H → D'.ct σ H) (h4 : D'.rt = D.rt) : PostS (Z.hdl a c d) A F WF D' o := by
  have key : ∀ {A' F'} {sl : Sl} {σ : L2.St}, SL (Z.hdl a c d) A' F' sl σ → SL Z A' F' (clean (setO io sl)) (setO io σ) := by
    intro A' F' sl σ hs
    cases io with
    | none => exact hs.off hz
    | some i => exact (SL.gone hs).off hz
  cases o with
  | nx sl ce => exact fun A' F' H' σ' pA eF so hs => h1 _ _ (p A' F' H' _ pA eF so (key hs))
  | bk sl ce => exact fun A' F' H' σ' pA eF so hs => h2 _ _ (p A' F' H' _ pA eF so (key hs))
  | ct sl ce => exact fun A' F' H' σ' pA eF so hs => h3 _ _ (p A' F' H' _ pA eF so (key hs))
  | rt v ce =>
    simp only [offD] at p
    by_cases hp : plainV v = true
    · rw [if_pos hp] at p
      intro A' F' H' x pA eF so r
      rw [h4]
      refine p A' F' H' x pA eF so ?_
      cases v with
      | im y => exact r
      | cell k => exact r
      | exn c ds => cases hp
    · rw [if_neg hp] at p
      exact p.elim
  | exc c ds sl ce => exact p.elim
  | stuck => exact p.elim
theorem ds_try_as (hs : X.stack = X.env :: X.outer) (hf : X.env.frame = some X.env.locals) (hN : X.N.Nodup) (hz : Z.hd = none) (hc : Names X x cv) (tk : L2N.Takes X Wout) (hexm : ∀ c, c < nE → PySem.W.exmOne X.K (.ref (Z.cl c)) cv = some (sub c))
    (hb : ∀ (W : WX) (pn : List (Addr × Obj)) (xe : Value → Shared → Prop), L2N.Takes (X.tr pn xe) W → PassesOwn (model X.prog X.w) X.A X.env xe → PSs (X.tr pn xe) body (tS Z W fb))
    (hsu : ∀ (a : Addr) (oe : Obj) (c : Nat) (d : Option Addr) (pn : List (Addr × Obj)), c < nE → L2N.Zn (.ref (Z.cl c)) d oe → (∃ vs, oe.data = .fields vs) → PSs (X.suite a ((a, oe) :: pn)) (b₀ :: suite) (tS (Z.hdl a c d) WF fs))
    (hi : X.N[i]? = some n := by rfl) (hln : X.env.kindOf n = some .local := by rfl) :
    PS X (.Try body [.ExceptHandler (some (.Name x np)) (some n) (b₀ :: suite) pos'] [] [] pos) (tS Z Wout (sTry nE sub (some i) fb fs)) := by
  refine (L2N.ps_try_as (ts := fun a cls d => fun D σ H => ∃ c, c < nE ∧ cls = .ref (Z.cl c) ∧ tS (Z.hdl a c d) WF fs D σ H) hs hf hN hi hln hc tk hb fun a oe cls d pn hzn hfl => ⟨fun pins s σ H D I h => ?_⟩).weak fun D σ H ⟨A, F, sl, ce, so, hs, p⟩ => ⟨A, F, sl, ce, so, hs, ?_⟩
  · obtain ⟨c, hc, rfl, h⟩ := h
    exact (hsu a oe c d pn hc hzn hfl).run pins s σ H D I h
  · unfold sTry at p
    cases e : fb sl ce with
    | nx sl ce => rw [e] at p; exact p
    | bk sl ce => rw [e] at p; exact p
    | ct sl ce => rw [e] at p; exact p
    | rt v ce => rw [e] at p; exact p
    | stuck => rw [e] at p; exact p
    | exc c ds sl1 ce1 =>
      rw [e] at p
      intro A1 F1 H1 σ1 dx pA eF so1 hs1 xo
      dsimp only at p
      by_cases hcn : c < nE
      · rw [if_pos hcn] at p
        refine ⟨sub c, hexm c hcn, fun hb a ha => ?_, fun hb => ?_⟩
        · rw [if_pos hb] at p
          refine ⟨c, hcn, rfl, A1, F1, _, ce1, so1, ((hs1.on (a := a) (c := c) (d := dx) hz).set (v := .exn c ds) (x := .ref a) ⟨a, dx, rfl, rfl, xo⟩), ?_⟩
          exact suite_ok hz (p.mono pA eF) (fun _ _ h => h) (fun _ _ h => h) (fun _ _ h => h) rfl
        · rw [hb] at p
          exact p A1 F1 H1 σ1 dx pA eF so1 hs1 xo
      · rw [if_neg hcn] at p
        exact p.elim
end
def kIsE (tst : Nat → Option Bool) (v : Val) : DE := fun _ ce => match v with
  | .exn c _ => match tst c with
    | some b => .ok (.im (.bl b)) ce
    | none => .stuck
  | _ => .stuck
section
variable {X : Cx} {Z : Zy} {W : WX} {a : Addr} {oe : Obj} {c i : Nat} {d : Option Addr} {pn : List (Addr × Obj)} {e : Expr} {f : DE} {pos p : Pos} {nm : Str} {cs : List Nat}
/-- isinstance(e, T), e the exception in hand -/
theorem call_isX {C : Addr} (hga : PySem.W.findIn X.K (.ref C) "__getattribute__" = some (some (.builtin "BaseException.__getattribute__"))) (hgt : PySem.W.findIn X.K (.ref C) "__getattr__" = some none) (hsub : PySem.W.subIn X.K (.ref C) (.type "BaseException") = some true) (hd : PySem.W.hasDictIn X.K C = true)
    (ha : PySem.W.findIn X.K (.ref C) "__class__" = some (some (.builtin "object.__class__"))) (hn : PySem.W.specialIn X.K (.builtin "object.__class__") "__get__" = some (some (.builtin "getset_descriptor.__get__")))
    (htk : PySem.W.takesIn X.K (.builtin "object.__class__") = some true) (hm : PySem.W.mroIn X.K C (.type "object") = some true) (hz : L2N.Zn (.ref C) d oe) (hf : ∃ vs, oe.data = .fields vs) :
    CallR (X.suite a ((a, oe) :: pn)) (.builtin "isinstance") (fun xs H Q => ∃ (c : V) (cv : Value) (b : Bool), xs = [.ref a, c] ∧ (∀ u, RelV c u → u = cv) ∧ PySem.W.kitOne X.K (.ref C) cv = some b ∧ (d = none ∨ ∃ dd fs, d = some dd ∧ H dd = some (.xd fs)) ∧ Q (.bl b) H) := by
  intro pins s σ H xs us Q I r h
  obtain ⟨c, cv, b, rfl, hcv, e, hdd, q⟩ := h
  cases r with
  | cons rx rr =>
    cases rr with
    | cons rt rr =>
      cases rr
      cases rx
      have ec := hcv _ rt
      subst ec
      obtain ⟨hget, _⟩ := I.pin (a, oe) (List.mem_append.mpr (.inl List.mem_cons_self))
      obtain ⟨vs, hv⟩ := hf
      have hcl : (PySem.W.clsIn X.K C).isSome = true := by
        obtain ⟨cd, hc, _⟩ := PySem.W.any_some hd
        rw [hc]
        rfl
      have key : ∀ od, PySem.W.InstAt s.heap a oe C od → wpAny (model X.prog X.w) (X.suite a ((a, oe) :: pn)).A (call (.builtin "isinstance") [.ref a, _]) (EP (X.suite a ((a, oe) :: pn)) pins σ Q) (fun _ _ => False) s := fun od J =>
        PySem.W.kia_one (PySem.W.kitx_exc (od := od) hcl hga hgt hsub ha hn htk hm) I.kIn J e (fun z => nomatch z) fun tk => ⟨.bl b, H, I.kept (t' := tk) fun _ _ z => z, rfl, q⟩
      rcases hdd with rfl | ⟨dd, fs, rfl, hH⟩
      · refine key none ?_
        refine ⟨hget, hz.1, by unfold PySem.W.notCls; rw [hv] <;> rfl, by rw [hz.2.1]; trivial⟩
      · obtain ⟨mA, hns, hr⟩ : ObjOk X.prog X.w H s.heap dd (.xd fs) := I.hok dd _ hH
        obtain ⟨od, ho, hl⟩ := lookIn_ns hns
        exact key (some od) ⟨hget, hz.1, by unfold PySem.W.notCls; rw [hv] <;> rfl, by rw [hz.2.1]; exact ho⟩
end
end ZZ
set_option Elab.async false
set_option linter.all false
set_option maxRecDepth 100000
namespace ZZ
open PySem PySem.Spec L2
/-- a def of the text that keeps its promise -/
structure DOk (P : Program) (w : World) (K : PySem.W.Frag) (mg : Str → Option Value) (base : Heap) (k : Nat) (a : Addr) (ps : List Str) (sp : Sp) : Prop where
  ex : ∃ fd, FnOk P w K mg base (L2N.CX P w) k a fd ps sp ∧ Binds K fd ps []
  kp : PySem.W.keepIn K (.ref a) = true
/-- an exception's __init__ -/
structure IOk (P : Program) (w : World) (K : PySem.W.Frag) (mg : Str → Option Value) (base : Heap) (a : Addr) (ps : List Str) (sp : Sp) : Prop where
  ex : ∃ fd, FnOk P w K mg base CX0 1 a fd ps sp ∧ Binds K fd ps []
section
variable {X : Cx} {Z : Zy} {W : WX} {k n : Nat} {fa : Addr} {ps : List Str} {fh : DF} {x m nm : Str} {p pos pos2 apos : Pos} {e o : Expr} {es : List Expr} {f : DE} {fs : List DE} {c nf : Nat}
theorem de_callD (G : DOk X.prog X.w X.K X.mg X.base k fa ps (spD Z.toZx fh n)) (hr : Room k X.A) (hm : X.mg x = some (.ref fa)) (tw : TW X W) (ha : PA X (e :: es) (tArgs Z W fs))
    (hg : Gl X x := by rfl) (hl : fs.length = n := by rfl) (hdb : (x == ("__debug__" : Str)) = false := by decide) (he : starEach (e :: es) X.env = (false, eval e X.env) :: starEach es X.env := by rfl) (hpl : (backTo pos (starEach es X.env)).any (·.1) = false := by rfl) :
    PE X (.Call (.Name x p) (e :: es) [] pos) (tE Z W (eArgs fs (kCall fh))) := by
  obtain ⟨fd, F, b⟩ := G.ex
  exact de_call F hr hm G.kp b tw ha hg hl hdb he hpl
theorem de_methD {pl : Sem Bool} (he : PE X o (tE Z W f)) (hc : ClsOk X.K Z.toZx c) (hmt : Meth X.K (Z.cl c) m fa) (hno : m ∉ Z.fl c) (G : DOk X.prog X.w X.K X.mg X.base k fa ps (spD Z.toZx fh (n + 1))) (hr : Room k X.A) (tw : TW X W) (ha : PA X (e :: es) (tArgs Z W fs))
    (hl : fs.length = n := by rfl) (hst : starEach (e :: es) X.env = (false, eval e X.env) :: starEach es X.env := by rfl) (hpl : (backTo pos (starEach es X.env)).any (·.1) = false := by rfl)
    (ht : eval (.Call (.Attribute o m apos) (e :: es) [] pos) X.env = (do
      let ov ← eval o X.env
      standAt apos.atName
      let (f, first) ← holding [ov] (getMethod ov m pl)
      callWith pos f first (backTo pos (starEach (e :: es) X.env)) (backToKw pos (keywordEach [] X.env))) := by rfl) :
    PE X (.Call (.Attribute o m apos) (e :: es) [] pos) (tE Z W (eMth (isC c) (kMeth fh) f fs)) := by
  obtain ⟨fd, F, b⟩ := G.ex
  exact de_meth (pl := pl) he hc hmt hno F hr b tw ha hl hst hpl ht
theorem de_makeD (M : Mk X.K (Z.cl c) fa) (G : DOk X.prog X.w X.K X.mg X.base k fa ps (spD Z.toZx fh (n + 1))) (hr : Room (k + 1) X.A) (hm : X.mg x = some (.ref (Z.cl c))) (tw : TW X W) (ha : PA X (e :: es) (tArgs Z W fs)) (hfl : (Z.fl c).length = nf)
    (hg : Gl X x := by rfl) (hl : fs.length = n := by rfl) (hdb : (x == ("__debug__" : Str)) = false := by decide) (he : starEach (e :: es) X.env = (false, eval e X.env) :: starEach es X.env := by rfl) (hpl : (backTo pos (starEach es X.env)).any (·.1) = false := by rfl) :
    PE X (.Call (.Name x p) (e :: es) [] pos) (tE Z W (eArgs fs (kMake c nf fh))) := by
  obtain ⟨fd, F, b⟩ := G.ex
  exact de_make M F hr hm b tw ha hfl hg hl hdb he hpl
theorem de_propD {pa : Addr} (he : PE X e (tE Z W f)) (hc : ClsOk X.K Z.toZx c) (hp : PropOf X.K (Z.cl c) nm pa fa) (G : DOk X.prog X.w X.K X.mg X.base k fa ps (spD Z.toZx fh 1)) (hr : Room (k + 1) X.A)
    (hab : attributeBase e nm X.env (eval e X.env) = eval e X.env := by rfl) : PE X (.Attribute e nm pos) (tE Z W (eUn (kProp c fh) f)) := by
  obtain ⟨fd, F, b⟩ := G.ex
  exact de_prop he hc hp F hr b hab
/-- an error's class with one field -/
structure Ex1 (P : Program) (w : World) (K : PySem.W.Frag) (mg : Str → Option Value) (base : Heap) (Z : Zx) (c : Nat) (nm : Str) (fI : Addr) (ps : List Str) : Prop where
  o : OexC K (Z.cl c)
  i : PySem.W.findIn K (.ref (Z.cl c)) "__init__" = some (some (.ref fI))
  t : PySem.W.typeIn K (.ref fI) = some (.type "function")
  n : PySem.W.findIn K (.ref (Z.cl c)) nm = some none
  f : Z.fl c = [nm]
  g : IOk P w K mg base fI ps (spI1 K nm)
theorem ds_raise1D {fI : Addr} (hK : X.K = Z.K) (hc : X.calm = true) (tk : L2N.Takes X W) (E1 : Ex1 X.prog X.w X.K X.mg X.base Z.toZx c nm fI ps) (hr : Room 2 X.A) (hm : X.mg x = some (.ref (Z.cl c))) (ha : PA X [e] (tArgs Z W [f]))
    (hg : Gl X x := by rfl) (hdb : (x == ("__debug__" : Str)) = false := by decide) (he : starEach [e] X.env = (false, eval e X.env) :: starEach [] X.env := by rfl) (hpl : (backTo pos (starEach [] X.env)).any (·.1) = false := by rfl) :
    PS X (.Raise (some (.Call (.Name x p) [e] [] pos)) none pos2) (tS Z W (sRaise c [f])) := by
  obtain ⟨fd, F, b⟩ := E1.g.ex
  exact ds_raise1 hK hc tk E1.o E1.i E1.t E1.n E1.f F hr b hm ha hg hdb he hpl
end
def kNeg (v : Val) : DE := fun _ ce => match v with
  | .im (.int i) => .ok (.im (.int (-i))) ce
  | _ => .stuck
def kCount (v : Val) (vs : List Val) : DE := fun _ ce => match v, vs with
  | .im (.str a), [.im (.str b)] => .ok (.im (.int (Txt.count a b))) ce
  | _, _ => .stuck
def asStrs : List D → Option (List Str)
  | [] => some []
  | .str s :: ds => (asStrs ds).map (s :: ·)
  | _ :: _ => none
def kRevV (v : Val) : DE := fun _ ce => match asL ce v with
  | some ds => .ok (.im (.lst ds.reverse)) ce
  | none => .stuck
section
variable {X : Cx} {Z : Zy} {W : WX} {e o i : Expr} {f g h : DE} {pos apos cpos p1 p2 p3 : Pos}
theorem de_neg (he : PE X e (tE Z W f)) : PE X (.UnaryOp .USub e pos) (tE Z W (eUn kNeg f)) := (pe_un un_neg he).weak fun σ H Q q => tE_imp (fun x H1 ⟨A, F, sl, ce, v, so, hs, r, p⟩ => by
  unfold kNeg at p
  split at p
  · exact ⟨_, rep_int r, fin_flat so p repI⟩
  · exact p.elim) (tE1 q)
theorem de_count (hK : X.K = Z.K) (ho : PE X o (tE Z W f)) (ha : PE X e (tE Z W g))
    (hb : attributeBase o "count" X.env (eval o X.env) = eval o X.env := by rfl) (hl : (apos.endLine == cpos.line) = true := by rfl) (hs : starEach [e] X.env = (false, eval e X.env) :: starEach [] X.env := by rfl)
    (hfew : ((backTo cpos (starEach [e] X.env)).all (fun x => !x.1) && (backToKw cpos (keywordEach [] X.env)).all (fun x => x.1.isSome)
      && decide ([e].length + ([] : List Keyword).length + (if ([] : List Keyword).isEmpty then 0 else 1) < 30)) = true := by rfl) :
    PE X (.Call (.Attribute o "count" apos) [e] [] cpos) (tE Z W (eMth tyS kCount f [g])) :=
  de_bm PySem.F.plainAttrs_str PySem.F.slot_str_count PySem.F.type_str_count mt_count ⟨tyS_ok, fun A F sl ce v x vs xs H σ Q so hs rv rs p => by
    unfold kCount at p
    split at p
    · obtain ⟨y, rfl, ry⟩ := vreps1 rs
      rw [rep_str rv, rep_str ry]
      exact ⟨_, _, rfl, rfl, fin_flat so p repI⟩
    · exact p.elim⟩ ho (da_cons ha da_nil hs) hb hl hs rfl hfew
theorem de_revL {k : Nat} {pos4 : Pos} (hK : X.K = Z.K) (he : PE X e (tE Z W f)) : PE X (.Subscript e (.Slice none none (some (.UnaryOp .USub (.Constant (.int 1) k p1) p2)) p3) pos4) (tE Z W (eUn kRevV f)) := (pe_revL he).weak fun σ H Q q => tE_imp (fun x H1 ⟨A, F, sl, ce, v, so, hs, r, p⟩ => by
  unfold kRevV at p
  split at p
  · rename_i ds e1
    obtain ⟨l, ws, rfl, h1, h2⟩ := asL_rd so r e1
    exact ⟨l, ws, rfl, SqL.of h1, fun q hq => fin_newL so p h2.reverse hq⟩
  · exact p.elim) (tE1 q)
end
structure XiC (K : PySem.W.Frag) (C : Addr) : Prop where
  hga : PySem.W.findIn K (.ref C) "__getattribute__" = some (some (.builtin "BaseException.__getattribute__"))
  hgt : PySem.W.findIn K (.ref C) "__getattr__" = some none
  hsub : PySem.W.subIn K (.ref C) (.type "BaseException") = some true
  hd : PySem.W.hasDictIn K C = true
  ha : PySem.W.findIn K (.ref C) "__class__" = some (some (.builtin "object.__class__"))
  hn : PySem.W.specialIn K (.builtin "object.__class__") "__get__" = some (some (.builtin "getset_descriptor.__get__"))
  htk : PySem.W.takesIn K (.builtin "object.__class__") = some true
  hm : PySem.W.mroIn K C (.type "object") = some true
section
variable {X : Cx} {Z : Zy} {W : WX} {a : Addr} {oe : Obj} {c : Nat} {d : Option Addr} {pn : List (Addr × Obj)} {e T : Expr} {f : DE} {pos p : Pos} {tst : Nat → Option Bool} {cv : V} {u : Value}
/-- isinstance(e, T) -/
theorem de_isX (xi : XiC X.K (Z.cl c)) (hT : PE (X.suite a ((a, oe) :: pn)) T (tC cv)) (hcv : ∀ u', RelV cv u' → u' = u) (hk : ∀ b, tst c = some b → PySem.W.kitOne X.K (.ref (Z.cl c)) u = some b) (hz : L2N.Zn (.ref (Z.cl c)) d oe) (hf : ∃ vs, oe.data = .fields vs) (he : PE (X.suite a ((a, oe) :: pn)) e (tE (Z.hdl a c d) W f)) (hm : X.mg "isinstance" = none)
    (hg : Gl (X.suite a ((a, oe) :: pn)) "isinstance" := by rfl) (hs : starEach [e, T] X.env = (false, eval e X.env) :: starEach [T] X.env := by rfl) (hs2 : starEach [T] X.env = (false, eval T X.env) :: starEach [] X.env := by rfl) (hpl : (backTo pos (starEach [T] X.env)).any (·.1) = false := by rfl) :
    PE (X.suite a ((a, oe) :: pn)) (.Call (.Name "isinstance" p) [e, T] [] pos) (tE (Z.hdl a c d) W (eUn (kIsE tst) f)) :=
  (pe_callB (call_isX xi.hga xi.hgt xi.hsub xi.hd xi.ha xi.hn xi.htk xi.hm hz hf) hg hm (by decide +kernel) (pa_cons he (pa_cons hT pa_nil hs2) hs) (by decide) (by decide) hs hpl).weak fun σ H Q q => tE_imp (fun x H1 ⟨A, F, sl, ce, v, so, hs, r, p⟩ => by
    unfold kIsE at p
    split at p
    · rename_i c' ds
      obtain ⟨a', dx, h1, rfl, xo⟩ := r
      cases h1
      split at p
      · rename_i b hb
        refine ⟨cv, u, b, rfl, hcv, hk b hb, ?_, fin_flat so p repB⟩
        rcases xo with ⟨_, rfl⟩ | ⟨dd, fs, rfl, h2, _⟩
        · exact .inl rfl
        · exact .inr ⟨dd, fs, rfl, so.sub _ _ h2⟩
      · exact p.elim
    · exact p.elim) (tE1 q)
end
end ZZ
set_option Elab.async false
set_option linter.all false
set_option maxRecDepth 100000
namespace L2
open PySem PySem.Spec PyProof.Rows
/-- a zip's records between two turns of a walk that keeps what it gives out -/
def ZHeld (z TI TO i1 i2 a b : Addr) (i : Nat) (H : Hp) (h : Heap) : Prop :=
  IsPair h TI (.ref i1) (.ref i2) ∧ (∃ x y, IsPair h TO x y) ∧ h.IsListIter i1 a i ∧ h.IsListIter i2 b i ∧ (IsZip h z TI TO .none ∨ ∃ T f xs, IsZipHeld h z TI TO T f ∧ H T = some (.tup xs))
section
variable {X : Cx} {pins : List (Addr × Obj)} {σ : L2.St} {H : Hp} {s : Shared} {z TI TO i1 i2 a b q : Addr} {i : Nat} {xs ys : List V} {x y : V} {A A1 : Around} {E : Value → Shared → Prop}
theorem tup_at (I : Inv X pins σ H s) {T : Addr} {vs : List V} (h : H T = some (.tup vs)) : ∃ o, s.heap.get? T = some o := by
  obtain ⟨_, _, _, o, ho, _⟩ := I.hok T _ h
  exact ⟨o, ho⟩
theorem ZHeld.lt (st : ZHeld z TI TO i1 i2 a b i H s.heap) : ∀ c ∈ [z, TI, TO, i1, i2], c < s.heap.objs.size := by
  obtain ⟨hTI, ⟨x0, y0, hTO⟩, ⟨o1, h1, _⟩, ⟨o2, h2, _⟩, hz⟩ := st
  have hzl : z < s.heap.objs.size := by
    rcases hz with hz | ⟨T, f, vs, hz, _⟩
    · exact Heap.lt_size hz
    · exact Heap.lt_size hz
  intro c hc
  have e' : c = z ∨ c = TI ∨ c = TO ∨ c = i1 ∨ c = i2 := by simpa using hc
  rcases e' with q | q | q | q | q
  · rw [q]; exact hzl
  · rw [q]; exact Heap.lt_size hTI
  · rw [q]; exact Heap.lt_size hTO
  · rw [q]; exact Heap.lt_size h1
  · rw [q]; exact Heap.lt_size h2
theorem zip_no_len : typeLookup (.type "zip") "__len__" = pure none := am_miss_of_fast (by decide +kernel)
theorem zip_no_hint : typeLookup (.type "zip") "__length_hint__" = pure none := am_miss_of_fast (by decide +kernel)
end
end L2
set_option Elab.async false
set_option linter.all false
set_option maxRecDepth 100000
namespace L2
open PySem PySem.Spec
/-- the class at C has its own def at f for the name -/
structure OpC (K : PySem.W.Frag) (C : Addr) (nm : Str) (f : Addr) : Prop where
  sf : PySem.W.selfFirst K C = true
  hs : PySem.W.findIn K (.ref C) nm = some (some (.ref f))
  fn : PySem.W.isFn K (.ref f) = true
section
variable {X : Cx} {CX : CXT} {k : Nat} {f C p : Addr} {fd : FuncData} {ps : List Str} {sp : Sp} {E : L2.St → XK} {x m : Str} {pos apos : Pos} {a b e o : Expr} {es : List Expr} {ta tb : TE} {t : TA}
def tOwn (C : Addr) (sp : Sp) (E : L2.St → XK) (ta tb : TE) : TE := fun σ H Q => ta σ H fun x H1 => tb σ H1 fun y H2 => ∃ u v dx fs dy gs, x = .ref u ∧ y = .ref v ∧ H2 u = some (.ins C dx fs) ∧ H2 v = some (.ins C dy gs) ∧ sp [x, y] H2 Q (E σ)
theorem pe_bopS {op : Operator} (ha : PE X a ta) (hb : PE X b tb) (O : OpC X.K C (PySem.dunder op.info.2) f) (F : FnOk X.prog X.w X.K X.mg X.base CX k f fd ps sp) (hr : Room k X.A) (hbd : Binds X.K fd ps []) (hx : ∀ σ, PassesAt CX X σ (E σ)) :
    PE X (.BinOp a op b pos) (tOwn C sp E ta tb) := by
  refine ⟨fun pins s σ H Q I h => ?_⟩
  refine wpAny_BinOp (binT ha hb I h fun v u s2 x y H2 I2 rx ry q => ?_)
  obtain ⟨c, d, dx, fs, dy, gs, rfl, rfl, hc, hd, q⟩ := q
  cases (show v = Value.ref c from rx)
  cases (show u = Value.ref d from ry)
  obtain ⟨mA, O1, _⟩ := ins_get I2.hok hc
  obtain ⟨mB, O2, _⟩ := ins_get I2.hok hd
  obtain ⟨od, J, _⟩ := O1.look
  obtain ⟨od', J', _⟩ := O2.look
  obtain ⟨m, hF⟩ := I2.fr
  refine PySem.W.binop_K hF I2.ok.mod.kin J J'.type O.sf O.hs O.fn ?_
  refine wpAny_mono (run_fnSD (us := [.ref c, .ref d]) (vs := [.ref c, .ref d]) (dvs := []) (ds := []) F hr hbd .nil (hx σ) I2 (.cons rfl (.cons rfl .nil)) q) (fun w s' z => ?_) fun _ _ x => x
  obtain ⟨z', H', I', rz, qz⟩ := z
  exact SlX.cmpback rz ⟨z', H', I', rz, qz⟩
/-- a text times a number -/
theorem op_repS : OpR X (binaryOp .Mult) (fun x y H Q => ∃ a n, x = .str a ∧ y = .int n ∧ MulOk a n ∧ Q (.str (Txt.mul a n)) H) := by
  intro pins s σ H x y v u Q I rx ry h
  obtain ⟨a, n, rfl, rfl, hm, q⟩ := h
  obtain ⟨t, rfl⟩ := rx
  obtain ⟨t2, rfl⟩ := ry
  exact PySem.SB.mul hm fun t' k => ⟨.str _, H, I.tok k, ⟨t', rfl⟩, q⟩
end
end L2
namespace ZZ
open PySem PySem.Spec L2
def kOwn (c : Nat) (fh : DF) (v u : Val) : DE := fun _ ce => if isC c ce v && isC c ce u then fh [v, u] ce else .stuck
section
variable {X : Cx} {Z : Zy} {W : WX} {k n : Nat} {fa pa : Addr} {ps : List Str} {fh : DF} {x m nm : Str} {p pos pos2 apos : Pos} {a b e e2 o : Expr} {es : List Expr} {f g : DE} {fs : List DE} {c : Nat}
theorem t_own {σ : L2.St} {H : Hp} {Q : VK} (h : tE Z W (eBin (kOwn c fh) f g) σ H Q) : tOwn (Z.cl c) (spD Z.toZx fh 2) (WE W) (tE Z W f) (tE Z W g) σ H Q :=
  tE_imp (fun x H1 h1 => tE_imp (fun y H2 ⟨A, F, sl, ce, v, u, so, hs, rv, ru, p⟩ => by
    unfold kOwn at p
    by_cases hi : (isC c ce v && isC c ce u) = true
    · rw [if_pos hi] at p
      simp only [Bool.and_eq_true] at hi
      obtain ⟨a, dx, fs, n, rfl, h1, h2⟩ := isC_rd so rv hi.1
      obtain ⟨b, dy, gs, n', rfl, h3, h4⟩ := isC_rd so ru hi.2
      exact ⟨a, b, dx, fs, dy, gs, rfl, rfl, h1, h3, spD_call (sl := sl) (vs := [v, u]) so ⟨_, _, rfl, rv, _, _, rfl, ru, rfl⟩ rfl (by simp [isC_plain hi.1, isC_plain hi.2]) p⟩
    · rw [if_neg hi] at p
      exact p.elim) h1) (tE2 h)
theorem de_bopD {op : Operator} (O : OpC X.K (Z.cl c) (PySem.dunder op.info.2) fa) (G : DOk X.prog X.w X.K X.mg X.base k fa ps (spD Z.toZx fh 2)) (hr : Room k X.A) (tw : TW X W) (ha : PE X a (tE Z W f)) (hb : PE X b (tE Z W g)) :
    PE X (.BinOp a op b pos) (tE Z W (eBin (kOwn c fh) f g)) := by
  obtain ⟨fd, F, bd⟩ := G.ex
  exact (pe_bopS ha hb O F hr bd tw).weak fun σ H Q h => t_own h
theorem dunder_add : PySem.dunder Operator.Add.info.2 = "__add__" := by decide +kernel
theorem de_ownAdd (O : OpC X.K (Z.cl c) "__add__" fa) (G : DOk X.prog X.w X.K X.mg X.base k fa ps (spD Z.toZx fh 2)) (hr : Room k X.A) (tw : TW X W) (ha : PE X a (tE Z W f)) (hb : PE X b (tE Z W g)) : PE X (.BinOp a .Add b pos) (tE Z W (eBin (kOwn c fh) f g)) := de_bopD (by rw [dunder_add]; exact O) G hr tw ha hb
def pairs (xs ys : List D) : List D := List.zipWith (fun x y => D.tup [x, y]) xs ys
theorem pairs_length (xs ys : List D) : (pairs xs ys).length = min xs.length ys.length := by simp [pairs]
theorem reps_snoc {Z : Zx} {F : Hp} {ds : List D} {vs : List V} {d : D} {v : V} (r : Reps Z F ds vs) (h : Rep Z F d v) : Reps Z F (ds ++ [d]) (vs ++ [v]) := r.append (reps_cons h reps_nil)
theorem reps_strs {F : Hp} : ∀ {ds : List D} {vs : List V} {ys : List Str}, Reps Z.toZx F ds vs → asStrs ds = some ys → vs = ys.map V.str
  | [], vs, ys, r, e => by
    cases e
    exact reps_nil_inv r
  | .str s :: ds, vs, ys, r, e => by
    unfold asStrs at e
    obtain ⟨v, r', rfl, h1, h2⟩ := reps_cons_inv r
    cases hh : asStrs ds with
    | none => rw [hh] at e; cases e
    | some zs =>
      rw [hh] at e
      cases e
      unfold Rep at h1
      rw [h1, reps_strs h2 hh]
      rfl
  | .non :: ds, vs, ys, r, e => by cases e
  | .bl _ :: ds, vs, ys, r, e => by cases e
  | .int _ :: ds, vs, ys, r, e => by cases e
  | .tup _ :: ds, vs, ys, r, e => by cases e
  | .lst _ :: ds, vs, ys, r, e => by cases e
  | .wl _ :: ds, vs, ys, r, e => by cases e
  | .ins _ _ :: ds, vs, ys, r, e => by cases e
def kJoin (v : Val) (vs : List Val) : DE := fun _ ce => match v, vs with
  | .im (.str a), [u] => match asL ce u with
    | some ds => match asStrs ds with
      | some ys => if (ys.map (·.length)).sum + ys.length * a.length ≤ 16777216 then .ok (.im (.str (Txt.join a ys))) ce else .stuck
      | none => .stuck
    | none => .stuck
  | _, _ => .stuck
theorem de_join {cpos : Pos} (hK : X.K = Z.K) (ho : PE X o (tE Z W f)) (ha : PE X e (tE Z W g))
    (hb : attributeBase o "join" X.env (eval o X.env) = eval o X.env := by rfl) (hl : (apos.endLine == cpos.line) = true := by rfl) (hs : starEach [e] X.env = (false, eval e X.env) :: starEach [] X.env := by rfl)
    (hfew : ((backTo cpos (starEach [e] X.env)).all (fun x => !x.1) && (backToKw cpos (keywordEach [] X.env)).all (fun x => x.1.isSome)
      && decide ([e].length + ([] : List Keyword).length + (if ([] : List Keyword).isEmpty then 0 else 1) < 30)) = true := by rfl) :
    PE X (.Call (.Attribute o "join" apos) [e] [] cpos) (tE Z W (eMth tyS kJoin f [g])) :=
  de_bm PySem.F.plainAttrs_str PySem.F.slot_str_join PySem.F.type_str_join mt_join ⟨tyS_ok, fun A F sl ce v x vs xs H σ Q so hs rv rs p => by
    unfold kJoin at p
    split at p
    · rename_i u
      split at p
      · rename_i ds e1
        split at p
        · rename_i ys e2
          split at p
          · rename_i hz
            obtain ⟨y, rfl, ry⟩ := vreps1 rs
            obtain ⟨l, ws, rfl, h1, h2⟩ := asL_rd so ry e1
            have := reps_strs h2 e2
            subst this
            rw [rep_str rv]
            exact ⟨_, l, ys, rfl, rfl, .inl (SqL.of h1), hz, fin_flat so p repS⟩
          · exact p.elim
        · exact p.elim
      · exact p.elim
    · exact p.elim⟩ ho (da_cons ha da_nil hs) hb hl hs rfl hfew
def kRepS (v u : Val) : DE := fun _ ce => match v, u with
  | .im (.str a), .im (.int n) => if a.length ≤ 1000 ∧ -1000 ≤ n ∧ n ≤ 1000 then .ok (.im (.str (Txt.mul a n))) ce else .stuck
  | _, _ => .stuck
theorem mulOk_small {a : Str} {n : Int} (h1 : a.length ≤ 1000) (h2 : -1000 ≤ n) (h3 : n ≤ 1000) : MulOk a n := by
  refine ⟨by simp; omega, fun h _ => ?_, fun h _ => ?_⟩
  · have hp : 0 < n := by omega
    have : (1000 : Int) ≤ (2 ^ 63 - 1) / n := Int.le_ediv_of_mul_le hp (by omega)
    omega
  · have : a.length * n.toNat ≤ 1000 * 1000 := Nat.mul_le_mul h1 (by omega)
    simp [Builtin.Str.tooLong, sizeLine_eq]
    omega
theorem de_repS (ha : PE X a (tE Z W f)) (hb : PE X b (tE Z W g)) : PE X (.BinOp a .Mult b pos) (tE Z W (eBin kRepS f g)) := de_op op_repS (fun A F sl ce v u x y H σ Q so hs rv ru p => by
  unfold kRepS at p
  split at p
  · rename_i a n
    split at p
    · rename_i hc
      rw [rep_str rv, rep_int ru]
      exact ⟨a, n, rfl, rfl, mulOk_small hc.1 hc.2.1 hc.2.2, fin_flat so p repS⟩
    · exact p.elim
  · exact p.elim) ha hb
end
def relD : D → Value → Prop
  | .str s, u => ∃ t, u = .str s t
  | .int i, u => ∃ t, u = .int i t
  | .non, u => u = .none
  | _, _ => False
def Ents : List DictEntry → List (Str × D) → Prop
  | [], [] => True
  | e :: es, (k, v) :: kvs => (∃ t, e.key = .str k t) ∧ relD v e.val ∧ Ents es kvs
  | _, _ => False
/-- the name x stands for a dict with these entries -/
structure DctS (w : World) (K : PySem.W.Frag) (mg : Str → Option Value) (x : Str) (kvs : List (Str × D)) : Prop where
  ex : ∃ d es n, mg x = some (.ref d) ∧ KDict K w d es n ∧ Ents es.toList kvs
theorem ents_find {z : Str} : ∀ {es : List DictEntry} {kvs : List (Str × D)}, Ents es kvs → match kvs.lookup z with
    | some v => ∃ e, es.find? (·.key.isStr z) = some e ∧ relD v e.val
    | none => es.find? (·.key.isStr z) = none ∧ es.any (·.refKey) = false
  | [], [], _ => ⟨rfl, rfl⟩
  | [], _ :: _, h => h.elim
  | _ :: _, [], h => h.elim
  | e :: es, (k, v) :: kvs, h => by
    obtain ⟨⟨t, ek⟩, rv, he⟩ := h
    have ih := ents_find (z := z) he
    have hi : e.key.isStr z = (k == z) := by rw [ek]; rfl
    rw [List.lookup_cons]
    by_cases hz : z = k
    · subst hz
      simp only [beq_self_eq_true, if_true]
      refine ⟨e, ?_, rv⟩
      rw [List.find?_cons, hi]
      simp
    · have h1 : (z == k) = false := beq_false_of_ne hz
      have h2 : (k == z) = false := beq_false_of_ne (Ne.symm hz)
      simp only [h1]
      rw [List.find?_cons, hi, h2]
      cases hl : kvs.lookup z with
      | some v' => rw [hl] at ih; exact ih
      | none =>
        rw [hl] at ih
        refine ⟨ih.1, ?_⟩
        have : e.refKey = false := by
          unfold DictEntry.refKey
          rw [ek]
        rw [List.any_cons, this, ih.2]
        rfl
theorem dct_ns {K : PySem.W.Frag} {w : World} {d : Addr} {es : Array DictEntry} {n : Nat} {kvs : List (Str × D)} (D : KDict K w d es n) (h : Ents es.toList kvs) (z : Str) : ∃ r, PySem.W.nsIn K d z = some r ∧ r.isSome = (kvs.lookup z).isSome ∧ ∀ v, kvs.lookup z = some v → ∃ u, r = some u ∧ relD v u := by
  have := ents_find (z := z) h
  unfold PySem.W.nsIn
  rw [D.at_]
  dsimp only
  cases hl : kvs.lookup z with
  | some v =>
    rw [hl] at this
    obtain ⟨e, he, r⟩ := this
    rw [he]
    exact ⟨_, rfl, rfl, fun v' e' => by cases e'; exact ⟨_, rfl, r⟩⟩
  | none =>
    rw [hl] at this
    rw [this.1]
    dsimp only
    rw [this.2]
    exact ⟨none, rfl, rfl, fun v' e' => by cases e'⟩
def kInK (kvs : List (Str × D)) (neg : Bool) (v : Val) : DE := fun _ ce => match v with
  | .im (.str z) => .ok (.im (.bl ((kvs.lookup z).isSome != neg))) ce
  | _ => .stuck
section
variable {X : Cx} {Z : Zy} {W : WX} {x : Str} {p pos : Pos} {e : Expr} {f : DE} {kvs : List (Str × D)}
theorem t_inK {d : Addr} {es : Array DictEntry} {n : Nat} {neg : Bool} (gg : Bool → Bool) (hgg : ∀ b, (b != neg) = gg b) (D : KDict X.K X.w d es n) (he : Ents es.toList kvs) {σ : L2.St} {H : Hp} {Q : VK} (h : tE Z W (eUn (kInK kvs neg) f) σ H Q) :
    tOp (fun x y H Q => ∃ (z : Str) (r : Option Value), x = .str z ∧ y = .ref d ∧ PySem.W.nsIn X.K d z = some r ∧ Q (.bl (gg r.isSome)) H) (tE Z W f) (tC (.ref d)) σ H Q :=
  tE_imp (fun x H1 ⟨A, F, sl, ce, v, so, hs, r, p⟩ => by
    unfold kInK at p
    split at p
    · rename_i z
      obtain ⟨r', h1, h2, _⟩ := dct_ns D he z
      exact ⟨z, r', rep_str r, rfl, h1, by rw [h2, ← hgg]; exact fin_flat so p repB⟩
    · exact p.elim) (tE1 h)
theorem dt_notInK (G : DctS X.w X.K X.mg x kvs) (he : PE X e (tE Z W f)) (hg : Gl X x := by rfl) (hdb : (x == ("__debug__" : Str)) = false := by decide) (hm : behindInMarks .NotIn (.Name x p) = false := by rfl) : PT X (.Compare e [.NotIn] [.Name x p] pos) (tT Z W (eUn (kInK kvs true) f)) := by
  obtain ⟨d, es, n, hmg, D, hen⟩ := G.ex
  exact (pt_cmpR (op_notIn_kd D) he (pe_glob (v := .ref d) hg hmg rfl hdb) hm).weak fun σ H Q h => t_inK (fun b => !b) (fun b => by cases b <;> rfl) D hen h
end
end ZZ
set_option Elab.async false
set_option linter.all false
set_option maxRecDepth 100000
namespace PySem.W
open PySem PySem.Spec
end PySem.W
namespace PySem.W
open PySem PySem.Calls PyProof.Rows
end PySem.W
namespace L2
open PySem PySem.Spec
end L2
namespace ZZ
open PySem PySem.Spec L2
def kSIdx (v : Val) (vs : List Val) : DE := fun _ ce => match v, vs with
  | .im (.str a), [.im (.str b)] => match Builtin.Str.occurrences a b 0 a.length 1 with
    | i :: _ => .ok (.im (.int (i : Nat))) ce
    | [] => .stuck
  | _, _ => .stuck
/-- the class's own unary operator -/
structure Op1 (K : PySem.W.Frag) (C : Addr) (nm : Str) (f : Addr) : Prop where
  hs : PySem.W.findIn K (.ref C) nm = some (some (.ref f))
  fn : PySem.W.isFn K (.ref f) = true
section
variable {X : Cx} {Z : Zy} {W : WX} {k n : Nat} {fa pa : Addr} {ps : List Str} {fh : DF} {x m nm : Str} {p pos pos2 apos cpos : Pos} {a b e e2 o : Expr} {es : List Expr} {f g : DE} {fs : List DE} {c : Nat}
theorem de_sidx (hK : X.K = Z.K) (ho : PE X o (tE Z W f)) (ha : PE X e (tE Z W g))
    (hb : attributeBase o "index" X.env (eval o X.env) = eval o X.env := by rfl) (hl : (apos.endLine == cpos.line) = true := by rfl) (hs : starEach [e] X.env = (false, eval e X.env) :: starEach [] X.env := by rfl)
    (hfew : ((backTo cpos (starEach [e] X.env)).all (fun x => !x.1) && (backToKw cpos (keywordEach [] X.env)).all (fun x => x.1.isSome)
      && decide ([e].length + ([] : List Keyword).length + (if ([] : List Keyword).isEmpty then 0 else 1) < 30)) = true := by rfl) :
    PE X (.Call (.Attribute o "index" apos) [e] [] cpos) (tE Z W (eMth tyS kSIdx f [g])) :=
  de_bm PySem.F.plainAttrs_str PySem.F.slot_str_index PySem.F.type_str_index mt_sindex ⟨tyS_ok, fun A F sl ce v x vs xs H σ Q so hs rv rs p => by
    unfold kSIdx at p
    split at p
    · obtain ⟨y, rfl, ry⟩ := vreps1 rs
      split at p
      · rename_i i rest hoc
        rw [rep_str rv, rep_str ry]
        exact ⟨_, _, _, _, rfl, rfl, hoc, fin_flat so p repI⟩
      · exact p.elim
    · exact p.elim⟩ ho (da_cons ha da_nil hs) hb hl hs rfl hfew
end
end ZZ
set_option Elab.async false
set_option linter.all false
set_option maxRecDepth 100000
namespace L2
open PySem PySem.Spec PyProof.Rows
/-- a promise that knows the heap's size at the entry -/
structure FnOkN (P : Program) (w : World) (K : PySem.W.Frag) (mg : Str → Option Value) (base : Heap) (CX : CXT) (k : Nat) (f : Addr) (fd : FuncData) (ps : List Str) (sp : Nat → Sp) : Prop where
  len : ∀ n vs H Q E, sp n vs H Q E → vs.length = ps.length
  run : ∀ (A : Around) (outer : List Env) (s : Shared) (H : Hp) (args : Args) (us : List Value) (vs : List V) (Q : VK) (E : XK), Room k A → Env0 P w K mg base A outer s H → BindsTo s fd args (ps.zip us) → Vals vs us →
    sp s.heap.objs.size vs H Q E → codeAny (model P w) A (.call (.ref f) args) (CR CX outer P w H s Q E) s
theorem fn_ofN {CX : CXT} {P : Program} {w : World} {K : PySem.W.Frag} {mg : Str → Option Value} {base : Heap} {k : Nat} {f : Addr} {name qual : Str} {st : Stmt} {fd : FuncData} {N ps : List Str} {sp : Nat → Sp}
    (Fn : Fun K name qual st f fd) (S : FnScope N ps (defScope st)) (len : ∀ n vs H Q E, sp n vs H Q E → vs.length = ps.length)
    (hbody : ∀ (cdv : Value) (A : Around) (outer : List Env) (s : Shared) (H : Hp) (vs : List V) (Q : VK) (E : XK), Room k (A.deeper (envOfC qual (defScope st) s.heap.objs.size f cdv)) → sp s.heap.objs.size vs H Q E →
      ∃ t, PSs (cxOf CX P w K mg base N qual (defScope st) f cdv A outer s H E) (defBody st) t ∧ t { nx := fun _ H' => Q .non H', rt := Q } (start N vs) H) :
    FnOkN P w K mg base CX (k + 1) f fd ps sp := by
  obtain ⟨oc, od, kV, doc, pm, an, cdv, ct, osl, rfl, lk, hcd⟩ := Fn.ex
  refine ⟨len, fun A outer s H args us vs Q E room e0 hb r q => ?_⟩
  have hlen := len _ _ _ _ _ q
  have inK : K.In s.heap := e0.mod.kin.keeps fun b o z => (e0.bs b o z).1
  have noLim : s.heap.NoLimit := e0.mod.nolimit.keeps fun b o z => (e0.bs b o z).1
  refine codeAny_call_function room.depth (inK _ _ lk) rfl S.co S.gen rfl (PySem.W.codeRec_of inK hcd) (hb _ _ _ _ ?_)
  refine wpAny_newFunctionEnv_cells S.kind (fun ⟨n, v⟩ hy => ?_) fun env he s1 x => ?_
  · rcases S.par n (List.of_mem_zip hy).1 with z | z
    · exact .inl z
    · exact .inr ⟨z, PySem.W.cellsFrom_some _ _ _ (.inl z)⟩
  subst he
  refine ⟨noLim.keeps x.toInCall.keep, codeAny_func ?_⟩
  obtain ⟨t, ht, hq⟩ := hbody cdv A outer s H vs Q E (room.deeper _) q
  have J0 := inv_start (CX := CX) (E := E) S room.hd e0 hlen r x
  refine wpAny_mono (ht.run [] s1 (start N vs) H _ J0 hq) (fun fl s' hs => ?_) fun e s' z => z
  cases fl with
  | ret u =>
    obtain ⟨v, σ', H', J, rv, q⟩ := hs
    exact ⟨v, H', J.os, J.bare, J.base, J.hok, rv, q⟩
  | next =>
    obtain ⟨σ', H', J, q⟩ := hs
    exact ⟨V.non, H', J.os, J.bare, J.base, J.hok, rfl, q⟩
  | brk =>
    obtain ⟨_, _, _, q⟩ := hs
    exact q.elim
  | cont =>
    obtain ⟨_, _, _, q⟩ := hs
    exact q.elim
/-- return iter(self.fl) -/
def spIter (K : PySem.W.Frag) (C : Addr) (fl : Str) (n : Nat) : Sp := fun vs H Q _ => ∃ a dx fs l zs, vs = [.ref a] ∧ H a = some (.ins C dx fs) ∧ Cls K C ∧ NoAttr K C fl ∧ fs.lookup fl = some (.ref l) ∧ SqL K H l zs ∧
  ∀ it, H it = none → n ≤ it → Q (.ref it) (upd H it (ItO l it 0))
section
variable {X : Cx} {CX : CXT} {k : Nat} {f C p : Addr} {fd : FuncData} {ps : List Str} {sp : Sp} {E : L2.St → XK} {x m fl : Str} {pos apos pos' : Pos} {a b e o tg : Expr} {es : List Expr} {ta tb : TE} {t : TA}
def iOwnIt (K : PySem.W.Frag) (C : Addr) (fl : Str) (tl : TE) : TI := fun σ H R => tl σ H fun x H1 => ∃ a dx fs l zs, x = .ref a ∧ H1 a = some (.ins C dx fs) ∧ Cls K C ∧ NoAttr K C fl ∧ fs.lookup fl = some (.ref l) ∧ SqL K H1 l zs ∧ R (Itl K l) H1
theorem pi_ownIt (he : PE X e ta) (hs : PySem.W.findIn X.K (.ref C) "__iter__" = some (some (.ref f))) (hf : PySem.W.isFn X.K (.ref f) = true) (F : FnOkN X.prog X.w X.K X.mg X.base CX k f fd ["self"] (spIter X.K C fl)) (hr : Room k X.A) (hbd : Binds X.K fd ["self"] []) (hx : Passes CX X fun _ _ _ => False) :
    PI X tg e (iOwnIt X.K C fl ta) := by
  refine ⟨fun pins s σ H R I h => ?_⟩
  refine thn (he.run pins s σ H _ I h) fun v s1 ⟨x, H1, I1, rx, c, dx, fs, l, zs, ex, hc, hcl, hno, hlk, hsq, q⟩ => ?_
  subst ex
  obtain rfl : v = Value.ref c := rx
  obtain ⟨mA, O1, _⟩ := ins_get I1.hok hc
  obtain ⟨od, J, _⟩ := O1.look
  obtain ⟨m, hF⟩ := I1.fr
  refine PySem.W.owit_iter hF I1.ok.mod.kin J hs hf ?_
  refine wpAny_call (codeAny_mono (F.run X.A X.stack s1 H1 ⟨[.ref c], []⟩ [.ref c] [.ref c] (fun v H' => ∃ it, v = .ref it ∧ H1 it = none ∧ s1.heap.objs.size ≤ it ∧ H' = upd H1 it (ItO l it 0)) (fun _ _ _ => False) hr I1.env0 (hbd s1 [.ref c] I1.kIn rfl) (.cons rfl .nil) ⟨c, dx, fs, l, zs, rfl, hc, hcl, hno, hlk, hsq, fun it h1 h2 => ⟨it, rfl, h1, h2, rfl⟩⟩) fun r s' hq => ?_)
  cases r with
  | error er => exact hx pins σ H1 s1 er s' I1 hq
  | ok fl' =>
    cases fl' with
    | ret u =>
      obtain ⟨v, H', I2, rv, it, rfl, hn, hle, rfl⟩ := I1.after hq
      obtain rfl : u = Value.ref it := rv
      have hi : (upd H1 it (ItO l it 0)) it = some (ItO l it 0) := upd_same
      have eo := itO_get I2 hi
      have hT : s'.TypeIs (.ref it) "list_iterator" := ⟨_, eo, rfl⟩
      have st : s'.heap.IsListIter it l 0 := ⟨_, eo, rfl, rfl⟩
      have hi' := hi
      unfold ItO at hi'
      have I3 := ItX.inv_drop I2 hi'
      have ed : ItX.dropH (upd H1 it (ItO l it 0)) it = H1 := ItX.dropH_upd hn
      have fp := ItX.inv_fp I2 hi (Nat.le_trans I1.sz hle)
      rw [ed] at I3 fp
      show PySem.W.OwitIt _ _ _ _ _ _
      unfold PySem.W.OwitIt
      refine wpAny_specialOf (name := Str.ofString "__next__") hT slot_listiter_next.lookup ?_
      refine ⟨it, [it], _, _, H1, rfl, I3, turn_list l it, st, fun b hb => ?_, q⟩
      have e : b = it := by simpa using hb
      rw [e]
      exact fp
    | next => exact False.elim hq
    | brk => exact False.elim hq
    | cont => exact False.elim hq
end
end L2
namespace L2
open PySem PySem.Spec PyProof.Rows
section
variable {X : Cx} {CX : CXT} {k i : Nat} {f C p : Addr} {fd : FuncData} {ps : List Str} {sp : Sp} {E : L2.St → XK} {x m fl : Str} {pos apos pos' pn : Pos} {a b e o tg : Expr} {es : List Expr} {ta tb : TE} {t : TA}
/-- len(e), e an instance with __len__ -/
def tLenO (C : Addr) (sp : Sp) (ta : TE) : TE := fun σ H Q => ta σ H fun x H1 => ∃ a dx fs, x = .ref a ∧ H1 a = some (.ins C dx fs) ∧ sp [x] H1 (fun v H2 => ∃ n, v = .int n ∧ 0 ≤ n ∧ n < 2 ^ 62 ∧ Q (.int n) H2) fun _ _ _ => False
theorem pe_lenO (he : PE X e ta) (hs : PySem.W.findIn X.K (.ref C) "__len__" = some (some (.ref f))) (hf : PySem.W.isFn X.K (.ref f) = true) (F : FnOk X.prog X.w X.K X.mg X.base CX k f fd ["self"] sp) (hr : Room (k + 1) X.A) (hbd : Binds X.K fd ["self"] []) (hx : Passes CX X fun _ _ _ => False)
    (hg : Gl X "len") (hm : X.mg "len" = none) (hst : starEach [e] X.env = (false, eval e X.env) :: starEach [] X.env := by rfl) (hpl : (backTo pos (starEach [] X.env)).any (·.1) = false := by rfl) :
    PE X (.Call (.Name "len" pn) [e] [] pos) (tLenO C sp ta) := by
  refine ⟨fun pins s σ H Q I h => ?_⟩
  refine wpAny_Call_Name_kw (ld_blt (u := .builtin "len") I hg hm PySem.boot_len ?_ (by decide) (by decide))
  have ha : PA X [e] (tCons ta tNil) := pa_cons he pa_nil hst
  refine PyProof.Rows.callWith_builtin1 (thn (ha.run pos pins s σ H (fun vs H1 => match vs with
    | [x] => ∃ a dx fs, x = .ref a ∧ H1 a = some (.ins C dx fs) ∧ sp [x] H1 (fun v H2 => ∃ n, v = .int n ∧ 0 ≤ n ∧ n < 2 ^ 62 ∧ Q (.int n) H2) fun _ _ _ => False
    | _ => False) I h) fun us s1 ⟨vs, H1, I1, r1, q1⟩ => ?_) hst hpl
  rcases vs with _ | ⟨x, _ | ⟨y, r⟩⟩
  · exact q1.elim
  rotate_left
  · exact q1.elim
  obtain ⟨c, dx, fs, rfl, hc, q⟩ := q1
  obtain ⟨u, rfl, ru⟩ := vals1 r1
  obtain rfl : u = Value.ref c := ru
  obtain ⟨mA, O1, _⟩ := ins_get I1.hok hc
  obtain ⟨od, J, _⟩ := O1.look
  obtain ⟨m, hF⟩ := I1.fr
  refine PySem.W.len_K hF I1.ok.mod.kin J hs hf ?_
  refine wpAny_call (codeAny_mono (F.run X.A.in1 X.stack s1 H1 ⟨[.ref c], []⟩ [.ref c] [.ref c] _ _ hr.in1 I1.env0.in1 (hbd s1 [.ref c] I1.kIn rfl) (.cons rfl .nil) q) fun r s' hq => ?_)
  cases r with
  | error er => exact hx pins σ H1 s1 er s' I1 hq
  | ok fl' =>
    cases fl' with
    | ret u =>
      obtain ⟨v, H', I2, rv, n, rfl, n0, n1, q2⟩ := I1.after hq
      obtain ⟨tk, rfl⟩ := rv
      exact ⟨⟨n0, by omega⟩, .int n, H', I2.tok _, ⟨_, rfl⟩, q2⟩
    | next => exact False.elim hq
    | brk => exact False.elim hq
    | cont => exact False.elim hq
end
end L2
namespace PySem.W
open PySem PySem.Spec PySem.Calls PyProof.Rows
end PySem.W
namespace ZZ
open PySem PySem.Spec L2
/-- an own class's items: its i-th field, a list -/
def itO (c i : Nat) : Val → Option (List D)
  | .im (.ins d ds) => if d = c then (match ds[i]? with
    | some (.lst es) => some es
    | _ => none) else none
  | _ => none
/-- len(e), e an own instance -/
def kLenO (c : Nat) (fh : DF) (v : Val) : DE := fun _ ce => if isC c ce v then (match fh [v] ce with
  | .ok (.im (.int n)) ce' => if Nat.ble n.natAbs 4611686018427387903 && decide (0 ≤ n) then .ok (.im (.int n)) ce' else .stuck
  | _ => .stuck) else .stuck
/-- a def that gives an iterator over a field -/
structure ItOk (P : Program) (w : World) (K : PySem.W.Frag) (mg : Str → Option Value) (base : Heap) (C f : Addr) (fl : Str) : Prop where
  hs : PySem.W.findIn K (.ref C) "__iter__" = some (some (.ref f))
  fn : PySem.W.isFn K (.ref f) = true
  ex : ∃ fd, FnOkN P w K mg base (L2N.CX P w) 1 f fd ["self"] (spIter K C fl) ∧ Binds K fd ["self"] []
theorem pass_none {X : Cx} : Passes (L2N.CX X.prog X.w) X fun _ _ _ => False := fun pins σ H s e s' I h => tw_none σ pins H s e s' I h
section
variable {X : Cx} {Z : Zy} {W : WX} {k n i : Nat} {fa : Addr} {ps : List Str} {fh : DF} {fl : Str} {p pos pn : Pos} {a b e tg : Expr} {f g : DE} {c : Nat}
theorem jok_l2 {Z : Zx} {F : Hp} {K : PySem.W.Frag} {a : Addr} {vs : List V} {ds : List D} (hl : SqL K F a vs) (r : Reps Z F ds vs) : JOk Z F (Itl K a) ds := fun F1 H i e1 e2 => by
  have h2 := e2.seq (e1.seq hl)
  refine ⟨fun h => ⟨vs, h2, by rw [h, r.length]; exact Nat.le_refl _⟩, fun d hd => ?_⟩
  obtain ⟨v, hv, rv⟩ := r.get' hd
  refine ⟨⟨vs, v, h2, hv⟩, fun x H' ⟨eH, hx⟩ => .inl ⟨?_, eH⟩⟩
  have := hx vs h2
  rw [hv] at this
  cases this
  exact rv.mono e1
theorem itN {P : Program} {w : World} {K : PySem.W.Frag} {mg : Str → Option Value} {base : Heap} {name qual : Str} {st : Stmt} {f C : Addr} {fd : FuncData} {fl : Str} {p1 p2 p3 p4 p5 : Pos} (Fn : Fun K name qual st f fd) (S : FnScope ["self"] ["self"] (defScope st)) (hm : mg "iter" = none)
    (hb : defBody st = [.Return (some (.Call (.Name "iter" p1) [.Attribute (.Name "self" p2) fl p3] [] p4)) p5])
    (hg : (defScope st).names.lookup ("iter" : Str) = some .globalImplicit) (hv : (defScope st).names.lookup ("self" : Str) = some .local) : FnOkN P w K mg base (L2N.CX P w) 1 f fd ["self"] (spIter K C fl) := by
  refine fn_ofN Fn S (fun n vs H Q E ⟨a, dx, fs, l, zs, e, _⟩ => by rw [e]; rfl) fun cdv A outer s H vs Q E hr h => ?_
  rw [hb]
  refine ⟨_, pss_one (ps_ret (pe_callB (ItX.call_iterN) (show Gl _ "iter" from hg) hm (by decide +kernel) (pa_cons (pe_fld (pe_var (i := 0) rfl (.inl hv)) rfl) pa_nil rfl))), ?_⟩
  obtain ⟨a, dx, fs, l, zs, rfl, ha, hc, hn, hl, hq, k⟩ := h
  exact ⟨_, rfl, a, C, dx, fs, .ref l, rfl, ha, hc, hn, hl, l, zs, rfl, hq, k⟩
theorem di_own (hK : X.K = Z.K) (he : PE X e (tE Z W f)) (kc : ClsOk X.K Z.toZx c) (na : NoAttr X.K (Z.cl c) fl) (hi : (Z.fl c)[i]? = some fl) (G : ItOk X.prog X.w X.K X.mg X.base (Z.cl c) fa fl) (hr : Room 1 X.A) : PI X tg e (tI Z W (iExp f (itO c i))) := by
  obtain ⟨fd, F, bd⟩ := G.ex
  refine (pi_ownIt he G.hs G.fn F hr bd pass_none).weak fun σ H R h => tE_imp (fun x H1 ⟨A, F, ce, v, ds, so, r, e, q⟩ => ?_) (tI1 h)
  unfold itO at e
  split at e
  · rename_i d xs
    split at e
    · rename_i hd
      subst hd
      split at e
      · rename_i es hx
        cases e
        unfold VRep Rep at r
        obtain ⟨a, dx, fs, rfl, ha, hf, hr2⟩ := r
        obtain ⟨v, hv, rv⟩ := lookup_ix (n := (Z.fl d).length) kc.nd (by rw [List.take_length]; exact hf) hr2 hi hx
        unfold Rep at rv
        obtain ⟨l, vs, rfl, hl, rr⟩ := rv
        exact ⟨a, dx, fs, l, vs, rfl, so.sub _ _ ha, kc.cls, na, hv, SqL.of (so.sub _ _ hl), q _ (jok_l2 (SqL.of hl) rr)⟩
      · cases e
    · cases e
  · cases e
theorem de_lenO (he : PE X e (tE Z W f)) (hs : PySem.W.findIn X.K (.ref (Z.cl c)) "__len__" = some (some (.ref fa))) (hf : PySem.W.isFn X.K (.ref fa) = true) (G : DOk X.prog X.w X.K X.mg X.base k fa ["self"] (spD Z.toZx fh 1)) (hr : Room (k + 1) X.A) (hg : Gl X "len") (hm : X.mg "len" = none)
    (hst : starEach [e] X.env = (false, eval e X.env) :: starEach [] X.env := by rfl) (hpl : (backTo pos (starEach [] X.env)).any (·.1) = false := by rfl) : PE X (.Call (.Name "len" pn) [e] [] pos) (tE Z W (eUn (kLenO c fh) f)) := by
  obtain ⟨fd, F, bd⟩ := G.ex
  refine (pe_lenO (C := Z.cl c) he hs hf F hr bd pass_none hg hm hst hpl).weak fun σ H Q h => tE_imp (fun x H1 ⟨A, F, sl, ce, v, so, hs, rv, p⟩ => ?_) (tE1 h)
  unfold kLenO at p
  by_cases hi : isC c ce v = true
  · rw [if_pos hi] at p
    obtain ⟨a, dx, fs, n, rfl, h1, h2⟩ := isC_rd so rv hi
    refine ⟨a, dx, fs, rfl, h1, spD_call (W := WF) (sl := sl) (σ := σ) (vs := [v]) so ⟨_, _, rfl, rv, rfl⟩ rfl (by simp [isC_plain hi]) ?_⟩
    split at p
    · rename_i n ce' e
      rw [e]
      split at p
      · rename_i hb
        rw [Bool.and_eq_true, Nat.ble_eq, decide_eq_true_eq] at hb
        exact fun A' F' H' x p1 e1 so1 r1 => ⟨n, rep_int r1, hb.2, by omega, by rw [← rep_int r1]; exact p A' F' H' x p1 e1 so1 r1⟩
      · exact p.elim
    · exact p.elim
  · rw [if_neg hi] at p
    exact p.elim
end
end ZZ
namespace L2
open PySem PySem.Spec PyProof.Rows
end L2
namespace ZZ
open PySem PySem.Spec L2
end ZZ
set_option Elab.async false
set_option linter.all false
set_option maxRecDepth 100000
namespace PySem.W
open PySem PySem.Spec PySem.Calls PyProof.Rows
end PySem.W
namespace L2
open PySem PySem.Spec PyProof.Rows NdefX
/-- in the body of the function itself -/
structure PEat (X : Cx) (body : List Stmt) (e : Expr) (t : TE) : Prop where
  run : ∀ (pins : List (Addr × Obj)) (s : Shared) (σ : St) (H : Hp) (Q : VK), Inv X pins σ H s → t σ H Q → _root_.PySem.wpAt (model X.prog X.w) X.A (.func body X.env) (eval e X.env) (EP X pins σ Q) X.xe s
structure PSat (X : Cx) (body : List Stmt) (st : List Stmt) (t : TS) : Prop where
  run : ∀ (pins : List (Addr × Obj)) (s : Shared) (σ : St) (H : Hp) (D : Ends), Inv X pins σ H s → t D σ H → _root_.PySem.wpAt (model X.prog X.w) X.A (.func body X.env) (execs st X.env) (SP X pins D) X.xe s
end L2
namespace L2
open PySem PySem.Spec PyProof.Rows NdefX
end L2
namespace L2
open PySem PySem.Spec PyProof.Rows NdefX
end L2
set_option Elab.async false
set_option linter.all false
set_option maxRecDepth 100000
namespace L2
open PySem PySem.Spec PyProof.Rows NdefX
section
variable {X : Cx} {CX : CXT} {body : List Stmt} {a b e o : Expr} {es rest : List Expr} {ta tb : TE} {t : TA} {u : TS} {st : Stmt} {sts : List Stmt} {ts : TS} {pos apos pn : Pos} {m y : Str} {k : Nat} {E : L2.St → XK}
theorem PSat.weak {t t' : TS} (h : PSat X body sts t) (hw : ∀ D σ H, t' D σ H → t D σ H) : PSat X body sts t' := ⟨fun pins s σ H D I q => h.run pins s σ H D I (hw D σ H q)⟩
theorem PEat.weak {t t' : TE} (h : PEat X body e t) (hw : ∀ σ H Q, t' σ H Q → t σ H Q) : PEat X body e t' := ⟨fun pins s σ H Q I q => h.run pins s σ H Q I (hw σ H Q q)⟩
end
end L2
namespace ZZ
open PySem PySem.Spec L2 NdefX
theorem DOk.mono {P : Program} {w : World} {K : PySem.W.Frag} {mg : Str → Option Value} {base : Heap} {j k : Nat} {a : Addr} {ps : List Str} {sp : Sp} (d : DOk P w K mg base j a ps sp) (h : j ≤ k) : DOk P w K mg base k a ps sp := by
  obtain ⟨fd, F, b⟩ := d.ex
  exact ⟨⟨fd, F.mono h, b⟩, d.kp⟩
end ZZ
set_option Elab.async false
set_option linter.all false
set_option maxRecDepth 100000
namespace ZZ
open PySem PySem.Spec L2 NdefX
end ZZ
set_option Elab.async false
set_option linter.all false
set_option maxRecDepth 100000
namespace L2
open PySem PySem.Spec
end L2
namespace ZZ
open PySem PySem.Spec L2 NdefX
end ZZ
set_option Elab.async false
set_option linter.all false
set_option maxRecDepth 100000
namespace L2
open PySem PySem.Spec PyProof.Rows
theorem DpAll.get {K : PySem.W.Frag} {H : Hp} : ∀ {zs : List V} {ps : List PyData} {i : Nat} {q : PyData}, DpAll K H zs ps → ps[i]? = some q → ∃ z, zs[i]? = some z ∧ Dp K H z q
  | _, _, i, q, .nil, h => by simp at h
  | _, _, 0, q, .cons d _, h => by
    simp only [List.getElem?_cons_zero, Option.some.injEq] at h
    subst h
    exact ⟨_, rfl, d⟩
  | _, _, i + 1, q, .cons _ t, h => by
    rw [List.getElem?_cons_succ] at h
    obtain ⟨z, h1, h2⟩ := DpAll.get t h
    exact ⟨z, by rw [List.getElem?_cons_succ]; exact h1, h2⟩
theorem DpAll.len {K : PySem.W.Frag} {H : Hp} : ∀ {zs : List V} {ps : List PyData}, DpAll K H zs ps → zs.length = ps.length
  | _, _, .nil => rfl
  | _, _, .cons _ t => by rw [List.length_cons, List.length_cons, DpAll.len t]
end L2
namespace ZZ
open PySem PySem.Spec L2
end ZZ
namespace ZZ
open PySem PySem.Spec L2
end ZZ
set_option Elab.async false
set_option linter.all false
set_option maxRecDepth 100000
namespace L2
open PySem PySem.Spec PyProof.Rows
section
variable {X : Cx} {CX : CXT} {k : Nat} {f : Addr} {fd : FuncData} {ps : List Str} {sp : Sp} {E : L2.St → XK} {a b : Expr} {ta tb : TE} {pos : Pos}
def tOwnIx (K : PySem.W.Frag) (f : Addr) (sp : Sp) (E : L2.St → XK) (ta tb : TE) : TE := fun σ H Q => ta σ H fun x H1 => tb σ H1 fun y H2 => ∃ u C dx fs, x = .ref u ∧ H2 u = some (.ins C dx fs) ∧ PySem.W.findIn K (.ref C) "__getitem__" = some (some (.ref f)) ∧ sp [x, y] H2 Q (E σ)
theorem pe_ownIx (hf : PySem.W.isFn X.K (.ref f) = true) (hfi : PySem.W.fnIn X.K f = true) (ha : PE X a ta) (hb : PE X b tb) (F : FnOk X.prog X.w X.K X.mg X.base CX k f fd ps sp) (hr : Room (k + 1) X.A) (hbd : Binds X.K fd ps []) (hx : ∀ σ, PassesAt CX X σ (E σ))
    (hsl : ∀ v u, subscripted b true v u = runValue (.builtin "lifetime.subscript" ⟨[v, u], []⟩) := by with_unfolding_all (intros; rfl)) : PE X (.Subscript a b pos) (tOwnIx X.K f sp E ta tb) := by
  refine ⟨fun pins s σ H Q I h => ?_⟩
  refine Subscript_ (binT ha hb I h fun v u s2 x y H2 I2 rx ry q => ?_)
  obtain ⟨c, C, dx, fs, rfl, hc, hC, q⟩ := q
  obtain rfl : v = Value.ref c := rx
  obtain ⟨mA, O1, _⟩ := ins_get I2.hok hc
  obtain ⟨od, J, _⟩ := O1.look
  obtain ⟨m, hF⟩ := I2.fr
  refine PySem.W.sub_K hF I2.ok.mod.kin J hC hfi hf ?_ (hsl _ _)
  have hl : ([Value.ref c, u] : List Value).length = ps.length := F.len _ _ _ _ q
  have bd := hbd s2 [.ref c, u] I2.kIn (by rw [List.append_nil]; exact hl)
  rw [List.append_nil] at bd
  refine wpAny_call (codeAny_mono (F.run X.A.in1 X.stack s2 H2 ⟨[.ref c, u], []⟩ [.ref c, u] [.ref c, y] Q (E σ) hr.in1 I2.env0.in1 bd (.cons rfl (.cons ry .nil)) q) fun r s' hq => ?_)
  cases r with
  | error er => exact hx σ pins H2 s2 er s' I2 hq
  | ok fl' =>
    cases fl' with
    | ret w => exact I2.after hq
    | next => exact False.elim hq
    | brk => exact False.elim hq
    | cont => exact False.elim hq
end
section
variable {X : Cx} {o i lo hi value : Expr} {pos pos' p2 : Pos} {td ty tv tl th : TE}
/-- o[i] = value -/
def tSetIx (tv td ty : TE) : TS := fun D σ H => tv σ H fun v H1 => td σ H1 fun x H2 => ty σ H2 fun y H3 => rSetL x y v H3 fun H4 => D.nx σ H4
theorem ps_setIx (ho : PE X o td) (hi : PE X i ty) (hv : PE X value tv) (hs : swapsWith value (some (.Subscript o i pos')) pos.line X.env = pure false := by rfl) :
    PS X (.Assign [.Subscript o i pos'] value pos) (tSetIx tv td ty) := by
  refine ⟨fun pins s σ H D I h => ?_⟩
  refine wpAny_Assign_Subscript (thn (hv.run pins s σ H _ I h) fun r s1 ⟨v, H1, I1, rv, q1⟩ => thn (ho.run pins s1 σ H1 _ I1 q1) fun u s2 ⟨x, H2, I2, rx, q2⟩ => thn (hi.run pins s2 σ H2 _ I2 q2) fun iv s3 ⟨y, H3, I3, ry, q3⟩ => ?_) hs
  exact wpAny_mono (set_list pins s3 σ H3 x y v u iv r _ I3 rx ry rv q3) (fun _ s' ⟨H', I', q⟩ => ⟨σ, H', I', q⟩) fun _ _ z => z
end
end L2
namespace ZZ
open PySem PySem.Spec L2
/-- v[u], v an instance of the class c with its own __getitem__ -/
def kOwnIx (c : Nat) (fh : DF) (v u : Val) : DE := fun _ ce => if isC c ce v && plainV u then fh [v, u] ce else .stuck
def sSetIx (fo fi fv : DE) : DSt := sExp fv fun v => sExp fo fun u => sExp fi fun i sl ce => match u, v, i with
  | .cell n, .im d, .im (.int k) => match ce[n]? with
    | some (.lst ds) => match ixN ds.length k with
      | some j => .nx sl (ce.set n (.lst (ds.set j d)))
      | none => .stuck
    | _ => .stuck
  | _, _, _ => .stuck
structure GetOk (K : PySem.W.Frag) (C f : Addr) : Prop where
  hs : PySem.W.findIn K (.ref C) "__getitem__" = some (some (.ref f))
  fn : PySem.W.isFn K (.ref f) = true
  fi : PySem.W.fnIn K f = true
section
variable {X : Cx} {Z : Zy} {W : WX} {k : Nat} {fa : Addr} {ps : List Str} {fh : DF} {p pos pos' p2 : Pos} {a b e o i lo hi value : Expr} {f g fo fi fv fl fhi : DE} {c : Nat}
theorem t_ownIx {σ : L2.St} {H : Hp} {Q : VK} (T : GetOk X.K (Z.cl c) fa) (h : tE Z W (eBin (kOwnIx c fh) f g) σ H Q) : tOwnIx X.K fa (spD Z.toZx fh 2) (WE W) (tE Z W f) (tE Z W g) σ H Q :=
  tE_imp (fun x H1 h1 => tE_imp (fun y H2 ⟨A, F, sl, ce, v, u, so, hs, rv, ru, p⟩ => by
    unfold kOwnIx at p
    by_cases hc : (isC c ce v && plainV u) = true
    · rw [if_pos hc] at p
      rw [Bool.and_eq_true] at hc
      obtain ⟨a, dx, fs, n, rfl, h1, h2⟩ := isC_rd so rv hc.1
      exact ⟨a, _, dx, fs, rfl, h1, T.hs, spD_call (sl := sl) (vs := [v, u]) so ⟨_, _, rfl, rv, _, _, rfl, ru, rfl⟩ rfl (by simp [isC_plain hc.1, hc.2]) p⟩
    · rw [if_neg hc] at p
      exact p.elim) h1) (tE2 h)
theorem de_ownIx (T : GetOk X.K (Z.cl c) fa) (G : DOk X.prog X.w X.K X.mg X.base k fa ps (spD Z.toZx fh 2)) (hr : Room (k + 1) X.A) (tw : TW X W) (ha : PE X a (tE Z W f)) (hb : PE X b (tE Z W g))
    (hsl : ∀ v u, subscripted b true v u = runValue (.builtin "lifetime.subscript" ⟨[v, u], []⟩) := by with_unfolding_all (intros; rfl)) : PE X (.Subscript a b pos) (tE Z W (eBin (kOwnIx c fh) f g)) := by
  obtain ⟨fd, F, bd⟩ := G.ex
  exact (pe_ownIx T.fn T.fi ha hb F hr bd tw hsl).weak fun σ H Q h => t_ownIx T h
theorem ds_setIx (ho : PE X o (tE Z W fo)) (hi : PE X i (tE Z W fi)) (hv : PE X value (tE Z W fv)) (hs : swapsWith value (some (.Subscript o i pos')) pos.line X.env = pure false := by rfl) : PS X (.Assign [.Subscript o i pos'] value pos) (tS Z W (sSetIx fo fi fv)) :=
  (ps_setIx ho hi hv hs).weak fun D σ H h => tE_imp (fun v H1 ⟨A, F, sl, ce, vv, so, hs, rv, p⟩ => by
    refine ⟨A, F, sl, ce, so, hs, (PostS.exp so hs p).imp fun x H2 ⟨A1, F1, ce1, vx, p1, e1, so1, rx, q1⟩ => ?_⟩
    have rv1 := rv.mono p1 e1
    have hs1 := hs.mono p1 e1
    refine ⟨A1, F1, sl, ce1, so1, hs1, (PostS.exp so1 hs1 q1).imp fun y H3 ⟨A2, F2, ce2, vy, p2, e2, so2, ry, q2⟩ => ?_⟩
    have rv2 := rv1.mono p2 e2
    have rx2 := rx.mono p2 e2
    have hs2 := hs1.mono p2 e2
    split at q2
    · rename_i n d kk _ _
      split at q2
      · rename_i ds hk
        split at q2
        · rename_i j hj
          obtain ⟨l, ws, hA, rfl, hF, h2, h3⟩ := cell_rd so2 rx2 hk
          refine ⟨l, ws, kk, j, rfl, rep_int ry, h2, by rw [← h3.length]; exact hj, ?_⟩
          exact nxS (so2.write (c := .lst (ds.set j d)) hA hF ⟨hF, _, upd_same, h3.set j rv2⟩) hs2 q2
        · exact q2.elim
      · exact q2.elim
    · exact q2.elim) (tS1 h)
end
end ZZ
set_option Elab.async false
set_option linter.all false
set_option maxRecDepth 100000
namespace L2
open PySem PySem.Spec PyProof.Rows
end L2
namespace ZZ
open PySem PySem.Spec L2
section
variable {X : Cx} {Z : Zy} {W : WX} {p pn pos : Pos} {a b : Expr} {f g : DE} {nm x : Str}
theorem de_gstr {s : Str} (hm : ∃ t, X.mg x = some (.str s t)) (hg : Gl X x := by rfl) (hdb : (x == ("__debug__" : Str)) = false := by decide) : PE X (.Name x p) (tE Z W (eC (.str s))) := by
  obtain ⟨t, hm⟩ := hm
  exact (pe_glob (v := .str s) hg hm ⟨t, rfl⟩ hdb).weak fun σ H Q ⟨A, F, sl, ce, so, hs, p⟩ => fin_flat so p repS
theorem de_clsConI {C : Addr} {s : Int} (hm : X.mg x = some (.ref C)) (r : ClX.CRead X.K C (.type "type")) (c : ∃ t, ClX.CVal X.K C (.type "type") nm (.int s) (.int s t)) (hg : Gl X x := by rfl) (hdb : (x == ("__debug__" : Str)) = false := by decide)
    (hb : attributeBase (.Name x pn) nm X.env (eval (.Name x pn) X.env) = eval (.Name x pn) X.env := by rfl) : PE X (.Attribute (.Name x pn) nm pos) (tE Z W (eC (.int s))) :=
  (ClX.pe_cval (pe_glob (v := .ref C) hg hm rfl hdb) hb).weak fun σ H Q ⟨A, F, sl, ce, so, hs, p⟩ => by
    obtain ⟨t, c⟩ := c
    exact ⟨C, _, _, _, rfl, r, c, fin_flat so p repI⟩
/-- a list times a small number -/
def kRepL (v u : Val) : DE := fun _ ce => match v, u with
  | .im (.lst ds), .im (.int n) => if ds.length ≤ 1000 ∧ -1000 ≤ n ∧ n ≤ 1000 then .ok (.im (.lst (List.replicate n.toNat ds).flatten)) ce else .stuck
  | _, _ => .stuck
theorem reps_flat {Z : Zx} {F : Hp} {ds : List D} {vs : List V} (h : Reps Z F ds vs) : ∀ n : Nat, Reps Z F (List.replicate n ds).flatten (List.replicate n vs).flatten
  | 0 => reps_nil
  | n + 1 => by
    rw [List.replicate_succ, List.replicate_succ, List.flatten_cons, List.flatten_cons]
    exact h.append (reps_flat h n)
theorem de_repL (ha : PE X a (tE Z W f)) (hb : PE X b (tE Z W g)) : PE X (.BinOp a .Mult b pos) (tE Z W (eBin kRepL f g)) := de_op op_rep (fun A F sl ce v u x y H σ Q so hs rv ru p => by
  unfold kRepL at p
  split at p
  · rename_i ds n
    split at p
    · rename_i hc
      unfold VRep Rep at rv
      obtain ⟨l, vs, rfl, h1, h2⟩ := rv
      rw [rep_int ru]
      have hl : vs.length = ds.length := h2.length.symm
      have hm : ds.length * n.toNat ≤ 1000 * 1000 := Nat.mul_le_mul hc.1 (by omega)
      refine ⟨l, n, vs, rfl, rfl, so.sub _ _ h1, by omega, by omega, by rw [hl, sizeLine_eq]; show _ ≤ 16777216; omega, fun q hq => fin_newL so p (reps_flat h2 _) hq⟩
    · exact p.elim
  · exact p.elim) ha hb
end
end ZZ
namespace ZZ
open PySem PySem.Spec L2
section
variable {P : Program} {w : World} {K : PySem.W.Frag} {mg : Str → Option Value} {base : Heap} {Z : Zx} {x qual : Str} {st : Stmt} {f : Addr} {fd : FuncData} {N ps : List Str} {k nsl n : Nat} {body : DSt} {dvs : List V} {kws : List (Str × V)}
theorem fnDD (Fn : FunD K x qual (defArgs st) (defBody st) (defScope st) dvs kws f fd) (S : FnScope N ps (defScope st)) (hN : N.length = nsl) (hn : ps.length = n)
    (hbody : ∀ (cdv : Value) (A : Around) (outer : List Env) (s : Shared) (H : Hp) (E : XK), Room k (A.deeper (PyProof.Rows.envOfC qual (defScope st) s.heap.objs.size f cdv)) →
      PSs (cxOf (L2N.CX P w) P w K mg base N qual (defScope st) f cdv A outer s H E) (defBody st) (tS Z.z (fun cls d _ H => E cls d H) body)) : FnOk P w K mg base (L2N.CX P w) (k + 1) f fd ps (spD Z (mkD nsl body) n) := by
  subst hN hn
  obtain ⟨oc, od, dV, kV, doc, pm, an, cdv, ct, osl, rfl, lk, hcd, _, _⟩ := Fn.ex
  refine fn_of lk hcd S (fun vs H Q E ⟨A, F, ce, ds, so, r, l, p⟩ => by rw [← r.length]; exact l) fun A outer s H vs Q E hr ⟨A0, F0, ce, ds, so, r, l, p⟩ => ⟨_, hbody cdv A outer s H E hr, A0, F0, _, ce, so, vreps_start r, ?_⟩
  unfold mkD at p
  have hn := so.len
  cases e : body (ds.map some ++ List.replicate (N.length - ds.length) none) ce with
  | nx sl ce' => rw [e] at p; exact fun A' F' H' σ' pA eF so' hs' => fin_ok hn pA eF so' (show VRep Z.z A' F' (.im .non) .non by unfold VRep Rep; rfl) p
  | rt v ce' => rw [e] at p; exact fun A' F' H' x pA eF so' r' => fin_ok hn pA eF so' r' p
  | exc c es sl ce' => rw [e] at p; exact fun A' F' H' σ' dx pA eF so' hs' xo => p A0 F' H' dx (List.prefix_refl _) eF (so'.cut pA hn) xo
  | bk sl ce' => rw [e] at p; exact p.elim
  | ct sl ce' => rw [e] at p; exact p.elim
  | stuck => rw [e] at p; exact p.elim
/-- one default, None; all is written -/
theorem FunD.all1 (F : FunD K x qual (defArgs st) (defBody st) (defScope st) [.non] kws f fd) (h : ∀ (T : Addr) (kV doc pm : Value) (an : Option Addr) (cdv ct : Value) (us its : List Value), us.length = ps.length → its.length = 1 →
      ∃ k, bindArgs (PySem.W.fnOf x qual (defArgs st) (defBody st) (defScope st) (.ref T) kV doc pm an cdv ct) ⟨us, []⟩ = seqItems? (.ref T) >>= k ∧ k (some its.toArray) = pure (ps.zip (us ++ its.drop 1))) : Binds K fd ps [] := by
  obtain ⟨ds, h1, h2⟩ := F.binds1 ps.length 1 (by simp) rfl h
  cases h1
  exact h2
end
end ZZ
set_option Elab.async false
set_option linter.all false
set_option maxRecDepth 100000
namespace ZZ
open PySem PySem.Spec L2
def cellsOf : List Val → Option (List Nat)
  | [] => some []
  | .cell k :: vs => (cellsOf vs).map (k :: ·)
  | _ :: _ => none
/-- a display of own lists -/
def kLstP (vs : List Val) : DE := fun _ ce => match cellsOf vs with
  | some ks => if ks.length ≤ LINE then .ok (.cell ce.length) (ce ++ [.ptr ks]) else .stuck
  | none => .stuck
/-- a list times a small number: an own list -/
def kRepLC (v u : Val) : DE := fun _ ce => match v, u with
  | .im (.lst ds), .im (.int n) => if ds.length ≤ 1000 ∧ -1000 ≤ n ∧ n ≤ 1000 then .ok (.cell ce.length) (ce ++ [.lst (List.replicate n.toNat ds).flatten]) else .stuck
  | _, _ => .stuck
/-- an item of a list of own lists -/
def kIxP (v u : Val) : DE := fun _ ce => match v, u with
  | .cell k, .im (.int i) => match ce[k]? with
    | some (.ptr ks) => match atI ks i with
      | some j => .ok (.cell j) ce
      | none => .stuck
    | _ => .stuck
  | _, _ => .stuck
/-- a ghost step: the own lists ks are frozen -/
def frzAll : List Nat → List Cell → Option (List D × List Cell)
  | [], ce => some ([], ce)
  | k :: ks, ce => match ce[k]? with
    | some (.lst ds) => match frzAll ks (ce.set k .dead) with
      | some (es, ce') => some (.lst ds :: es, ce')
      | none => none
    | _ => none
def frzP (i : Nat) (f : DSt) : DSt := fun sl ce => match sl[i]? with
  | some (some (.cell k)) => match ce[k]? with
    | some (.ptr ks) => match frzAll ks ce with
      | some (ds, ce') => f (sl.set i (some (.im (.lst ds)))) (ce'.set k .dead)
      | none => .stuck
    | _ => .stuck
  | _ => .stuck
section
variable {Z : Zx} {A A' : List Addr} {F F' H : Hp} {ce : List Cell} {sl : Sl}
theorem cellsOf_rd {Y : Zy} (so : SO Y.toZx A F ce H) : ∀ {vs : List Val} {xs : List V} {ks : List Nat}, VReps Y A F vs xs → cellsOf vs = some ks → ∃ bs : List Addr, xs = bs.map V.ref ∧ PtrL A ce.length ks bs
  | [], xs, ks, r, h => by
    unfold VReps at r
    subst r
    unfold cellsOf at h
    cases h
    exact ⟨[], rfl, rfl⟩
  | v :: vs, xs, ks, r, h => by
    obtain ⟨x, t, rfl, r1, r2⟩ := r
    cases v with
    | cell k =>
      unfold cellsOf at h
      obtain ⟨ks', h1, rfl⟩ := Option.map_eq_some_iff.mp h
      obtain ⟨bs, rfl, hb⟩ := cellsOf_rd so r2 h1
      obtain ⟨a, ha, rfl⟩ := r1
      exact ⟨a :: bs, rfl, a, bs, rfl, by rw [← so.len]; exact (List.getElem?_eq_some_iff.mp ha).1, ha, hb⟩
    | im d => cases h
    | exn c ds => cases h
theorem ptrL_len {k : Nat} : ∀ {ks : List Nat} {bs : List Addr}, PtrL A k ks bs → ks.length = bs.length
  | [], bs, h => by
    unfold PtrL at h
    rw [h]
  | j :: js, bs, ⟨b, t, e, h1, h2, h3⟩ => by rw [e, List.length_cons, List.length_cons, ptrL_len h3]
theorem ptrL_get {k : Nat} : ∀ {ks : List Nat} {bs : List Addr} {i j : Nat}, PtrL A k ks bs → ks[i]? = some j → ∃ b, bs[i]? = some b ∧ A[j]? = some b
  | [], bs, i, j, h, q => by simp at q
  | j' :: js, bs, i, j, ⟨b, t, e, h1, h2, h3⟩, q => by
    cases i with
    | zero =>
      simp only [List.getElem?_cons_zero, Option.some.injEq] at q
      subst q
      exact ⟨b, by rw [e]; rfl, h2⟩
    | succ i =>
      rw [List.getElem?_cons_succ] at q
      obtain ⟨b', h4, h5⟩ := ptrL_get h3 q
      exact ⟨b', by rw [e, List.getElem?_cons_succ]; exact h4, h5⟩
theorem frzAll_ok {k0 : Nat} : ∀ {ks : List Nat} {bs : List Addr} {ce : List Cell} {F : Hp} {ds : List D} {ce' : List Cell}, SO Z A F ce H → PtrL A k0 ks bs → frzAll ks ce = some (ds, ce') →
    ∃ F', Same F F' ∧ SO Z A F' ce' H ∧ Reps Z F' ds (bs.map V.ref) ∧ ∀ a, F a = none → a ∉ bs → F' a = none
  | [], bs, ce, F, ds, ce', so, h, e => by
    unfold PtrL at h
    subst h
    unfold frzAll at e
    cases e
    exact ⟨F, Same.refl _, so, reps_nil, fun a ha _ => ha⟩
  | k :: ks, bs, ce, F, ds, ce', so, ⟨b, t, e, h1, h2, h3⟩, q => by
    unfold frzAll at q
    split at q
    · rename_i es hk
      split at q
      · rename_i es' ce2 hq
        cases q
        obtain ⟨hF, vs, hH, r⟩ := so.ok k b _ h2 hk
        have up := same_up (o := .lst vs) hF
        obtain ⟨F', s1, s2, s3, s4⟩ := frzAll_ok (so.freeze h2 hF hH) h3 hq
        subst e
        refine ⟨F', up.trans s1, s2, reps_cons ?_ s3, fun a ha hn => s4 a ?_ fun z => hn (List.mem_cons_of_mem _ z)⟩
        · unfold Rep
          exact ⟨b, vs, rfl, s1 _ _ upd_same, (r.mono up).mono s1⟩
        · rw [upd_ne fun z => hn (by rw [z]; exact List.mem_cons_self ..)]
          exact ha
      · cases q
    · cases q
theorem ptrL_addr {k : Nat} : ∀ {ks : List Nat} {bs : List Addr}, PtrL A k ks bs → ∀ b ∈ bs, ∃ j, j < k ∧ A[j]? = some b
  | [], bs, h, b, hb => by
    unfold PtrL at h
    subst h
    cases hb
  | j' :: js, bs, ⟨b', t, e, h1, h2, h3⟩, b, hb => by
    subst e
    rcases List.mem_cons.mp hb with rfl | hb
    · exact ⟨j', h1, h2⟩
    · exact ptrL_addr h3 b hb
end
section
variable {X : Cx} {Z : Zy} {W : WX} {a b : Expr} {es : List Expr} {f g : DE} {fs : List DE} {pos : Pos} {st : Stmt} {h : DSt}
theorem de_lstP (ha : PA X es (tArgs Z W fs)) : PE X (.List es pos) (tE Z W (eArgs fs kLstP)) := (pe_lst ha).weak fun σ H Q h => tArgs_imp (fun xs H1 ⟨A, F, sl, ce, vs, so, hs, r, _, p⟩ => by
  unfold kLstP at p
  split at p
  · rename_i ks e
    obtain ⟨bs, rfl, hb⟩ := cellsOf_rd so r e
    split at p
    · rename_i hl
      have hlen := ptrL_len hb
      refine ⟨by rw [sizeLine_eq, List.length_map, ← hlen]; exact hl, fun q hq => ?_⟩
      have so2 := so.newCell (o := .lst (bs.map V.ref)) (c := .ptr ks) hq ⟨so.fnone hq, ce.length, bs, by rw [← so.len]; simp, upd_same, hb.mono (List.prefix_append _ _)⟩
      exact p (A ++ [q]) F _ (.ref q) (List.prefix_append _ _) (Same.refl _) so2 ⟨q, by rw [← so.len]; simp, rfl⟩
    · exact p.elim
  · exact p.elim) (tN h)
theorem de_repLC (ha : PE X a (tE Z W f)) (hb : PE X b (tE Z W g)) : PE X (.BinOp a .Mult b pos) (tE Z W (eBin kRepLC f g)) := de_op op_rep (fun A F sl ce v u x y H σ Q so hs rv ru p => by
  unfold kRepLC at p
  split at p
  · rename_i ds n
    split at p
    · rename_i hc
      unfold VRep Rep at rv
      obtain ⟨l, vs, rfl, h1, h2⟩ := rv
      rw [rep_int ru]
      have hl : vs.length = ds.length := h2.length.symm
      have hm : ds.length * n.toNat ≤ 1000 * 1000 := Nat.mul_le_mul hc.1 (by omega)
      exact ⟨l, n, vs, rfl, rfl, so.sub _ _ h1, by omega, by omega, by rw [hl, sizeLine_eq]; show _ ≤ 16777216; omega, fun q hq => fin_newC so p (reps_flat h2 _) hq⟩
    · exact p.elim
  · exact p.elim) ha hb
theorem ok_ixP : Ok2 Z W kIxP (rIx Z.K) := by
  intro A F sl ce v u x y H σ Q so hs rv ru p
  unfold kIxP at p
  split at p
  · rename_i k i
    split at p
    · rename_i ks hk
      split at p
      · rename_i j hj
        obtain ⟨a, ha, rfl⟩ := rv
        obtain ⟨hF, k0, bs, h1, h2, h3⟩ := so.ok k a _ ha hk
        rw [rep_int ru]
        have hl := ptrL_len h3
        unfold atI at hj
        obtain ⟨n, hn, hj⟩ := Option.bind_eq_some_iff.mp hj
        obtain ⟨b, hb, hAb⟩ := ptrL_get h3 hj
        refine .inl ⟨a, bs.map V.ref, i, .ref b, rfl, rfl, SqL.of h2, ?_, p A F H (.ref b) (List.prefix_refl _) (Same.refl _) so ⟨b, hAb, rfl⟩⟩
        unfold atI
        rw [List.length_map, ← hl, hn]
        simp [hb]
      · exact p.elim
    · exact p.elim
  · exact p.elim
theorem de_ixP (hK : X.K = Z.K) (ha : PE X a (tE Z W f)) (hb : PE X b (tE Z W g)) (hs : PlainIx b := by exact fun _ _ => rfl) : PE X (.Subscript a b pos) (tE Z W (eBin kIxP f g)) :=
  (pe_ix (r := rIx Z.K) (by rw [← hK]; exact ix_seq) ha hb hs).weak fun σ H Q h => t2 ok_ixP h
theorem tS_frzP {i : Nat} {D σ H} (q : tS Z W (frzP i h) D σ H) : tS Z W h D σ H := by
  obtain ⟨A, F, sl, ce, so, hs, p⟩ := q
  unfold frzP at p
  split at p
  · rename_i k e1
    split at p
    · rename_i ks e2
      split at p
      · rename_i ds ce' e3
        obtain ⟨x, h1, a, hA, rfl⟩ := hs.is i _ e1
        obtain ⟨hF, k0, bs, h2, h3, h4⟩ := so.ok k a _ hA e2
        have ek : k0 = k := (List.getElem?_inj (List.getElem?_eq_some_iff.mp h2).1 so.nd).mp (h2.trans hA.symm)
        subst ek
        obtain ⟨F', s1, s2, s3, s4⟩ := frzAll_ok so h4 e3
        have hF' : F' a = none := s4 a hF fun z => by
          obtain ⟨j, hj, hb⟩ := ptrL_addr h4 a z
          have := (List.getElem?_inj (List.getElem?_eq_some_iff.mp hb).1 so.nd).mp (hb.trans hA.symm)
          omega
        have up := same_up (o := .lst (bs.map V.ref)) hF'
        have up2 := s1.trans up
        have hs2 : SL Z A (upd F' a (.lst (bs.map V.ref))) (sl.set i (some (.im (.lst ds)))) σ := by
          have q := (hs.mono (List.prefix_refl _) up2).set (i := i) (v := .im (.lst ds)) (x := .ref a) (by unfold VRep Rep; exact ⟨a, _, rfl, upd_same, s3.mono up⟩)
          have e4 : σ.set i (some (.ref a)) = σ := List.ext_getElem? fun j => by
            by_cases hj : i = j
            · subst hj
              rw [List.getElem?_set_self (List.getElem?_eq_some_iff.mp h1).1, h1]
            · rw [List.getElem?_set_ne hj]
          rw [e4] at q
          exact q
        exact ⟨A, _, _, _, s2.freeze hA hF' h3, hs2, p.mono (List.prefix_refl _) up2⟩
      · exact p.elim
    · exact p.elim
  · exact p.elim
theorem ds_frzP {i : Nat} (q : PS X st (tS Z W h)) : PS X st (tS Z W (frzP i h)) := q.weak fun D σ H q => tS_frzP q
end
end ZZ
set_option Elab.async false
set_option linter.all false
set_option maxRecDepth 100000
namespace ZZ
open PySem PySem.Spec L2
end ZZ
set_option Elab.async false
set_option linter.all false
set_option maxRecDepth 100000
namespace ZZ
open PySem PySem.Spec L2
section
variable {Z : Zx} {A : List Addr} {F : Hp}
theorem VReps.append {Y : Zy} : ∀ {ds es : List Val} {vs ws : List V}, VReps Y A F ds vs → VReps Y A F es ws → VReps Y A F (ds ++ es) (vs ++ ws)
  | [], es, vs, ws, h, h' => by
    unfold VReps at h
    subst h
    exact h'
  | d :: ds, es, vs, ws, h, h' => by
    obtain ⟨x, r, rfl, h1, h2⟩ := h
    exact ⟨x, r ++ ws, rfl, h1, VReps.append h2 h'⟩
end
end ZZ
set_option Elab.async false
set_option linter.all false
set_option maxRecDepth 100000
set_option maxHeartbeats 2000000
namespace ZZ
open PySem PySem.Spec L2
/-- clauses: which classes, the name's slot, the suite -/
def hdl (c : Nat) (ds : List D) (sl1 : Sl) (ce1 : List Cell) : List ((Nat → Bool) × Option Nat × DSt) → Out
  | [] => .exc c ds sl1 ce1
  | (sub, io, fs) :: r => if sub c then offD io (fs (match io with
      | some i => sl1.set i (some (.exn c ds))
      | none => sl1) ce1) else hdl c ds sl1 ce1 r
end ZZ
set_option Elab.async false
set_option linter.all false
set_option maxRecDepth 100000
namespace ZZ
open PySem PySem.Spec L2
end ZZ
set_option Elab.async false
set_option linter.all false
set_option maxRecDepth 100000
namespace ZH
open PySem PySem.Spec PyProof.Rows L2 ZZ
theorem valD_rel {u : Value} {d : D} (h : valD u = some d) : relD d u := by
  unfold valD at h
  split at h
  · cases h; exact ⟨_, rfl⟩
  · cases h; exact ⟨_, rfl⟩
  · cases h; rfl
  · cases h
theorem tb_lit {P : Params} : ∀ {l : List DictEntry} {ks : List (Str × D)}, l.map enO = ks.map (enV P) → PySem.W.KeysLit P l ∧ Ents l ks
  | [], [], _ => ⟨trivial, trivial⟩
  | [], _ :: _, h => by cases h
  | _ :: _, [], h => by cases h
  | e :: r, k :: ks, h => by
    have h1 : enO e :: r.map enO = enV P k :: ks.map (enV P) := h
    injection h1 with h2 h3
    obtain ⟨q1, q2⟩ := tb_lit h3
    unfold enO enV at h2
    split at h2
    · rename_i x t q
      simp only [Option.some.injEq, Prod.mk.injEq] at h2
      obtain ⟨e1, e2, e3⟩ := h2
      exact ⟨⟨⟨x, t, q, by rw [e2, e1]⟩, q1⟩, ⟨t, by rw [q, e1]⟩, valD_rel e3, q2⟩
    · cases h2
theorem tb_ok {K : Fr} {w : World} {a : Addr} {ks : List (Str × D)} (h : tbO K a = some (ks.map (enV w.params))) : ∃ es n, KDict K w a es n ∧ Ents es.toList ks := by
  unfold tbO at h
  cases q : K.lookup a with
  | none =>
    rw [q] at h
    cases h
  | some o =>
    obtain ⟨oc, od, dt, osl⟩ := o
    rw [q] at h
    cases oc with
    | type c =>
      cases od with
      | none =>
        cases dt with
        | dict es n =>
          have h1 : (match decide (c = "dict") && (osl.isEmpty && !(a == sysModules)) with
            | true => some (es.toList.map enO)
            | false => none) = some (ks.map (enV w.params)) := h
          cases z : decide (c = "dict") && (osl.isEmpty && !(a == sysModules)) with
          | false =>
            rw [z] at h1
            cases h1
          | true =>
            rw [z] at h1
            obtain ⟨z1, z2⟩ := ba z
            obtain ⟨z3, z4⟩ := ba z2
            have e1 : c = "dict" := of_decide_eq_true z1
            have e2 : osl = #[] := Array.isEmpty_iff.mp z3
            have e3 : (a == sysModules) = false := by
              cases y : a == sysModules with
              | false => rfl
              | true =>
                rw [y] at z4
                cases z4
            subst e1 e2
            obtain ⟨l1, l2⟩ := tb_lit (Option.some.inj h1)
            exact ⟨es, n, ⟨q, l1, e3⟩, l2⟩
        | _ => cases h
      | some b => cases dt <;> cases h
    | _ => cases od <;> cases dt <;> cases h
section
variable {bs : Bs} {fn : List DefZ} {tb : List Tab} {w : World} {K : Fr}
theorem SaysZ.tab (c : SaysZ bs fn tb w K) {i : Nat} {t : Tab} (h : tb[i]? = some t) : ∃ es n, KDict K w t.1 es n ∧ Ents es.toList t.2 := by
  have e : tb.map (fun t => tbO K t.1) = tb.map fun t => some (t.2.map (enV w.params)) := congrArg (fun z : AlZ => z.2.2) c
  have e2 : (tb.map fun t => tbO K t.1)[i]? = (tb.map fun t => some (t.2.map (enV w.params)))[i]? := by rw [e]
  rw [List.getElem?_map, List.getElem?_map, h] at e2
  exact tb_ok (Option.some.inj e2)
end
section
variable {K : Fr}
theorem fun_z {d : DefZ} (h : FnAt K d) (h1 : d.clo = []) (h2 : d.dfl = none) : ∃ fd, Fun K d.name d.qual d.st d.a fd := by
  obtain ⟨oc, od, doc, pm, an, ct, osl, q, c, kp⟩ := h
  rw [h1, h2] at q
  exact ⟨_, fun_mk (st := d.st) q c kp⟩
/-- a def with positional defaults (a tuple) and keyword-only ones (a dict) -/
def vOf : D → V
  | .non => .non | .bl b => .bl b | .int i => .int i | .str s => .str s | _ => .non
theorem relFB_v {d : D} {u : Value} (h : relFB d u = true) : RelV (vOf d) u := by
  unfold relFB at h
  split at h
  · rw [of_decide_eq_true h]; exact ⟨_, rfl⟩
  · rw [of_decide_eq_true h]; exact ⟨_, rfl⟩
  · rfl
  · rw [eq_of_beq h]; rfl
  · cases h
theorem relFsB_v : ∀ {ds : List D} {us : List Value}, relFsB ds us = true → Vals (ds.map vOf) us
  | [], [], _ => .nil
  | [], _ :: _, h => by cases h
  | _ :: _, [], h => by cases h
  | d :: ds, u :: us, h => by
    obtain ⟨h1, h2⟩ := ba (show (relFB d u && relFsB ds us) = true from h)
    exact .cons (relFB_v h1) (relFsB_v h2)
theorem dflZ_ok {o : Option Addr} {ds : List D} (h : dflZ K o ds = true) : DflV K (vO o) (ds.map vOf) := by
  cases ds with
  | nil =>
    cases o with
    | none => exact .inl ⟨rfl, rfl⟩
    | some a => cases h
  | cons d ds =>
    cases o with
    | none => cases h
    | some a =>
      have h1 : tupB K a (d :: ds) = true := h
      unfold tupB at h1
      cases q : K.lookup a with
      | none =>
        rw [q] at h1
        cases h1
      | some o =>
        obtain ⟨oc, od, dt, osl⟩ := o
        rw [q] at h1
        cases oc with
        | type c =>
          cases dt with
          | seq its n =>
            obtain ⟨_, h2⟩ := ba (show (decide (c = "tuple") && (decide (its.size ≤ 1000) && relFsB (d :: ds) its.toList)) = true from h1)
            obtain ⟨_, h4⟩ := ba h2
            exact .inr ⟨List.cons_ne_nil _ _, a, _, its.toList, n, rfl, q, by simp, relFsB_v h4⟩
          | _ => cases h1
        | _ => cases dt <;> cases h1
theorem kwdZ_ok {o : Option Addr} {qs : List (Str × D)} (h : kwdZ K o qs = true) : KwdV K (vO o) (qs.map fun q => (q.1, vOf q.2)) := by
  cases qs with
  | nil => exact .inl rfl
  | cons q qs =>
    cases o with
    | none => cases h
    | some a =>
      refine .inr ⟨a, rfl, fun z hz => ?_⟩
      obtain ⟨y, hy, rfl⟩ := List.mem_map.mp hz
      have h2 := List.all_eq_true.mp (show ((q :: qs).all fun q => (match PySem.W.nsIn K a q.1 with
        | some (some u) => relFB q.2 u
        | _ => false)) = true from h) y hy
      cases e : PySem.W.nsIn K a y.1 with
      | none =>
        rw [e] at h2
        cases h2
      | some r =>
        rw [e] at h2
        cases r with
        | none => cases h2
        | some u => exact ⟨u, rfl, relFB_v h2⟩
theorem funD_z {d : DefZ} {ds : List D} {qs : List (Str × D)} (h : FnAt K d) (h1 : d.clo = []) (h2 : dflZ K d.dfl ds = true) (h3 : kwdZ K d.kwd qs = true) :
    ∃ fd, FunD K d.name d.qual (defArgs d.st) (defBody d.st) (defScope d.st) (ds.map vOf) (qs.map fun q => (q.1, vOf q.2)) d.a fd := by
  obtain ⟨oc, od, doc, pm, an, ct, osl, q, c, kp⟩ := h
  rw [h1] at q
  exact ⟨_, ⟨oc, od, _, _, doc, pm, an, _, ct, osl, rfl, q, c, dflZ_ok h2, kwdZ_ok h3⟩, kp⟩
theorem excB_ok {C : Addr} (h : excB K C = true) : ∃ nm q N bs bm sn sub ab col dd k0 k1 k2 k3 k5, K.lookup C = some (excClassObj nm q C N bs bm true sn sub ab col dd k0 k1 k2 k3 k5 "ValueError.__new__") ∧ PySem.HandSPX.refsVE bm = true := by
  unfold excB at h
  split at h
  · rename_i t dd cd sl e
    obtain ⟨h1, h⟩ := ba h
    obtain ⟨h2, h⟩ := ba h
    obtain ⟨h3, h⟩ := ba h
    obtain ⟨h4, h5⟩ := ba h
    obtain ⟨nm, bs, mro, N, q, hd, sn, sub, ab, col, hdel⟩ := cd
    have e1 : t = "type" := of_decide_eq_true h1
    have e2 : hd = true := h2
    have e3 : hdel = false := by simpa using h3
    subst e1 e2 e3
    cases mro with
    | nil => cases h4
    | cons m bm =>
      cases m with
      | ref c =>
        obtain ⟨h6, h7⟩ := ba h4
        have e4 : c = C := of_decide_eq_true h6
        subst e4
        split at h5
        · rename_i k0 k1 k2 k3 id k5 e5
          have e6 : id = "ValueError.__new__" := of_decide_eq_true h5
          subst e6
          obtain ⟨l⟩ := sl
          have e7 : l = [k0, k1, k2, k3, some (.builtin "ValueError.__new__"), k5] := e5
          subst e7
          exact ⟨nm, q, N, bs, bm, sn, sub, ab, col, dd, k0, k1, k2, k3, k5, e, h7⟩
        · cases h5
      | _ => cases h4
  · cases h
theorem recB_ok {p v : Addr} {T : String} (h : recB K p T v = true) : ∃ l, PySem.W.recIn K p T = some (.ref v :: l) := by
  unfold recB at h
  split at h
  · rename_i u l e
    rw [← of_decide_eq_true h]
    exact ⟨_, e⟩
  · cases h
theorem strB_ok {h : Heap} {mg : Str → Option Value} (X : K.In h) (G : h.Ns mainGlobals mg) {x s : Str} (c : strB K x s = true) : ∃ t, mg x = some (.str s t) := by
  unfold strB at c
  split at c
  · rename_i y t e
    rw [← of_decide_eq_true c]
    exact ⟨t, PySem.W.mg_of X G e⟩
  · cases c
theorem cvB_ok {C : Addr} {a : Str} {d : D} (h : cvB K C a d = true) : ∃ u, PySem.W.findCls K (.ref C) (.type "type") a = some (.val u) ∧ RelV (vOf d) u := by
  unfold cvB at h
  split at h
  · rename_i u e
    exact ⟨u, e, relFB_v h⟩
  · cases h
theorem law_binds {d : DefZ} {fd : FuncData} {x : Str} (F : Fun K d.name d.qual d.st d.a fd) (hb : ∀ (kV doc pm : Value) (an : Option Addr) (cdv ct : Value) (s : Shared) (v : Value), BindsTo s (PySem.W.fnOf d.name d.qual (defArgs d.st) (defBody d.st) (defScope d.st) .none kV doc pm an cdv ct) ⟨[v], []⟩ [(x, v)]) :
    ∀ (s : Shared) (v : Value), BindsTo s fd ⟨[v], []⟩ [(x, v)] := by
  obtain ⟨oc, od, kV, doc, pm, an, cdv, ct, osl, rfl, lk, hcd⟩ := F.ex
  exact fun s v => hb _ _ _ _ _ _ s v
end
/-- a law's end: the written part is what the hook tells -/
theorem walk_ofZ {l : PySem.W.OpenLaw} {n k : Nat} {q : Program} {loose : List Str} {XP : (Str → Option Value) → Heap → Prop} {YP : World → Heap → Prop} {d : DefRec} {CX : World → CXT} {x : Str}
    (hn : l.most = some n) (hn2 : n ≤ sizeLine) (hdf : d.params.defaults = []) (hr : Room k callerA)
    (F : ∀ (w : World) (mg : Str → Option Value) (fa : Addr) (h : Heap), YP w h → h.Ns mainGlobals mg → mg d.name = some (.ref fa) →
      ∃ (K : Fr) (fd : FuncData) (sp : Sp), K.In h ∧ (∀ (s : Shared) (u : Value), BindsTo s fd ⟨[u], []⟩ [(x, u)]) ∧ (∀ (H : Hp) (a : Addr) (ns : List Int), ns.length ≤ n → Only H → SqL K H a (ns.map V.int) → sp [.ref a] H (fun v _ => v = .bl true) fun _ _ _ => False) ∧
        ∀ base : Heap, K.In base → base.Ns mainGlobals mg → FnOk l.prog w K mg base (CX w) k fa fd [x] sp)
    (E : ∀ (w : World) (H : Hp) (s : Shared) (e : Value) (s' : Shared), CX w [] H s (fun _ _ _ => False) e s' → False) :
    PySem.W.WalkO q loose XP YP l.row.toRowW d [] (fun f vs => PySem.call f vs) := by
  refine Att.attach_call hn hdf fun w s0 s1 mg mb fa o pm cd doc a vs ns G Y h1 h2 h3 hm h4 h5 hl hS => ?_
  obtain ⟨K, fd, sp, KX, hb, hs, hF⟩ := F w mg fa _ Y G.T.g hm
  exact law_call KX G.T.g G.T.b G.T.builtins G.T.nolimit hS h4 h5 (Nat.le_trans hl hn2) hr hF hb (fun H hO hq => hs H a ns hl hO hq) fun H e s' => E w H s1 e s'
end ZH
set_option Elab.async false
set_option linter.all false
set_option maxRecDepth 100000
namespace L2
open PySem PySem.Spec PyProof.Rows ZZ
/-- the dict at a -/
def DcAt (X : Cx) (H : Hp) (a : Addr) (xs : List (NestedKey × Value × Value)) : Prop :=
  (a == sysModules) = false ∧ xs.length ≤ sizeLine ∧ (∃ ep, H a = some (.ext (rawV X.w a xs ep))) ∧ ∀ pins σ s, Inv X pins σ H s → DictV X.w s.heap a xs
section
variable {X : Cx} {pins : List (Addr × Obj)} {σ : L2.St} {H : Hp} {s : Shared} {a : Addr} {xs : List (NestedKey × Value × Value)} {k : NestedKey} {u : Value}
theorem DcAt.none (g : DcAt X H a xs) : ∃ o, H a = some o := let ⟨_, _, ⟨ep, e⟩, _⟩ := g; ⟨_, e⟩
end
end L2
set_option Elab.async false
set_option linter.all false
set_option maxRecDepth 100000
namespace L2
open PySem PySem.Spec PyProof.Rows ZZ
end L2
namespace ZZ
open PySem PySem.Spec L2
end ZZ
set_option Elab.async false
set_option linter.all false
set_option maxRecDepth 100000
namespace ZZ
open PySem PySem.Spec L2
end ZZ
set_option Elab.async false
set_option linter.all false
set_option maxRecDepth 100000
namespace ZZ
open PySem PySem.Spec L2
open Classical in
noncomputable def forC (g : GD) (body : DSt) (n : Nat) (ds : List D) : List D → DSt
  | [], sl, ce => if ce[n]? = some (.lst ds) then .nx sl ce else .stuck
  | d :: rs, sl, ce => if ce[n]? = some (.lst ds) then (match g d sl with
    | none => .stuck
    | some sl1 => match body sl1 ce with
      | .nx sl2 ce2 => forC g body n ds rs sl2 ce2
      | .ct sl2 ce2 => forC g body n ds rs sl2 ce2
      | .bk sl2 ce2 => .nx sl2 ce2
      | o => o) else .stuck
open Classical in
noncomputable def sForC (f : DE) (g : GD) (body : DSt) : DSt := fun sl ce => match f sl ce with
  | .ok (.cell n) ce' => match ce'[n]? with
    | some (.lst ds) => forC g body n ds ds sl ce'
    | _ => .stuck
  | .exc c ds ce' => .exc c ds sl ce'
  | _ => .stuck
theorem cell_seq {Z : Zx} {A : List Addr} {F H : Hp} {ce : List Cell} {n : Nat} {a : Addr} {ds : List D} (so : SO Z A F ce H) (ha : A[n]? = some a) (hc : ce[n]? = some (.lst ds)) : ∃ vs, SqL Z.K H a vs ∧ Reps Z F ds vs := by
  obtain ⟨_, vs, h2, h3⟩ := so.ok n a _ ha hc
  exact ⟨vs, SqL.of h2, h3⟩
section
variable {X : Cx} {Z : Zy} {W : WX} {tg e : Expr} {f : DE} {ix : List Nat} {g : GD} {fb : DSt} {body : List Stmt} {pos : Pos}
theorem ds_forC (hK : X.K = Z.K) (hp : PassesOwn (model X.prog X.w) X.A X.env X.xe) (he : PE X e (tE Z W f)) (hg : PG X tg (tG Z ix g)) (hb : PSs X body (tS Z W fb)) (hc : X.calm = true := by rfl)
    (hs : ∀ x, foldedSetIterable e X.env x = pure x := by intro _; rfl) : PS X (.For tg e body [] pos) (tS Z W (sForC f g fb)) := by
  refine (ps_for hp hc (pi_list he) hg hb hs).weak fun D σ H ⟨A, F, sl, ce, so, hs, p⟩ => ⟨A, F, sl, ce, so, hs, ?_⟩
  unfold sForC at p
  cases ef : f sl ce with
  | stuck => rw [ef] at p; exact p.elim
  | exc c ds ce1 =>
    rw [ef] at p
    exact fun A1 F1 H1 dx p1 e1 s1 x1 => p A1 F1 H1 σ dx p1 e1 s1 (hs.mono p1 e1) x1
  | ok v ce1 =>
    rw [ef] at p
    intro A1 F1 H1 x p1 e1 so1 r1
    cases v with
    | im d => exact p.elim
    | exn c ds => exact p.elim
    | cell n =>
      dsimp only at p
      split at p
      · rename_i ds hn
        obtain ⟨a, ha, rfl⟩ := r1
        obtain ⟨vs, hl, _⟩ := cell_seq so1 ha hn
        refine ⟨a, rfl, ⟨vs, by rw [hK]; exact hl⟩, ?_⟩
        rw [hK]
        refine ⟨fun i m σ H => m = ds.length - i ∧ i ≤ ds.length ∧ ∃ A F sl ce, A1 <+: A ∧ Same F1 F ∧ SO Z.toZx A F ce H ∧ SL Z A F sl σ ∧ PostS Z A F W D (forC g fb n ds (ds.drop i) sl ce),
          ⟨ds.length, rfl, Nat.zero_le _, A1, F1, sl, ce1, List.prefix_refl _, Same.refl _, so1, hs.mono p1 e1, p.mono p1 e1⟩, ?_⟩
        rintro i m σ H ⟨rfl, hi, A, F, sl, ce, pA, eF, so, hs, p⟩
        have ha' : A[n]? = some a := by
          obtain ⟨t, rfl⟩ := pA
          rw [List.getElem?_append_left (List.getElem?_eq_some_iff.mp ha).1]
          exact ha
        by_cases hlt : i < ds.length
        · rw [List.drop_eq_getElem_cons hlt] at p
          unfold forC at p
          by_cases hc : ce[n]? = some (.lst ds)
          · rw [if_pos hc] at p
            obtain ⟨vs, hl, rr⟩ := cell_seq so ha' hc
            have hd : ds[i]? = some ds[i] := List.getElem?_eq_getElem hlt
            obtain ⟨v, hv, rv⟩ := rr.get' hd
            refine .inr ⟨⟨vs, v, hl, hv⟩, fun σ H => i + 1 ≤ ds.length ∧ ∃ A F sl ce, A1 <+: A ∧ Same F1 F ∧ SO Z.toZx A F ce H ∧ SL Z A F sl σ ∧ PostS Z A F W D (forC g fb n ds (ds.drop (i + 1)) sl ce), fun σ' H' q => ⟨ds.length - (i + 1), by omega, rfl, q⟩, fun x H' ⟨eH, hy⟩ => ?_⟩
            subst eH
            have hx := hy vs hl
            rw [hv] at hx
            cases hx
            refine ⟨A, F, sl, ce, ds[i], so, hs, rv, ?_⟩
            cases eg : g ds[i] sl with
            | none => rw [eg] at p; exact p.elim
            | some sl1 =>
              rw [eg] at p
              refine ⟨sl1, rfl, fun σ' hs' _ => ⟨A, F, sl1, ce, so, hs', ?_⟩⟩
              simp only at p
              cases eb : fb sl1 ce with
              | nx sl2 ce2 => rw [eb] at p; exact fun A3 F3 H3 σ3 p3 e3 so3 hs3 => ⟨hlt, A3, F3, sl2, ce2, pA.trans p3, eF.trans e3, so3, hs3, p.mono p3 e3⟩
              | ct sl2 ce2 => rw [eb] at p; exact fun A3 F3 H3 σ3 p3 e3 so3 hs3 => ⟨hlt, A3, F3, sl2, ce2, pA.trans p3, eF.trans e3, so3, hs3, p.mono p3 e3⟩
              | bk sl2 ce2 => rw [eb] at p; exact p
              | rt v ce2 => rw [eb] at p; exact p
              | exc c es sl2 ce2 => rw [eb] at p; exact p
              | stuck => rw [eb] at p; exact p.elim
          · rw [if_neg hc] at p
            exact p.elim
        · have : i = ds.length := by omega
          subst this
          rw [List.drop_length] at p
          unfold forC at p
          by_cases hc : ce[n]? = some (.lst ds)
          · rw [if_pos hc] at p
            obtain ⟨vs, hl, rr⟩ := cell_seq so ha' hc
            exact .inl ⟨⟨vs, hl, by rw [rr.length]; exact Nat.le_refl _⟩, p A F H σ (List.prefix_refl _) (Same.refl _) so hs⟩
          · rw [if_neg hc] at p
            exact p.elim
      · exact p.elim
end
end ZZ
set_option Elab.async false
set_option linter.all false
set_option maxRecDepth 100000
namespace RZ
open PySem PySem.Spec PyProof.Rows L2
end RZ
namespace ZZ
open PySem PySem.Spec L2
end ZZ
set_option Elab.async false
set_option linter.all false
set_option maxRecDepth 100000
namespace PySem.W
open PySem PySem.Calls PyProof.Rows
end PySem.W
namespace StX
open PySem PySem.Spec PyProof.Rows L2
/-- a def called with positional values and keywords ks -/
def FnRK (P : Program) (w : World) (K : PySem.W.Frag) (mg : Str → Option Value) (base : Heap) (CX : CXT) (k : Nat) (f : Addr) (ks : List Str) (sp : List V → Sp) : Prop :=
  ∀ (A : Around) (outer : List Env) (s : Shared) (H : Hp) (us ws : List Value) (vs zs : List V) (Q : VK) (E : XK), Room k A → Env0 P w K mg base A outer s H → Vals vs us → Vals zs ws → ws.length = ks.length → sp zs vs H Q E →
    codeAny (model P w) A (.call (.ref f) ⟨us, ks.zip ws⟩) (CR CX outer P w H s Q E) s
section
variable {CX : CXT} {P : Program} {w : World} {K : PySem.W.Frag} {mg : Str → Option Value} {base : Heap} {k n : Nat} {f : Addr} {name qual : Str} {params : Arguments} {body : List Stmt} {scope : Scope} {dV kV doc pm cdv ct oc : Value} {an od : Option Addr}
  {osl : Array (Option Value)} {N ps ks : List Str} {sp : Sp}
theorem FnRK.mono {sp : List V → Sp} {j : Nat} (F : FnRK P w K mg base CX j f ks sp) (h : j ≤ k) : FnRK P w K mg base CX k f ks sp := fun A outer s H us ws vs zs Q E hr => F A outer s H us ws vs zs Q E (hr.mono h)
end
end StX
namespace ZZ
open PySem PySem.Spec L2
end ZZ
namespace ZH
open PySem PySem.Spec L2 ZZ
end ZH
set_option Elab.async false
set_option linter.all false
set_option maxRecDepth 100000
namespace PySem
open Sem (wp)
end PySem
namespace L2
open PySem PySem.Spec PyProof.Rows ZZ
end L2
namespace ZZ
open PySem PySem.Spec L2
end ZZ
set_option Elab.async false
set_option linter.all false
set_option maxRecDepth 100000
namespace RZ
open PySem PySem.Spec PyProof.Rows L2 ZZ
end RZ
namespace ZZ
open PySem PySem.Spec L2 RZ
end ZZ
set_option Elab.async false
set_option linter.all false
set_option maxRecDepth 100000
namespace L2
open PySem PySem.Spec PyProof.Rows L2H
end L2
namespace ZZ
open PySem PySem.Spec L2
end ZZ
set_option Elab.async false
set_option linter.all false
set_option maxRecDepth 100000
namespace L2
open PySem PySem.Spec PyProof.Rows
end L2
namespace ZZ
open PySem PySem.Spec L2
def itLT : Val → Option (List D)
  | .im (.lst ds) => some ds
  | .im (.tup ds) => some ds
  | _ => none
end ZZ
namespace L2
open PySem PySem.Spec PyProof.Rows
end L2
namespace ZZ
open PySem PySem.Spec L2
end ZZ
set_option Elab.async false
set_option linter.all false
set_option maxRecDepth 100000
namespace ZZ
open PySem PySem.Spec L2
end ZZ
set_option Elab.async false
set_option linter.all false
set_option maxRecDepth 100000
namespace ZZ
open PySem PySem.Spec L2
end ZZ
set_option Elab.async false
set_option linter.all false
set_option maxRecDepth 100000
namespace ZZ
open PySem PySem.Spec L2
end ZZ
set_option Elab.async false
set_option linter.all false
set_option maxRecDepth 100000
namespace L2
open PySem PySem.Spec PyProof.Rows
end L2
namespace ZZ
open PySem PySem.Spec L2
end ZZ
set_option Elab.async false
set_option linter.all false
set_option maxRecDepth 100000
namespace StX
open PySem PySem.Spec PyProof.Rows L2
/-- t looks one name up in the dict at D and goes on as t' -/
def KwLook {α : Type} (D : Addr) (nm : Str) (u : Value) (t t' : Sem α) : Prop := ∃ (β γ : Type) (k1 : Option Value → Sem β) (k2 : β → Sem γ) (k3 : γ → Sem α) (a : β), t = ((nsGet D nm >>= k1) >>= k2) >>= k3 ∧ k1 (some u) = pure a ∧ (k2 a >>= k3) = t'
theorem KwLook.run {α : Type} {M : Model} {A : Around} {K : PySem.W.Frag} {s : Shared} {D : Addr} {nm : Str} {u : Value} {t t' : Sem α} {Q : α → Shared → Prop} {E : Value → Shared → Prop} (X : K.In s.heap) (hu : PySem.W.nsIn K D nm = some (some u)) (h : KwLook D nm u t t') (q : wpAny M A t' Q E s) : wpAny M A t Q E s := by
  obtain ⟨β, γ, k1, k2, k3, a, e1, e2, e3⟩ := h
  have l1 : PySem.W.Looks M s.heap (nsGet D nm >>= k1) a := (PySem.W.looks_nsIn X hu).andThen (PySem.W.Looks.of_pure e2)
  rw [e1, bind_assoc]
  exact wpAny_bind (l1.here (e3 ▸ q))
end StX
namespace ZZ
open PySem PySem.Spec L2 ZH
/-- such a def, called without the keyword: dv stands behind the first n -/
structure DOkSD (P : Program) (w : World) (K : PySem.W.Frag) (mg : Str → Option Value) (base : Heap) (Z : Zx) (k : Nat) (f : Addr) (n : Nat) (dv : D) (fh : DF) : Prop where
  F : FnR P w K mg base (L2N.CX P w) k f fun vs H Q E => ∃ A F ce ds, SO Z A F ce H ∧ VReps Z.z A F ds vs ∧ PostE Z.z A F (fun c d _ H => E c d H) [] Q (fh (ds.take n ++ [.im dv] ++ ds.drop n) ce)
  kp : PySem.W.keepIn K (.ref f) = true
theorem DOkSD.mono {P w K mg base Z k j f n dv fh} (G : DOkSD P w K mg base Z k f n dv fh) (h : k ≤ j) : DOkSD P w K mg base Z j f n dv fh := ⟨fun A outer s H us vs Q E hr => G.F A outer s H us vs Q E (hr.mono h), G.kp⟩
end ZZ
namespace ZH
open PySem PySem.Spec L2 ZZ
end ZH
set_option Elab.async false
set_option linter.all false
set_option maxRecDepth 100000
namespace ZZ
open PySem PySem.Spec L2 PyProof.Rows
/-- what is wanted behind it -/
def PostG (Z : Zy) (A : List Addr) (F : Hp) (W : WX) (D : GEnds) (r : List ZZ.D × Out) : Prop := ∀ A0 F0 ys0, A <+: A0 → Same F F0 → Reps Z.toZx F0 r.1 ys0 → match r.2 with
  | .nx sl ce => ∀ A' F' H' σ', A0 <+: A' → Same F0 F' → SO Z.toZx A' F' ce H' → SL Z A' F' sl σ' → D.nx ys0 σ' H'
  | .bk sl ce => ∀ A' F' H' σ', A0 <+: A' → Same F0 F' → SO Z.toZx A' F' ce H' → SL Z A' F' sl σ' → D.bk ys0 σ' H'
  | .ct sl ce => ∀ A' F' H' σ', A0 <+: A' → Same F0 F' → SO Z.toZx A' F' ce H' → SL Z A' F' sl σ' → D.ct ys0 σ' H'
  | .rt v ce => ∀ A' F' H' x, A0 <+: A' → Same F0 F' → SO Z.toZx A' F' ce H' → VRep Z A' F' v x → D.rt ys0 x H'
  | .exc c es sl ce => ∀ A' F' H' σ' dx, A0 <+: A' → Same F0 F' → SO Z.toZx A' F' ce H' → SL Z A' F' sl σ' → ExcOk Z.toZx F' c es dx → W (.ref (Z.cl c)) dx σ' H'
  | .stuck => False
theorem PostG.mono {Z : Zy} {A A' : List Addr} {F F' : Hp} {W : WX} {D : GEnds} {r : List ZZ.D × Out} (p : A <+: A') (e : Same F F') (h : PostG Z A F W D r) : PostG Z A' F' W D r :=
  fun A0 F0 ys0 p0 e0 r0 => h A0 F0 ys0 (p.trans p0) (e.trans e0) r0
/-- a plain outcome, at the rows ys -/
theorem PostG.at {Z : Zy} {A : List Addr} {F : Hp} {W : WX} {D : GEnds} {ds : List ZZ.D} {o : Out} {ys : List V} (h : PostG Z A F W D (ds, o)) (r : Reps Z.toZx F ds ys) : PostS Z A F W (D.at ys) o := by
  have q := h A F ys (List.prefix_refl _) (Same.refl _) r
  cases o <;> exact q
end ZZ
set_option Elab.async false
set_option linter.all false
set_option maxRecDepth 100000
set_option maxHeartbeats 1000000
namespace ZZ
open PySem PySem.Spec L2 PyProof.Rows GenW
end ZZ
set_option Elab.async false
set_option linter.all false
set_option maxRecDepth 100000
namespace ZZ
open PySem PySem.Spec L2
end ZZ
set_option Elab.async false
set_option linter.all false
set_option maxRecDepth 100000
namespace ZZ
open PySem PySem.Spec L2
end ZZ
set_option Elab.async false
set_option linter.all false
set_option maxRecDepth 100000
namespace ZZ
open PySem PySem.Spec L2 PyProof.Rows GenW
/-- a generator that has handed out a value -/
def sleeps : GenState → Prop
  | .suspended .. => True
  | _ => False
/-- all that stands in H stands in H' -/
def UpH (H H' : Hp) : Prop := ∀ b u, H b = some u → H' b = some u
theorem UpH.refl (H : Hp) : UpH H H := fun _ _ h => h
/-- what is wanted; yl: at a value that is handed out -/
structure YEnds where
  nx : List V → L2.St → Hp → Prop
  rt : List V → VK
  bk : List V → L2.St → Hp → Prop := fun _ _ _ => False
  ct : List V → L2.St → Hp → Prop := fun _ _ _ => False
  yl : List V → V → Hp → (Hp → Prop) → Prop
def YEnds.at (D : YEnds) (ys : List V) : Ends where
  nx := D.nx ys
  rt := D.rt ys
  bk := D.bk ys
  ct := D.ct ys
end ZZ
set_option Elab.async false
set_option linter.all false
set_option maxRecDepth 100000
namespace ZZ
open PySem PySem.Spec L2 PyProof.Rows GenW
end ZZ
set_option Elab.async false
set_option linter.all false
set_option maxRecDepth 100000
namespace ZZ
open PySem PySem.Spec L2 PyProof.Rows
/-- at each value: what has gone out is a part of out -/
def AtY (Z : Zy) (A : List Addr) (F : Hp) (c0 : List Cell) (out : List D) (D : YEnds) : Prop :=
  ∀ A' F' ce' H' ds d ys x, A <+: A' → Same F F' → SO Z.toZx A' F' ce' H' → ce'.take c0.length = c0 → Reps Z.toZx F' ds ys → Rep Z.toZx F' d x → ds ++ [d] <+: out → D.yl ys x H' (fun J => ∃ F2, Same F' F2 ∧ SO Z.toZx A' F2 ce' J)
theorem AtY.mono {Z : Zy} {A A' : List Addr} {F F' : Hp} {c0 : List Cell} {out : List D} {D : YEnds} (h : AtY Z A F c0 out D) (p : A <+: A') (e : Same F F') : AtY Z A' F' c0 out D :=
  fun A2 F2 ce2 H2 ds d ys x p2 e2 => h A2 F2 ce2 H2 ds d ys x (p.trans p2) (e.trans e2)
theorem AtY.sub {Z : Zy} {A : List Addr} {F : Hp} {c0 : List Cell} {out o2 : List D} {D : YEnds} (h : AtY Z A F c0 out D) (q : o2 <+: out) : AtY Z A F c0 o2 D :=
  fun A2 F2 ce2 H2 ds d ys x p2 e2 s t r1 r2 l => h A2 F2 ce2 H2 ds d ys x p2 e2 s t r1 r2 (l.trans q)
end ZZ
set_option Elab.async false
set_option linter.all false
set_option maxRecDepth 100000
namespace ZZ
open PySem PySem.Spec L2 PyProof.Rows
end ZZ
set_option Elab.async false
set_option linter.all false
set_option maxRecDepth 100000
namespace ZZ
open PySem PySem.Spec L2 PyProof.Rows GenW
end ZZ
set_option Elab.async false
set_option linter.all false
set_option maxRecDepth 100000
set_option maxHeartbeats 1000000
namespace ZZ
open PySem PySem.Spec L2 PyProof.Rows GenW
end ZZ
set_option Elab.async false
set_option linter.all false
set_option maxRecDepth 100000
set_option maxHeartbeats 1000000
namespace ZZ
open PySem PySem.Spec L2 PyProof.Rows GenW
end ZZ
set_option Elab.async false
set_option linter.all false
set_option maxRecDepth 100000
namespace ZZ
open PySem PySem.Spec L2 PyProof.Rows GenW
end ZZ
set_option Elab.async false
set_option linter.all false
set_option maxRecDepth 100000
set_option maxHeartbeats 1000000
namespace ZZ
open PySem PySem.Spec L2 PyProof.Rows GenW
/-- the twin that cannot be woken -/
def twin : GenState → GenState
  | .suspended _ l c p fs cl => .suspended (fun _ => .unsupported "") l c p fs cl
  | x => x
def flatF : List Frame → Bool
  | [] => true
  | .ret .. :: r => flatF r
  | .gen .. :: _ => false
def flatG : GenState → Bool
  | .suspended _ _ _ _ fs _ => flatF fs
  | _ => true
/-- old: the sleepers; a: with their twins, b: with themselves -/
structure RelG (old : Nat → Option GenState) (a b : Array GenState) : Prop where
  size : b.size = a.size
  oth : ∀ i, old i = none → b[i]? = a[i]? ∧ ∀ x, a[i]? = some x → flatG x = true
  own : ∀ i y, old i = some y → sleeps y ∧ a[i]? = some (twin y) ∧ b[i]? = some y
theorem RelG.set {old : Nat → Option GenState} {a b : Array GenState} {g : Nat} {x : GenState} (r : RelG old a b) (hg : old g = none) (hx : flatG x = true) : RelG old (a.setIfInBounds g x) (b.setIfInBounds g x) := by
  refine ⟨by simp [r.size], fun i hi => ?_, fun i y hy => ?_⟩
  · obtain ⟨e, fl⟩ := r.oth i hi
    by_cases h : g = i
    · subst h
      refine ⟨by rw [Array.getElem?_setIfInBounds_self, Array.getElem?_setIfInBounds_self, r.size], fun z hz => ?_⟩
      rw [Array.getElem?_setIfInBounds_self] at hz
      split at hz
      · cases hz; exact hx
      · cases hz
    · rw [Array.getElem?_setIfInBounds_ne h, Array.getElem?_setIfInBounds_ne h]
      exact ⟨e, fl⟩
  · have h : g ≠ i := fun h => by rw [h] at hg; rw [hg] at hy; cases hy
    rw [Array.getElem?_setIfInBounds_ne h, Array.getElem?_setIfInBounds_ne h]
    exact r.own i y hy
theorem RelG.lt {old : Nat → Option GenState} {a b : Array GenState} {i : Nat} {y : GenState} (r : RelG old a b) (h : old i = some y) : i < a.size := by
  obtain ⟨_, e, _⟩ := r.own i y h
  exact (Array.getElem?_eq_some_iff.mp e).1
theorem RelG.push {old : Nat → Option GenState} {a b : Array GenState} {x : GenState} (r : RelG old a b) (hx : flatG x = true) : RelG old (a.push x) (b.push x) := by
  refine ⟨by simp [r.size], fun i hi => ?_, fun i y hy => ?_⟩
  · obtain ⟨e, fl⟩ := r.oth i hi
    rw [Array.getElem?_push, Array.getElem?_push, r.size, e]
    refine ⟨rfl, fun z hz => ?_⟩
    split at hz
    · cases hz; exact hx
    · exact fl z hz
  · have h := r.lt hy
    obtain ⟨s, e1, e2⟩ := r.own i y hy
    have n1 : ¬ i = a.size := Nat.ne_of_lt h
    rw [Array.getElem?_push, Array.getElem?_push, r.size, if_neg n1, if_neg n1]
    exact ⟨s, e1, e2⟩
/-- asleep: old or its frames are flat -/
theorem RelG.at {old : Nat → Option GenState} {a b : Array GenState} {g : Nat} {x : GenState} (r : RelG old a b) (h : a[g]? = some x) : (old g = none ∧ b[g]? = some x ∧ flatG x = true) ∨ ∃ y, old g = some y ∧ sleeps y ∧ x = twin y ∧ b[g]? = some y := by
  cases e : old g with
  | none =>
    obtain ⟨e1, e2⟩ := r.oth g e
    exact .inl ⟨rfl, e1.trans h, e2 x h⟩
  | some y =>
    obtain ⟨s, e1, e2⟩ := r.own g y e
    rw [h] at e1
    exact .inr ⟨y, rfl, s, by cases e1; rfl, e2⟩
open Sem (wp)
end ZZ
set_option Elab.async false
set_option linter.all false
set_option maxRecDepth 100000
set_option maxHeartbeats 2000000
namespace ZZ
open PySem PySem.Spec L2 PyProof.Rows GenW
end ZZ
set_option Elab.async false
set_option linter.all false
set_option maxRecDepth 100000
set_option maxHeartbeats 1000000
namespace ZZ
open PySem PySem.Spec L2 PyProof.Rows GenW
end ZZ
set_option Elab.async false
set_option linter.all false
set_option maxRecDepth 100000
namespace ZZ
open PySem PySem.Spec L2 PyProof.Rows GenW
end ZZ
set_option Elab.async false
set_option linter.all false
set_option maxRecDepth 100000
namespace ZZ
open PySem PySem.Spec L2 PyProof.Rows
section
variable {X : Cx} {Z : Zy} {W : WX} {o e : Expr} {es : List Expr} {f g : DE} {fs : List DE} {pos apos cpos : Pos}
def kFmt (v : Val) : DE := fun _ ce => match v with
  | .im (.str y) => if y.length ≤ 1000000 then .ok (.im (.str y)) ce else .stuck
  | .im (.int i) => if i.natAbs.log2 < 1920 then .ok (.im (.str (toString i))) ce else .stuck
  | _ => .stuck
theorem de_fmt (he : PE X e (tE Z W f)) : PE X (.FormattedValue e (-1) none pos) (tE Z W (eUn kFmt f)) :=
  (pe_fmt he).weak fun σ H Q q => tE_imp (fun x H1 ⟨A, F, sl, ce, v, so, hs, r, p⟩ => by
    unfold kFmt at p
    split at p
    · rename_i y
      split at p
      · rename_i hz
        rw [rep_str r]
        refine .inl ⟨y, rfl, ?_, fin_flat so p repS⟩
        have : sizeLine = 16777216 := rfl
        omega
      · exact p.elim
    · rename_i i
      split at p
      · rename_i hz
        rw [rep_int r]
        exact .inr ⟨i, rfl, hz, fin_flat so p repS⟩
      · exact p.elim
    · exact p.elim) (tE1 q)
def kJn : List DE → Str → DE
  | [], acc => eC (.str acc)
  | f :: fs, acc => eBind f fun v => match v with
    | .im (.str y) => if (acc ++ y).length ≤ 1000000 then kJn fs (acc ++ y) else kStuck
    | _ => kStuck
def eFs (fs : List DE) : DE := kJn fs Str.empty
def DJ (X : Cx) (Z : Zy) (W : WX) (es : List Expr) (fs : List DE) : Prop := PJ X es (fs.map (tE Z W))
theorem dj_nil : DJ X Z W [] [] := .nil
theorem dj_cons (h : PE X e (tE Z W f)) (r : DJ X Z W es fs) : DJ X Z W (e :: es) (f :: fs) := .cons h r
theorem kJn_js : ∀ (fs : List DE) (acc : Str) (σ : L2.St) (H : Hp) (Q : VK), tE Z W (kJn fs acc) σ H Q → tJs (fs.map (tE Z W)) acc σ H fun out H1 => Q (.str out) H1
  | [], acc, σ, H, Q, ⟨A, F, sl, ce, so, hs, p⟩ => fin_flat so p repS
  | f :: fs, acc, σ, H, Q, h => tE_imp (fun x H1 ⟨A, F, sl, ce, v, so, hs, r, p⟩ => by
    split at p
    · rename_i y
      split at p
      · rename_i hz
        rw [rep_str r]
        refine ⟨y, rfl, ?_, kJn_js fs (acc ++ y) σ H1 Q ⟨A, F, sl, ce, so, hs, p⟩⟩
        have : sizeLine = 16777216 := rfl
        omega
      · exact p.elim
    · exact p.elim) (tE1 h)
theorem de_joined {v1 v2 : Expr} {rest : List Expr} (h : DJ X Z W (v1 :: v2 :: rest) fs) : PE X (.JoinedStr (v1 :: v2 :: rest) pos) (tE Z W (eFs fs)) :=
  (pe_joined h).weak fun σ H Q q => kJn_js fs Str.empty σ H Q q
def kStrB : List Val → DE
  | [.im (.int i)] => if i.natAbs.log2 < 1920 then eC (.str (toString i)) else kStuck
  | _ => kStuck
theorem ok_strB : OkN Z W kStrB (fun xs H Q => ∃ i, xs = [.int i] ∧ i.natAbs.log2 < 1920 ∧ Q (.str (toString i)) H) := by
  intro A F sl ce vs xs H σ Q so hs r p
  unfold kStrB at p
  split at p
  · replace r := vreps1 r; obtain ⟨x, rfl, r⟩ := r
    rename_i i
    by_cases h : i.natAbs.log2 < 1920
    · rw [if_pos h] at p
      rw [rep_int r]
      exact ⟨_, rfl, h, fin_flat so p repS⟩
    · rw [if_neg h] at p
      exact p.elim
  · exact p.elim
end
end ZZ
set_option Elab.async false
set_option linter.all false
set_option maxRecDepth 100000
set_option maxHeartbeats 2000000
namespace ZZ
open PySem PySem.Spec PySem.W PyProof.Rows L2 Builtin
section
variable {prog : Program} {w : World} {A : Around} {E : Value → Shared → Prop} {s : Shared} {t : Tok} {a : Int} {sp : Str} {f : Builtin.Float.FormatSpec}
theorem ret_textT {M : PySem.Model} {X T : Str} {Q : PySem.Fin → Shared → Prop} {E : Value → Shared → Prop} (e : X = T) (hL : T.length ≤ sizeLine) (h : ∀ t k, Q (PySem.Fin.done (.ret (.str T t))) { s with toks := k }) : wpAny M A (retStr X) Q E s := KXf.ret_text e (by rw [e]; exact hL) h
theorem g_int (hp : Float.parseFormatSpec sp.cps.toList "int" 62 = .ok f) (hne : (sp.length == 0) = false)
    (hasc : ((sp.cps.toList.drop 1).any (· ≥ 128) || (sp.cps.getD 0 0 ≥ 128 && !([60, 62, 61, 94] : List Nat).contains (sp.cps.getD 1 0))) = false)
    (hty : f.type.getD (if sp.cps.back? == some 0 then 0 else 100) = 100) (hpr : f.precision = none) (hz : f.noNeg0 = false) (hal : f.alt = false) (hw : f.width.getD 0 ≤ 100000)
    (hd : a.natAbs.log2 < 1920) (hl : (intSpecText f a).length ≤ sizeLine) (u : Tok) :
    Meets («int.__format__» ⟨[.int a t, .str sp u], []⟩) (fun _ R s => ∀ t' k, R (.ok (.ret (.str (intSpecText f a) t'))) { s with toks := k }) := by
  apply KPc.meets_of
  intro _ _ _ _ _ _ _
  unfold Builtin.«int.__format__»
  simp only [selfAndOne, noKeywords, Int.intOfSelf, asInt?, asStr?, List.isEmpty_nil, if_true, pure_bind, bind_pure, bind_assoc, hne, hasc, Bool.false_eq_true, if_false, show (Value.str sp u == Value.none) = false from rfl]
  refine wpAny_bind (wpAny_typeNameOf (T := "str") (typeIs_str _ _ _) (by decide) fun _ => ?_)
  first | refine wpAny_bind (wpAny_typeNameOfCut_int ?_) | refine wpAny_bind (wpAny_typeNameOf_int ?_)
  simp only [hp, hty]
  rw [if_pos (by decide)]
  show wpAny _ _ (if _ then _ else _) _ _ _
  rw [if_neg (by simp [hpr])]
  show wpAny _ _ (if _ then _ else _) _ _ _
  rw [if_neg (by simp [hz])]
  show wpAny _ _ (if _ then _ else _) _ _ _
  rw [if_neg (by decide)]
  show wpAny _ _ (do let r ← Builtin.overDigitLimit? a; _) _ _ _
  refine wpAny_bind (wpAny_of_eq (PySem.overDigitLimit_small hd) ?_)
  show wpAny _ _ (if _ then _ else _) _ _ _
  have hw' : ¬ (f.width.getD 0 > 100000) := by omega
  rw [if_neg (by simpa using hw')]
  show wpAny _ _ (retStr _) _ _ _
  simp only [hal, Bool.false_eq_true, if_false]
  exact ret_textT (T := intSpecText f a) (by kernel_rfl) hl (by assumption)
end
end ZZ
namespace ZZ
open PySem PySem.Spec PySem.W PyProof.Rows L2 Builtin
section
variable {prog : Program} {w : World} {A : Around} {E : Value → Shared → Prop} {s : Shared} {t : Tok} {x sp : Str}
def spcS (left : Bool) : Str := if left then "<20" else ">20"
def fmtS (left : Bool) (x : Str) : Str := if left then Txt.ljust x 20 else Txt.rjust x 20
theorem sub_all (x : Str) : Str.strSub x 0 x.length = x := by
  unfold Str.strSub
  show (⟨x.cps.extract 0 x.cps.size⟩ : Str) = x
  rw [Array.extract_size]
theorem fld_R (x : Str) : Str.strField x { align := 62, width := some 20 } "str" = .ok (if 20 ≤ x.length then none else some (Str.padded x (20 - x.length) 0 32)) := by
  unfold Str.strField
  simp only []
  by_cases h : 20 ≤ x.length
  · simp [h]
    rfl
  · simp [h, sub_all]
    rfl
theorem fld_L (x : Str) : Str.strField x { align := 60, width := some 20 } "str" = .ok (if 20 ≤ x.length then none else some (Str.padded x 0 (20 - x.length) 32)) := by
  unfold Str.strField
  by_cases h : 20 ≤ x.length
  · simp [h]
    rfl
  · simp [h, sub_all]
    rfl
theorem pad_len (x : Str) (l r c : Nat) : (Str.padded x l r c).length = l + x.length + r := by
  show (Array.replicate l c ++ x.cps ++ Array.replicate r c).size = _
  rw [Array.size_append, Array.size_append, Array.size_replicate, Array.size_replicate]
  rfl
theorem g_strR (hx : x.length ≤ 1000000) (u : Tok) :
    Meets («str.__format__» ⟨[.str x t, .str ">20" u], []⟩) (fun _ R s => ∀ t' k, R (.ok (.ret (.str (Txt.rjust x 20) t'))) { s with toks := k }) := by
  have hp : Float.parseFormatSpec (">20" : Str).cps.toList "str" 60 = .ok { align := 62, width := some 20 } := by rfl
  apply KPc.meets_of
  intro _ _ _ _ _ _ _
  unfold Builtin.«str.__format__»
  refine wpAny_bind (wpAny_of_eq (a := (_, _, _)) rfl ?_)
  refine wpAny_bind (wpAny_of_eq (a := some _) rfl ?_)
  kxf_if
  kxf_if
  refine wpAny_bind (KXf.cut_str ?_)
  simp only [hp]
  have e0 : ((">20" : Str).cps.back? == some 0) = false := by decide +kernel
  have e1 : Str.tooLong 20 = false := by decide +kernel
  simp only [e0, Bool.and_false, Bool.false_eq_true, if_false, bind, Except.bind, fld_R, pure, Except.pure, Option.getD_some, e1]
  by_cases h : 20 ≤ x.length
  · have e2 : Txt.rjust x 20 = x := if_pos (show (20 : Int) ≤ (x.length : Int) by omega)
    rw [if_pos h]
    refine wpAny_bind (wpAny_rule ?_)
    refine KXf.ret_same e2.symm ?_
    assumption
  · have e2 : Txt.rjust x 20 = Str.padded x (20 - x.length) 0 32 := if_neg (show ¬ (20 : Int) ≤ (x.length : Int) by omega)
    rw [if_neg h]
    refine ret_textT (T := Txt.rjust x 20) e2.symm ?_ (by assumption)
    rw [e2, pad_len]
    have : sizeLine = 16777216 := rfl
    omega
theorem g_strL (hx : x.length ≤ 1000000) (u : Tok) :
    Meets («str.__format__» ⟨[.str x t, .str "<20" u], []⟩) (fun _ R s => ∀ t' k, R (.ok (.ret (.str (Txt.ljust x 20) t'))) { s with toks := k }) := by
  have hp : Float.parseFormatSpec ("<20" : Str).cps.toList "str" 60 = .ok { align := 60, width := some 20 } := by rfl
  apply KPc.meets_of
  intro _ _ _ _ _ _ _
  unfold Builtin.«str.__format__»
  refine wpAny_bind (wpAny_of_eq (a := (_, _, _)) rfl ?_)
  refine wpAny_bind (wpAny_of_eq (a := some _) rfl ?_)
  kxf_if
  kxf_if
  refine wpAny_bind (KXf.cut_str ?_)
  simp only [hp]
  have e0 : (("<20" : Str).cps.back? == some 0) = false := by decide +kernel
  have e1 : Str.tooLong 20 = false := by decide +kernel
  simp only [e0, Bool.and_false, Bool.false_eq_true, if_false, bind, Except.bind, fld_L, pure, Except.pure, Option.getD_some, e1]
  by_cases h : 20 ≤ x.length
  · have e2 : Txt.ljust x 20 = x := if_pos (show (20 : Int) ≤ (x.length : Int) by omega)
    rw [if_pos h]
    refine wpAny_bind (wpAny_rule ?_)
    refine KXf.ret_same e2.symm ?_
    assumption
  · have e2 : Txt.ljust x 20 = Str.padded x 0 (20 - x.length) 32 := if_neg (show ¬ (20 : Int) ≤ (x.length : Int) by omega)
    rw [if_neg h]
    refine ret_textT (T := Txt.ljust x 20) e2.symm ?_ (by assumption)
    rw [e2, pad_len]
    have : sizeLine = 16777216 := rfl
    omega
end
end ZZ
namespace ZZ
open PySem PySem.Spec PySem.W PyProof.Rows L2
section
variable {X : Cx} {Z : Zy} {W : WX} {o e : Expr} {es : List Expr} {f g : DE} {fs : List DE} {pos apos cpos p1 p2 : Pos} {j : Nat}
def spcI (left : Bool) : Builtin.Float.FormatSpec := { align := if left then 60 else 62, width := some 20, grouping := some ',' }
def fmtI (left : Bool) (i : Int) : Str := intSpecText (spcI left) i
def spI (left : Bool) : Str := if left then "<20," else ">20,"
def kFmtI (left : Bool) (v : Val) : DE := fun _ ce => match v with
  | .im (.int i) => if i.natAbs.log2 < 1920 ∧ (fmtI left i).length ≤ 1000000 then .ok (.im (.str (fmtI left i))) ce else .stuck
  | _ => .stuck
def kFmtS (left : Bool) (v : Val) : DE := fun _ ce => match v with
  | .im (.str y) => if y.length ≤ 1000000 then .ok (.im (.str (fmtS left y))) ce else .stuck
  | _ => .stuck
theorem fld_int {A : Around} {E : Value → Shared → Prop} {s : Shared} {t : Tok} {a : Int} {Q : Value → Shared → Prop} (left : Bool) (hd : a.natAbs.log2 < 1920) (hl : (fmtI left a).length ≤ 1000000) (h : ∀ t' k, Q (.str (fmtI left a) t') { s with toks := k }) :
    wpAny (model X.prog X.w) A (formatField (.int a t) (spI left)) Q E s := by
  have hl : (fmtI left a).length ≤ sizeLine := Nat.le_trans hl (by show 1000000 ≤ 16777216; decide)
  cases left
  · exact KXf.field_int rfl (by decide +kernel) (by decide +kernel) (fun u => g_int (f := spcI false) (by rfl) (by decide +kernel) (by decide +kernel) (by decide +kernel) rfl rfl rfl (by decide) hd hl u) h
  · exact KXf.field_int rfl (by decide +kernel) (by decide +kernel) (fun u => g_int (f := spcI true) (by rfl) (by decide +kernel) (by decide +kernel) (by decide +kernel) rfl rfl rfl (by decide) hd hl u) h
theorem fld_str {A : Around} {E : Value → Shared → Prop} {s : Shared} {t : Tok} {x : Str} {Q : Value → Shared → Prop} (left : Bool) (hx : x.length ≤ 1000000) (h : ∀ t' k, Q (.str (fmtS left x) t') { s with toks := k }) :
    wpAny (model X.prog X.w) A (formatField (.str x t) (spcS left)) Q E s := by
  cases left
  · exact KXf.field_str rfl rfl (by decide +kernel) (by decide +kernel) (fun u => g_strR hx u) h
  · exact KXf.field_str rfl rfl (by decide +kernel) (by decide +kernel) (fun u => g_strL hx u) h
/-- {e:spec}, the specification a constant -/
def tFmtX (sp : Str) (te : TE) (R : V → Str → Prop) : TE := fun σ H Q => te σ H fun x H1 => ∃ y, R x y ∧ Q (.str y) H1
theorem pe_fmtX {te : TE} {sp : Str} {R : V → Str → Prop} (he : PE X e te)
    (hR : ∀ (x : V) (v : Value) (y : Str) (s : Shared) (Q : Value → Shared → Prop), R x y → RelV x v → (∀ t' k, Q (.str y t') { s with toks := k }) → wpAny (model X.prog X.w) X.A (formatField v sp) Q X.xe s) :
    PE X (.FormattedValue e (-1) (some (.JoinedStr [.Constant (.str sp) j p1] p2)) pos) (tFmtX sp te R) := by
  refine ⟨fun pins s σ H Q I h => ?_⟩
  refine wpAny_FormattedValue_spec (thn (he.run pins s σ H _ I h) fun v s1 hv => ?_)
  obtain ⟨x, H1, I1, r1, y, r, q⟩ := hv
  have hc : PE X (.JoinedStr [.Constant (.str sp) j p1] p2) (tC (.str sp)) := pe_joined1 pe_str
  refine thn (hc.run pins s1 σ H1 (fun x H2 => x = .str sp ∧ H2 = H1) I1 ⟨rfl, rfl⟩) fun w s2 hw => ?_
  obtain ⟨x2, H2, I2, r2, rfl, rfl⟩ := hw
  obtain ⟨t, rfl⟩ := r2
  exact ⟨sp, t, rfl, hR x v y s2 _ r r1 fun t' k => ⟨.str y, H2, I2.tok _, ⟨t', rfl⟩, q⟩⟩
theorem de_fmtI (left : Bool) (he : PE X e (tE Z W f)) : PE X (.FormattedValue e (-1) (some (.JoinedStr [.Constant (.str (spI left)) j p1] p2)) pos) (tE Z W (eUn (kFmtI left) f)) :=
  (pe_fmtX (R := fun x y => ∃ i : Int, x = .int i ∧ y = fmtI left i ∧ i.natAbs.log2 < 1920 ∧ (fmtI left i).length ≤ 1000000) he (by
    rintro x v y s Q ⟨i, rfl, rfl, h1, h2⟩ ⟨t, rfl⟩ h
    exact fld_int left h1 h2 h)).weak fun σ H Q q => tE_imp (fun x H1 ⟨A, F, sl, ce, v, so, hs, r, p⟩ => by
    unfold kFmtI at p
    split at p
    · rename_i i
      split at p
      · rename_i hz
        rw [rep_int r]
        exact ⟨_, ⟨i, rfl, rfl, hz.1, hz.2⟩, fin_flat so p repS⟩
      · exact p.elim
    · exact p.elim) (tE1 q)
theorem de_fmtS (left : Bool) (he : PE X e (tE Z W f)) : PE X (.FormattedValue e (-1) (some (.JoinedStr [.Constant (.str (spcS left)) j p1] p2)) pos) (tE Z W (eUn (kFmtS left) f)) :=
  (pe_fmtX (R := fun x y => ∃ z : Str, x = .str z ∧ y = fmtS left z ∧ z.length ≤ 1000000) he (by
    rintro x v y s Q ⟨z, rfl, rfl, h1⟩ ⟨t, rfl⟩ h
    exact fld_str left h1 h)).weak fun σ H Q q => tE_imp (fun x H1 ⟨A, F, sl, ce, v, so, hs, r, p⟩ => by
    unfold kFmtS at p
    split at p
    · rename_i z
      split at p
      · rename_i hz
        rw [rep_str r]
        exact ⟨_, ⟨z, rfl, rfl, hz⟩, fin_flat so p repS⟩
      · exact p.elim
    · exact p.elim) (tE1 q)
def kJust (left : Bool) (v : Val) (vs : List Val) : DE := fun _ ce => match v, vs with
  | .im (.str a), [.im (.int i)] => if i = 20 then .ok (.im (.str (fmtS left a))) ce else .stuck
  | _, _ => .stuck
theorem de_rjust (ho : PE X o (tE Z W f)) (ha : PE X e (tE Z W g))
    (hb : attributeBase o "rjust" X.env (eval o X.env) = eval o X.env := by rfl) (hl : (apos.endLine == cpos.line) = true := by rfl) (hs : starEach [e] X.env = (false, eval e X.env) :: starEach [] X.env := by rfl)
    (hfew : ((backTo cpos (starEach [e] X.env)).all (fun x => !x.1) && (backToKw cpos (keywordEach [] X.env)).all (fun x => x.1.isSome)
      && decide ([e].length + ([] : List Keyword).length + (if ([] : List Keyword).isEmpty then 0 else 1) < 30)) = true := by rfl) :
    PE X (.Call (.Attribute o "rjust" apos) [e] [] cpos) (tE Z W (eMth tyS (kJust false) f [g])) :=
  de_bm PySem.F.plainAttrs_str PySem.F.slot_str_rjust PySem.F.type_str_rjust mt_rjust ⟨tyS_ok, fun A F sl ce v x vs xs H σ Q so hs rv rs p => by
    unfold kJust at p
    split at p
    · rename_i a i
      split at p
      · rename_i hz
        subst hz
        obtain ⟨y, rfl, ry⟩ := vreps1 rs
        rw [rep_str rv, rep_int ry]
        exact ⟨a, 20, rfl, rfl, by decide +kernel, fin_flat so p repS⟩
      · exact p.elim
    · exact p.elim⟩ ho (da_cons ha da_nil hs) hb hl hs rfl hfew
theorem de_ljust (ho : PE X o (tE Z W f)) (ha : PE X e (tE Z W g))
    (hb : attributeBase o "ljust" X.env (eval o X.env) = eval o X.env := by rfl) (hl : (apos.endLine == cpos.line) = true := by rfl) (hs : starEach [e] X.env = (false, eval e X.env) :: starEach [] X.env := by rfl)
    (hfew : ((backTo cpos (starEach [e] X.env)).all (fun x => !x.1) && (backToKw cpos (keywordEach [] X.env)).all (fun x => x.1.isSome)
      && decide ([e].length + ([] : List Keyword).length + (if ([] : List Keyword).isEmpty then 0 else 1) < 30)) = true := by rfl) :
    PE X (.Call (.Attribute o "ljust" apos) [e] [] cpos) (tE Z W (eMth tyS (kJust true) f [g])) :=
  de_bm PySem.F.plainAttrs_str PySem.F.slot_str_ljust PySem.F.type_str_ljust mt_ljust ⟨tyS_ok, fun A F sl ce v x vs xs H σ Q so hs rv rs p => by
    unfold kJust at p
    split at p
    · rename_i a i
      split at p
      · rename_i hz
        subst hz
        obtain ⟨y, rfl, ry⟩ := vreps1 rs
        rw [rep_str rv, rep_int ry]
        exact ⟨a, 20, rfl, rfl, by decide +kernel, fin_flat so p repS⟩
      · exact p.elim
    · exact p.elim⟩ ho (da_cons ha da_nil hs) hb hl hs rfl hfew
end
end ZZ
set_option Elab.async false
set_option linter.all false
set_option maxRecDepth 100000
namespace PySem
open Sem (wp)
section
variable {prog : Program} {w : World} {A : Around} {E : Value → Shared → Prop} {s : Shared} {z TI TO T i1 i2 : Addr} {f : Bool} {oT : Obj} {fp1 fp2 : List Addr} {n1 n2 i : Nat} {P1 P2 : Nat → Value → Prop} {St1 St2 : Nat → Heap → Prop} {a1 a2 : Value}
theorem zhd_next_item {Q : Value → Shared → Prop} (S : ZipSep2 z TI TO i1 i2 fp1 fp2) (D1 : Draws prog w A i1 fp1 n1 P1 St1) (D2 : Draws prog w A i2 fp2 n2 P2 St2)
    (hz : IsZipHeld s.heap z TI TO T f) (hT : s.heap.get? T = some oT) (hTI : IsTupOf2 s.heap TI (.ref i1) (.ref i2)) (st1 : St1 i s.heap) (st2 : St2 i s.heap) (hlt1 : i < n1) (hlt2 : i < n2)
    (hQ : ∀ x1 x2 h' tk, P1 i x1 → P2 i x2 → IsZipHeld h' z TI TO T true → St1 (i + 1) h' → St2 (i + 1) h' → IsTupOf2 h' s.heap.objs.size x1 x2 → h'.objs.size = s.heap.objs.size + 1 →
      (∀ c o, c ≠ z → c ≠ i1 → c ≠ i2 → s.heap.get? c = some o → h'.get? c = some o) → Q (.ref s.heap.objs.size) { s with heap := h', toks := tk }) :
    wpAny (model prog w) A (Builtin.«zip.__next__» ⟨[.ref z], []⟩) (fun fin s' => ∃ v, fin = .done (.ret v) ∧ Q v s') E s := by
  obtain ⟨hp, g, d, tk0, os⟩ := s
  show wpAny _ _ (field (.ref z) 2 >>= _) _ _ _
  refine wpAny_bind (wpAny_field hz rfl (x := .bool false) rfl ?_)
  show wpAny _ _ (field (.ref z) 3 >>= _) _ _ _
  refine wpAny_bind (wpAny_field hz rfl (x := .ref TI) rfl ?_)
  refine wpAny_bind (wpAny_seqItems hTI rfl ?_)
  show wpAny _ _ (Builtin.SmallTypes.ownedTupleIsFree (.ref z) >>= _) _ _ _
  refine wpAny_bind (wpAny_tupleHeld_zip hz hT fun h₁ hz₁ hs₁ => ?_)
  replace hs₁ : Heap.SameBut z hp h₁ := hs₁
  simp only [Bool.false_eq_true, if_false]
  refine wpAny_bind ?_
  rw [← Array.forIn_toList]
  simp only [List.forIn_cons, List.forIn_nil]
  refine wpAny_bind (wpAny_bind (wpAny_holding ?_))
  show wpAny _ _ (Builtin.SmallTypes.nextOf (.ref i1) >>= _) _ _ ⟨h₁, g, d, tk0, os⟩
  refine wpAny_bind (D1.item i _ _ _ hlt1 (D1.over st1 hs₁ S.zf1) fun x1 p1 tk1 hx1 sn1 hp1 => wpAny_pure ?_)
  replace hp1 : Heap.SameBut i1 h₁ p1 := hp1
  refine wpAny_pure ?_
  refine wpAny_bind (wpAny_bind (wpAny_holding ?_))
  show wpAny _ _ (Builtin.SmallTypes.nextOf (.ref i2) >>= _) _ _ ⟨p1, g, d, tk1, os⟩
  refine wpAny_bind (D2.item i _ _ _ hlt2 (D2.over (D2.over st2 hs₁ S.zf2) hp1 S.sep1_2) fun x2 p2 tk2 hx2 sn2 hp2 => wpAny_pure ?_)
  replace hp2 : Heap.SameBut i2 p1 p2 := hp2
  refine wpAny_pure (wpAny_pure ?_)
  show wpAny _ _ (newTuple [x1, x2] >>= _) _ _ _
  refine wpAny_bind (wpAny_newTuple ?_)
  have hsz : p2.objs.size = hp.objs.size := by rw [hp2.1, hp1.1, hs₁.1]
  have hz₃ : IsZipHeld p2 z TI TO T true := hp2.extBut _ _ S.zi2 (hp1.extBut _ _ S.zi1 hz₁)
  have hk : ∀ c o, c ≠ z → c ≠ i1 → c ≠ i2 → hp.get? c = some o → p2.get? c = some o := fun c o c1 c2 c3 e => hp2.extBut _ _ c3 (hp1.extBut _ _ c2 (hs₁.extBut _ _ c1 e))
  refine wpAny_pure ⟨_, rfl, ?_⟩
  show Q (.ref p2.objs.size) _
  have hpp : IsTupOf2 (p2.push { cls := .type "tuple", data := .seq #[x1, x2] }) p2.objs.size x1 x2 := Heap.get?_push_size _ rfl
  have hz4 : (p2.push { cls := .type "tuple", data := .seq #[x1, x2] }).objs.size = p2.objs.size + 1 := Heap.size_push ..
  rw [hsz] at hpp hz4 ⊢
  exact hQ x1 x2 _ _ hx1 hx2 (Heap.get?_push_of_some _ hz₃) (D1.frame _ _ _ (D1.over sn1 hp2 S.sep2_1) fun b hb o e => Heap.get?_push_of_some _ e) (D2.frame _ _ _ sn2 fun b hb o e => Heap.get?_push_of_some _ e) hpp hz4 fun c o c1 c2 c3 e => Heap.get?_push_of_some _ (hk c o c1 c2 c3 e)
theorem zhd_next_end {Q : Fin → Shared → Prop} (S : ZipSep2 z TI TO i1 i2 fp1 fp2) (D1 : Draws prog w A i1 fp1 n1 P1 St1) (D2 : Draws prog w A i2 fp2 n2 P2 St2)
    (hz : IsZipHeld s.heap z TI TO T f) (hT : s.heap.get? T = some oT) (hTI : IsTupOf2 s.heap TI (.ref i1) (.ref i2)) (st1 : St1 i s.heap) (st2 : St2 i s.heap) (hle1 : i ≤ n1) (hle2 : i ≤ n2) (hend : i = n1 ∨ i = n2)
    (hE : ∀ h' tk e, (∀ c o, c ≠ z → c ≠ i1 → c ≠ i2 → s.heap.get? c = some o → h'.get? c = some o) → (∃ o, h'.get? e = some o ∧ o.cls = .type "StopIteration") → E (.ref e) { s with heap := h', toks := tk }) :
    wpAny (model prog w) A (Builtin.«zip.__next__» ⟨[.ref z], []⟩) Q E s := by
  obtain ⟨hp, g, d, tk0, os⟩ := s
  show wpAny _ _ (field (.ref z) 2 >>= _) _ _ _
  refine wpAny_bind (wpAny_field hz rfl (x := .bool false) rfl ?_)
  show wpAny _ _ (field (.ref z) 3 >>= _) _ _ _
  refine wpAny_bind (wpAny_field hz rfl (x := .ref TI) rfl ?_)
  refine wpAny_bind (wpAny_seqItems hTI rfl ?_)
  show wpAny _ _ (Builtin.SmallTypes.ownedTupleIsFree (.ref z) >>= _) _ _ _
  refine wpAny_bind (wpAny_tupleHeld_zip hz hT fun h₁ hz₁ hs₁ => ?_)
  replace hs₁ : Heap.SameBut z hp h₁ := hs₁
  simp only [Bool.false_eq_true, if_false]
  refine wpAny_bind ?_
  rw [← Array.forIn_toList]
  simp only [List.forIn_cons, List.forIn_nil]
  refine wpAny_bind (wpAny_bind (wpAny_holding ?_))
  show wpAny _ _ (Builtin.SmallTypes.nextOf (.ref i1) >>= _) _ _ ⟨h₁, g, d, tk0, os⟩
  by_cases hlt1 : i < n1
  · refine wpAny_bind (D1.item i _ _ _ hlt1 (D1.over st1 hs₁ S.zf1) fun x1 p1 tk1 hx1 sn1 hp1 => wpAny_pure ?_)
    replace hp1 : Heap.SameBut i1 h₁ p1 := hp1
    refine wpAny_pure ?_
    refine wpAny_bind (wpAny_bind (wpAny_holding ?_))
    have hi2 : i = n2 := by omega
    show wpAny _ _ (Builtin.SmallTypes.nextOf (.ref i2) >>= _) _ _ ⟨p1, g, d, tk1, os⟩
    refine wpAny_bind (D2.done ⟨p1, g, d, tk1, os⟩ _ _ (by rw [← hi2]; exact (D2.over (D2.over st2 hs₁ S.zf2) hp1 S.sep1_2)) fun q e hq he => ?_)
    replace hq : Heap.ExtBut i2 p1 q := hq
    exact hE q tk1 e (fun c o cz c1 c2 x => hq _ _ c2 (hp1.extBut _ _ c1 (hs₁.extBut _ _ cz x))) he
  · have hi1 : i = n1 := by omega
    refine wpAny_bind (D1.done ⟨h₁, g, d, tk0, os⟩ _ _ (by rw [← hi1]; exact (D1.over st1 hs₁ S.zf1)) fun q e hq he => ?_)
    replace hq : Heap.ExtBut i1 h₁ q := hq
    exact hE q tk0 e (fun c o cz c1 c2 x => hq _ _ c1 (hs₁.extBut _ _ cz x)) he
theorem zhd_pyNext_item {Q : Option Value → Shared → Prop} (S : ZipSep2 z TI TO i1 i2 fp1 fp2) (D1 : Draws prog w A.in1 i1 fp1 n1 P1 St1) (D2 : Draws prog w A.in1 i2 fp2 n2 P2 St2)
    (hz : IsZipHeld s.heap z TI TO T f) (hT : s.heap.get? T = some oT) (hTI : IsTupOf2 s.heap TI (.ref i1) (.ref i2)) (st1 : St1 i s.heap) (st2 : St2 i s.heap) (hlt1 : i < n1) (hlt2 : i < n2)
    (hQ : ∀ x1 x2 h' tk, P1 i x1 → P2 i x2 → IsZipHeld h' z TI TO T true → St1 (i + 1) h' → St2 (i + 1) h' → IsTupOf2 h' s.heap.objs.size x1 x2 → h'.objs.size = s.heap.objs.size + 1 →
      (∀ c o, c ≠ z → c ≠ i1 → c ≠ i2 → s.heap.get? c = some o → h'.get? c = some o) → Q (some (.ref s.heap.objs.size)) { s with heap := h', toks := tk }) :
    wpAny (model prog w) A (pyNext (.ref z)) Q E s := by
  have hTy : s.TypeIs (.ref z) "zip" := ⟨_, hz, rfl⟩
  unfold pyNext
  exact wpAny_bind (wpAny_attempt (wpAny_callSpecial?_slot (name := Str.ofString "__next__") hTy F.slot_zip_next
    (wpAny_call_entry F.slot_zip_next hTy F.entry_zip_next
      (zhd_next_item S D1 D2 hz hT hTI st1 st2 hlt1 hlt2 fun x1 x2 h' tk y1 y2 b1 d1 d2 b5 b6 b7 => wpAny_pure (hQ x1 x2 h' tk y1 y2 b1 d1 d2 b5 b6 b7)) (F.args_zip_next_1 _))))
theorem zhd_pyNext_end {Q : Option Value → Shared → Prop} (S : ZipSep2 z TI TO i1 i2 fp1 fp2) (D1 : Draws prog w A.in1 i1 fp1 n1 P1 St1) (D2 : Draws prog w A.in1 i2 fp2 n2 P2 St2)
    (hz : IsZipHeld s.heap z TI TO T f) (hT : s.heap.get? T = some oT) (hTI : IsTupOf2 s.heap TI (.ref i1) (.ref i2)) (st1 : St1 i s.heap) (st2 : St2 i s.heap) (hle1 : i ≤ n1) (hle2 : i ≤ n2) (hend : i = n1 ∨ i = n2)
    (hQ : ∀ h' tk, (∀ c o, c ≠ z → c ≠ i1 → c ≠ i2 → s.heap.get? c = some o → h'.get? c = some o) → Q none { s with heap := h', toks := tk }) : wpAny (model prog w) A (pyNext (.ref z)) Q E s := by
  have hTy : s.TypeIs (.ref z) "zip" := ⟨_, hz, rfl⟩
  unfold pyNext
  refine wpAny_bind (wpAny_attempt (wpAny_callSpecial?_slot (name := Str.ofString "__next__") hTy F.slot_zip_next
    (wpAny_call_entry F.slot_zip_next hTy F.entry_zip_next (zhd_next_end S D1 D2 hz hT hTI st1 st2 hle1 hle2 hend fun h' tk e hk he => ?_) (F.args_zip_next_1 _))))
  obtain ⟨o, ho, hc⟩ := he
  refine wpAny_bind (wpAny_isInstance (T := "StopIteration") (b := true) ⟨o, ho, hc⟩ isSubtype_stop ?_)
  exact wpAny_pure (hQ _ _ hk)
end
end PySem
namespace L2
open PySem PySem.Spec PyProof.Rows
def ZHeldS (z TI TO i1 i2 b : Addr) (w : Str) (t : Tok) (i : Nat) (H : Hp) (h : Heap) : Prop :=
  IsPair h TI (.ref i1) (.ref i2) ∧ (∃ x y, IsPair h TO x y) ∧ h.IsStrIter i1 (strIterType w) w t i ∧ h.IsListIter i2 b i ∧ (IsZip h z TI TO .none ∨ ∃ T f xs, IsZipHeld h z TI TO T f ∧ H T = some (.tup xs))
section
variable {X : Cx} {pins : List (Addr × Obj)} {σ : L2.St} {H : Hp} {s : Shared} {z TI TO i1 i2 b q : Addr} {i : Nat} {w : Str} {t : Tok} {ys : List V} {y : V} {c : Nat} {A A1 : Around} {E : Value → Shared → Prop}
theorem ZHeldS.lt (st : ZHeldS z TI TO i1 i2 b w t i H s.heap) : ∀ c ∈ [z, TI, TO, i1, i2], c < s.heap.objs.size := by
  obtain ⟨hTI, ⟨x0, y0, hTO⟩, ⟨o1, h1, _⟩, ⟨o2, h2, _⟩, hz⟩ := st
  have hzl : z < s.heap.objs.size := by
    rcases hz with hz | ⟨T, f, vs, hz, _⟩
    · exact Heap.lt_size hz
    · exact Heap.lt_size hz
  intro c hc
  have e' : c = z ∨ c = TI ∨ c = TO ∨ c = i1 ∨ c = i2 := by simpa using hc
  rcases e' with q | q | q | q | q
  · rw [q]; exact hzl
  · rw [q]; exact Heap.lt_size hTI
  · rw [q]; exact Heap.lt_size hTO
  · rw [q]; exact Heap.lt_size h1
  · rw [q]; exact Heap.lt_size h2
theorem zs_item (hh : A.handled = none) (hne : b ≠ i2) (D : ZipSep2 z TI TO i1 i2 [i1] [i2, b]) (I : Inv X pins σ H s) (hf : ∀ c ∈ [z, TI, TO, i1, i2], FpOk X pins H c) (st : ZHeldS z TI TO i1 i2 b w t i H s.heap) (hqy : SqL X.K H b ys) (hx : w.cps[i]? = some c) (hy : ys[i]? = some y)
    {Q : Option Value → Shared → Prop} (h : ∀ T h' tk, H T = none → Inv X pins σ (upd H T (.tup [.str ⟨#[c]⟩, y])) { s with heap := h', toks := tk } → ZHeldS z TI TO i1 i2 b w t (i + 1) (upd H T (.tup [.str ⟨#[c]⟩, y])) h' → (∀ c' ∈ [z, TI, TO, i1, i2], FpOk X pins (upd H T (.tup [.str ⟨#[c]⟩, y])) c') → Q (some (.ref T)) { s with heap := h', toks := tk }) :
    wpAny (model X.prog X.w) A (pyNext (.ref z)) Q E s := by
  have hlt := st.lt
  obtain ⟨hTI, ⟨x0, y0, hTO⟩, h1, h2, hz⟩ := st
  obtain ⟨its2, rv2, p2, _⟩ := I.list hqy
  obtain ⟨u2, hu2, ru2⟩ := rv2.get hy
  have d1 := Draws.text (prog := X.prog) (w := X.w) (A := A.in1) hh i1 w t
  have d2 := Draws.list (prog := X.prog) (w := X.w) (A := A.in1) hh i2 b hne its2.toArray
  have lt1 : i < w.cps.size := (Array.getElem?_eq_some_iff.mp hx).1
  have lt2 : i < its2.toArray.size := by
    have := (List.getElem?_eq_some_iff.mp hu2).1
    simpa using this
  have fr : H s.heap.objs.size = none := I.hok.fresh (Nat.le_refl _)
  have hf' : ∀ c' ∈ [z, TI, TO, i1, i2], FpOk X pins (upd H s.heap.objs.size (.tup [.str ⟨#[c]⟩, y])) c' := fun c' hc => ⟨by rw [upd_ne (Nat.ne_of_lt (hlt c' hc))]; exact (hf c' hc).1, (hf c' hc).2⟩
  have fin : ∀ (h' : Heap) (tk : Nat) (tc : Tok), IsPair h' s.heap.objs.size (.str ⟨#[c]⟩ tc) u2 → (∀ c o, c ∉ [z, TI, TO, i1, i2] → s.heap.get? c = some o → h'.get? c = some o) → Inv X pins σ (upd H s.heap.objs.size (.tup [.str ⟨#[c]⟩, y])) { s with heap := h', toks := tk } := fun h' tk tc hT hk =>
    I.turnedNew (t' := tk) (ch := [z, TI, TO, i1, i2]) hk hf (Nat.le_refl _) ⟨by show 2 ≤ sizeLine; decide, [.str ⟨#[c]⟩ tc, u2], .cons ⟨tc, rfl⟩ (.cons ru2 .nil), ⟨_, hT, rfl, _, rfl⟩⟩
  have vals : ∀ v1 v2, (∃ c u, w.cps[i]? = some c ∧ v1 = Value.str ⟨#[c]⟩ u) → its2.toArray[i]? = some v2 → (∃ u, v1 = .str ⟨#[c]⟩ u) ∧ v2 = u2 := fun v1 v2 a1 a2 => by
    obtain ⟨c', u', e1, rfl⟩ := a1
    rw [hx] at e1
    cases e1
    simp only [List.getElem?_toArray] at a2
    rw [hu2] at a2
    exact ⟨⟨u', rfl⟩, (Option.some.inj a2).symm⟩
  rcases hz with hz | ⟨T, f, vs, hz, hT⟩
  · refine wpAny_pyNext_zipD2_item D d1 d2 hz hTI hTO h1 (And.intro h2 p2.isList) lt1 lt2 fun v1 v2 h' tk P1 P2 a1 a2 a3 a4 a5 a6 hk => ?_
    obtain ⟨⟨u', rfl⟩, rfl⟩ := vals v1 v2 P1 P2
    refine h _ h' tk fr (fin h' tk u' a5 fun c o hc e => hk c o (fun w => hc (by simp [w])) (fun w => hc (by simp [w])) (fun w => hc (by simp [w])) (fun w => hc (by simp [w])) e) ⟨hk _ _ D.TIz D.TITO D.TIi1 D.TIi2 hTI, ⟨_, _, a2⟩, a3, a4.1, .inr ⟨s.heap.objs.size, false, _, a1, upd_same⟩⟩ hf'
  · obtain ⟨oT, hoT⟩ := tup_at I hT
    refine zhd_pyNext_item D d1 d2 hz hoT hTI h1 (And.intro h2 p2.isList) lt1 lt2 fun v1 v2 h' tk P1 P2 a1 a3 a4 a5 a6 hk => ?_
    obtain ⟨⟨u', rfl⟩, rfl⟩ := vals v1 v2 P1 P2
    refine h _ h' tk fr (fin h' tk u' a5 fun c o hc e => hk c o (fun w => hc (by simp [w])) (fun w => hc (by simp [w])) (fun w => hc (by simp [w])) e) ⟨hk _ _ D.TIz D.TIi1 D.TIi2 hTI, ⟨_, _, hk _ _ D.TOz D.Ti1 D.Ti2 hTO⟩, a3, a4.1, .inr ⟨T, true, vs, a1, by rw [upd_ne (ne_of_none hT fr)]; exact hT⟩⟩ hf'
theorem zs_done (hh : A.handled = none) (hne : b ≠ i2) (D : ZipSep2 z TI TO i1 i2 [i1] [i2, b]) (I : Inv X pins σ H s) (hf : ∀ c ∈ [z, TI, TO, i1, i2], FpOk X pins H c) (st : ZHeldS z TI TO i1 i2 b w t i H s.heap) (hqy : SqL X.K H b ys) (hl1 : i ≤ w.cps.size) (hl2 : i ≤ ys.length) (he : i = w.cps.size ∨ i = ys.length)
    {Q : Option Value → Shared → Prop} (h : ∀ h' tk, Inv X pins σ H { s with heap := h', toks := tk } → Q none { s with heap := h', toks := tk }) : wpAny (model X.prog X.w) A (pyNext (.ref z)) Q E s := by
  obtain ⟨hTI, ⟨x0, y0, hTO⟩, h1, h2, hz⟩ := st
  obtain ⟨its2, rv2, p2, _⟩ := I.list hqy
  have l2 := rv2.length
  have d1 := Draws.text (prog := X.prog) (w := X.w) (A := A.in1) hh i1 w t
  have d2 := Draws.list (prog := X.prog) (w := X.w) (A := A.in1) hh i2 b hne its2.toArray
  have sz : its2.toArray.size = ys.length := by simp; omega
  rcases hz with hz | ⟨T, f, vs, hz, hT⟩
  · exact wpAny_pyNext_zipD2_end D d1 d2 hz hTI hTO h1 (And.intro h2 p2.isList) hl1 (by omega) (by omega) fun h' tk hk => h h' tk (I.turnedL (t' := tk) (ch := [z, TI, TO, i1, i2]) (fun c o hb q =>
      hk c o (fun q' => hb (by simp [q'])) (fun q' => hb (by simp [q'])) (fun q' => hb (by simp [q'])) (fun q' => hb (by simp [q'])) q) hf)
  · obtain ⟨oT, hoT⟩ := tup_at I hT
    exact zhd_pyNext_end D d1 d2 hz hoT hTI h1 (And.intro h2 p2.isList) hl1 (by omega) (by omega) fun h' tk hk => h h' tk (I.turnedL (t' := tk) (ch := [z, TI, TO, i1, i2]) (fun c o hb q =>
      hk c o (fun q' => hb (by simp [q'])) (fun q' => hb (by simp [q'])) (fun q' => hb (by simp [q'])) q) hf)
/-- the walk that fills the list at q with the pairs -/
structure ZRunS (K : PySem.W.Frag) (w : Str) (b q : Addr) (ys : List V) (P : List V → Hp → Prop) : Prop where
  sq : ∀ acc H, P acc H → SqL K H b ys ∧ H q = some (.lst acc)
  st : ∀ acc H c y T, P acc H → w.cps[acc.length]? = some c → ys[acc.length]? = some y → H T = none → P (acc ++ [.ref T]) (upd (upd H T (.tup [.str ⟨#[c]⟩, y])) q (.lst (acc ++ [.ref T])))
theorem zs_loop (hh : A1.in1.handled = none) (hne : b ≠ i2) (D : ZipSep2 z TI TO i1 i2 [i1] [i2, b]) {P : List V → Hp → Prop} (hP : ZRunS X.K w b q ys P) {Rs : Result → Shared → Prop} {res : Value}
    (hR : ∀ acc H s, Inv X pins σ H s → P acc H → acc.length = min w.cps.size ys.length → Rs (.ok (.ret res)) s) :
    ∀ (n : Nat) (acc : List V) (H : Hp) (s : Shared), acc.length + n = min w.cps.size ys.length → Inv X pins σ H s → P acc H → ZHeldS z TI TO i1 i2 b w t acc.length H s.heap → (∀ c ∈ [z, TI, TO, i1, i2], FpOk X pins H c) →
      codeAny (model X.prog X.w) A1 (.builtin "list.extend.loop" ⟨[.ref q, .ref z, res], []⟩) Rs s := by
  intro n
  induction n with
  | zero =>
    intro acc H s hn I hp st hf
    obtain ⟨sy, hq⟩ := hP.sq acc H hp
    refine codeAny_builtin PySem.F.entry_extend_loop ?_
    rw [Around.under_plainId PySem.F.plain_extend_loop _]
    show wpAny _ A1.in1 (pyNext (.ref z) >>= _) _ _ s
    refine wpAny_bind (zs_done hh hne D I hf st sy (by omega) (by omega) (by omega) fun h' tk I' => ?_)
    exact wpAny_pure (hR acc H _ I' hp (by omega))
  | succ n ih =>
    intro acc H s hn I hp st hf
    obtain ⟨sy, hq⟩ := hP.sq acc H hp
    obtain ⟨itsy, rvy, py, hzy⟩ := I.list sy
    have ex : w.cps[acc.length]? = some w.cps[acc.length] := Array.getElem?_eq_getElem (by omega)
    have ey : ys[acc.length]? = some ys[acc.length] := List.getElem?_eq_getElem (by omega)
    have hlen : acc.length + 1 ≤ sizeLine := by
      have := rvy.length
      omega
    refine codeAny_builtin PySem.F.entry_extend_loop ?_
    rw [Around.under_plainId PySem.F.plain_extend_loop _]
    show wpAny _ A1.in1 (pyNext (.ref z) >>= _) _ _ s
    refine wpAny_bind (zs_item hh hne D I hf st sy ex ey fun T h' tk hT I' st' hf' => ?_)
    show wpAny _ A1.in1 (updateSeq q (·.push (.ref T)) >>= _) _ _ _
    have hq' : (upd H T (.tup [.str ⟨#[w.cps[acc.length]]⟩, ys[acc.length]])) q = some (.lst acc) := by rw [upd_ne (ne_of_none hq hT)]; exact hq
    obtain ⟨zz, its, k, r2, hl, e⟩ := I'.lstM hq'
    refine wpAny_bind (wpAny_updateSeq e rfl (wpAny_pure ⟨plainId_quiet PySem.F.plain_extend_loop _, ?_⟩) (by rw [List.size_toArray]; omega) (by show (its.toArray.push (.ref T)).size ≤ sizeLine + 1; rw [Array.size_push, List.size_toArray]; omega))
    have rT : Vals [V.ref T] [Value.ref T] := .cons rfl .nil
    have I2 := I'.lset (f := (·.push (.ref T))) (its' := its ++ [.ref T]) (ys := acc ++ [.ref T]) (t' := tk) hq' e (by simp) (r2.append rT) (by rw [List.length_append, List.length_singleton]; exact hlen)
    have hne' : ∀ c ∈ [z, TI, TO, i1, i2], c ≠ q := fun c hc w => by
      have := (hf' c hc).1
      rw [w, hq'] at this
      cases this
    have oth : ∀ c o, c ∈ [z, TI, TO, i1, i2] → h'.get? c = some o → (h'.update q (Obj.mapSeq (·.push (.ref T)))).get? c = some o := fun c o hc e => (Heap.get?_update_other _ _ (Ne.symm (hne' c hc))).trans e
    refine ih (acc ++ [.ref T]) _ _ (by rw [List.length_append, List.length_singleton]; omega) I2 (hP.st acc H _ _ T hp ex ey hT) ?_ fun c hc => ⟨by rw [upd_ne (hne' c hc)]; exact (hf' c hc).1, (hf' c hc).2⟩
    obtain ⟨hTI, ⟨x0, y0, hTO⟩, h1, h2, hz⟩ := st'
    rw [List.length_append, List.length_singleton]
    refine ⟨oth _ _ (by simp) hTI, ⟨x0, y0, oth _ _ (by simp) hTO⟩, (let ⟨o, e, c, d⟩ := h1; ⟨o, oth i1 o (by simp) e, c, d⟩), h2.at fun o e => oth _ o (by simp) e, ?_⟩
    rcases hz with hz | ⟨T', f, vs, hz, hT'⟩
    · exact .inl (oth _ _ (by simp) hz)
    · refine .inr ⟨T', f, vs, oth _ _ (by simp) hz, ?_⟩
      rw [upd_ne (ne_of hT' hq' (fun z => nomatch z))]
      exact hT'
theorem zs_extend (hh : A1.in1.in1.handled = none) (hne2 : b ≠ i2) (D : ZipSep2 z TI TO i1 i2 [i1] [i2, b]) {P : List V → Hp → Prop} (hP : ZRunS X.K w b q ys P) {Rs : Result → Shared → Prop}
    (hR : ∀ acc H s, Inv X pins σ H s → P acc H → acc.length = min w.cps.size ys.length → Rs (.ok (.ret .none)) s) (I : Inv X pins σ H s) (hp : P [] H) (st : ZHeldS z TI TO i1 i2 b w t 0 H s.heap) (hf : ∀ c ∈ [z, TI, TO, i1, i2], FpOk X pins H c) (hz0 : IsZip s.heap z TI TO .none) :
    wpAny (model X.prog X.w) A1.in1 (Builtin.List.listExtendWith (.ref q) (.ref z) .none)
      (fun fin s' => match fin with | .done f => Rs (.ok f) s' | .again c' => c'.quiet = true ∧ codeAny (model X.prog X.w) A1 c' Rs s') (fun e s' => Rs (.error e) s') s := by
  obtain ⟨sy, hq⟩ := hP.sq [] H hp
  have hne : ∀ c ∈ [z, TI, TO, i1, i2], c ≠ q := fun c hc w => by
    have := (hf c hc).1
    rw [w, hq] at this
    cases this
  have hT : s.TypeIs (.ref z) "zip" := ⟨_, hz0, rfl⟩
  unfold Builtin.List.listExtendWith
  refine wpAny_bind (wpAny_typeOf hT ?_)
  have h1 : Builtin.List.listSameRef (.ref q) (.ref z) = false := by simp [Builtin.List.listSameRef, Ne.symm (hne z (by simp))]
  have h2 : (Value.type "zip" == Value.type "list") = false := by decide
  have h3 : (Value.type "zip" == Value.type "tuple") = false := by decide
  simp only [h1, h2, h3, Bool.or_false, Bool.false_eq_true, if_false]
  refine wpAny_bind (wpAny_pyIter_zip hz0 ?_)
  refine wpAny_bind (wpAny_holding ?_)
  unfold Builtin.List.listLengthHint
  refine wpAny_bind (wpAny_specialOf hT zip_no_len ?_)
  show wpAny _ A1.in1 (specialOf (Value.ref z) (Str.ofString "__length_hint__") >>= _) _ _ _
  refine wpAny_bind (wpAny_specialOf hT zip_no_hint ?_)
  refine wpAny_pure ?_
  show wpAny _ A1.in1 (rule "list.extend.makes-room" >>= fun _ => Builtin.List.listTouch (.ref q) >>= fun _ => again (.builtin "list.extend.loop" ⟨[.ref q, .ref z, .none], []⟩)) _ _ _
  refine wpAny_bind (wpAny_rule ?_)
  obtain ⟨zz, its, k, r3, hl3, e3⟩ := I.lstM hq
  cases r3
  refine wpAny_bind ?_
  show wpAny _ _ (updateSeq q (·.push .none) >>= fun _ => updateSeq q (·.pop)) _ _ _
  refine wpAny_bind (wpAny_updateSeq e3 rfl ?_)
  have I2 := I.lset (f := (·.push Value.none)) (its' := [Value.none]) (ys := [.non]) (t' := s.toks) hq e3 (by simp) (.cons rfl .nil) (by rw [List.length_singleton, sizeLine_eq]; decide)
  obtain ⟨z4, its4, k4, r4, hl4, e4⟩ := I2.lstM upd_same
  obtain ⟨u4, rfl, ru4⟩ := r4.one
  refine wpAny_updateSeq e4 rfl ?_ (by show 1 ≤ sizeLine; rw [sizeLine_eq]; decide) (by show 0 ≤ sizeLine + 1; exact Nat.zero_le _)
  have I3 := I2.lset (f := (·.pop)) (its := [u4]) (its' := []) (ys := []) (t' := s.toks) upd_same e4 (by rfl) .nil (Nat.zero_le _)
  rw [upd_upd] at I3
  have hH : upd H q (.lst []) = H := by
    funext b
    by_cases hb : b = q
    · rw [hb, upd_same, hq]
    · rw [upd_ne hb]
  rw [hH] at I3
  have oth : ∀ c o, c ∈ [z, TI, TO, i1, i2] → s.heap.get? c = some o → ((s.heap.update q (Obj.mapSeq (·.push Value.none))).update q (Obj.mapSeq (·.pop))).get? c = some o := fun c o hc e =>
    (Heap.get?_update_other _ _ (Ne.symm (hne c hc))).trans ((Heap.get?_update_other _ _ (Ne.symm (hne c hc))).trans e)
  refine wpAny_pure ⟨plainId_quiet PySem.F.plain_extend_loop _, zs_loop (A1 := A1) (t := t) hh hne2 D hP hR (min w.cps.size ys.length) [] H _ (by rw [List.length_nil, Nat.zero_add]) I3 hp ?_ hf⟩
  obtain ⟨hTI, ⟨x0, y0, hTO⟩, h1, h2, hz⟩ := st
  refine ⟨oth _ _ (by simp) hTI, ⟨x0, y0, oth _ _ (by simp) hTO⟩, (let ⟨o, e, c, d⟩ := h1; ⟨o, oth i1 o (by simp) e, c, d⟩), h2.at fun o e => oth _ o (by simp) e, ?_⟩
  rcases hz with hz | ⟨T', f, vs, hz, hT'⟩
  · exact .inl (oth _ _ (by simp) hz)
  · exact .inr ⟨T', f, vs, oth _ _ (by simp) hz, hT'⟩
end
end L2
namespace PySem
open Sem (wp)
section
variable {prog : Program} {w : World} {A B : Around} {E : Value → Shared → Prop} {s : Shared} {v1 v2 : Value}
theorem zo_cls {Q : Value × List Value → Shared → Prop} (h : Q (.type "zip", [v1, v2]) s) : wpAny (model prog w) B (Builtin.SmallTypes.newClass "zip" ⟨[.type "zip", v1, v2], []⟩) Q E s := by
  have hsub := sub_zip
  unfold Builtin.SmallTypes.newClass
  wp_walk
  exact h
abbrev zoT (h : Heap) (i1 i2 : Value) : Heap := h.push { cls := .type "tuple", data := .seq #[i1, i2] }
abbrev zoO (h : Heap) (i1 i2 : Value) : Heap := (zoT h i1 i2).push { cls := .type "tuple", data := .seq #[.none, .none] }
abbrev zoZ (h : Heap) (i1 i2 : Value) : Heap := (zoO h i1 i2).push { cls := .type "zip", data := .fields #[.none, .bool false, .bool false, .ref h.objs.size, .ref (zoT h i1 i2).objs.size] }
theorem zo_new {Qn : Value → Shared → Prop}
    (h : wpAny (model prog w) B (pyIter v1) (fun x1 s1 => wpAny (model prog w) B (pyIter v2) (fun x2 s2 => Qn (.ref (zoO s2.heap x1 x2).objs.size) { s2 with heap := zoZ s2.heap x1 x2 }) E s1) E s) :
    wpAny (model prog w) B (Builtin.«zip.__new__» ⟨[.type "zip", v1, v2], []⟩) (fun fin s' => ∃ v, fin = .done (.ret v) ∧ Qn v s') E s := by
  show wpAny _ _ (Builtin.SmallTypes.newClass "zip" ⟨[.type "zip", v1, v2], []⟩ >>= _) _ _ _
  refine wpAny_bind (zo_cls ?_)
  dsimp only
  rw [if_neg (by decide)]
  show wpAny _ _ (Builtin.SmallTypes.iterAll [v1, v2] >>= _) _ _ _
  refine wpAny_bind ?_
  unfold Builtin.SmallTypes.iterAll
  simp only [List.forIn_cons, List.forIn_nil]
  refine wpAny_bind (wpAny_bind (wpAny_bind (wpAny_holding (wpAny_mono h (fun x1 s1 h1 => ?_) fun _ _ x => x))))
  refine wpAny_pure (wpAny_bind (wpAny_bind (wpAny_holding (wpAny_mono h1 (fun x2 s2 h2 => ?_) fun _ _ x => x))))
  refine wpAny_pure (wpAny_pure (wpAny_pure ?_))
  show wpAny _ _ (newTuple [x1, x2] >>= _) _ _ _
  refine wpAny_bind (wpAny_newTuple ?_)
  show wpAny _ _ (newTuple [Value.none, Value.none] >>= _) _ _ _
  refine wpAny_bind (wpAny_newTuple ?_)
  show wpAny _ _ (newObj (.type "zip") (.fields #[.none, .bool false, .bool false, .ref s2.heap.objs.size, .ref (zoT s2.heap x1 x2).objs.size]) >>= _) _ _ _
  exact wpAny_bind (wpAny_newObj_type (wpAny_pure ⟨_, rfl, h2⟩) (by size_fits))
end
end PySem
namespace L2
open PySem PySem.Spec PyProof.Rows
section
variable {X : Cx} {CX : CXT} {k : Nat} {f C : Addr} {fd : FuncData} {fl : Str} {e e2 : Expr} {ta : TA} {p p2 pos pos2 : Pos}
theorem sep_nat (n n' it l : Nat) (h1 : l < n) (h2 : n < n') (h3 : it < n') (h4 : n + 1 ≤ it) : ZipSep2 (n' + 2) n' (n' + 1) n it [n] [it, l] where
  TIz := Nat.ne_of_lt (by omega)
  TOz := Nat.ne_of_lt (by omega)
  TITO := Nat.ne_of_lt (by omega)
  TIi1 := Nat.ne_of_gt (by omega)
  mem1 := List.mem_cons_self
  zf1 := fun h => absurd (List.mem_singleton.mp h) (Nat.ne_of_gt (by omega))
  Tf1 := fun h => absurd (List.mem_singleton.mp h) (Nat.ne_of_gt (by omega))
  TIi2 := Nat.ne_of_gt (by omega)
  mem2 := List.mem_cons_self
  zf2 := fun h => (List.mem_cons.mp h).elim (Nat.ne_of_gt (by omega)) fun h => absurd (List.mem_singleton.mp h) (Nat.ne_of_gt (by omega))
  Tf2 := fun h => (List.mem_cons.mp h).elim (Nat.ne_of_gt (by omega)) fun h => absurd (List.mem_singleton.mp h) (Nat.ne_of_gt (by omega))
  sep1_2 := fun h => (List.mem_cons.mp h).elim (Nat.ne_of_lt (by omega)) fun h => absurd (List.mem_singleton.mp h) (Nat.ne_of_gt (by omega))
  sep2_1 := fun h => absurd (List.mem_singleton.mp h) (Nat.ne_of_gt (by omega))
/-- list(zip(w, o)), o an instance that iterates its list fl -/
def rZipO (K : PySem.W.Frag) (C : Addr) (fl : Str) : List V → Hp → VK → Prop := fun vs H Q => ∃ w a dx fs l ys, vs = [.str w, .ref a] ∧ H a = some (.ins C dx fs) ∧ Cls K C ∧ NoAttr K C fl ∧ fs.lookup fl = some (.ref l) ∧ SqL K H l ys ∧
  ∀ q, H q = none → ∃ P : List V → Hp → Prop, P [] (upd H q (.lst [])) ∧ ZRunS K w l q ys P ∧ ∀ acc H', P acc H' → acc.length = min w.cps.size ys.length → Q (.ref q) H'
theorem pe_zipO (hc : X.calm = true) (hsi : PySem.W.findIn X.K (.ref C) "__iter__" = some (some (.ref f))) (hf : PySem.W.isFn X.K (.ref f) = true) (F : FnOkN X.prog X.w X.K X.mg X.base CX k f fd ["self"] (spIter X.K C fl)) (hr : Room (k + 2) X.A) (hbd : Binds X.K fd ["self"] []) (hx : Passes CX X fun _ _ _ => False)
    (hg : Gl X "zip") (hm : X.mg "zip" = none) (hg2 : Gl X "list") (hm2 : X.mg "list" = none) (ha : PA X [e, e2] ta)
    (hs : starEach [e, e2] X.env = (false, eval e X.env) :: starEach [e2] X.env := by rfl) (hpl : (backTo pos (starEach [e2] X.env)).any (·.1) = false := by rfl)
    (hs2 : starEach [Expr.Call (.Name "zip" p) [e, e2] [] pos] X.env = (false, eval (Expr.Call (.Name "zip" p) [e, e2] [] pos) X.env) :: starEach [] X.env := by rfl) (hpl2 : (backTo pos2 (starEach [] X.env)).any (·.1) = false := by rfl) :
    PE X (.Call (.Name "list" p2) [.Call (.Name "zip" p) [e, e2] [] pos] [] pos2) (fun σ H Q => ta σ H fun vs H1 => rZipO X.K C fl vs H1 Q) := by
  refine ⟨fun pins s σ H Q I h => ?_⟩
  refine Call_ (ld_blt I hg2 hm2 PyProof.Rows.boot_list (PyProof.Rows.callWith_type1 ?_ hs2 hpl2))
  rw [hs2]
  show wpAny _ _ (spliced ((false, eval (Expr.Call (.Name "zip" p) [e, e2] [] pos) X.env) :: backTo pos2 (starEach [] X.env))) _ _ s
  refine Calls.spliced_cons ?_
  refine Call_ (ld_blt I hg hm PyProof.Rows.boot_zip (PyProof.Rows.callWith_type1 (thn (ha.run pos pins s σ H _ I h) fun us s1 ⟨vs, H1, I1, r1, q1⟩ => ?_) hs hpl))
  obtain ⟨w, a, dx, fs, l, ys, ex, hca, hcl, hno, hlk, hqy, hq⟩ := q1
  subst ex
  obtain ⟨u1, u2, rfl, r1, r2⟩ := r1.two
  obtain ⟨t, rfl⟩ := r1
  obtain rfl : u2 = Value.ref a := r2
  refine callType_codes (E := X.xe) (Q₁ := fun obj s₂ => ∃ z TI TO i1 i2, obj = .ref z ∧ Inv X pins σ H1 s₂ ∧ IsZip s₂.heap z TI TO .none ∧ ZHeldS z TI TO i1 i2 l w t 0 H1 s₂.heap ∧ ZipSep2 z TI TO i1 i2 [i1] [i2, l] ∧ l ≠ i2 ∧ ∀ c ∈ [z, TI, TO, i1, i2], FpOk X pins H1 c)
    PySem.F.called_zip (PySem.F.typeCall_zip_2 _ _) PySem.F.entry_object_init (codeAny_call_builtin PySem.F.called_zip.plain PySem.F.entry_zip_new (wpAny_of_eq (PySem.F.newCall_zip_2 _ _) (wpAny_mono (zo_new ((begins_text w t).iter _ _ _ _ s1 _ trivial ?_)) (fun fin s' h' => by
      obtain ⟨v, rfl, hv⟩ := h'
      exact hv) fun _ _ x => x))) fun obj s₂ h₂ => ?_
  · -- the own __iter__
    have I1' : Inv X pins σ H1 { s1 with heap := s1.heap.push { cls := .type (strIterType w), data := .fields #[.str w t, .int 0 0] } } := I1.kept (t' := s1.toks) fun b u e => Heap.get?_push_of_some _ e
    have g1 : (s1.heap.push { cls := .type (strIterType w), data := .fields #[.str w t, .int 0 0] }).get? s1.heap.objs.size = some { cls := .type (strIterType w), data := .fields #[.str w t, .int 0 0] } := Heap.get?_push_size _ (begins_text w t).free
    have f1 : FpOk X pins H1 s1.heap.objs.size := I1.fpOk (Nat.le_refl _) (I1.hok.fresh (Nat.le_refl _))
    have sz1 : (s1.heap.push { cls := .type (strIterType w), data := .fields #[.str w t, .int 0 0] }).objs.size = s1.heap.objs.size + 1 := Heap.size_push ..
    have Ip : Inv X (pins ++ [(s1.heap.objs.size, { cls := .type (strIterType w), data := .fields #[.str w t, .int 0 0] })]) σ H1 { s1 with heap := s1.heap.push { cls := .type (strIterType w), data := .fields #[.str w t, .int 0 0] } } :=
      I1'.pins_of fun p hp => (List.mem_append.mp hp).elim (fun z => I1'.pin p (List.mem_append_right _ z)) fun z => by
        rw [List.mem_singleton.mp z]
        exact ⟨g1, f1.1, f1.2.1, f1.2.2.1, fun v q => nomatch q⟩
    generalize hs' : ({ s1 with heap := s1.heap.push { cls := .type (strIterType w), data := .fields #[.str w t, .int 0 0] } } : Shared) = s1' at Ip I1'
    have hsz' : s1'.heap.objs.size = s1.heap.objs.size + 1 := by rw [← hs']; exact sz1
    obtain ⟨mA, O1, _⟩ := ins_get Ip.hok hca
    obtain ⟨od, J, _⟩ := O1.look
    obtain ⟨m, hF⟩ := Ip.fr
    refine PySem.W.owit_iter hF Ip.ok.mod.kin J hsi hf ?_
    refine wpAny_call (codeAny_mono (F.run X.A.in1.in1 X.stack s1' H1 ⟨[.ref a], []⟩ [.ref a] [.ref a] (fun v H' => ∃ it, v = .ref it ∧ H1 it = none ∧ s1'.heap.objs.size ≤ it ∧ H' = upd H1 it (ItO l it 0)) (fun _ _ _ => False) hr.in1.in1 Ip.env0.in1.in1 (hbd s1' [.ref a] Ip.kIn rfl) (.cons rfl .nil) ⟨a, dx, fs, l, ys, rfl, hca, hcl, hno, hlk, hqy, fun it h1 h2 => ⟨it, rfl, h1, h2, rfl⟩⟩) fun r s' hq2 => ?_)
    cases r with
    | error er => exact hx _ σ H1 s1' er s' Ip hq2
    | ok fl' =>
      cases fl' with
      | ret u =>
        obtain ⟨v, H', I2, rv, it, rfl, hn, hle, rfl⟩ := Ip.after hq2
        obtain rfl : u = Value.ref it := rv
        have hi : (upd H1 it (ItO l it 0)) it = some (ItO l it 0) := upd_same
        have eo := itO_get I2 hi
        have hT : s'.TypeIs (.ref it) "list_iterator" := ⟨_, eo, rfl⟩
        have st : s'.heap.IsListIter it l 0 := ⟨_, eo, rfl, rfl⟩
        have hi' := hi
        unfold ItO at hi'
        have I3 := ItX.inv_drop I2 hi'
        have ed : ItX.dropH (upd H1 it (ItO l it 0)) it = H1 := ItX.dropH_upd hn
        have fp := ItX.inv_fp I2 hi (Nat.le_trans Ip.sz hle)
        rw [ed] at I3 fp
        show PySem.W.OwitIt _ _ _ _ _ _
        unfold PySem.W.OwitIt
        refine wpAny_specialOf (name := Str.ofString "__next__") hT slot_listiter_next.lookup ?_
        have gt := (I3.pin (s1.heap.objs.size, { cls := .type (strIterType w), data := .fields #[.str w t, .int 0 0] }) (by simp)).1
        have I4 : Inv X pins σ H1 s' := I3.unpinned
        obtain ⟨its0, rv0, p0, _⟩ := I1.list hqy
        have ltl := p0.lt
        have ltw : s1.heap.objs.size < s'.heap.objs.size := Heap.lt_size gt
        have lti : it < s'.heap.objs.size := Heap.lt_size eo
        have zT : (zoT s'.heap (.ref s1.heap.objs.size) (.ref it)).objs.size = s'.heap.objs.size + 1 := Heap.size_push ..
        have zO : (zoO s'.heap (.ref s1.heap.objs.size) (.ref it)).objs.size = s'.heap.objs.size + 2 := by rw [Heap.size_push, zT]
        have gZ : (zoZ s'.heap (.ref s1.heap.objs.size) (.ref it)).get? (zoO s'.heap (.ref s1.heap.objs.size) (.ref it)).objs.size = some { cls := .type "zip", data := .fields #[.none, .bool false, .bool false, .ref s'.heap.objs.size, .ref (zoT s'.heap (.ref s1.heap.objs.size) (.ref it)).objs.size] } := Heap.get?_push_size _ rfl
        have gO : (zoZ s'.heap (.ref s1.heap.objs.size) (.ref it)).get? (zoT s'.heap (.ref s1.heap.objs.size) (.ref it)).objs.size = some { cls := .type "tuple", data := .seq #[.none, .none] } := Heap.get?_push_of_some _ (Heap.get?_push_size _ rfl)
        have gT : (zoZ s'.heap (.ref s1.heap.objs.size) (.ref it)).get? s'.heap.objs.size = some { cls := .type "tuple", data := .seq #[.ref s1.heap.objs.size, .ref it] } := Heap.get?_push_of_some _ (Heap.get?_push_of_some _ (Heap.get?_push_size _ rfl))
        have kp : ∀ c o, s'.heap.get? c = some o → (zoZ s'.heap (.ref s1.heap.objs.size) (.ref it)).get? c = some o := fun c o e => Heap.get?_push_of_some _ (Heap.get?_push_of_some _ (Heap.get?_push_of_some _ e))
        rw [zO, zT] at gZ
        rw [zT] at gO
        have fpn : ∀ c, s'.heap.objs.size ≤ c → FpOk X pins H1 c := fun c h => I4.fpOk h (I4.hok.fresh h)
        have fpi : FpOk X pins H1 it := ⟨fp.1, fp.2.1, fp.2.2.1, fp.2.2.2.1, fp.2.2.2.2.1, fun p hp => fp.2.2.2.2.2 p ((List.mem_append.mp hp).elim (fun z => List.mem_append_left _ z) fun z => List.mem_append_right _ (List.mem_append_left _ z))⟩
        rw [hsz'] at hle
        show ∃ z TI TO i1 i2, _
        refine ⟨s'.heap.objs.size + 2, s'.heap.objs.size, s'.heap.objs.size + 1, s1.heap.objs.size, it, by rw [zO], I4.kept (t' := s'.toks) kp, gZ, ⟨gT, ⟨_, _, gO⟩, ⟨_, kp _ _ gt, rfl, rfl⟩, ⟨_, kp _ _ eo, rfl, rfl⟩, .inl gZ⟩, ?_, Nat.ne_of_lt (Nat.lt_of_lt_of_le ltl (Nat.le_of_succ_le hle)), fun c hc => ?_⟩
        · exact sep_nat _ _ _ _ ltl ltw lti hle
        · have e' : c = s'.heap.objs.size + 2 ∨ c = s'.heap.objs.size ∨ c = s'.heap.objs.size + 1 ∨ c = s1.heap.objs.size ∨ c = it := by simpa using hc
          rcases e' with q | q | q | q | q
          · rw [q]; exact fpn _ (by first | exact Nat.le_refl _ | exact Nat.le_add_right _ _)
          · rw [q]; exact fpn _ (by first | exact Nat.le_refl _ | exact Nat.le_add_right _ _)
          · rw [q]; exact fpn _ (by first | exact Nat.le_refl _ | exact Nat.le_add_right _ _)
          · rw [q]; exact f1
          · rw [q]; exact fpi
      | next => exact False.elim hq2
      | brk => exact False.elim hq2
      | cont => exact False.elim hq2
  · obtain ⟨z, TI, TO, i1, i2, rfl, I2, hz0, st, D, hne, hfp⟩ := h₂
    refine ⟨⟨_, hz0, rfl⟩, PySem.F.args_object_init_3 _ _ _, object_init_meets PySem.F.called_zip.init.lookup PySem.F.called_zip.made (by decide) X.prog X.w X.A.in1 _ s₂ ⟨⟨_, hz0, rfl⟩, rfl, ?_⟩⟩
    refine Calls.spliced_nil ?_
    have hlt := st.lt
    refine callType_codes (Q₁ := fun obj s₁ => obj = .ref s₂.heap.objs.size ∧ s₁ = { s₂ with heap := s₂.heap.push { cls := .type "list", data := .seq #[] } }) PySem.F.called_list (PySem.F.typeCall_list_1 _) PySem.F.entry_list_init
      (code_list_new _ ⟨rfl, rfl⟩) fun obj s₁ h₁ => ?_
    obtain ⟨rfl, rfl⟩ := h₁
    have hS : (s₂.heap.push { cls := .type "list", data := .seq #[] }).get? s₂.heap.objs.size = some { cls := .type "list", data := .seq #[] } := Heap.get?_push_size _ rfl
    refine ⟨⟨_, hS, rfl⟩, PySem.F.args_list_init_2 _ _, ?_⟩
    have fr : H1 s₂.heap.objs.size = none := I2.hok.fresh (Nat.le_refl _)
    obtain ⟨P, hP, hrun, hQ⟩ := hq _ fr
    have I3 : Inv X pins σ (upd H1 s₂.heap.objs.size (.lst [])) { s₂ with heap := s₂.heap.push { cls := .type "list", data := .seq #[] } } := I2.lnew (its := []) (t' := s₂.toks) .nil (Nat.zero_le _)
    show wpAny _ _ (do let old ← Builtin.List.listItems (.ref s₂.heap.objs.size); Builtin.List.listUpdate (.ref s₂.heap.objs.size) (fun _ => #[]); letGo old.toList.reverse; Builtin.List.listExtendWith (.ref s₂.heap.objs.size) (.ref z) .none) _ _ _
    refine wpAny_bind ?_
    unfold Builtin.List.listItems
    refine wpAny_bind (wpAny_seqItems hS rfl (wpAny_pure ?_))
    show wpAny _ _ (updateSeq s₂.heap.objs.size (fun _ => #[]) >>= fun _ => letGo (#[] : Array Value).toList.reverse >>= fun _ => Builtin.List.listExtendWith (.ref s₂.heap.objs.size) (.ref z) .none) _ _ _
    refine wpAny_bind (wpAny_updateSeq hS rfl ?_)
    have I4 := I3.lset (f := fun _ => #[]) (its := []) (its' := []) (ys := []) (t' := s₂.toks) upd_same hS rfl .nil (Nat.zero_le _)
    rw [upd_upd] at I4
    refine wpAny_bind (wpAny_letGo ?_)
    have oth : ∀ c o, c ∈ [z, TI, TO, i1, i2] → s₂.heap.get? c = some o → ((s₂.heap.push { cls := .type "list", data := .seq #[] }).update s₂.heap.objs.size (Obj.mapSeq fun _ => (#[] : Array Value))).get? c = some o := fun c o hc e =>
      (Heap.get?_update_other _ _ (Nat.ne_of_gt (hlt c hc))).trans (Heap.get?_push_of_some _ e)
    have hf2 : ∀ c ∈ [z, TI, TO, i1, i2], FpOk X pins (upd H1 s₂.heap.objs.size (.lst [])) c := fun c hc => ⟨by rw [upd_ne (Nat.ne_of_lt (hlt c hc))]; exact (hfp c hc).1, (hfp c hc).2⟩
    obtain ⟨hTI, ⟨x0, y0, hTO⟩, h1, h2, hz⟩ := st
    exact zs_extend (A1 := X.A.in1) (t := t) (Rs := wants (fun r s₂' => r = .none ∧ EP X pins σ Q (.ref s₂.heap.objs.size) s₂') X.xe) (I.ok.hd hc) hne D hrun
      (fun acc H' s' I' hp hl => ⟨rfl, .ref s₂.heap.objs.size, H', I', rfl, hQ acc H' hp hl⟩) I4 hP ⟨oth _ _ (by simp) hTI, ⟨_, _, oth _ _ (by simp) hTO⟩, (let ⟨o, e, c, d⟩ := h1; ⟨o, oth i1 o (by simp) e, c, d⟩), h2.at fun o e => oth _ o (by simp) e, .inl (oth _ _ (by simp) hz0)⟩ hf2 (oth _ _ (by simp) hz0)
end
end L2
namespace ZZ
open PySem PySem.Spec L2
def kZipO (c i : Nat) (vs : List Val) : DE := fun _ ce => match vs with
  | [.im (.str w), v] => match itO c i v with
    | some ys => .ok (.im (.lst (pairs (signs w) ys))) ce
    | none => .stuck
  | _ => .stuck
section
variable {X : Cx} {Z : Zy} {W : WX} {c i : Nat} {fa : Addr} {fl : Str} {e e2 : Expr} {f g : DE} {p pos pos2 : Pos}
theorem de_zipO {p2 : Pos} (hK : X.K = Z.K) (hc : X.calm = true) (kc : ClsOk X.K Z.toZx c) (na : NoAttr X.K (Z.cl c) fl) (hi : (Z.fl c)[i]? = some fl) (G : ItOk X.prog X.w X.K X.mg X.base (Z.cl c) fa fl) (hr : Room 3 X.A)
    (hm : X.mg "zip" = none) (hm2 : X.mg "list" = none) (ha : PA X [e, e2] (tArgs Z W [f, g])) (hg : Gl X "zip" := by rfl) (hg2 : Gl X "list" := by rfl)
    (hs : starEach [e, e2] X.env = (false, eval e X.env) :: starEach [e2] X.env := by rfl) (hpl : (backTo pos (starEach [e2] X.env)).any (·.1) = false := by rfl)
    (hs2 : starEach [Expr.Call (.Name "zip" p) [e, e2] [] pos] X.env = (false, eval (Expr.Call (.Name "zip" p) [e, e2] [] pos) X.env) :: starEach [] X.env := by rfl) (hpl2 : (backTo pos2 (starEach [] X.env)).any (·.1) = false := by rfl) :
    PE X (.Call (.Name "list" p2) [.Call (.Name "zip" p) [e, e2] [] pos] [] pos2) (tE Z W (eArgs [f, g] (kZipO c i))) := by
  obtain ⟨fd, Fn, bd⟩ := G.ex
  exact (pe_zipO hc G.hs G.fn Fn hr bd pass_none hg hm hg2 hm2 ha hs hpl hs2 hpl2).weak fun σ H Q h => tArgs_imp (fun zs H1 ⟨A, F, sl, ce, vs, so, hs, r, l, q⟩ => by
    unfold kZipO at q
    split at q
    · rename_i w v
      split at q
      · rename_i ys e1
        obtain ⟨y1, y2, rfl, r1, r2⟩ := vreps2 r
        obtain rfl := rep_str r1
        unfold itO at e1
        split at e1
        · rename_i d xs
          split at e1
          · rename_i hd
            subst hd
            split at e1
            · rename_i es hx
              cases e1
              unfold VRep Rep at r2
              obtain ⟨a, dx, fs, rfl, haa, hf, hr2⟩ := r2
              obtain ⟨v, hv, rv⟩ := lookup_ix (n := (Z.fl d).length) kc.nd (by rw [List.take_length]; exact hf) hr2 hi hx
              unfold Rep at rv
              obtain ⟨l2, vs2, rfl, h2, q2⟩ := rv
              have h2 := so.sub _ _ h2
              refine ⟨w, a, dx, fs, l2, vs2, rfl, so.sub _ _ haa, kc.cls, na, hv, SqL.of h2, fun q' hq' => ⟨fun acc H' => ∃ F' H0, Same F F' ∧ SO Z.toZx A F' ce H0 ∧ H0 q' = none ∧ H' = upd H0 q' (.lst acc) ∧ Reps Z.toZx F' ((pairs (signs w) ys).take acc.length) acc ∧ H0 l2 = some (.lst vs2),
                ⟨F, H1, Same.refl _, so, hq', rfl, reps_nil, h2⟩, ⟨?_, ?_⟩, ?_⟩⟩
              · rintro acc H' ⟨F', H0, eF, so', hn, rfl, rr, a2⟩
                exact ⟨SqL.of (by rw [upd_ne (ne_of_none a2 hn)]; exact a2), upd_same⟩
              · rintro acc H' c y T ⟨F', H0, eF, so', hn, rfl, rr, a2⟩ ex ey hT
                have hne : T ≠ q' := fun z => by
                  rw [z, upd_same] at hT
                  cases hT
                have hT0 : H0 T = none := by
                  rw [upd_ne hne] at hT
                  exact hT
                have up := same_up (o := .tup [.str ⟨#[c]⟩, y]) (so'.fnone hT0)
                have ex' : (signs w)[acc.length]? = some (.str ⟨#[c]⟩) := by
                  unfold signs
                  rw [List.getElem?_map, Array.getElem?_toList, ex]
                  rfl
                obtain ⟨dy, ey', ry⟩ := (q2.mono eF).get ey
                have ep : (pairs (signs w) ys)[acc.length]? = some (.tup [.str ⟨#[c]⟩, dy]) := by simp [pairs, List.getElem?_zipWith, ex', ey']
                refine ⟨upd F' T (.tup [.str ⟨#[c]⟩, y]), upd H0 T (.tup [.str ⟨#[c]⟩, y]), eF.trans up, so'.new hT0, by rw [upd_ne (Ne.symm hne)]; exact hn, ?_, ?_, by rw [upd_ne (ne_of_none a2 hT0)]; exact a2⟩
                · funext b
                  by_cases hb : b = q'
                  · rw [hb, upd_same, upd_same]
                  · rw [upd_ne hb, upd_ne hb]
                    by_cases hb2 : b = T
                    · rw [hb2, upd_same, upd_same]
                    · rw [upd_ne hb2, upd_ne hb2, upd_ne hb]
                · rw [List.length_append, List.length_singleton, List.take_add_one, ep]
                  refine reps_snoc (rr.mono up) ?_
                  unfold Rep
                  exact ⟨T, [.str ⟨#[c]⟩, y], rfl, SqT.of upd_same, (reps_cons repS (reps_cons ry reps_nil)).mono up⟩
              · rintro acc H' ⟨F', H0, eF, so', hn, rfl, rr, a2⟩ hl
                have hl' : (pairs (signs w) ys).length ≤ acc.length := by
                  have e0 : (signs w).length = w.cps.size := by simp [signs]
                  rw [pairs_length, e0, q2.length]
                  omega
                rw [List.take_of_length_le hl'] at rr
                exact fin_newL (W := W) (Z := Z) (σ := σ) so' (fun A2 F2 H2 x pA e => q A2 F2 H2 x pA (eF.trans e)) rr hn
            · cases e1
          · cases e1
        · cases e1
      · exact q.elim
    · exact q.elim) (tN h)
end
end ZZ
set_option Elab.async false
set_option linter.all false
set_option maxRecDepth 100000
namespace ZZ
open PySem PySem.Spec L2
def st (l : List Nat) : Str := ⟨l.toArray⟩
theorem st_len (l : List Nat) : (st l).length = l.length := by simp [st, Str.length]
theorem st_app (a b : List Nat) : st a ++ st b = st (a ++ b) := by
  show Str.append (st a) (st b) = _
  simp [st, Str.append]
theorem st_inj {a b : List Nat} (h : st a = st b) : a = b := by
  have := congrArg (fun s : Str => s.cps.toList) h
  simpa [st] using this
theorem st_signs (l : List Nat) : ZZ.signs (st l) = l.map fun c => .str (st [c]) := by simp [ZZ.signs, st]
open PySem.StrLaws Builtin.Str in
theorem occ_cnt (l : List Nat) (c : Nat) : ∀ (n i : Nat) (acc : Array Nat) (free : Nat), i + n = l.length + 1 → free ≤ i → acc.size ≤ i →
    (forIn (List.range' i n) (acc, free) (occBody (st l) ⟨#[c]⟩ (st l).length ((st l).length + 1))).run.fst.size = acc.size + (l.drop i).count c
  | 0, i, acc, free, h1, h2, h3 => by
    rw [List.drop_eq_nil_of_le (by omega)]
    simp
  | n + 1, i, acc, free, h1, h2, h3 => by
    rw [List.range'_succ, List.forIn_cons]
    unfold occBody
    have key : (i + (⟨#[c]⟩ : Str).length ≤ (st l).length ∧ subAt (st l) ⟨#[c]⟩ i = true) ↔ l[i]? = some c := by
      have := subAt_one (st l) c i
      simpa [st] using this
    by_cases hc : l[i]? = some c
    · have hk := key.mpr hc
      have hi : i < l.length := (List.getElem?_eq_some_iff.mp hc).1
      rw [if_pos ⟨⟨⟨by rw [st_len]; simp only; omega, h2⟩, hk.1⟩, hk.2⟩]
      have e : l.drop i = c :: l.drop (i + 1) := by
        rw [List.drop_eq_getElem_cons hi]
        congr 1
        exact (List.getElem?_eq_some_iff.mp hc).2
      have ih := occ_cnt l c n (i + 1) (acc.push i) (i + (⟨#[c]⟩ : Str).length) (by omega) (by show i + 1 ≤ i + 1; omega) (by simp; omega)
      rw [e, List.count_cons_self]
      show (forIn (List.range' (i + 1) n) (acc.push i, i + (⟨#[c]⟩ : Str).length) (occBody (st l) ⟨#[c]⟩ (st l).length ((st l).length + 1))).run.fst.size = _
      rw [ih]
      simp
      omega
    · rw [if_neg fun h => hc (key.mp ⟨h.1.2, h.2⟩)]
      have ih := occ_cnt l c n (i + 1) acc free (by omega) (by omega) (by omega)
      show (forIn (List.range' (i + 1) n) (acc, free) (occBody (st l) ⟨#[c]⟩ (st l).length ((st l).length + 1))).run.fst.size = _
      rw [ih]
      by_cases hi : i < l.length
      · rw [List.drop_eq_getElem_cons hi, List.count_cons_of_ne]
        intro h
        exact hc (by rw [List.getElem?_eq_getElem hi, h])
      · rw [List.drop_eq_nil_of_le (by omega), List.drop_eq_nil_of_le (by omega)]
theorem st_count (l : List Nat) (c : Nat) : Txt.count (st l) (st [c]) = (l.count c : Nat) := by
  unfold Txt.count
  have e : st [c] = ⟨#[c]⟩ := rfl
  rw [e, StrLaws.occ_eq]
  have := occ_cnt l c (l.length + 1) 0 #[] 0 (by omega) (by omega) (by simp)
  rw [st_len] at this ⊢
  simp only [Nat.sub_zero]
  rw [Array.length_toList, this]
  simp
theorem foldl_app (c : Nat) : ∀ (n : Nat) (a : Array Nat), (List.replicate n #[c]).foldl (· ++ ·) a = a ++ (List.replicate n c).toArray
  | 0, a => by simp
  | n + 1, a => by
    rw [List.replicate_succ, List.foldl_cons, foldl_app c n, List.replicate_succ]
    apply Array.ext'
    simp
theorem st_mul (c : Nat) (n : Int) : Txt.mul (st [c]) n = st (List.replicate n.toNat c) := by
  unfold Txt.mul
  split
  · have : n.toNat = 0 := by omega
    rw [this]
    rfl
  · split
    · rename_i h1 h2
      simp [st_len] at h2
      rw [h2]
      rfl
    · have e : (st [c]).cps = #[c] := rfl
      rw [e, foldl_app]
      simp [st]
theorem eq_int {i j : Int} {neg : Bool} {sl : Sl} {ce : List Cell} : kEqG neg (.im (.int i)) (.im (.int j)) sl ce = .ok (.im (.bl (if neg then !decide (i = j) else decide (i = j)))) ce := by
  unfold kEqG
  simp only [asIm, pyEq, toPy]
  rw [if_pos ⟨rfl, rfl⟩]
  simp only [PyData.eqv]
  have : (i == j) = decide (i = j) := by rw [Bool.eq_iff_iff]; simp
  rw [this]
theorem shaped_str {s : Str} (h : PyData.strOk s = true) : SeqAt.shaped (.str s) = true := by
  unfold SeqAt.shaped
  rw [Bool.and_eq_true]
  exact ⟨h, rfl⟩
theorem eq_str {a b : Str} {neg : Bool} {sl : Sl} {ce : List Cell} (ha : PyData.strOk a = true) (hb : PyData.strOk b = true) : kEqG neg (.im (.str a)) (.im (.str b)) sl ce = .ok (.im (.bl (if neg then !decide (a = b) else decide (a = b)))) ce := by
  unfold kEqG
  simp only [asIm, pyEq, toPy]
  rw [if_pos ⟨shaped_str ha, shaped_str hb⟩]
  simp only [PyData.eqv]
  have : (a == b) = decide (a = b) := by rw [Bool.eq_iff_iff]; simp
  rw [this]
theorem ce_get (ce l : List Cell) (k : Nat) : (ce ++ l)[ce.length + k]? = l[k]? := by
  rw [List.getElem?_append_right (by omega)]
  congr 1
  omega
theorem ce_get0 (ce l : List Cell) : (ce ++ l)[ce.length]? = l[0]? := ce_get ce l 0
theorem ce_set (ce l : List Cell) (k : Nat) (c : Cell) : (ce ++ l).set (ce.length + k) c = ce ++ l.set k c := by
  rw [List.set_append_right _ _ (by omega)]
  congr 2
  omega
theorem ce_set0 (ce l : List Cell) (c : Cell) : (ce ++ l).set ce.length c = ce ++ l.set 0 c := ce_set ce l 0 c
theorem ce_take (ce l : List Cell) : (ce ++ l).take ce.length = ce := by simp
end ZZ
set_option Elab.async false
set_option linter.all false
set_option maxRecDepth 100000
namespace ZZ
open PySem PySem.Spec L2
inductive Sg where
  | l | e | g
  deriving DecidableEq
def Sg.code : Sg → Nat
  | .l => 60 | .e => 61 | .g => 62
def txt (s : List Sg) : Str := st (s.map Sg.code)
theorem code_inj {a b : Sg} (h : a.code = b.code) : a = b := by cases a <;> cases b <;> first | rfl | cases h
theorem map_code_inj : ∀ {a b : List Sg}, a.map Sg.code = b.map Sg.code → a = b
  | [], [], _ => rfl
  | [], _ :: _, h => by simp at h
  | _ :: _, [], h => by simp at h
  | x :: a, y :: b, h => by
    simp only [List.map_cons, List.cons.injEq] at h
    rw [code_inj h.1, map_code_inj h.2]
theorem txt_inj {a b : List Sg} (h : txt a = txt b) : a = b := map_code_inj (st_inj h)
theorem txt_eq {a b : List Sg} : (txt a = txt b) ↔ a = b := ⟨txt_inj, fun h => by rw [h]⟩
theorem txt_ok (s : List Sg) : PyData.strOk (txt s) = true := by
  unfold PyData.strOk txt st
  rw [← Array.all_toList]
  simp only [List.all_map, List.all_eq_true]
  intro x _
  cases x <;> decide
theorem txt_len (s : List Sg) : (txt s).length = s.length := by rw [txt, st_len, List.length_map]
theorem txt_app (a b : List Sg) : txt a ++ txt b = txt (a ++ b) := by rw [txt, txt, st_app, txt, List.map_append]
theorem txt_nil : txt [] = ("" : Str) := by decide +kernel
theorem txt_l : txt [.l] = ("<" : Str) := by decide +kernel
theorem txt_e : txt [.e] = ("=" : Str) := by decide +kernel
theorem txt_g : txt [.g] = (">" : Str) := by decide +kernel
theorem txt_signs (s : List Sg) : ZZ.signs (txt s) = s.map fun c => .str (txt [c]) := by rw [txt, st_signs, List.map_map]; rfl
theorem txt_count (s : List Sg) (c : Sg) : Txt.count (txt s) (txt [c]) = (s.count c : Nat) := by
  rw [txt, txt, List.map_cons, List.map_nil, st_count]
  congr 1
  induction s with
  | nil => rfl
  | cons a s ih =>
    rw [List.map_cons, List.count_cons, List.count_cons, ih]
    congr 1
    by_cases h : a = c
    · rw [h]; simp
    · have : ¬ a.code = c.code := fun z => h (code_inj z)
      simp [h, this]
def lefts (s : List Sg) : Nat := s.length - s.count .g
def rights (s : List Sg) : Nat := s.length - s.count .l
theorem cnt_le (s : List Sg) (c : Sg) : s.count c ≤ s.length := List.count_le_length
theorem lefts_cons (c : Sg) (s : List Sg) : lefts (c :: s) = lefts s + (if c = .g then 0 else 1) := by
  have := cnt_le s .g
  unfold lefts
  rw [List.count_cons, List.length_cons]
  cases c <;> simp <;> omega
theorem rights_cons (c : Sg) (s : List Sg) : rights (c :: s) = rights s + (if c = .l then 0 else 1) := by
  have := cnt_le s .l
  unfold rights
  rw [List.count_cons, List.length_cons]
  cases c <;> simp <;> omega
theorem lefts_app (a b : List Sg) : lefts (a ++ b) = lefts a + lefts b := by
  have h1 := cnt_le a .g
  have h2 := cnt_le b .g
  unfold lefts
  rw [List.count_append, List.length_append]
  omega
theorem rights_app (a b : List Sg) : rights (a ++ b) = rights a + rights b := by
  have h1 := cnt_le a .l
  have h2 := cnt_le b .l
  unfold rights
  rw [List.count_append, List.length_append]
  omega
theorem len_le (s : List Sg) : s.length ≤ lefts s + rights s := by
  induction s with
  | nil => simp
  | cons c s ih =>
    rw [lefts_cons, rights_cons, List.length_cons]
    cases c <;> simp <;> omega
def hts : Nat → List Sg → List (Nat × Nat)
  | _, [] => []
  | r, .l :: s => (r, r) :: hts r s
  | r, .e :: s => (r, r + 1) :: hts (r + 1) s
  | r, .g :: s => hts (r + 1) s
def fh : Nat → List (Nat × Nat) → Nat → List Sg
  | r, [], R => List.replicate (R - r) .g
  | r, (a, b) :: ps, R => List.replicate (a - r) .g ++ (if a = b then Sg.l else Sg.e) :: fh b ps R
def Okh : Nat → List (Nat × Nat) → Nat → Prop
  | r, [], R => r ≤ R
  | r, (a, b) :: ps, R => r ≤ a ∧ a ≤ b ∧ b ≤ a + 1 ∧ Okh b ps R
theorem hts_len : ∀ (r : Nat) (s : List Sg), (hts r s).length = lefts s
  | _, [] => rfl
  | r, .l :: s => by rw [hts, List.length_cons, hts_len, lefts_cons]; rfl
  | r, .e :: s => by rw [hts, List.length_cons, hts_len, lefts_cons]; rfl
  | r, .g :: s => by rw [hts, hts_len, lefts_cons]; rfl
theorem okh_mono : ∀ {r r' : Nat} {ps : List (Nat × Nat)} {R : Nat}, r' ≤ r → Okh r ps R → Okh r' ps R
  | r, r', [], R, h, k => Nat.le_trans h k
  | r, r', (a, b) :: ps, R, h, k => ⟨Nat.le_trans h k.1, k.2⟩
theorem hts_ok : ∀ (r : Nat) (s : List Sg), Okh r (hts r s) (r + rights s)
  | r, [] => Nat.le_add_right _ _
  | r, .l :: s => ⟨Nat.le_refl _, Nat.le_refl _, Nat.le_succ _, by rw [rights_cons]; exact hts_ok r s⟩
  | r, .e :: s => ⟨Nat.le_refl _, Nat.le_succ _, Nat.le_refl _, by
      have := hts_ok (r + 1) s
      have e : r + rights (.e :: s) = r + 1 + rights s := by rw [rights_cons]; simp; omega
      rw [e]
      exact this⟩
  | r, .g :: s => by
    rw [rights_cons]
    have := hts_ok (r + 1) s
    rw [show r + 1 + rights s = r + (rights s + 1) by omega] at this
    exact okh_mono (Nat.le_succ _) this
theorem fh_g {r : Nat} {ps : List (Nat × Nat)} {R : Nat} (h : Okh (r + 1) ps R) : fh r ps R = .g :: fh (r + 1) ps R := by
  cases ps with
  | nil =>
    have : r + 1 ≤ R := h
    rw [fh, fh, show R - r = (R - (r + 1)) + 1 by omega, List.replicate_succ]
  | cons p ps =>
    obtain ⟨a, b⟩ := p
    have : r + 1 ≤ a := h.1
    rw [fh, fh, show a - r = (a - (r + 1)) + 1 by omega, List.replicate_succ]
    rfl
theorem fh_hts : ∀ (r : Nat) (s : List Sg), fh r (hts r s) (r + rights s) = s
  | r, [] => by simp [hts, fh, rights]
  | r, .l :: s => by
    rw [hts, fh, rights_cons]
    simp [fh_hts r s]
  | r, .e :: s => by
    rw [hts, fh, rights_cons]
    have := fh_hts (r + 1) s
    rw [show r + 1 + rights s = r + (rights s + 1) by omega] at this
    simp [this]
  | r, .g :: s => by
    have h := hts_ok (r + 1) s
    have := fh_hts (r + 1) s
    rw [hts, rights_cons]
    rw [show r + 1 + rights s = r + (rights s + 1) by omega] at h this
    show fh r (hts (r + 1) s) (r + (rights s + 1)) = _
    rw [fh_g h, this]
theorem hts_rep : ∀ (n r : Nat) (s : List Sg), hts r (List.replicate n .g ++ s) = hts (r + n) s
  | 0, r, s => by simp
  | n + 1, r, s => by
    rw [List.replicate_succ, List.cons_append, hts, hts_rep n (r + 1) s]
    congr 1
    omega
theorem hts_fh : ∀ {r : Nat} {ps : List (Nat × Nat)} {R : Nat}, Okh r ps R → hts r (fh r ps R) = ps
  | r, [], R, h => by
    have := hts_rep (R - r) r []
    rw [List.append_nil] at this
    rw [fh, this]
    rfl
  | r, (a, b) :: ps, R, ⟨h1, h2, h3, h4⟩ => by
    rw [fh, hts_rep]
    have ih := hts_fh h4
    rw [show r + (a - r) = a by omega]
    by_cases hab : a = b
    · subst hab
      simp only [if_true, hts, ih]
    · have : b = a + 1 := by omega
      subst this
      simp only [if_neg hab, hts, ih]
theorem rights_fh : ∀ {r : Nat} {ps : List (Nat × Nat)} {R : Nat}, Okh r ps R → r + rights (fh r ps R) = R
  | r, [], R, h => by
    have : r ≤ R := h
    rw [fh]
    simp [rights, List.count_replicate]
    omega
  | r, (a, b) :: ps, R, ⟨h1, h2, h3, h4⟩ => by
    have ih := rights_fh h4
    rw [fh, rights_app, rights_cons]
    have : rights (List.replicate (a - r) Sg.g) = a - r := by simp [rights, List.count_replicate]
    rw [this]
    by_cases hab : a = b
    · subst hab
      simp
      omega
    · simp [hab]
      omega
theorem lefts_fh {r : Nat} {ps : List (Nat × Nat)} {R : Nat} (h : Okh r ps R) : lefts (fh r ps R) = ps.length := by
  rw [← hts_len r, hts_fh h]
def mxp (p q : Nat × Nat) : Nat × Nat := (max p.1 q.1, max p.2 q.2)
def H (s : List Sg) : List (Nat × Nat) := hts 0 s
def join (s t : List Sg) : List Sg := fh 0 (List.zipWith mxp (H s) (H t)) (rights s)
theorem ok_mx : ∀ {r r' : Nat} {ps qs : List (Nat × Nat)} {R : Nat}, Okh r ps R → Okh r' qs R → ps.length = qs.length → Okh (max r r') (List.zipWith mxp ps qs) R
  | r, r', [], [], R, h, h', _ => by have : r ≤ R := h; have : r' ≤ R := h'; show max r r' ≤ R; omega
  | r, r', (a, b) :: ps, (c, d) :: qs, R, ⟨h1, h2, h3, h4⟩, ⟨k1, k2, k3, k4⟩, hl => by
    refine ⟨?_, ?_, ?_, ok_mx h4 k4 (by simpa using hl)⟩ <;> simp only [mxp] <;> omega
  | _, _, [], _ :: _, _, _, _, hl => by simp at hl
  | _, _, _ :: _, [], _, _, _, hl => by simp at hl
/-- of the shape L, R -/
def In (L R : Nat) (s : List Sg) : Prop := lefts s = L ∧ rights s = R
section
variable {L R : Nat} {a b c : List Sg}
theorem In.ok (h : In L R a) : Okh 0 (H a) R := by
  have := hts_ok 0 a
  rwa [h.2, Nat.zero_add] at this
theorem In.len (h : In L R a) : (H a).length = L := by rw [H, hts_len, h.1]
theorem In.inj (ha : In L R a) (hb : In L R b) (h : H a = H b) : a = b := by
  have h1 := fh_hts 0 a
  have h2 := fh_hts 0 b
  unfold H at h
  rw [← h1, ← h2, h, ha.2, hb.2]
theorem join_H (ha : In L R a) (hb : In L R b) : H (join a b) = List.zipWith mxp (H a) (H b) ∧ In L R (join a b) := by
  have ok : Okh 0 _ R := ok_mx ha.ok hb.ok (by rw [ha.len, hb.len])
  refine ⟨?_, ?_, ?_⟩
  · unfold join
    rw [ha.2]
    exact hts_fh ok
  · unfold join
    rw [ha.2, lefts_fh ok, List.length_zipWith, ha.len, hb.len, Nat.min_self]
  · unfold join
    rw [ha.2]
    have := rights_fh ok
    simpa using this
theorem In.join (ha : In L R a) (hb : In L R b) : In L R (join a b) := (join_H ha hb).2
end
end ZZ
set_option Elab.async false
set_option linter.all false
set_option maxRecDepth 100000
namespace ZZ
open PySem PySem.Spec L2
mutual
/-- strings in order, no instance, at most n deep -/
def okD : Nat → D → Bool
  | _, .non => true
  | _, .bl _ => true
  | _, .int _ => true
  | _, .str s => PyData.strOk s
  | 0, .tup _ => false
  | 0, .lst _ => false
  | 0, .wl _ => false
  | n + 1, .tup ds => okDs n ds
  | n + 1, .lst ds => okDs n ds
  | n + 1, .wl ds => okDs n ds
  | _, .ins _ _ => false
  | _, .dct _ _ => false
def okDs : Nat → List D → Bool
  | _, [] => true
  | n, d :: ds => okD n d && okDs n ds
end
mutual
/-- == on values without instances -/
def eqD : D → D → Bool
  | .non, .non => true
  | .bl a, .bl b => a == b
  | .bl a, .int j => (if a then 1 else 0) == j
  | .int i, .bl b => i == (if b then 1 else 0)
  | .int i, .int j => i == j
  | .str x, .str y => x == y
  | .lst xs, .lst ys => eqDs xs ys
  | .lst xs, .wl ys => eqDs xs ys
  | .wl xs, .lst ys => eqDs xs ys
  | .wl xs, .wl ys => eqDs xs ys
  | .tup xs, .tup ys => eqDs xs ys
  | _, _ => false
def eqDs : List D → List D → Bool
  | [], [] => true
  | x :: xs, y :: ys => eqD x y && eqDs xs ys
  | _, _ => false
end
mutual
theorem okD_py : ∀ (n : Nat) (d : D), okD n d = true → ∃ p, toPy d = some p ∧ p.canLay0 = true ∧ p.depth ≤ n + 1
  | _, .non, _ => ⟨.none, rfl, rfl, by simp [PyData.depth]⟩
  | _, .bl b, _ => ⟨.bool b, rfl, rfl, by simp [PyData.depth]⟩
  | _, .int b, _ => ⟨.int b, rfl, rfl, by simp [PyData.depth]⟩
  | _, .str b, h => ⟨.str b, rfl, by rw [PyData.canLay0]; simpa [okD] using h, by simp [PyData.depth]⟩
  | 0, .tup _, h => by simp [okD] at h
  | 0, .lst _, h => by simp [okD] at h
  | 0, .wl _, h => by simp [okD] at h
  | n + 1, .tup ds, h => by
    obtain ⟨ps, h1, h2, h3⟩ := okDs_py n ds (by simpa [okD] using h)
    exact ⟨.tuple ps, by rw [toPy, h1]; rfl, by rw [PyData.canLay0]; exact h2, by rw [PyData.depth]; omega⟩
  | n + 1, .lst ds, h => by
    obtain ⟨ps, h1, h2, h3⟩ := okDs_py n ds (by simpa [okD] using h)
    exact ⟨.list ps, by rw [toPy, h1]; rfl, by rw [PyData.canLay0]; exact h2, by rw [PyData.depth]; omega⟩
  | n + 1, .wl ds, h => by
    obtain ⟨ps, h1, h2, h3⟩ := okDs_py n ds (by simpa [okD] using h)
    exact ⟨.list ps, by rw [toPy, h1]; rfl, by rw [PyData.canLay0]; exact h2, by rw [PyData.depth]; omega⟩
  | 0, .ins _ _, h => by simp [okD] at h
  | _ + 1, .ins _ _, h => by simp [okD] at h
  | 0, .dct _ _, h => by simp [okD] at h
  | _ + 1, .dct _ _, h => by simp [okD] at h
theorem okDs_py : ∀ (n : Nat) (ds : List D), okDs n ds = true → ∃ ps, toPys ds = some ps ∧ PyData.canLayAll0 ps = true ∧ PyData.depthAll ps ≤ n + 1
  | _, [], _ => ⟨[], rfl, rfl, by simp [PyData.depthAll]⟩
  | n, d :: ds, h => by
    have h' : okD n d = true ∧ okDs n ds = true := by simpa [okDs] using h
    obtain ⟨p, a1, a2, a3⟩ := okD_py n d h'.1
    obtain ⟨ps, b1, b2, b3⟩ := okDs_py n ds h'.2
    refine ⟨p :: ps, by rw [toPys, a1, b1], by rw [PyData.canLayAll0, a2, b2]; rfl, by rw [PyData.depthAll]; omega⟩
end
mutual
theorem eqv_eqD : ∀ (d e : D) (p q : PyData), toPy d = some p → toPy e = some q → PyData.eqv p q = eqD d e
  | .non, e, p, q, hp, hq => by
    cases hp
    cases e <;> simp only [toPy, Option.map_eq_some_iff, Option.some.injEq, reduceCtorEq] at hq <;> first | (cases hq; rfl) | (obtain ⟨_, _, rfl⟩ := hq; rfl) | (subst hq; rfl)
  | .bl b, e, p, q, hp, hq => by
    cases hp
    cases e <;> simp only [toPy, Option.map_eq_some_iff, Option.some.injEq, reduceCtorEq] at hq <;> first | (cases hq; rfl) | (obtain ⟨_, _, rfl⟩ := hq; rfl) | (subst hq; rfl)
  | .int b, e, p, q, hp, hq => by
    cases hp
    cases e <;> simp only [toPy, Option.map_eq_some_iff, Option.some.injEq, reduceCtorEq] at hq <;> first | (cases hq; rfl) | (obtain ⟨_, _, rfl⟩ := hq; rfl) | (subst hq; rfl)
  | .str b, e, p, q, hp, hq => by
    cases hp
    cases e <;> simp only [toPy, Option.map_eq_some_iff, Option.some.injEq, reduceCtorEq] at hq <;> first | (cases hq; rfl) | (obtain ⟨_, _, rfl⟩ := hq; rfl) | (subst hq; rfl)
  | .ins _ _, e, p, q, hp, hq => by simp [toPy] at hp
  | .tup xs, e, p, q, hp, hq => by
    simp only [toPy, Option.map_eq_some_iff] at hp
    obtain ⟨ps, hps, rfl⟩ := hp
    cases e <;> simp only [toPy, Option.map_eq_some_iff, Option.some.injEq, reduceCtorEq] at hq
    case tup ys =>
      obtain ⟨qs, hqs, rfl⟩ := hq
      rw [PyData.eqv, eqD]
      exact eqvs_eqDs xs ys ps qs hps hqs
    all_goals first | (cases hq; rfl) | (obtain ⟨_, _, rfl⟩ := hq; rfl) | (subst hq; rfl)
  | .lst xs, e, p, q, hp, hq => by
    simp only [toPy, Option.map_eq_some_iff] at hp
    obtain ⟨ps, hps, rfl⟩ := hp
    cases e <;> simp only [toPy, Option.map_eq_some_iff, Option.some.injEq, reduceCtorEq] at hq
    case lst ys =>
      obtain ⟨qs, hqs, rfl⟩ := hq
      rw [PyData.eqv, eqD]
      exact eqvs_eqDs xs ys ps qs hps hqs
    case wl ys =>
      obtain ⟨qs, hqs, rfl⟩ := hq
      rw [PyData.eqv, eqD]
      exact eqvs_eqDs xs ys ps qs hps hqs
    all_goals first | (cases hq; rfl) | (obtain ⟨_, _, rfl⟩ := hq; rfl) | (subst hq; rfl)
  | .wl xs, e, p, q, hp, hq => by
    simp only [toPy, Option.map_eq_some_iff] at hp
    obtain ⟨ps, hps, rfl⟩ := hp
    cases e <;> simp only [toPy, Option.map_eq_some_iff, Option.some.injEq, reduceCtorEq] at hq
    case lst ys =>
      obtain ⟨qs, hqs, rfl⟩ := hq
      rw [PyData.eqv, eqD]
      exact eqvs_eqDs xs ys ps qs hps hqs
    case wl ys =>
      obtain ⟨qs, hqs, rfl⟩ := hq
      rw [PyData.eqv, eqD]
      exact eqvs_eqDs xs ys ps qs hps hqs
    all_goals first | (cases hq; rfl) | (obtain ⟨_, _, rfl⟩ := hq; rfl) | (subst hq; rfl)
theorem eqvs_eqDs : ∀ (ds es : List D) (ps qs : List PyData), toPys ds = some ps → toPys es = some qs → PyData.eqvAll ps qs = eqDs ds es
  | [], [], ps, qs, hp, hq => by cases hp; cases hq; rfl
  | [], e :: es, ps, qs, hp, hq => by
    cases hp
    rw [toPys] at hq
    split at hq
    · cases hq; rfl
    · cases hq
  | d :: ds, [], ps, qs, hp, hq => by
    cases hq
    rw [toPys] at hp
    split at hp
    · cases hp; rfl
    · cases hp
  | d :: ds, e :: es, ps, qs, hp, hq => by
    rw [toPys] at hp hq
    split at hp
    · rename_i p ps' h1 h2
      cases hp
      split at hq
      · rename_i q qs' h3 h4
        cases hq
        rw [PyData.eqvAll, eqDs, eqv_eqD d e p q h1 h3, eqvs_eqDs ds es ps' qs' h2 h4]
      · cases hq
    · cases hp
end
theorem pyEq_ok {d e : D} (hd : okD 60 d = true) (he : okD 60 e = true) : pyEq d e = some (eqD d e) := by
  obtain ⟨p, a1, a2, a3⟩ := okD_py 60 d hd
  obtain ⟨q, b1, b2, b3⟩ := okD_py 60 e he
  unfold pyEq
  simp only [a1, b1]
  have sh : ∀ r : PyData, r.canLay0 = true → r.depth ≤ 60 + 1 → SeqAt.shaped r = true := fun r h1 h2 => by
    unfold SeqAt.shaped
    rw [Bool.and_eq_true]
    exact ⟨h1, by rw [decide_eq_true_eq]; omega⟩
  rw [if_pos ⟨sh p a2 a3, sh q b2 b3⟩, eqv_eqD d e p q a1 b1]
theorem eq_gd {d e : D} {neg : Bool} {sl : Sl} {ce : List Cell} (hd : okD 60 d = true) (he : okD 60 e = true) : kEqG neg (.im d) (.im e) sl ce = .ok (.im (.bl (if neg then !eqD d e else eqD d e))) ce := by
  unfold kEqG
  simp only [asIm, pyEq_ok hd he]
mutual
theorem eqD_refl : ∀ (d : D) (n : Nat), okD n d = true → eqD d d = true
  | .non, _, _ => rfl
  | .bl b, _, _ => by simp [eqD]
  | .int b, _, _ => by simp [eqD]
  | .str b, _, _ => by simp [eqD]
  | .tup ds, 0, h => by simp [okD] at h
  | .lst ds, 0, h => by simp [okD] at h
  | .wl ds, 0, h => by simp [okD] at h
  | .tup ds, n + 1, h => by rw [eqD]; exact eqDs_refl ds n (by simpa [okD] using h)
  | .lst ds, n + 1, h => by rw [eqD]; exact eqDs_refl ds n (by simpa [okD] using h)
  | .wl ds, n + 1, h => by rw [eqD]; exact eqDs_refl ds n (by simpa [okD] using h)
  | .ins _ _, 0, h => by simp [okD] at h
  | .ins _ _, n + 1, h => by simp [okD] at h
  | .dct _ _, 0, h => by simp [okD] at h
  | .dct _ _, n + 1, h => by simp [okD] at h
theorem eqDs_refl : ∀ (ds : List D) (n : Nat), okDs n ds = true → eqDs ds ds = true
  | [], _, _ => rfl
  | d :: ds, n, h => by
    have h' : okD n d = true ∧ okDs n ds = true := by simpa [okDs] using h
    rw [eqDs, eqD_refl d n h'.1, eqDs_refl ds n h'.2]
    rfl
end
theorem okDs_all {n : Nat} : ∀ {ds : List D}, (∀ d ∈ ds, okD n d = true) → okDs n ds = true
  | [], _ => by simp [okDs]
  | x :: xs, h => by rw [okDs, h x (List.mem_cons_self ..), okDs_all fun d hd => h d (List.mem_cons_of_mem _ hd)]; rfl
theorem rng1 (n : Nat) (h : n < 2 ^ 60) : kRng1 [.im (.int (n : Int))] = some ((List.range n).map fun (i : Nat) => D.int (i : Int)) := by
  have hz : isz (n : Int) = true := isz_of (by omega)
  unfold kRng1
  simp only [hz, if_true, Int.toNat_natCast]
  unfold rangeD
  refine congrArg some (List.map_congr_left fun i _ => ?_)
  rw [Int.zero_add, Int.mul_one]
theorem atI_nat {α : Type} (l : List α) (k : Nat) (v : α) (h : l[k]? = some v) : atI l (k : Int) = some v := by
  have hlt := (List.getElem?_eq_some_iff.mp h).1
  unfold atI ixN
  rw [if_pos (by omega), if_pos (by omega), Int.toNat_natCast, Option.bind_some, h]
theorem ix_lst {l : List D} {k : Nat} {v : D} (h : l[k]? = some v) {sl : Sl} {ce : List Cell} : kIx (.im (.lst l)) (.im (.int k)) sl ce = .ok (.im v) ce := by
  unfold kIx
  simp only [asSq, atI_nat l k v h]
theorem ix_cell {n : Nat} {l : List D} {k : Nat} {v : D} {ce : List Cell} (hc : ce[n]? = some (.lst l)) (h : l[k]? = some v) {sl : Sl} : kIx (.cell n) (.im (.int k)) sl ce = .ok (.im v) ce := by
  unfold kIx
  simp only [asSq, hc, atI_nat l k v h]
theorem set_same {ce : List Cell} {k : Nat} {c : Cell} (h : ce[k]? = some c) : ce.set k c = ce := by
  refine List.ext_getElem? fun j => ?_
  by_cases hj : k = j
  · subst hj
    rw [List.getElem?_set_self (List.getElem?_eq_some_iff.mp h).1, h]
  · rw [List.getElem?_set_ne hj]
theorem set_take {ce : List Cell} {k : Nat} {c : Cell} : (ce.set k c).take ce.length = ce.set k c := List.take_of_length_le (by simp)
theorem app_at {ce : List Cell} {n : Nat} {acc : List D} {d : D} {sl : Sl} (hc : ce[n]? = some (.lst acc)) (h : acc.length < LINE) : kAppend (.cell n) [.im d] sl ce = .ok (.im .non) (ce.set n (.lst (acc ++ [d]))) := by
  unfold kAppend
  simp only [hc, h, if_true]
/-- a comprehension whose items change nothing -/
theorem lcD_map {β : Type} {own : List Nat} {g : GD} {t f : DE} {sl : Sl} (ce : List Cell) (F φ : β → D) (p : β → Bool) : ∀ (bs : List β) (acc : List D), acc.length + bs.length < 16777216 →
    (∀ b ∈ bs, ∀ acc : List D, ∃ sl1, g (F b) (wipeD sl own) = some sl1 ∧ t sl1 (ce ++ [.lst acc]) = .ok (.im (.bl (p b))) (ce ++ [.lst acc]) ∧ (p b = true → f sl1 (ce ++ [.lst acc]) = .ok (.im (φ b)) (ce ++ [.lst acc]))) →
    lcD own g t f ce.length (bs.map F) sl (ce ++ [.lst acc]) = .ok (.cell ce.length) (ce ++ [.lst (acc ++ (bs.filter p).map φ)])
  | [], acc, hl, h => by rw [List.map_nil, lcD]; simp
  | d :: ds, acc, hl, h => by
    rw [List.length_cons] at hl
    obtain ⟨sl1, h1, h2, h3⟩ := h d (List.mem_cons_self ..) acc
    rw [List.map_cons, lcD]
    simp only [h1, h2]
    cases hp : p d with
    | true =>
      have ih := lcD_map ce F φ p ds (acc ++ [φ d]) (by rw [List.length_append, List.length_singleton]; omega) fun d hd => h d (List.mem_cons_of_mem _ hd)
      rw [if_pos rfl]
      simp only [h3 hp, ce_get0, List.getElem?_cons_zero, ce_set0, List.set_cons_zero]
      rw [if_pos (by show acc.length < 16777216; omega), ih, List.filter_cons_of_pos hp, List.map_cons, List.append_assoc, List.singleton_append]
    | false =>
      have ih := lcD_map ce F φ p ds acc (by omega) fun d hd => h d (List.mem_cons_of_mem _ hd)
      rw [if_neg (by decide), ih, List.filter_cons_of_neg (by simp [hp])]
theorem lc_filter {β : Type} {own : List Nat} {fi : DI} {g : GD} {t f : DE} {sl : Sl} {ce : List Cell} (bs : List β) (F φ : β → D) (p : β → Bool) (hi : fi sl ce = .ok (bs.map F) ce) (hl : bs.length < 16777216)
    (h : ∀ b ∈ bs, ∀ acc : List D, ∃ sl1, g (F b) (wipeD sl own) = some sl1 ∧ t sl1 (ce ++ [.lst acc]) = .ok (.im (.bl (p b))) (ce ++ [.lst acc]) ∧ (p b = true → f sl1 (ce ++ [.lst acc]) = .ok (.im (φ b)) (ce ++ [.lst acc]))) :
    eSettle (eLcC own fi g t f) sl ce = .ok (.im (.lst ((bs.filter p).map φ))) ce := by
  unfold eSettle eLcC
  simp only [hi]
  rw [lcD_map ce F φ p bs [] (by rw [List.length_nil]; omega) h]
  simp only [ce_get0, List.getElem?_cons_zero, List.nil_append, ce_set0, ce_take]
theorem lc_map {β : Type} {own : List Nat} {fi : DI} {g : GD} {f : DE} {sl : Sl} {ce : List Cell} (bs : List β) (F φ : β → D) (hi : fi sl ce = .ok (bs.map F) ce) (hl : bs.length < 16777216)
    (h : ∀ b ∈ bs, ∀ acc : List D, ∃ sl1, g (F b) (wipeD sl own) = some sl1 ∧ f sl1 (ce ++ [.lst acc]) = .ok (.im (φ b)) (ce ++ [.lst acc])) :
    eSettle (eLcC own fi g (eC (.bl true)) f) sl ce = .ok (.im (.lst (bs.map φ))) ce := by
  have := lc_filter (own := own) (fi := fi) (g := g) (t := eC (.bl true)) (f := f) (sl := sl) (ce := ce) bs F φ (fun _ => true) hi hl (fun d hd acc => by
    obtain ⟨sl1, h1, h2⟩ := h d hd acc
    exact ⟨sl1, h1, rfl, fun _ => h2⟩)
  rw [this]
  congr 4
  simp
/-- a comprehension whose items draw from the store -/
theorem lcD_thread {own : List Nat} {g : GD} {f : DE} {sl : Sl} (I : List Cell → Prop) (R : D → D → Prop) (n : Nat) (hn : ∀ ce, I ce → ce.length = n) : ∀ (ds acc : List D) (ce : List Cell), acc.length + ds.length < 16777216 → I ce →
    (∀ d ∈ ds, ∀ (acc : List D) (ce : List Cell), I ce → ∃ sl1 ce2 y, g d (wipeD sl own) = some sl1 ∧ f sl1 (ce ++ [.lst acc]) = .ok (.im y) (ce2 ++ [.lst acc]) ∧ I ce2 ∧ R d y) →
    ∃ ys ce2, lcD own g (eC (.bl true)) f n ds sl (ce ++ [.lst acc]) = .ok (.cell n) (ce2 ++ [.lst (acc ++ ys)]) ∧ I ce2 ∧ ys.length = ds.length ∧ ∀ (i : Nat) (d y : D), ds[i]? = some d → ys[i]? = some y → R d y
  | [], acc, ce, hl, hI, h => ⟨[], ce, by rw [lcD]; simp, hI, rfl, fun i d y h1 _ => by simp at h1⟩
  | d :: ds, acc, ce, hl, hI, h => by
    rw [List.length_cons] at hl
    obtain ⟨sl1, ce1, y, h1, h2, h3, h4⟩ := h d (List.mem_cons_self ..) acc ce hI
    obtain ⟨ys, ce2, e, i2, l2, r2⟩ := lcD_thread I R n hn ds (acc ++ [y]) ce1 (by rw [List.length_append, List.length_singleton]; omega) h3 fun d hd => h d (List.mem_cons_of_mem _ hd)
    refine ⟨y :: ys, ce2, ?_, i2, by rw [List.length_cons, List.length_cons, l2], fun i d' y' q1 q2 => ?_⟩
    · rw [lcD]
      have hn1 := hn ce1 h3
      subst hn1
      simp only [h1, eC, if_true, h2, ce_get0, List.getElem?_cons_zero, ce_set0, List.set_cons_zero]
      rw [if_pos (by show acc.length < 16777216; omega), e, List.append_assoc, List.singleton_append]
    · cases i with
      | zero =>
        simp only [List.getElem?_cons_zero, Option.some.injEq] at q1 q2
        subst q1 q2
        exact h4
      | succ i =>
        simp only [List.getElem?_cons_succ] at q1 q2
        exact r2 i d' y' q1 q2
theorem lc_thread {own : List Nat} {fi : DI} {g : GD} {f : DE} {sl : Sl} {ce : List Cell} (ds : List D) (I : List Cell → Prop) (R : D → D → Prop) (hi : fi sl ce = .ok ds ce) (hl : ds.length < 16777216) (hI : I ce) (hn : ∀ ce', I ce' → ce'.length = ce.length)
    (h : ∀ d ∈ ds, ∀ (acc : List D) (ce : List Cell), I ce → ∃ sl1 ce2 y, g d (wipeD sl own) = some sl1 ∧ f sl1 (ce ++ [.lst acc]) = .ok (.im y) (ce2 ++ [.lst acc]) ∧ I ce2 ∧ R d y) :
    ∃ ys ce2, eSettle (eLcC own fi g (eC (.bl true)) f) sl ce = .ok (.im (.lst ys)) ce2 ∧ I ce2 ∧ ys.length = ds.length ∧ ∀ (i : Nat) (d y : D), ds[i]? = some d → ys[i]? = some y → R d y := by
  obtain ⟨ys, ce2, e, i2, l2, r2⟩ := lcD_thread (own := own) (g := g) (f := f) (sl := sl) I R ce.length hn ds [] ce (by rw [List.length_nil]; omega) hI h
  refine ⟨ys, ce2, ?_, i2, l2, r2⟩
  unfold eSettle eLcC
  simp only [hi, e]
  have hn2 := hn ce2 i2
  rw [← hn2]
  simp only [ce_get0, List.getElem?_cons_zero, List.nil_append, ce_set0, ce_take]
end ZZ
set_option Elab.async false
set_option linter.all false
set_option maxRecDepth 100000
set_option maxHeartbeats 4000000
namespace ZZ
open PySem PySem.Spec L2
theorem enum_ps (F : Sg → D) (s : List Sg) : ∃ ps : List (Int × Sg), ps.map Prod.snd = s ∧ enumD (s.map F) = ps.map fun p => D.tup [.int p.1, F p.2] := by
  have key : ∀ (s pre : List Sg), ∃ ps : List (Int × Sg), ps.map Prod.snd = s ∧ (List.range' pre.length s.length).filterMap (fun (i : Nat) => ((pre ++ s).map F)[i]?.map fun d => D.tup [.int (i : Int), d]) = ps.map fun p => D.tup [.int p.1, F p.2] := by
    intro s
    induction s with
    | nil => intro pre; exact ⟨[], rfl, rfl⟩
    | cons c s ih =>
      intro pre
      obtain ⟨ps, h1, h2⟩ := ih (pre ++ [c])
      refine ⟨((pre.length : Int), c) :: ps, by rw [List.map_cons, h1], ?_⟩
      rw [List.length_cons, List.range'_succ, List.filterMap_cons]
      have e : ((pre ++ c :: s).map F)[pre.length]? = some (F c) := by simp
      rw [e, Option.map_some]
      simp only
      rw [List.length_append, List.length_singleton, List.append_assoc, List.singleton_append] at h2
      rw [h2]
      rfl
  obtain ⟨ps, h1, h2⟩ := key s []
  refine ⟨ps, h1, ?_⟩
  unfold enumD
  rw [List.range_eq_range', List.length_map]
  exact h2
theorem sl1 : ("<" : Str) = txt [.l] := txt_l.symm
theorem sl2 : ("=" : Str) = txt [.e] := txt_e.symm
theorem sl3 : (">" : Str) = txt [.g] := txt_g.symm
theorem eq_txt {a b : List Sg} {neg : Bool} {sl : Sl} {ce : List Cell} : kEqG neg (.im (.str (txt a))) (.im (.str (txt b))) sl ce = .ok (.im (.bl (if neg then !decide (a = b) else decide (a = b)))) ce := by
  rw [eq_str (txt_ok a) (txt_ok b)]
  simp only [txt_eq]
theorem app_ok {ce : List Cell} {acc : List D} {d : D} {sl : Sl} (h : acc.length < LINE) : kAppend (.cell ce.length) [.im d] sl (ce ++ [.lst acc]) = .ok (.im .non) (ce ++ [.lst (acc ++ [d])]) := by
  unfold kAppend
  simp only [ce_get0, List.getElem?_cons_zero, h, if_true, ce_set0, List.set_cons_zero]
theorem kcount {s : List Sg} {c : Sg} {sl : Sl} {ce : List Cell} : kCount (.im (.str (txt s))) [.im (.str (txt [c]))] sl ce = .ok (.im (.int (s.count c : Nat))) ce := by
  unfold kCount
  simp only [txt_count]
section
variable {sl : Sl} {ce : List Cell}
theorem add_s (x y : List Sg) (h : x.length + y.length ≤ 16777216) : kAdd (.im (.str (txt x))) (.im (.str (txt y))) sl ce = .ok (.im (.str (txt (x ++ y)))) ce := by
  unfold kAdd
  simp only [txt_len, txt_app]
  rw [if_pos h]
end
end ZZ
namespace ZZ
open PySem PySem.Spec L2
theorem txt_cut (s : List Sg) (lo hi : Option Int) : L2.cutS (txt s) lo hi = txt ((s.drop (HT.sIx s.length 0 lo)).take (HT.sIx s.length s.length hi - HT.sIx s.length 0 lo)) := by
  unfold L2.cutS
  rw [txt_len]
  unfold txt st
  simp only [List.toList_toArray, List.map_take, List.map_drop]
theorem sl_to (s : List Sg) (k : Nat) (h : k ≤ s.length) (h2 : s.length ≤ 16777216) {sl : Sl} {ce : List Cell} : kSlL (.im (.str (txt s))) none (some (k : Int)) sl ce = .ok (.im (.str (txt (s.take k)))) ce := by
  unfold kSlL
  simp only [txt_len, h2, if_true, txt_cut, HT.sIx_nat, HT.sIx_none, List.drop_zero, Nat.sub_zero]
  rw [Nat.min_eq_left h]
theorem sl_from (s : List Sg) (k : Nat) (h : k ≤ s.length) (h2 : s.length ≤ 16777216) {sl : Sl} {ce : List Cell} : kSlL (.im (.str (txt s))) (some (k : Int)) none sl ce = .ok (.im (.str (txt (s.drop k)))) ce := by
  unfold kSlL
  simp only [txt_len, h2, if_true, txt_cut, HT.sIx_nat, HT.sIx_none]
  rw [Nat.min_eq_left h, List.take_of_length_le (by simp)]
theorem ix_txt (s : List Sg) (k : Nat) (c : Sg) (h : s[k]? = some c) (h2 : s.length ≤ 16777216) {sl : Sl} {ce : List Cell} : kIx (.im (.str (txt s))) (.im (.int (k : Int))) sl ce = .ok (.im (.str (txt [c]))) ce := by
  unfold kIx
  simp only [txt_len, h2, if_true]
  have e : (txt s).cps.toList = s.map Sg.code := by unfold txt st; simp
  have h3 : (s.map Sg.code)[k]? = some c.code := by rw [List.getElem?_map, h]; rfl
  rw [e, atI_nat _ _ _ h3]
  rfl
end ZZ
set_option Elab.async false
set_option linter.all false
set_option maxRecDepth 100000
set_option maxHeartbeats 4000000
namespace ZZ
open PySem PySem.Spec L2
def sh (k : Nat) (p : Nat × Nat) : Nat × Nat := (p.1 + k, p.2 + k)
end ZZ
set_option Elab.async false
set_option linter.all false
set_option maxRecDepth 100000
set_option maxHeartbeats 4000000
namespace ZZ
open PySem PySem.Spec L2
section
variable {sl : Sl} {ce : List Cell}
theorem ix_st (s : List Nat) (k c : Nat) (h : s[k]? = some c) (h2 : s.length ≤ 16777216) : kIx (.im (.str (st s))) (.im (.int (k : Int))) sl ce = .ok (.im (.str (st [c]))) ce := by
  unfold kIx
  simp only [st_len, h2, if_true]
  have e : (st s).cps.toList = s := by unfold st; simp
  rw [e, atI_nat _ _ _ h]
  rfl
theorem add_st (x y : List Nat) (h : x.length + y.length ≤ 16777216) : kAdd (.im (.str (st x))) (.im (.str (st y))) sl ce = .ok (.im (.str (st (x ++ y)))) ce := by
  unfold kAdd
  simp only [st_len, st_app]
  rw [if_pos h]
end
def enF : Nat → List D → List D
  | _, [] => []
  | k, d :: ds => .tup [.int (k : Nat), d] :: enF (k + 1) ds
theorem enF_eq (ds : List D) : enumD ds = enF 0 ds := by
  have key : ∀ (ds pre : List D), (List.range' pre.length ds.length).filterMap (fun (i : Nat) => (pre ++ ds)[i]?.map fun d => D.tup [.int (i : Int), d]) = enF pre.length ds := by
    intro ds
    induction ds with
    | nil => intro pre; rfl
    | cons d ds ih =>
      intro pre
      have h2 := ih (pre ++ [d])
      rw [List.length_cons, List.range'_succ, List.filterMap_cons]
      have e : (pre ++ d :: ds)[pre.length]? = some d := by simp
      rw [e, Option.map_some, enF]
      simp only
      rw [List.length_append, List.length_singleton, List.append_assoc, List.singleton_append] at h2
      rw [h2]
  have := key ds []
  rw [List.nil_append, List.length_nil] at this
  unfold enumD
  rw [List.range_eq_range']
  exact this
end ZZ
set_option Elab.async false
set_option linter.all false
set_option maxRecDepth 100000
set_option maxHeartbeats 4000000
namespace ZZ
open PySem PySem.Spec L2 L2H
noncomputable section
def flds : Nat → List Str
  | 1 => ["index"]
  | 2 => ["index"]
  | 3 => ["index"]
  | 4 => ["index"]
  | 5 => ["index"]
  | 8 => ["layers", "joints"]
  | 9 => ["steps", "rows"]
  | _ => []
abbrev Zz (w : World) (K : PySem.W.Frag) (cl : Nat → Addr) : Zx := ⟨K, cl, flds, w⟩
abbrev e_BadCore : Nat := 0
abbrev e_BadLayer : Nat := 1
abbrev e_BadJoint : Nat := 2
abbrev e_BadRecord : Nat := 3
abbrev e_NoLayer : Nat := 4
abbrev e_NoJoint : Nat := 5
abbrev e_Unlike : Nat := 6
abbrev c_Core : Nat := 8
abbrev c_Record : Nat := 9
def x_NotFitting (c : Nat) : Bool := [false, false, false, false, false, false, false, true].getD c false
def x_SiltError (c : Nat) : Bool := [true, true, true, true, true, true, true, true].getD c false
def x_Unlike (c : Nat) : Bool := [false, false, false, false, false, false, true, false].getD c false
def x_ValueError (c : Nat) : Bool := [true, true, true, true, true, true, true, true].getD c false
def i_Core : Ty → Option Bool
  | .t "NoneType" => some false
  | .t "bool" => some false
  | .t "int" => some false
  | .t "str" => some false
  | .t "tuple" => some false
  | .t "list" => some false
  | .c 8 => some true
  | .c 9 => some false
  | _ => none
def i_bool : Ty → Option Bool
  | .t "NoneType" => some false
  | .t "bool" => some true
  | .t "int" => some false
  | .t "str" => some false
  | .t "tuple" => some false
  | .t "list" => some false
  | .c 8 => some false
  | .c 9 => some false
  | _ => none
def i_int : Ty → Option Bool
  | .t "NoneType" => some false
  | .t "bool" => some true
  | .t "int" => some true
  | .t "str" => some false
  | .t "tuple" => some false
  | .t "list" => some false
  | .c 8 => some false
  | .c 9 => some false
  | _ => none
def i_list : Ty → Option Bool
  | .t "NoneType" => some false
  | .t "bool" => some false
  | .t "int" => some false
  | .t "str" => some false
  | .t "tuple" => some false
  | .t "list" => some true
  | .c 8 => some false
  | .c 9 => some false
  | _ => none
def i_tuple : Ty → Option Bool
  | .t "NoneType" => some false
  | .t "bool" => some false
  | .t "int" => some false
  | .t "str" => some false
  | .t "tuple" => some true
  | .t "list" => some false
  | .c 8 => some false
  | .c 9 => some false
  | _ => none
def el_is_layer_0 : DE :=
  (eBin (kInS false) (eV 3) (eC (.str "abcdefghijklmnopqrstuvwxyz")))
def b_is_layer : DSt :=
  (sSeq (sAsg (gT [(gN 1), (gN 2)]) (eV 0)) (sRet (eAnd (eChain kLe kLe (eC (.int 1)) (eArgs [(eV 1)] kLen) (eC (.int 12))) (eAnd (eArgs [(eSettle (eLcC [3] (iExp (eV 1) itS) (gN 3) (eC (.bl true)) el_is_layer_0))] kAll) (eBin kGe (eV 2) (eC (.int 1)))))))
def f_is_layer : DF := mkD 4 b_is_layer
def b_is_joint : DSt :=
  (sSeq (sAsg (gT [(gN 1), (gN 2)]) (eV 0)) (sRet (eAnd (eBin kGe (eV 1) (eC (.int 0))) (eOr (eBin (kIsN false) (eV 2) (eC .non)) (eBin kLe (eV 1) (eV 2))))))
def f_is_joint : DF := mkD 3 b_is_joint
def b_written_layer : DSt :=
  (sRet (eFs [(eUn kFmt (eBin kIx (eV 0) (eC (.int 0)))), (eC (.str ":")), (eUn kFmt (eBin kIx (eV 0) (eC (.int 1))))]))
def f_written_layer : DF := mkD 1 b_written_layer
def lp_Core___init___0 : DSt :=
  (sIf (eNot (eArgs [(eV 4)] (kCall f_is_layer)))
    (sRaise e_BadLayer [(eV 3)])
    sNil)
def lp_Core___init___1 : DSt :=
  (sIf (eNot (eArgs [(eV 5)] (kCall f_is_joint)))
    (sRaise e_BadJoint [(eV 3)])
    sNil)
def b_Core___init__ : DSt :=
  (sSeq (sIf (eBin kGt (eArgs [(eV 1)] kLen) (eC (.int 20)))
    (sRaiseT e_BadCore)
    sNil) (sSeq (sFor (iArgs [(eV 1)] kEnum) (gT [(gN 3), (gN 4)]) lp_Core___init___0) (sSeq (sIf (eBin (kIsN false) (eV 2) (eC .non))
    (sSet 2 (eBin kRepL (eArgs [(eArgs [(eC (.int 0)), (eC .non)] kTup)] kLst) (eBin kAdd (eArgs [(eV 1)] kLen) (eC (.int 1)))))
    sNil) (sSeq (sIf (eBin kNe (eArgs [(eV 2)] kLen) (eBin kAdd (eArgs [(eV 1)] kLen) (eC (.int 1))))
    (sRaiseT e_BadCore)
    sNil) (sSeq (sFor (iArgs [(eV 2)] kEnum) (gT [(gN 3), (gN 5)]) lp_Core___init___1) (sSeq (sFldSet c_Core 0 (eV 0) (eArgs [(eV 1)] kListI)) (sFldSet c_Core 1 (eV 0) (eArgs [(eV 2)] kListI))))))))
def f_Core___init__ : DF := mkD 6 b_Core___init__
def b_Core___len__ : DSt :=
  (sRet (eArgs [(eUn (kFld c_Core 0) (eV 0))] kLen))
def f_Core___len__ : DF := mkD 1 b_Core___len__
def b_Core___getitem__ : DSt :=
  (sSeq (sIf (eNot (eChain kLe kLt (eC (.int 0)) (eV 1) (eArgs [(eUn (kFld c_Core 0) (eV 0))] kLen)))
    (sRaise e_NoLayer [(eV 1)])
    sNil) (sRet (eBin kIx (eUn (kFld c_Core 0) (eV 0)) (eV 1))))
def f_Core___getitem__ : DF := mkD 2 b_Core___getitem__
def b_Core_joint : DSt :=
  (sSeq (sIf (eNot (eChain kLe kLt (eC (.int 0)) (eV 1) (eArgs [(eUn (kFld c_Core 1) (eV 0))] kLen)))
    (sRaise e_NoJoint [(eV 1)])
    sNil) (sRet (eBin kIx (eUn (kFld c_Core 1) (eV 0)) (eV 1))))
def f_Core_joint : DF := mkD 2 b_Core_joint
def el_Core_thickness_0 : DE :=
  (eBin kIx (eV 1) (eC (.int 1)))
def b_Core_thickness : DSt :=
  (sRet (eArgs [(eSettle (eLcC [1] (iExp (eUn (kFld c_Core 0) (eV 0)) itL) (gN 1) (eC (.bl true)) el_Core_thickness_0))] kSum))
def f_Core_thickness : DF := mkD 2 b_Core_thickness
def lp_Record___init___0 : DSt :=
  (sSeq (sIf (eUn (kInK d_SWAPPED true) (eV 6))
    (sRaise e_BadRecord [(eV 5)])
    sNil) (sSeq (sDrop (eMth tyL kAppend (eV 2) [(eArgs [(eIf (eBin kEq (eV 6) (eC (.str ">"))) (eC .non) (eV 3)), (eIf (eBin kEq (eV 6) (eC (.str "<"))) (eC .non) (eV 4))] kTup)])) (sSeq (sSet 3 (eBin kAdd (eV 3) (eArgs [(eBin kNe (eV 6) (eC (.str ">")))] kInt))) (sSet 4 (eBin kAdd (eV 4) (eArgs [(eBin kNe (eV 6) (eC (.str "<")))] kInt))))))
def b_Record___init__ : DSt :=
  (sSeq (sSet 2 (eArgs [] kLstC)) (sSeq (sSet 3 (eC (.int 0))) (sSeq (sSet 4 (eC (.int 0))) (sSeq (sFor (iArgs [(eV 1)] kEnumS) (gT [(gN 5), (gN 6)]) lp_Record___init___0) (sSeq (sFldSet c_Record 0 (eV 0) (eV 1)) (frz 2 (sFldSet c_Record 1 (eV 0) (eV 2))))))))
def f_Record___init__ : DF := mkD 7 b_Record___init__
def b_Record___add__ : DSt :=
  (sRet (eArgs [(eBin kAdd (eUn (kFld c_Record 0) (eV 0)) (eUn (kFld c_Record 0) (eV 1)))] (kMake c_Record 2 f_Record___init__)))
def f_Record___add__ : DF := mkD 2 b_Record___add__
def b_Record_lefts : DSt :=
  (sRet (eBin kSub (eArgs [(eUn (kFld c_Record 0) (eV 0))] kLen) (eMth tyS kCount (eUn (kFld c_Record 0) (eV 0)) [(eC (.str ">"))])))
def f_Record_lefts : DF := mkD 1 b_Record_lefts
def b_Record_rights : DSt :=
  (sRet (eBin kSub (eArgs [(eUn (kFld c_Record 0) (eV 0))] kLen) (eMth tyS kCount (eUn (kFld c_Record 0) (eV 0)) [(eC (.str "<"))])))
def f_Record_rights : DF := mkD 1 b_Record_rights
def lp_picture_0 : DSt :=
  (sSeq (sSet 7 (eIf (eBin (kIsN false) (eV 5) (eC .non)) (eC (.str "")) (eArgs [(eBin (kOwnIx c_Core f_Core___getitem__) (eV 1) (eV 5))] (kCall f_written_layer)))) (sSeq (sSet 8 (eIf (eBin (kIsN false) (eV 6) (eC .non)) (eC (.str "")) (eArgs [(eBin (kOwnIx c_Core f_Core___getitem__) (eV 2) (eV 6))] (kCall f_written_layer)))) (sDrop (eMth tyL kAppend (eV 3) [(eFs [(eUn (kFmtS false) (eV 7)), (eC (.str " ")), (eUn kFmt (eV 4)), (eC (.str " ")), (eUn (kFmtS true) (eV 8))])]))))
def b_picture : DSt :=
  (sSeq (sIf (eOr (eBin kNe (eUn (kProp c_Record f_Record_lefts) (eV 0)) (eUn (kLenO c_Core f_Core___len__) (eV 1))) (eBin kNe (eUn (kProp c_Record f_Record_rights) (eV 0)) (eUn (kLenO c_Core f_Core___len__) (eV 2))))
    (sRaiseT e_Unlike)
    sNil) (sSeq (sSet 3 (eArgs [(eFs [(eUn (kFmtI false) (eUn (kProp c_Core f_Core_thickness) (eV 1))), (eC (.str " | ")), (eUn (kFmtI true) (eUn (kProp c_Core f_Core_thickness) (eV 2)))])] kLstC)) (sSeq (sFor (iArgs [(eArgs [(eUn (kFld c_Record 0) (eV 0)), (eV 0)] (kZipO c_Record 1))] kRevL) (gT [(gN 4), (gT [(gN 5), (gN 6)])]) lp_picture_0) (frz 3 (sRet (eV 3))))))
def f_picture : DF := mkD 9 b_picture
def b__law_mix : DSt :=
  (sSeq (sSet 2 (eBin kMod (eArgs [(eBin kAdd (eBin kMul (eBin kMul (eV 0) (eC (.int 97))) (eBin kAdd (eV 1) (eC (.int 1)))) (eBin kMul (eC (.int 31)) (eV 1)))] kInt) (eC (.int 1000003)))) (sRet (eBin kAdd (eV 2) (eBin kDiv (eBin kMul (eV 2) (eV 2)) (eC (.int 1013))))))
def f__law_mix : DF := mkD 3 b__law_mix
def lp__law_pool_0 : DSt :=
  (sIf (eAnd (eTru (eV 6)) (eBin kGt (eV 5) (eC (.int 0))))
    (sSeq (sDrop (eMth tyL kAppend (eV 2) [(eBin kMod (eArgs [(eV 5)] kInt) (eC (.int 1000003)))])) (sSet 5 (eBin kDiv (eV 5) (eC (.int 1000003)))))
    (sIf (eAnd (eNot (eTru (eV 6))) (eBin kLt (eV 7) (eC (.int 6))))
    (sDrop (eMth tyL kAppend (eV 2) [(eArgs [(eBin kIx (eV 0) (eV 4)), (eV 7)] (kCall f__law_mix))]))
    sNil))
def lp__law_pool_1 : DSt :=
  (sSeq (sSet 3 (eBin kMod (eArgs [(eBin kAdd (eV 3) (eBin kMul (eBin kIx (eV 0) (eV 4)) (eBin kAdd (eV 4) (eC (.int 1)))))] kInt) (eC (.int 1000003)))) (sSeq (sSet 5 (eArgs [(eBin kIx (eV 0) (eV 4))] kAbs)) (sSeq (sSet 6 (eBin kGe (eV 5) (eBin kPow (eC (.int 10)) (eC (.int 18))))) (sFor (iArgs [(eC (.int 60))] kRng1) (gN 7) lp__law_pool_0))))
def lp__law_pool_2 : DSt :=
  (sIf (eBin kLt (eArgs [(eV 2)] kLen) (eV 1))
    (sDrop (eMth tyL kAppend (eV 2) [(eArgs [(eV 3), (eArgs [(eV 2)] kLen)] (kCall f__law_mix))]))
    sNil)
def b__law_pool : DSt :=
  (sSeq (sSet 2 (eArgs [] kLstC)) (sSeq (sSet 3 (eC (.int 0))) (sSeq (sFor (iArgs [(eArgs [(eArgs [(eV 0)] kLen), (eC (.int 63))] kMin)] kRng1) (gN 4) lp__law_pool_1) (sSeq (sFor (iArgs [(eV 1)] kRng1) (gN 7) lp__law_pool_2) (sRet (eV 2))))))
def f__law_pool : DF := mkD 8 b__law_pool
def b__law_draw : DSt :=
  (sSeq (sIf (eBin kEq (eArgs [(eV 0)] kLen) (eC (.int 0)))
    (sRet (eC (.int 0)))
    sNil) (sRet (eBin kMod (eArgs [(eMth tyL kPopAt (eV 0) [(eC (.int 0))])] kInt) (eV 1))))
def f__law_draw : DF := mkD 2 b__law_draw
def lp__law_number_0 : DSt :=
  (sSet 2 (eBin kAdd (eBin kMul (eV 2) (eC (.int 1000003))) (eArgs [(eV 0), (eC (.int 1000003))] (kCall f__law_draw))))
def b__law_number : DSt :=
  (sSeq (sSet 1 (eArgs [(eV 0), (eC (.int 8))] (kCall f__law_draw))) (sSeq (sSet 2 (eArgs [(eV 0), (eC (.int 5))] (kCall f__law_draw))) (sSeq (sIf (eBin kEq (eV 1) (eC (.int 4)))
    (sFor (iArgs [(eC (.int 5))] kRng1) (gN 3) lp__law_number_0)
    sNil) (sRet (eBin kMod (eArgs [(eV 2)] kInt) (eBin kPow (eC (.int 10)) (eC (.int 30))))))))
def f__law_number : DF := mkD 4 b__law_number
def b__law_kind : DSt :=
  (sSeq (sSet 1 (eBin kIx (eArgs [(eC (.int 1)), (eC (.int 1)), (eC (.int 1)), (eC (.int 2)), (eC (.int 3)), (eC (.int 12))] kLst) (eArgs [(eV 0), (eC (.int 6))] (kCall f__law_draw)))) (sSeq (sSet 2 (eArgs [(eV 0), (eV 1)] (kCall f__law_draw))) (sSeq (sSet 3 (eC (.str "abcdefghijklmnopqrstuvwxyz"))) (sSeq (sSet 4 (eBin kIx (eV 3) (eArgs [(eV 0), (eBin kIx (eArgs [(eC (.int 2)), (eC (.int 3)), (eC (.int 26))] kLst) (eArgs [(eV 0), (eC (.int 3))] (kCall f__law_draw)))] (kCall f__law_draw)))) (sRet (eBin kAdd (eBin kAdd (eBin kRepS (eC (.str "b")) (eV 2)) (eV 4)) (eBin kRepS (eC (.str "b")) (eBin kSub (eBin kSub (eV 1) (eC (.int 1))) (eV 2)))))))))
def f__law_kind : DF := mkD 5 b__law_kind
def lp__law_path_0 : DSt :=
  (sSeq (sSet 7 (eBin kIx (eC (.str "<=>=")) (eArgs [(eV 0), (eC (.int 4))] (kCall f__law_draw)))) (sSeq (sIf (eBin kEq (eV 4) (eV 1))
    (sSet 7 (eC (.str ">")))
    sNil) (sSeq (sIf (eBin kEq (eV 5) (eV 2))
    (sSet 7 (eC (.str "<")))
    sNil) (sIf (eOr (eBin kLt (eV 4) (eV 1)) (eBin kLt (eV 5) (eV 2)))
    (sSeq (sSet 3 (eBin kAdd (eV 3) (eV 7))) (sSeq (sSet 4 (eBin kAdd (eV 4) (eArgs [(eBin kNe (eV 7) (eC (.str ">")))] kInt))) (sSet 5 (eBin kAdd (eV 5) (eArgs [(eBin kNe (eV 7) (eC (.str "<")))] kInt)))))
    sNil))))
def b__law_path : DSt :=
  (sSeq (sSet 3 (eC (.str ""))) (sSeq (sSet 4 (eC (.int 0))) (sSeq (sSet 5 (eC (.int 0))) (sSeq (sFor (iArgs [(eBin kAdd (eV 1) (eV 2))] kRng1) (gN 6) lp__law_path_0) (sRet (eV 3))))))
def f__law_path : DF := mkD 8 b__law_path
def el__law_names_0 : DE :=
  (eV 10)
def el__law_names_1 : DE :=
  (eIf (eBin kEq (eV 11) (eV 8)) (eV 9) (eV 11))
def lp__law_names_2 : DSt :=
  (sSeq (sIf (eBin kEq (eV 7) (eC (.str "=")))
    (sSeq (sSet 8 (eBin kIx (eV 3) (eBin kAdd (eV 0) (eV 6)))) (sSeq (sSet 9 (eBin kIx (eV 3) (eV 5))) (sSet 3 (eSettle (eLcC [11] (iExp (eV 3) itL) (gN 11) (eC (.bl true)) el__law_names_1)))))
    sNil) (sSeq (sSet 5 (eBin kAdd (eV 5) (eArgs [(eBin kNe (eV 7) (eC (.str ">")))] kInt))) (sSet 6 (eBin kAdd (eV 6) (eArgs [(eBin kNe (eV 7) (eC (.str "<")))] kInt)))))
def lp__law_names_3 : DSt :=
  (sSeq (sSet 5 (eC (.int 0))) (sSeq (sSet 6 (eC (.int 0))) (sFor (iExp (eV 4) itS) (gN 7) lp__law_names_2)))
def b__law_names : DSt :=
  (sSeq (sSet 3 (eSettle (eLcC [10] (iArgs [(eBin kAdd (eV 0) (eV 1))] kRng1) (gN 10) (eC (.bl true)) el__law_names_0))) (sSeq (sForC (eV 2) (gN 4) lp__law_names_3) (sRet (eV 3))))
def f__law_names : DF := mkD 12 b__law_names
def lp__law_lost_0 : DSt :=
  (sSeq (sIf (eBin kEq (eV 6) (eC (.str ">")))
    (sSetIx (eBin kIxP (eV 3) (eC (.int 0))) (eV 4) (eBin kAdd (eBin kIx (eBin kIxP (eV 3) (eC (.int 0))) (eV 4)) (eBin kIx (eBin kIx (eV 2) (eV 5)) (eC (.int 1)))))
    sNil) (sSeq (sIf (eBin kEq (eV 6) (eC (.str "<")))
    (sSetIx (eBin kIxP (eV 3) (eC (.int 1))) (eV 5) (eBin kAdd (eBin kIx (eBin kIxP (eV 3) (eC (.int 1))) (eV 5)) (eBin kIx (eBin kIx (eV 1) (eV 4)) (eC (.int 1)))))
    sNil) (sSeq (sSet 4 (eBin kAdd (eV 4) (eArgs [(eBin kNe (eV 6) (eC (.str ">")))] kInt))) (sSet 5 (eBin kAdd (eV 5) (eArgs [(eBin kNe (eV 6) (eC (.str "<")))] kInt))))))
def b__law_lost : DSt :=
  (sSeq (sSet 3 (eArgs [(eBin kRepLC (eArgs [(eC (.int 0))] kLst) (eBin kAdd (eArgs [(eV 1)] kLen) (eC (.int 1)))), (eBin kRepLC (eArgs [(eC (.int 0))] kLst) (eBin kAdd (eArgs [(eV 2)] kLen) (eC (.int 1))))] kLstP)) (sSeq (sSet 4 (eC (.int 0))) (sSeq (sSet 5 (eC (.int 0))) (sSeq (sFor (iExp (eV 0) itS) (gN 6) lp__law_lost_0) (frzP 3 (sRet (eV 3)))))))
def f__law_lost : DF := mkD 7 b__law_lost
def lp__law_joints_0 : DSt :=
  (sSeq (sSet 5 (eArgs [(eArgs [(eBin kIx (eV 1) (eV 4))] kInt), (eArgs [(eBin kIx (eV 2) (eV 4))] kInt)] kMin)) (sSeq (sSet 6 (eArgs [(eArgs [(eBin kIx (eV 1) (eV 4))] kInt), (eArgs [(eBin kIx (eV 2) (eV 4))] kInt)] kMax)) (sSeq (sSet 5 (eBin kIx (eArgs [(eC (.int 0)), (eV 5), (eBin kDiv (eV 5) (eC (.int 2)))] kLst) (eArgs [(eV 0), (eC (.int 3))] (kCall f__law_draw)))) (sSeq (sSet 6 (eBin kIx (eArgs [(eC .non), (eV 6), (eBin kAdd (eV 6) (eArgs [(eV 0)] (kCall f__law_number)))] kLst) (eArgs [(eV 0), (eC (.int 3))] (kCall f__law_draw)))) (sDrop (eMth tyL kAppend (eV 3) [(eArgs [(eV 5), (eV 6)] kTup)]))))))
def b__law_joints : DSt :=
  (sSeq (sSet 3 (eArgs [] kLstC)) (sSeq (sFor (iArgs [(eArgs [(eV 1)] kLen)] kRng1) (gN 4) lp__law_joints_0) (frz 3 (sRet (eV 3)))))
def f__law_joints : DF := mkD 7 b__law_joints
def el__law_world_0 : DE :=
  (eArgs [(eV 0)] (kCall f__law_kind))
def el__law_world_1 : DE :=
  (eArgs [(eBin kIx (eV 4) (eBin kIx (eV 3) (eV 10))), (eBin kAdd (eC (.int 1)) (eArgs [(eV 0)] (kCall f__law_number)))] kTup)
def el__law_world_2 : DE :=
  (eArgs [(eBin kIx (eV 4) (eBin kIx (eV 3) (eBin kAdd (eBin kIx (eV 1) (eC (.int 0))) (eV 10)))), (eBin kAdd (eC (.int 1)) (eArgs [(eV 0)] (kCall f__law_number)))] kTup)
def b__law_world : DSt :=
  (sSeq (sSet 3 (eArgs [(eBin kIx (eV 1) (eC (.int 0))), (eBin kIx (eV 1) (eC (.int 1))), (eV 2)] (kCall f__law_names))) (sSeq (sSet 4 (eSettle (eLcC [9] (iExp (eV 3) itL) (gN 9) (eC (.bl true)) el__law_world_0))) (sSeq (sSet 5 (eSettle (eLcC [10] (iArgs [(eBin kIx (eV 1) (eC (.int 0)))] kRng1) (gN 10) (eC (.bl true)) el__law_world_1))) (sSeq (sSet 6 (eSettle (eLcC [10] (iArgs [(eBin kIx (eV 1) (eC (.int 1)))] kRng1) (gN 10) (eC (.bl true)) el__law_world_2))) (sSeq (sSet 7 (eArgs [(eBin kIx (eV 2) (eC (.int 0))), (eV 5), (eV 6)] (kCall f__law_lost))) (sSeq (sSet 8 (eArgs [(eBin kIx (eV 2) (eC (.int 1))), (eV 5), (eV 6)] (kCall f__law_lost))) (sRet (eArgs [(eV 5), (eArgs [(eV 0), (eBin kIx (eV 7) (eC (.int 0))), (eBin kIx (eV 8) (eC (.int 0)))] (kCall f__law_joints)), (eV 6), (eArgs [(eV 0), (eBin kIx (eV 7) (eC (.int 1))), (eBin kIx (eV 8) (eC (.int 1)))] (kCall f__law_joints))] kLst))))))))
def f__law_world : DF := mkD 11 b__law_world
def b__law_cores : DSt :=
  (sRet (eArgs [(eArgs [(eArgs [(eBin kIx (eV 0) (eC (.int 0)))] kListI), (eArgs [(eBin kIx (eV 0) (eC (.int 1)))] kListI)] (kMake c_Core 2 f_Core___init__)), (eArgs [(eArgs [(eBin kIx (eV 0) (eC (.int 2)))] kListI), (eArgs [(eBin kIx (eV 0) (eC (.int 3)))] kListI)] (kMake c_Core 2 f_Core___init__))] kLst))
def f__law_cores : DF := mkD 1 b__law_cores
def b__law_whole : DSt :=
  (sRet (eAnd (eUn (kIsi i_int) (eV 0)) (eNot (eUn (kIsi i_bool) (eV 0)))))
def f__law_whole : DF := mkD 1 b__law_whole
def el__law_same_0 : DE :=
  (eV 5)
def lp__law_same_1 : DSt :=
  (sSeq (sSet 5 (eBin (kOwnIx c_Core f_Core___getitem__) (eV 0) (eV 4))) (sSeq (sIf (eOr (eNot (eUn (kIsi i_tuple) (eV 5))) (eOr (eBin kNe (eV 5) (eBin kIx (eV 1) (eV 4))) (eNot (eArgs [(eBin kIx (eV 5) (eC (.int 1)))] (kCall f__law_whole)))))
    (sRet (eC (.bl false)))
    sNil) (sSet 3 (eBin kAdd (eV 3) (eBin kIx (eBin kIx (eV 1) (eV 4)) (eC (.int 1)))))))
def lp__law_same_2 : DSt :=
  (sSeq (sSet 6 (eMth (isC c_Core) (kMeth f_Core_joint) (eV 0) [(eV 4)])) (sSeq (sIf (eOr (eNot (eUn (kIsi i_tuple) (eV 6))) (eOr (eBin kNe (eV 6) (eBin kIx (eV 2) (eV 4))) (eNot (eArgs [(eBin kIx (eV 6) (eC (.int 0)))] (kCall f__law_whole)))))
    (sRet (eC (.bl false)))
    sNil) (sIf (eAnd (eBin (kIsN true) (eBin kIx (eV 6) (eC (.int 1))) (eC .non)) (eNot (eArgs [(eBin kIx (eV 6) (eC (.int 1)))] (kCall f__law_whole))))
    (sRet (eC (.bl false)))
    sNil)))
def b__law_same : DSt :=
  (sSeq (sIf (eOr (eNot (eUn (kIsi i_Core) (eV 0))) (eBin kNe (eUn (kLenO c_Core f_Core___len__) (eV 0)) (eArgs [(eV 1)] kLen)))
    (sRet (eC (.bl false)))
    sNil) (sSeq (sIf (eBin kNe (eSettle (eLcC [5] (iExp (eV 0) (itO c_Core 0)) (gN 5) (eC (.bl true)) el__law_same_0)) (eV 1))
    (sRet (eC (.bl false)))
    sNil) (sSeq (sSet 3 (eC (.int 0))) (sSeq (sFor (iArgs [(eArgs [(eV 1)] kLen)] kRng1) (gN 4) lp__law_same_1) (sSeq (sFor (iArgs [(eArgs [(eV 2)] kLen)] kRng1) (gN 4) lp__law_same_2) (sRet (eAnd (eArgs [(eUn (kProp c_Core f_Core_thickness) (eV 0))] (kCall f__law_whole)) (eBin kEq (eUn (kProp c_Core f_Core_thickness) (eV 0)) (eV 3)))))))))
def f__law_same : DF := mkD 7 b__law_same
def lp__law_commas_0 : DSt :=
  (sIf (eBin kGt (eArgs [(eV 1)] kLen) (eC (.int 3)))
    (sSeq (sSet 2 (eBin kAdd (eArgs [(eSlice (eV 1) (some (eUn kNeg (eC (.int 3)))) none)] kLst) (eV 2))) (sSet 1 (eSlice (eV 1) none (some (eUn kNeg (eC (.int 3)))))))
    sNil)
def b__law_commas : DSt :=
  (sSeq (sSet 1 (eArgs [(eV 0)] kStrB)) (sSeq (sSet 2 (eArgs [] kLst)) (sSeq (sFor (iArgs [(eC (.int 12))] kRng1) (gN 3) lp__law_commas_0) (sRet (eMth tyS kJoin (eC (.str ",")) [(eBin kAdd (eArgs [(eV 1)] kLst) (eV 2))])))))
def f__law_commas : DF := mkD 4 b__law_commas
def lp__law_total_0 : DSt :=
  (sSet 1 (eBin kAdd (eV 1) (eBin kIx (eV 2) (eC (.int 1)))))
def b__law_total : DSt :=
  (sSeq (sSet 1 (eC (.int 0))) (sSeq (sFor (iExp (eV 0) itL) (gN 2) lp__law_total_0) (sRet (eArgs [(eV 1)] (kCall f__law_commas)))))
def f__law_total : DF := mkD 3 b__law_total
def b__law_line : DSt :=
  (sRet (eBin kAdd (eBin kAdd (eBin kAdd (eBin kAdd (eMth tyS (kJust false) (eV 0) [(eC (.int 20))]) (eC (.str " "))) (eV 1)) (eC (.str " "))) (eMth tyS (kJust true) (eV 2) [(eC (.int 20))])))
def f__law_line : DF := mkD 3 b__law_line
def lp__law_due_0 : DSt :=
  (sSeq (sSet 6 (eC (.str ""))) (sSeq (sSet 7 (eC (.str ""))) (sSeq (sIf (eBin kNe (eV 5) (eC (.str ">")))
    (sSeq (sSet 6 (eBin kAdd (eBin kAdd (eBin kIx (eBin kIx (eBin kIx (eV 1) (eC (.int 0))) (eV 3)) (eC (.int 0))) (eC (.str ":"))) (eArgs [(eBin kIx (eBin kIx (eBin kIx (eV 1) (eC (.int 0))) (eV 3)) (eC (.int 1)))] kStrB))) (sSet 3 (eBin kAdd (eV 3) (eC (.int 1)))))
    sNil) (sSeq (sIf (eBin kNe (eV 5) (eC (.str "<")))
    (sSeq (sSet 7 (eBin kAdd (eBin kAdd (eBin kIx (eBin kIx (eBin kIx (eV 1) (eC (.int 2))) (eV 4)) (eC (.int 0))) (eC (.str ":"))) (eArgs [(eBin kIx (eBin kIx (eBin kIx (eV 1) (eC (.int 2))) (eV 4)) (eC (.int 1)))] kStrB))) (sSet 4 (eBin kAdd (eV 4) (eC (.int 1)))))
    sNil) (sSet 2 (eBin kAdd (eArgs [(eArgs [(eV 6), (eV 5), (eV 7)] (kCall f__law_line))] kLst) (eV 2)))))))
def b__law_due : DSt :=
  (sSeq (sSet 2 (eArgs [] kLst)) (sSeq (sSet 3 (eC (.int 0))) (sSeq (sSet 4 (eC (.int 0))) (sSeq (sFor (iExp (eV 0) itS) (gN 5) lp__law_due_0) (sRet (eBin kAdd (eArgs [(eArgs [(eArgs [(eBin kIx (eV 1) (eC (.int 0)))] (kCall f__law_total)), (eC (.str "|")), (eArgs [(eBin kIx (eV 1) (eC (.int 2)))] (kCall f__law_total))] (kCall f__law_line))] kLst) (eV 2)))))))
def f__law_due : DF := mkD 8 b__law_due
def b__law_unlike : DSt :=
  (sSeq (sTry 8 x_SiltError (some 2)
    (sDrop (eArgs [(eV 0), (eBin kIx (eV 1) (eC (.int 0))), (eBin kIx (eV 1) (eC (.int 1)))] (kCall f_picture)))
    (sRet (eAnd (eUn (kIsE (fun c => some (x_Unlike c))) (eV 2)) (eAnd (eUn (kIsE (fun c => some (x_ValueError c))) (eV 2)) (eNot (eUn (kIsE (fun c => some (x_NotFitting c))) (eV 2))))))) (sRet (eC (.bl false))))
def f__law_unlike : DF := mkD 3 b__law_unlike
def lp__law_far_0 : DSt :=
  (sIf (eBin kNe (eBin kIx (eV 1) (eV 3)) (eC (.str "=")))
    (sSetIx (eV 2) (eC (.int 2)) (eBin kAdd (eBin kAdd (eSlice (eV 1) none (some (eV 3))) (eBin kIx (eC (.str "><")) (eMth tyS kSIdx (eC (.str "<>")) [(eBin kIx (eV 1) (eV 3))]))) (eSlice (eV 1) (some (eBin kAdd (eV 3) (eC (.int 1)))) none)))
    sNil)
def b__law_far : DSt :=
  (sSeq (sSet 2 (eArgs [(eBin kAdd (eBin kIx (eC (.str "<>")) (eArgs [(eV 0), (eC (.int 2))] (kCall f__law_draw))) (eV 1)), (eBin kAdd (eV 1) (eC (.str "="))), (eBin kAdd (eC (.str "=")) (eSlice (eV 1) (some (eC (.int 1))) none))] kLstC)) (sSeq (sIf (eBin kGt (eArgs [(eV 1)] kLen) (eC (.int 0)))
    (sDrop (eMth tyL kAppend (eV 2) [(eSlice (eV 1) (some (eC (.int 1))) none)]))
    sNil) (sSeq (sFor (iArgs [(eArgs [(eV 1)] kLen)] kRng1) (gN 3) lp__law_far_0) (sSeq (sIf (eBin kEq (eArgs [(eV 1)] kLen) (eMth tyS kCount (eV 1) [(eC (.str "="))]))
    (sSetIx (eV 2) (eC (.int 2)) (eBin kAdd (eV 1) (eC (.str "<"))))
    sNil) (frz 2 (sRet (eV 2)))))))
def f__law_far : DF := mkD 4 b__law_far
def el_law_0 : DE :=
  (eArgs [(eV 1), (eBin kIx (eV 3) (eC (.int 0))), (eBin kIx (eV 3) (eC (.int 1)))] (kCall f__law_path))
def el_law_1 : DE :=
  (eUn kRevV (eV 14))
def lp_law_2 : DSt :=
  (sSeq (sSet 12 (eArgs [(eV 11), (eBin kIx (eV 6) (eC (.int 0))), (eBin kIx (eV 6) (eC (.int 1)))] (kCall f_picture))) (sSeq (sIf (eOr (eNot (eUn (kIsi i_list) (eV 12))) (eOr (eBin kNe (eV 12) (eArgs [(eV 9), (eV 5)] (kCall f__law_due))) (eBin kNe (eUn (kFld c_Record 0) (eV 11)) (eV 9))))
    (sRet (eC (.bl false)))
    sNil) (sIf (eBin kNe (eArgs [(eV 11), (eBin kIx (eV 8) (eC (.int 0))), (eBin kIx (eV 8) (eC (.int 1)))] (kCall f_picture)) (eArgs [(eV 9), (eV 7)] (kCall f__law_due)))
    (sRet (eC (.bl false)))
    sNil)))
def lp_law_3 : DSt :=
  (sSeq (sSet 10 (eBin kDiv (eArgs [(eV 9)] kLen) (eC (.int 2)))) (sFor (iExp (eArgs [(eArgs [(eV 9)] (kMake c_Record 2 f_Record___init__)), (eBin (kOwn c_Record f_Record___add__) (eArgs [(eSlice (eV 9) none (some (eV 10)))] (kMake c_Record 2 f_Record___init__)) (eArgs [(eSlice (eV 9) (some (eV 10)) none)] (kMake c_Record 2 f_Record___init__)))] kLst) itL) (gN 11) lp_law_2))
def lp_law_4 : DSt :=
  (sIf (eNot (eArgs [(eArgs [(eV 9)] (kMake c_Record 2 f_Record___init__)), (eV 6)] (kCall f__law_unlike)))
    (sRet (eC (.bl false)))
    sNil)
def b_law : DSt :=
  (sSeq (sSet 1 (eArgs [(eV 0), (eC (.int 500))] (kCall f__law_pool))) (sSeq (sSet 2 (eBin kIx (eArgs [(eC (.int 3)), (eC (.int 20))] kLst) (eArgs [(eV 1), (eC (.int 2))] (kCall f__law_draw)))) (sSeq (sSet 3 (eArgs [(eArgs [(eV 1), (eV 2)] (kCall f__law_draw)), (eArgs [(eV 1), (eV 2)] (kCall f__law_draw))] kLst)) (sSeq (sSet 4 (eLcC [13] (iArgs [(eC (.int 2))] kRng1) (gN 13) (eC (.bl true)) el_law_0)) (sSeq (sSet 5 (eArgs [(eV 1), (eV 3), (eV 4)] (kCall f__law_world))) (sSeq (sSet 6 (eArgs [(eV 5)] (kCall f__law_cores))) (sSeq (sDrop (eMth tyL kAppend (eV 4) [(eArgs [(eV 1), (eBin kIx (eV 3) (eC (.int 0))), (eBin kIx (eV 3) (eC (.int 1)))] (kCall f__law_path))])) (sSeq (sSet 7 (eSettle (eLcC [14] (iExp (eV 5) itL) (gN 14) (eC (.bl true)) el_law_1))) (sSeq (sSet 8 (eArgs [(eV 7)] (kCall f__law_cores))) (sSeq (sForC (eV 4) (gN 9) lp_law_3) (sSeq (sFor (iExp (eArgs [(eV 1), (eBin kIx (eV 4) (eC (.int 1)))] (kCall f__law_far)) itL) (gN 9) lp_law_4) (sRet (eAnd (eArgs [(eBin kIx (eV 6) (eC (.int 0))), (eBin kIx (eV 5) (eC (.int 0))), (eBin kIx (eV 5) (eC (.int 1)))] (kCall f__law_same)) (eArgs [(eBin kIx (eV 6) (eC (.int 1))), (eBin kIx (eV 5) (eC (.int 2))), (eBin kIx (eV 5) (eC (.int 3)))] (kCall f__law_same)))))))))))))))
def f_law : DF := mkD 15 b_law
end
end ZZ
set_option Elab.async false
set_option linter.all false
set_option maxRecDepth 100000
set_option maxHeartbeats 4000000
namespace ZZ
open PySem PySem.Spec L2 L2H
theorem sc_Core___iter__ : FnScope ["self"] ["self"] (defScope s_Core___iter__) := ⟨rfl, rfl, rfl, by decide +kernel, rfl, by decide +kernel, by decide +kernel⟩
theorem sc_Record___iter__ : FnScope ["self"] ["self"] (defScope s_Record___iter__) := ⟨rfl, rfl, rfl, by decide +kernel, rfl, by decide +kernel, by decide +kernel⟩
theorem sc_BadLayer___init__ : FnScope ["self", "index"] ["self", "index"] (defScope s_BadLayer___init__) := ⟨rfl, rfl, rfl, by decide +kernel, rfl, by decide +kernel, by decide +kernel⟩
theorem sc_BadJoint___init__ : FnScope ["self", "index"] ["self", "index"] (defScope s_BadJoint___init__) := ⟨rfl, rfl, rfl, by decide +kernel, rfl, by decide +kernel, by decide +kernel⟩
theorem sc_BadRecord___init__ : FnScope ["self", "index"] ["self", "index"] (defScope s_BadRecord___init__) := ⟨rfl, rfl, rfl, by decide +kernel, rfl, by decide +kernel, by decide +kernel⟩
theorem sc_NoLayer___init__ : FnScope ["self", "index"] ["self", "index"] (defScope s_NoLayer___init__) := ⟨rfl, rfl, rfl, by decide +kernel, rfl, by decide +kernel, by decide +kernel⟩
theorem sc_NoJoint___init__ : FnScope ["self", "index"] ["self", "index"] (defScope s_NoJoint___init__) := ⟨rfl, rfl, rfl, by decide +kernel, rfl, by decide +kernel, by decide +kernel⟩
theorem sc_is_layer : FnScope n_is_layer ["layer"] (defScope s_is_layer) := ⟨rfl, rfl, rfl, by decide +kernel, rfl, by decide +kernel, by decide +kernel⟩
theorem sc_is_joint : FnScope n_is_joint ["joint"] (defScope s_is_joint) := ⟨rfl, rfl, rfl, by decide +kernel, rfl, by decide +kernel, by decide +kernel⟩
theorem sc_written_layer : FnScope n_written_layer ["layer"] (defScope s_written_layer) := ⟨rfl, rfl, rfl, by decide +kernel, rfl, by decide +kernel, by decide +kernel⟩
theorem sc_Core___init__ : FnScope n_Core___init__ ["self", "layers", "joints"] (defScope s_Core___init__) := ⟨rfl, rfl, rfl, by decide +kernel, rfl, by decide +kernel, by decide +kernel⟩
theorem sc_Core___len__ : FnScope n_Core___len__ ["self"] (defScope s_Core___len__) := ⟨rfl, rfl, rfl, by decide +kernel, rfl, by decide +kernel, by decide +kernel⟩
theorem sc_Core___getitem__ : FnScope n_Core___getitem__ ["self", "k"] (defScope s_Core___getitem__) := ⟨rfl, rfl, rfl, by decide +kernel, rfl, by decide +kernel, by decide +kernel⟩
theorem sc_Core_joint : FnScope n_Core_joint ["self", "k"] (defScope s_Core_joint) := ⟨rfl, rfl, rfl, by decide +kernel, rfl, by decide +kernel, by decide +kernel⟩
theorem sc_Core_thickness : FnScope n_Core_thickness ["self"] (defScope s_Core_thickness) := ⟨rfl, rfl, rfl, by decide +kernel, rfl, by decide +kernel, by decide +kernel⟩
theorem sc_Record___init__ : FnScope n_Record___init__ ["self", "steps"] (defScope s_Record___init__) := ⟨rfl, rfl, rfl, by decide +kernel, rfl, by decide +kernel, by decide +kernel⟩
theorem sc_Record___add__ : FnScope n_Record___add__ ["self", "other"] (defScope s_Record___add__) := ⟨rfl, rfl, rfl, by decide +kernel, rfl, by decide +kernel, by decide +kernel⟩
theorem sc_Record_lefts : FnScope n_Record_lefts ["self"] (defScope s_Record_lefts) := ⟨rfl, rfl, rfl, by decide +kernel, rfl, by decide +kernel, by decide +kernel⟩
theorem sc_Record_rights : FnScope n_Record_rights ["self"] (defScope s_Record_rights) := ⟨rfl, rfl, rfl, by decide +kernel, rfl, by decide +kernel, by decide +kernel⟩
theorem sc_picture : FnScope n_picture ["record", "left", "right"] (defScope s_picture) := ⟨rfl, rfl, rfl, by decide +kernel, rfl, by decide +kernel, by decide +kernel⟩
theorem sc__law_mix : FnScope n__law_mix ["_law_cell", "_law_turn"] (defScope s__law_mix) := ⟨rfl, rfl, rfl, by decide +kernel, rfl, by decide +kernel, by decide +kernel⟩
theorem sc__law_pool : FnScope n__law_pool ["_law_script", "_law_many"] (defScope s__law_pool) := ⟨rfl, rfl, rfl, by decide +kernel, rfl, by decide +kernel, by decide +kernel⟩
theorem sc__law_draw : FnScope n__law_draw ["_law_pool_here", "_law_bound"] (defScope s__law_draw) := ⟨rfl, rfl, rfl, by decide +kernel, rfl, by decide +kernel, by decide +kernel⟩
theorem sc__law_number : FnScope n__law_number ["_law_pool_here"] (defScope s__law_number) := ⟨rfl, rfl, rfl, by decide +kernel, rfl, by decide +kernel, by decide +kernel⟩
theorem sc__law_kind : FnScope n__law_kind ["_law_pool_here"] (defScope s__law_kind) := ⟨rfl, rfl, rfl, by decide +kernel, rfl, by decide +kernel, by decide +kernel⟩
theorem sc__law_path : FnScope n__law_path ["_law_pool_here", "_law_lefts", "_law_rights"] (defScope s__law_path) := ⟨rfl, rfl, rfl, by decide +kernel, rfl, by decide +kernel, by decide +kernel⟩
theorem sc__law_names : FnScope n__law_names ["_law_lefts", "_law_rights", "_law_paths"] (defScope s__law_names) := ⟨rfl, rfl, rfl, by decide +kernel, rfl, by decide +kernel, by decide +kernel⟩
theorem sc__law_lost : FnScope n__law_lost ["_law_steps", "_law_lefts", "_law_rights"] (defScope s__law_lost) := ⟨rfl, rfl, rfl, by decide +kernel, rfl, by decide +kernel, by decide +kernel⟩
theorem sc__law_joints : FnScope n__law_joints ["_law_pool_here", "_law_one", "_law_other"] (defScope s__law_joints) := ⟨rfl, rfl, rfl, by decide +kernel, rfl, by decide +kernel, by decide +kernel⟩
theorem sc__law_world : FnScope n__law_world ["_law_pool_here", "_law_sizes", "_law_paths"] (defScope s__law_world) := ⟨rfl, rfl, rfl, by decide +kernel, rfl, by decide +kernel, by decide +kernel⟩
theorem sc__law_cores : FnScope n__law_cores ["_law_world_here"] (defScope s__law_cores) := ⟨rfl, rfl, rfl, by decide +kernel, rfl, by decide +kernel, by decide +kernel⟩
theorem sc__law_whole : FnScope n__law_whole ["_law_number_here"] (defScope s__law_whole) := ⟨rfl, rfl, rfl, by decide +kernel, rfl, by decide +kernel, by decide +kernel⟩
theorem sc__law_same : FnScope n__law_same ["_law_core", "_law_layers", "_law_joints_here"] (defScope s__law_same) := ⟨rfl, rfl, rfl, by decide +kernel, rfl, by decide +kernel, by decide +kernel⟩
theorem sc__law_commas : FnScope n__law_commas ["_law_number_here"] (defScope s__law_commas) := ⟨rfl, rfl, rfl, by decide +kernel, rfl, by decide +kernel, by decide +kernel⟩
theorem sc__law_total : FnScope n__law_total ["_law_layers"] (defScope s__law_total) := ⟨rfl, rfl, rfl, by decide +kernel, rfl, by decide +kernel, by decide +kernel⟩
theorem sc__law_line : FnScope n__law_line ["_law_one", "_law_sign", "_law_other"] (defScope s__law_line) := ⟨rfl, rfl, rfl, by decide +kernel, rfl, by decide +kernel, by decide +kernel⟩
theorem sc__law_due : FnScope n__law_due ["_law_steps", "_law_world_here"] (defScope s__law_due) := ⟨rfl, rfl, rfl, by decide +kernel, rfl, by decide +kernel, by decide +kernel⟩
theorem sc__law_unlike : FnScope n__law_unlike ["_law_record", "_law_cores_here"] (defScope s__law_unlike) := ⟨rfl, rfl, rfl, by decide +kernel, rfl, by decide +kernel, by decide +kernel⟩
theorem sc__law_far : FnScope n__law_far ["_law_pool_here", "_law_steps"] (defScope s__law_far) := ⟨rfl, rfl, rfl, by decide +kernel, rfl, by decide +kernel, by decide +kernel⟩
theorem sc_law : FnScope n_law ["_law_script"] (defScope s_law) := ⟨rfl, rfl, rfl, by decide +kernel, rfl, by decide +kernel, by decide +kernel⟩
/-- what the top has written -/
structure Tx (P : Program) (w : World) (K : PySem.W.Frag) (mg : Str → Option Value) (ad cl : Nat → Addr) : Prop where
  b_ValueError : mg "ValueError" = none
  b_abs : mg "abs" = none
  b_all : mg "all" = none
  b_bool : mg "bool" = none
  b_enumerate : mg "enumerate" = none
  b_int : mg "int" = none
  b_isinstance : mg "isinstance" = none
  b_len : mg "len" = none
  b_list : mg "list" = none
  b_max : mg "max" = none
  b_min : mg "min" = none
  b_range : mg "range" = none
  b_reversed : mg "reversed" = none
  b_str : mg "str" = none
  b_sum : mg "sum" = none
  b_tuple : mg "tuple" = none
  b_zip : mg "zip" = none
  f_is_layer : ∃ fd, Fun K "is_layer" "is_layer" s_is_layer (ad 0) fd ∧ Binds K fd ["layer"] []
  g_is_layer : mg "is_layer" = some (.ref (ad 0))
  f_is_joint : ∃ fd, Fun K "is_joint" "is_joint" s_is_joint (ad 1) fd ∧ Binds K fd ["joint"] []
  g_is_joint : mg "is_joint" = some (.ref (ad 1))
  f_written_layer : ∃ fd, Fun K "written_layer" "written_layer" s_written_layer (ad 2) fd ∧ Binds K fd ["layer"] []
  g_written_layer : mg "written_layer" = some (.ref (ad 2))
  f_Core___init__ : ∃ fd, FunD K "__init__" "Core.__init__" (defArgs s_Core___init__) (defBody s_Core___init__) (defScope s_Core___init__) [.non] [] (ad 3) fd ∧ Binds K fd ["self", "layers", "joints"] []
  f_Core___len__ : ∃ fd, Fun K "__len__" "Core.__len__" s_Core___len__ (ad 4) fd ∧ Binds K fd ["self"] []
  o1_Core___len__ : Op1 K (cl 8) "__len__" (ad 4)
  f_Core___getitem__ : ∃ fd, Fun K "__getitem__" "Core.__getitem__" s_Core___getitem__ (ad 5) fd ∧ Binds K fd ["self", "k"] []
  m_Core___getitem__ : Meth K (cl 8) "__getitem__" (ad 5)
  f_Core_joint : ∃ fd, Fun K "joint" "Core.joint" s_Core_joint (ad 6) fd ∧ Binds K fd ["self", "k"] []
  m_Core_joint : Meth K (cl 8) "joint" (ad 6)
  f_Core_thickness : ∃ fd, Fun K "thickness" "Core.thickness" s_Core_thickness (ad 7) fd ∧ Binds K fd ["self"] []
  p_Core_thickness : PropOf K (cl 8) "thickness" (ad 40) (ad 7)
  f_Record___init__ : ∃ fd, Fun K "__init__" "Record.__init__" s_Record___init__ (ad 8) fd ∧ Binds K fd ["self", "steps"] []
  f_Record___add__ : ∃ fd, Fun K "__add__" "Record.__add__" s_Record___add__ (ad 9) fd ∧ Binds K fd ["self", "other"] []
  o_Record___add__ : OpC K (cl 9) "__add__" (ad 9)
  f_Record_lefts : ∃ fd, Fun K "lefts" "Record.lefts" s_Record_lefts (ad 10) fd ∧ Binds K fd ["self"] []
  p_Record_lefts : PropOf K (cl 9) "lefts" (ad 41) (ad 10)
  f_Record_rights : ∃ fd, Fun K "rights" "Record.rights" s_Record_rights (ad 11) fd ∧ Binds K fd ["self"] []
  p_Record_rights : PropOf K (cl 9) "rights" (ad 42) (ad 11)
  f_picture : ∃ fd, Fun K "picture" "picture" s_picture (ad 12) fd ∧ Binds K fd ["record", "left", "right"] []
  g_picture : mg "picture" = some (.ref (ad 12))
  f__law_mix : ∃ fd, Fun K "_law_mix" "_law_mix" s__law_mix (ad 13) fd ∧ Binds K fd ["_law_cell", "_law_turn"] []
  g__law_mix : mg "_law_mix" = some (.ref (ad 13))
  f__law_pool : ∃ fd, Fun K "_law_pool" "_law_pool" s__law_pool (ad 14) fd ∧ Binds K fd ["_law_script", "_law_many"] []
  g__law_pool : mg "_law_pool" = some (.ref (ad 14))
  f__law_draw : ∃ fd, Fun K "_law_draw" "_law_draw" s__law_draw (ad 15) fd ∧ Binds K fd ["_law_pool_here", "_law_bound"] []
  g__law_draw : mg "_law_draw" = some (.ref (ad 15))
  f__law_number : ∃ fd, Fun K "_law_number" "_law_number" s__law_number (ad 16) fd ∧ Binds K fd ["_law_pool_here"] []
  g__law_number : mg "_law_number" = some (.ref (ad 16))
  f__law_kind : ∃ fd, Fun K "_law_kind" "_law_kind" s__law_kind (ad 17) fd ∧ Binds K fd ["_law_pool_here"] []
  g__law_kind : mg "_law_kind" = some (.ref (ad 17))
  f__law_path : ∃ fd, Fun K "_law_path" "_law_path" s__law_path (ad 18) fd ∧ Binds K fd ["_law_pool_here", "_law_lefts", "_law_rights"] []
  g__law_path : mg "_law_path" = some (.ref (ad 18))
  f__law_names : ∃ fd, Fun K "_law_names" "_law_names" s__law_names (ad 19) fd ∧ Binds K fd ["_law_lefts", "_law_rights", "_law_paths"] []
  g__law_names : mg "_law_names" = some (.ref (ad 19))
  f__law_lost : ∃ fd, Fun K "_law_lost" "_law_lost" s__law_lost (ad 20) fd ∧ Binds K fd ["_law_steps", "_law_lefts", "_law_rights"] []
  g__law_lost : mg "_law_lost" = some (.ref (ad 20))
  f__law_joints : ∃ fd, Fun K "_law_joints" "_law_joints" s__law_joints (ad 21) fd ∧ Binds K fd ["_law_pool_here", "_law_one", "_law_other"] []
  g__law_joints : mg "_law_joints" = some (.ref (ad 21))
  f__law_world : ∃ fd, Fun K "_law_world" "_law_world" s__law_world (ad 22) fd ∧ Binds K fd ["_law_pool_here", "_law_sizes", "_law_paths"] []
  g__law_world : mg "_law_world" = some (.ref (ad 22))
  f__law_cores : ∃ fd, Fun K "_law_cores" "_law_cores" s__law_cores (ad 23) fd ∧ Binds K fd ["_law_world_here"] []
  g__law_cores : mg "_law_cores" = some (.ref (ad 23))
  f__law_whole : ∃ fd, Fun K "_law_whole" "_law_whole" s__law_whole (ad 24) fd ∧ Binds K fd ["_law_number_here"] []
  g__law_whole : mg "_law_whole" = some (.ref (ad 24))
  f__law_same : ∃ fd, Fun K "_law_same" "_law_same" s__law_same (ad 25) fd ∧ Binds K fd ["_law_core", "_law_layers", "_law_joints_here"] []
  g__law_same : mg "_law_same" = some (.ref (ad 25))
  f__law_commas : ∃ fd, Fun K "_law_commas" "_law_commas" s__law_commas (ad 26) fd ∧ Binds K fd ["_law_number_here"] []
  g__law_commas : mg "_law_commas" = some (.ref (ad 26))
  f__law_total : ∃ fd, Fun K "_law_total" "_law_total" s__law_total (ad 27) fd ∧ Binds K fd ["_law_layers"] []
  g__law_total : mg "_law_total" = some (.ref (ad 27))
  f__law_line : ∃ fd, Fun K "_law_line" "_law_line" s__law_line (ad 28) fd ∧ Binds K fd ["_law_one", "_law_sign", "_law_other"] []
  g__law_line : mg "_law_line" = some (.ref (ad 28))
  f__law_due : ∃ fd, Fun K "_law_due" "_law_due" s__law_due (ad 29) fd ∧ Binds K fd ["_law_steps", "_law_world_here"] []
  g__law_due : mg "_law_due" = some (.ref (ad 29))
  f__law_unlike : ∃ fd, Fun K "_law_unlike" "_law_unlike" s__law_unlike (ad 30) fd ∧ Binds K fd ["_law_record", "_law_cores_here"] []
  g__law_unlike : mg "_law_unlike" = some (.ref (ad 30))
  f__law_far : ∃ fd, Fun K "_law_far" "_law_far" s__law_far (ad 31) fd ∧ Binds K fd ["_law_pool_here", "_law_steps"] []
  g__law_far : mg "_law_far" = some (.ref (ad 31))
  f_law : ∃ fd, Fun K "law" "law" s_law (ad 32) fd ∧ Binds K fd ["_law_script"] []
  g_law : mg "law" = some (.ref (ad 32))
  g_Core : mg "Core" = some (.ref (cl 8))
  k_Core : ClsOk K (Zz w K cl) 8
  na_Core_layers : NoAttr K (cl 8) "layers"
  na_Core_joints : NoAttr K (cl 8) "joints"
  mk_Core : Mk K (cl 8) (ad 3)
  g_Record : mg "Record" = some (.ref (cl 9))
  k_Record : ClsOk K (Zz w K cl) 9
  na_Record_steps : NoAttr K (cl 9) "steps"
  na_Record_rows : NoAttr K (cl 9) "rows"
  mk_Record : Mk K (cl 9) (ad 8)
  g_SiltError : mg "SiltError" = some (.ref (cl 10))
  gs_LETTERS : ∃ t, mg "LETTERS" = some (.str "abcdefghijklmnopqrstuvwxyz" t)
  gi_Core : GetOk K (cl 8) (ad 5)
  cr_Core : ClX.CRead K (cl 8) (.type "type")
  cv_Core_MOST : ∃ t, ClX.CVal K (cl 8) (.type "type") "MOST" (.int 20) (.int 20 t)
  f_Core___iter__ : ∃ fd, Fun K "__iter__" "Core.__iter__" s_Core___iter__ (ad 38) fd ∧ Binds K fd ["self"] []
  b_iter : mg "iter" = none
  it_Core : Op1 K (cl 8) "__iter__" (ad 38)
  f_Record___iter__ : ∃ fd, Fun K "__iter__" "Record.__iter__" s_Record___iter__ (ad 39) fd ∧ Binds K fd ["self"] []
  it_Record : Op1 K (cl 9) "__iter__" (ad 39)
  g_BadCore : mg "BadCore" = some (.ref (cl 0))
  xt_BadCore : ExT K (cl 0)
  g_BadLayer : mg "BadLayer" = some (.ref (cl 1))
  o_BadLayer : OexC K (cl 1)
  i_BadLayer : PySem.W.findIn K (.ref (cl 1)) "__init__" = some (some (.ref (ad 33)))
  t_BadLayer : PySem.W.typeIn K (.ref (ad 33)) = some (.type "function")
  nx_BadLayer_index : PySem.W.findIn K (.ref (cl 1)) "index" = some none
  f_BadLayer___init__ : ∃ fd, Fun K "__init__" "BadLayer.__init__" s_BadLayer___init__ (ad 33) fd ∧ Binds K fd ["self", "index"] []
  g_BadJoint : mg "BadJoint" = some (.ref (cl 2))
  o_BadJoint : OexC K (cl 2)
  i_BadJoint : PySem.W.findIn K (.ref (cl 2)) "__init__" = some (some (.ref (ad 34)))
  t_BadJoint : PySem.W.typeIn K (.ref (ad 34)) = some (.type "function")
  nx_BadJoint_index : PySem.W.findIn K (.ref (cl 2)) "index" = some none
  f_BadJoint___init__ : ∃ fd, Fun K "__init__" "BadJoint.__init__" s_BadJoint___init__ (ad 34) fd ∧ Binds K fd ["self", "index"] []
  g_BadRecord : mg "BadRecord" = some (.ref (cl 3))
  o_BadRecord : OexC K (cl 3)
  i_BadRecord : PySem.W.findIn K (.ref (cl 3)) "__init__" = some (some (.ref (ad 35)))
  t_BadRecord : PySem.W.typeIn K (.ref (ad 35)) = some (.type "function")
  nx_BadRecord_index : PySem.W.findIn K (.ref (cl 3)) "index" = some none
  f_BadRecord___init__ : ∃ fd, Fun K "__init__" "BadRecord.__init__" s_BadRecord___init__ (ad 35) fd ∧ Binds K fd ["self", "index"] []
  g_NoLayer : mg "NoLayer" = some (.ref (cl 4))
  o_NoLayer : OexC K (cl 4)
  i_NoLayer : PySem.W.findIn K (.ref (cl 4)) "__init__" = some (some (.ref (ad 36)))
  t_NoLayer : PySem.W.typeIn K (.ref (ad 36)) = some (.type "function")
  nx_NoLayer_index : PySem.W.findIn K (.ref (cl 4)) "index" = some none
  f_NoLayer___init__ : ∃ fd, Fun K "__init__" "NoLayer.__init__" s_NoLayer___init__ (ad 36) fd ∧ Binds K fd ["self", "index"] []
  g_NoJoint : mg "NoJoint" = some (.ref (cl 5))
  o_NoJoint : OexC K (cl 5)
  i_NoJoint : PySem.W.findIn K (.ref (cl 5)) "__init__" = some (some (.ref (ad 37)))
  t_NoJoint : PySem.W.typeIn K (.ref (ad 37)) = some (.type "function")
  nx_NoJoint_index : PySem.W.findIn K (.ref (cl 5)) "index" = some none
  f_NoJoint___init__ : ∃ fd, Fun K "__init__" "NoJoint.__init__" s_NoJoint___init__ (ad 37) fd ∧ Binds K fd ["self", "index"] []
  g_Unlike : mg "Unlike" = some (.ref (cl 6))
  xt_Unlike : ExT K (cl 6)
  g_NotFitting : mg "NotFitting" = some (.ref (cl 7))
  xt_NotFitting : ExT K (cl 7)
  xi : ∀ c, c < 8 → XiC K (cl c)
  xe_SiltError : ∀ c, c < 8 → PySem.W.exmOne K (.ref (cl c)) (.ref (cl 10)) = some (x_SiltError c)
  xk_NotFitting : ∀ c, c < 8 → PySem.W.kitOne K (.ref (cl c)) (.ref (cl 7)) = some (x_NotFitting c)
  xk_Unlike : ∀ c, c < 8 → PySem.W.kitOne K (.ref (cl c)) (.ref (cl 6)) = some (x_Unlike c)
  xk_ValueError : ∀ c, c < 8 → PySem.W.kitOne K (.ref (cl c)) (.type "ValueError") = some (x_ValueError c)
  ik_Core : ∀ ty b, i_Core ty = some b → PySem.W.kitOne K (tyVal (Zz w K cl) ty) (.ref (cl 8)) = some b
  ic_Core : ∀ c b, i_Core (.c c) = some b → IsiC K (cl c)
  ik_bool : ∀ ty b, i_bool ty = some b → PySem.W.kitOne K (tyVal (Zz w K cl) ty) (.type "bool") = some b
  ic_bool : ∀ c b, i_bool (.c c) = some b → IsiC K (cl c)
  ik_int : ∀ ty b, i_int ty = some b → PySem.W.kitOne K (tyVal (Zz w K cl) ty) (.type "int") = some b
  ic_int : ∀ c b, i_int (.c c) = some b → IsiC K (cl c)
  ik_list : ∀ ty b, i_list ty = some b → PySem.W.kitOne K (tyVal (Zz w K cl) ty) (.type "list") = some b
  ic_list : ∀ c b, i_list (.c c) = some b → IsiC K (cl c)
  ik_tuple : ∀ ty b, i_tuple ty = some b → PySem.W.kitOne K (tyVal (Zz w K cl) ty) (.type "tuple") = some b
  ic_tuple : ∀ c b, i_tuple (.c c) = some b → IsiC K (cl c)
  d_SWAPPED : DctS w K mg "SWAPPED" d_SWAPPED
section
variable {P : Program} {w : World} {K : PySem.W.Frag} {mg : Str → Option Value} {base : Heap} {ad cl : Nat → Addr}
theorem it_Core (T : Tx P w K mg ad cl) : ItOk P w K mg base (cl 8) (ad 38) "layers" := by
  obtain ⟨fd, F, bd⟩ := T.f_Core___iter__
  exact ⟨T.it_Core.hs, T.it_Core.fn, fd, itN F sc_Core___iter__ T.b_iter rfl rfl rfl, bd⟩
theorem it_Record (T : Tx P w K mg ad cl) : ItOk P w K mg base (cl 9) (ad 39) "rows" := by
  obtain ⟨fd, F, bd⟩ := T.f_Record___iter__
  exact ⟨T.it_Record.hs, T.it_Record.fn, fd, itN F sc_Record___iter__ T.b_iter rfl rfl rfl, bd⟩
theorem io_BadLayer (T : Tx P w K mg ad cl) : IOk P w K mg base (ad 33) ["self", "index"] (spI1 K "index") := by
  obtain ⟨fd, F, bd⟩ := T.f_BadLayer___init__
  refine ⟨⟨fd, F.ok sc_BadLayer___init__ (fun vs H Q E h => ?_) (fun cdv A outer s H vs Q E hr h => ?_), bd⟩⟩
  · obtain ⟨a, C, v, rfl, _⟩ := h
    rfl
  · obtain ⟨a, C, v, rfl, TT, nf, hx, k⟩ := h
    refine ⟨_, pss_one (ps_ost (pv 0) (pv 1)), ?_⟩
    exact ⟨_, rfl, _, rfl, a, C, rfl, TT, nf, .inl ⟨hx, fun dx h1 h2 => k dx h1 h2⟩⟩
theorem x1_BadLayer (T : Tx P w K mg ad cl) : Ex1 P w K mg base (Zz w K cl) 1 "index" (ad 33) ["self", "index"] := ⟨T.o_BadLayer, T.i_BadLayer, T.t_BadLayer, T.nx_BadLayer_index, rfl, io_BadLayer T⟩
theorem io_BadJoint (T : Tx P w K mg ad cl) : IOk P w K mg base (ad 34) ["self", "index"] (spI1 K "index") := by
  obtain ⟨fd, F, bd⟩ := T.f_BadJoint___init__
  refine ⟨⟨fd, F.ok sc_BadJoint___init__ (fun vs H Q E h => ?_) (fun cdv A outer s H vs Q E hr h => ?_), bd⟩⟩
  · obtain ⟨a, C, v, rfl, _⟩ := h
    rfl
  · obtain ⟨a, C, v, rfl, TT, nf, hx, k⟩ := h
    refine ⟨_, pss_one (ps_ost (pv 0) (pv 1)), ?_⟩
    exact ⟨_, rfl, _, rfl, a, C, rfl, TT, nf, .inl ⟨hx, fun dx h1 h2 => k dx h1 h2⟩⟩
theorem x1_BadJoint (T : Tx P w K mg ad cl) : Ex1 P w K mg base (Zz w K cl) 2 "index" (ad 34) ["self", "index"] := ⟨T.o_BadJoint, T.i_BadJoint, T.t_BadJoint, T.nx_BadJoint_index, rfl, io_BadJoint T⟩
theorem io_BadRecord (T : Tx P w K mg ad cl) : IOk P w K mg base (ad 35) ["self", "index"] (spI1 K "index") := by
  obtain ⟨fd, F, bd⟩ := T.f_BadRecord___init__
  refine ⟨⟨fd, F.ok sc_BadRecord___init__ (fun vs H Q E h => ?_) (fun cdv A outer s H vs Q E hr h => ?_), bd⟩⟩
  · obtain ⟨a, C, v, rfl, _⟩ := h
    rfl
  · obtain ⟨a, C, v, rfl, TT, nf, hx, k⟩ := h
    refine ⟨_, pss_one (ps_ost (pv 0) (pv 1)), ?_⟩
    exact ⟨_, rfl, _, rfl, a, C, rfl, TT, nf, .inl ⟨hx, fun dx h1 h2 => k dx h1 h2⟩⟩
theorem x1_BadRecord (T : Tx P w K mg ad cl) : Ex1 P w K mg base (Zz w K cl) 3 "index" (ad 35) ["self", "index"] := ⟨T.o_BadRecord, T.i_BadRecord, T.t_BadRecord, T.nx_BadRecord_index, rfl, io_BadRecord T⟩
theorem io_NoLayer (T : Tx P w K mg ad cl) : IOk P w K mg base (ad 36) ["self", "index"] (spI1 K "index") := by
  obtain ⟨fd, F, bd⟩ := T.f_NoLayer___init__
  refine ⟨⟨fd, F.ok sc_NoLayer___init__ (fun vs H Q E h => ?_) (fun cdv A outer s H vs Q E hr h => ?_), bd⟩⟩
  · obtain ⟨a, C, v, rfl, _⟩ := h
    rfl
  · obtain ⟨a, C, v, rfl, TT, nf, hx, k⟩ := h
    refine ⟨_, pss_one (ps_ost (pv 0) (pv 1)), ?_⟩
    exact ⟨_, rfl, _, rfl, a, C, rfl, TT, nf, .inl ⟨hx, fun dx h1 h2 => k dx h1 h2⟩⟩
theorem x1_NoLayer (T : Tx P w K mg ad cl) : Ex1 P w K mg base (Zz w K cl) 4 "index" (ad 36) ["self", "index"] := ⟨T.o_NoLayer, T.i_NoLayer, T.t_NoLayer, T.nx_NoLayer_index, rfl, io_NoLayer T⟩
theorem io_NoJoint (T : Tx P w K mg ad cl) : IOk P w K mg base (ad 37) ["self", "index"] (spI1 K "index") := by
  obtain ⟨fd, F, bd⟩ := T.f_NoJoint___init__
  refine ⟨⟨fd, F.ok sc_NoJoint___init__ (fun vs H Q E h => ?_) (fun cdv A outer s H vs Q E hr h => ?_), bd⟩⟩
  · obtain ⟨a, C, v, rfl, _⟩ := h
    rfl
  · obtain ⟨a, C, v, rfl, TT, nf, hx, k⟩ := h
    refine ⟨_, pss_one (ps_ost (pv 0) (pv 1)), ?_⟩
    exact ⟨_, rfl, _, rfl, a, C, rfl, TT, nf, .inl ⟨hx, fun dx h1 h2 => k dx h1 h2⟩⟩
theorem x1_NoJoint (T : Tx P w K mg ad cl) : Ex1 P w K mg base (Zz w K cl) 5 "index" (ad 37) ["self", "index"] := ⟨T.o_NoJoint, T.i_NoJoint, T.t_NoJoint, T.nx_NoJoint_index, rfl, io_NoJoint T⟩
theorem ok_is_layer (T : Tx P w K mg ad cl) : DOk P w K mg base 1 (ad 0) ["layer"] (spD (Zz w K cl) f_is_layer 1) := by
  obtain ⟨fd, F, bd⟩ := T.f_is_layer
  refine ⟨⟨fd, fnD F sc_is_layer (body := b_is_layer) rfl rfl fun cdv A outer s H E hr => ?_, bd⟩, F.kp⟩
  have tk := L2N.takes_of (X := cxOf (L2N.CX P w) P w K mg base n_is_layer "is_layer" (defScope s_is_layer) (ad 0) cdv A outer s H E) (E := E) rfl rfl rfl rfl
  have tw := tw_of tk
  exact (ds_cons (ds_asg (dv 0) (dg_tup rfl rfl (dgs_cons (dg_name (i := 1) sc_is_layer.nd) (dgs_cons (dg_name (i := 2) sc_is_layer.nd) dgs_nil)))) (ds_one (ds_ret (de_and (de_chain c_le c_le de_int (de_callB call_len (ok_len rfl) T.b_len PySem.boot_len (da_cons (dv 1) da_nil)) de_int) (de_and (de_callB (cr_all rfl) (ok_all rfl) T.b_all (by decide +kernel) (da_cons (de_settle (de_lcC (own := [("char", 3)]) rfl sc_is_layer.nd (blkOk_by (own := [("char", 3)]) (N := n_is_layer) (sc := defScope s_is_layer) (by decide +kernel)) (by decide) (di_str (dv 1)) (fun _ _ _ _ _ => (dg_name (i := 3) sc_is_layer.nd)) (fun _ _ _ _ _ => dts_nil) (fun _ _ _ _ _ => (de_cmpK c_inS (dv 3) (de_gstr T.gs_LETTERS))))) da_nil)) (de_one (de_cmpK c_ge (dv 2) de_int)))))))
theorem ok_is_joint (T : Tx P w K mg ad cl) : DOk P w K mg base 1 (ad 1) ["joint"] (spD (Zz w K cl) f_is_joint 1) := by
  obtain ⟨fd, F, bd⟩ := T.f_is_joint
  refine ⟨⟨fd, fnD F sc_is_joint (body := b_is_joint) rfl rfl fun cdv A outer s H E hr => ?_, bd⟩, F.kp⟩
  have tk := L2N.takes_of (X := cxOf (L2N.CX P w) P w K mg base n_is_joint "is_joint" (defScope s_is_joint) (ad 1) cdv A outer s H E) (E := E) rfl rfl rfl rfl
  have tw := tw_of tk
  exact (ds_cons (ds_asg (dv 0) (dg_tup rfl rfl (dgs_cons (dg_name (i := 1) sc_is_joint.nd) (dgs_cons (dg_name (i := 2) sc_is_joint.nd) dgs_nil)))) (ds_one (ds_ret (de_and (de_cmpK c_ge (dv 1) de_int) (de_one (de_or (de_cmpK c_isN (dv 2) de_non) (de_one (de_cmpK c_le (dv 1) (dv 2)))))))))
theorem ok_written_layer (T : Tx P w K mg ad cl) : DOk P w K mg base 1 (ad 2) ["layer"] (spD (Zz w K cl) f_written_layer 1) := by
  obtain ⟨fd, F, bd⟩ := T.f_written_layer
  refine ⟨⟨fd, fnD F sc_written_layer (body := b_written_layer) rfl rfl fun cdv A outer s H E hr => ?_, bd⟩, F.kp⟩
  have tk := L2N.takes_of (X := cxOf (L2N.CX P w) P w K mg base n_written_layer "written_layer" (defScope s_written_layer) (ad 2) cdv A outer s H E) (E := E) rfl rfl rfl rfl
  have tw := tw_of tk
  exact (ds_one (ds_ret (de_joined (dj_cons (de_fmt (de_ix rfl (dv 0) de_int)) (dj_cons de_str (dj_cons (de_fmt (de_ix rfl (dv 0) de_int)) dj_nil))))))
theorem ok_Core___init__ (T : Tx P w K mg ad cl) : DOk P w K mg base 3 (ad 3) ["self", "layers", "joints"] (spD (Zz w K cl) f_Core___init__ 3) := by
  obtain ⟨fd, F, bd⟩ := T.f_Core___init__
  refine ⟨⟨fd, fnDD F sc_Core___init__ (body := b_Core___init__) rfl rfl fun cdv A outer s H E hr => ?_, bd⟩, F.kp⟩
  have tk := L2N.takes_of (X := cxOf (L2N.CX P w) P w K mg base n_Core___init__ "Core.__init__" (defScope s_Core___init__) (ad 3) cdv A outer s H E) (E := E) rfl rfl rfl rfl
  have tw := tw_of tk
  exact (ds_cons (ds_if (dt_cmp c_gt (de_callB call_len (ok_len rfl) T.b_len PySem.boot_len (da_cons (dv 1) da_nil)) (de_clsConI T.g_Core T.cr_Core T.cv_Core_MOST)) (ds_one (ds_raiseT rfl tk T.xt_BadCore T.g_BadCore)) ds_nil) (ds_cons (ds_for (passes_of rfl) (di_enum rfl T.b_enumerate (da_cons (dv 1) da_nil)) (dg_tup rfl rfl (dgs_cons (dg_name (i := 3) sc_Core___init__.nd) (dgs_cons (dg_name (i := 4) sc_Core___init__.nd) dgs_nil))) (ds_one (ds_if (dt_not (dt_val (de_callD (ok_is_layer (P := P) (w := w) (base := base) T) (hr.mono (by decide)) T.g_is_layer tw (da_cons (dv 4) da_nil)))) (ds_one (ds_raise1D rfl rfl tk (x1_BadLayer (P := P) (w := w) (base := base) T) (hr.mono (by decide)) T.g_BadLayer (da_cons (dv 3) da_nil))) ds_nil))) (ds_cons (ds_if (dt_cmp c_isN (dv 2) de_non) (ds_one (ds_set (i := 2) sc_Core___init__.nd (de_repL (de_lst (da_cons (de_tup (da_cons de_int (da_cons de_non da_nil))) da_nil)) (de_add (de_callB call_len (ok_len rfl) T.b_len PySem.boot_len (da_cons (dv 1) da_nil)) de_int)))) ds_nil) (ds_cons (ds_if (dt_cmp (c_ne rfl hr) (de_callB call_len (ok_len rfl) T.b_len PySem.boot_len (da_cons (dv 2) da_nil)) (de_add (de_callB call_len (ok_len rfl) T.b_len PySem.boot_len (da_cons (dv 1) da_nil)) de_int)) (ds_one (ds_raiseT rfl tk T.xt_BadCore T.g_BadCore)) ds_nil) (ds_cons (ds_for (passes_of rfl) (di_enum rfl T.b_enumerate (da_cons (dv 2) da_nil)) (dg_tup rfl rfl (dgs_cons (dg_name (i := 3) sc_Core___init__.nd) (dgs_cons (dg_name (i := 5) sc_Core___init__.nd) dgs_nil))) (ds_one (ds_if (dt_not (dt_val (de_callD (ok_is_joint (P := P) (w := w) (base := base) T) (hr.mono (by decide)) T.g_is_joint tw (da_cons (dv 5) da_nil)))) (ds_one (ds_raise1D rfl rfl tk (x1_BadJoint (P := P) (w := w) (base := base) T) (hr.mono (by decide)) T.g_BadJoint (da_cons (dv 3) da_nil))) ds_nil))) (ds_cons (ds_fld (dv 0) (de_callTy call_list_of (ok_listI rfl) T.b_list (by decide +kernel) (da_cons (dv 1) da_nil)) rfl T.k_Core T.na_Core_layers rfl (by show (flds 8).length < 1000; decide)) (ds_one (ds_fld (dv 0) (de_callTy call_list_of (ok_listI rfl) T.b_list (by decide +kernel) (da_cons (dv 2) da_nil)) rfl T.k_Core T.na_Core_joints rfl (by show (flds 8).length < 1000; decide)))))))))
theorem ok_Core___len__ (T : Tx P w K mg ad cl) : DOk P w K mg base 1 (ad 4) ["self"] (spD (Zz w K cl) f_Core___len__ 1) := by
  obtain ⟨fd, F, bd⟩ := T.f_Core___len__
  refine ⟨⟨fd, fnD F sc_Core___len__ (body := b_Core___len__) rfl rfl fun cdv A outer s H E hr => ?_, bd⟩, F.kp⟩
  have tk := L2N.takes_of (X := cxOf (L2N.CX P w) P w K mg base n_Core___len__ "Core.__len__" (defScope s_Core___len__) (ad 4) cdv A outer s H E) (E := E) rfl rfl rfl rfl
  have tw := tw_of tk
  exact (ds_one (ds_ret (de_callB call_len (ok_len rfl) T.b_len PySem.boot_len (da_cons (de_fld (dv 0) rfl T.k_Core T.na_Core_layers rfl) da_nil))))
theorem ok_Core___getitem__ (T : Tx P w K mg ad cl) : DOk P w K mg base 3 (ad 5) ["self", "k"] (spD (Zz w K cl) f_Core___getitem__ 2) := by
  obtain ⟨fd, F, bd⟩ := T.f_Core___getitem__
  refine ⟨⟨fd, fnD F sc_Core___getitem__ (body := b_Core___getitem__) rfl rfl fun cdv A outer s H E hr => ?_, bd⟩, F.kp⟩
  have tk := L2N.takes_of (X := cxOf (L2N.CX P w) P w K mg base n_Core___getitem__ "Core.__getitem__" (defScope s_Core___getitem__) (ad 5) cdv A outer s H E) (E := E) rfl rfl rfl rfl
  have tw := tw_of tk
  exact (ds_cons (ds_if (dt_not (dt_chain c_le c_lt de_int (dv 1) (de_callB call_len (ok_len rfl) T.b_len PySem.boot_len (da_cons (de_fld (dv 0) rfl T.k_Core T.na_Core_layers rfl) da_nil)))) (ds_one (ds_raise1D rfl rfl tk (x1_NoLayer (P := P) (w := w) (base := base) T) (hr.mono (by decide)) T.g_NoLayer (da_cons (dv 1) da_nil))) ds_nil) (ds_one (ds_ret (de_ix rfl (de_fld (dv 0) rfl T.k_Core T.na_Core_layers rfl) (dv 1)))))
theorem ok_Core_joint (T : Tx P w K mg ad cl) : DOk P w K mg base 3 (ad 6) ["self", "k"] (spD (Zz w K cl) f_Core_joint 2) := by
  obtain ⟨fd, F, bd⟩ := T.f_Core_joint
  refine ⟨⟨fd, fnD F sc_Core_joint (body := b_Core_joint) rfl rfl fun cdv A outer s H E hr => ?_, bd⟩, F.kp⟩
  have tk := L2N.takes_of (X := cxOf (L2N.CX P w) P w K mg base n_Core_joint "Core.joint" (defScope s_Core_joint) (ad 6) cdv A outer s H E) (E := E) rfl rfl rfl rfl
  have tw := tw_of tk
  exact (ds_cons (ds_if (dt_not (dt_chain c_le c_lt de_int (dv 1) (de_callB call_len (ok_len rfl) T.b_len PySem.boot_len (da_cons (de_fld (dv 0) rfl T.k_Core T.na_Core_joints rfl) da_nil)))) (ds_one (ds_raise1D rfl rfl tk (x1_NoJoint (P := P) (w := w) (base := base) T) (hr.mono (by decide)) T.g_NoJoint (da_cons (dv 1) da_nil))) ds_nil) (ds_one (ds_ret (de_ix rfl (de_fld (dv 0) rfl T.k_Core T.na_Core_joints rfl) (dv 1)))))
theorem ok_Core_thickness (T : Tx P w K mg ad cl) : DOk P w K mg base 1 (ad 7) ["self"] (spD (Zz w K cl) f_Core_thickness 1) := by
  obtain ⟨fd, F, bd⟩ := T.f_Core_thickness
  refine ⟨⟨fd, fnD F sc_Core_thickness (body := b_Core_thickness) rfl rfl fun cdv A outer s H E hr => ?_, bd⟩, F.kp⟩
  have tk := L2N.takes_of (X := cxOf (L2N.CX P w) P w K mg base n_Core_thickness "Core.thickness" (defScope s_Core_thickness) (ad 7) cdv A outer s H E) (E := E) rfl rfl rfl rfl
  have tw := tw_of tk
  exact (ds_one (ds_ret (de_callB (cr_sum rfl) (ok_sum rfl) T.b_sum (by decide +kernel) (da_cons (de_settle (de_lcC (own := [("layer", 1)]) rfl sc_Core_thickness.nd (blkOk_by (own := [("layer", 1)]) (N := n_Core_thickness) (sc := defScope s_Core_thickness) (by decide +kernel)) (by decide) (di_list rfl (de_fld (dv 0) rfl T.k_Core T.na_Core_layers rfl)) (fun _ _ _ _ _ => (dg_name (i := 1) sc_Core_thickness.nd)) (fun _ _ _ _ _ => dts_nil) (fun _ _ _ _ _ => (de_ix rfl (dv 1) de_int)))) da_nil))))
theorem ok_Record___init__ (T : Tx P w K mg ad cl) : DOk P w K mg base 3 (ad 8) ["self", "steps"] (spD (Zz w K cl) f_Record___init__ 2) := by
  obtain ⟨fd, F, bd⟩ := T.f_Record___init__
  refine ⟨⟨fd, fnD F sc_Record___init__ (body := b_Record___init__) rfl rfl fun cdv A outer s H E hr => ?_, bd⟩, F.kp⟩
  have tk := L2N.takes_of (X := cxOf (L2N.CX P w) P w K mg base n_Record___init__ "Record.__init__" (defScope s_Record___init__) (ad 8) cdv A outer s H E) (E := E) rfl rfl rfl rfl
  have tw := tw_of tk
  exact (ds_cons (ds_set (i := 2) sc_Record___init__.nd (de_lstC da_nil)) (ds_cons (ds_set (i := 3) sc_Record___init__.nd de_int) (ds_cons (ds_set (i := 4) sc_Record___init__.nd de_int) (ds_cons (ds_for (passes_of rfl) (di_enumS T.b_enumerate (da_cons (dv 1) da_nil)) (dg_tup rfl rfl (dgs_cons (dg_name (i := 5) sc_Record___init__.nd) (dgs_cons (dg_name (i := 6) sc_Record___init__.nd) dgs_nil))) (ds_cons (ds_if (dt_notInK T.d_SWAPPED (dv 6)) (ds_one (ds_raise1D rfl rfl tk (x1_BadRecord (P := P) (w := w) (base := base) T) (hr.mono (by decide)) T.g_BadRecord (da_cons (dv 5) da_nil))) ds_nil) (ds_cons (ds_expr (de_append rfl (dv 2) (de_tup (da_cons (de_if (dt_cmp (c_eq rfl hr) (dv 6) de_str) de_non (dv 3)) (da_cons (de_if (dt_cmp (c_eq rfl hr) (dv 6) de_str) de_non (dv 4)) da_nil))))) (ds_cons (ds_set (i := 3) sc_Record___init__.nd (de_add (dv 3) (de_callTy call_int1 ok_int1 T.b_int (by decide +kernel) (da_cons (de_cmpK (c_ne rfl hr) (dv 6) de_str) da_nil)))) (ds_one (ds_set (i := 4) sc_Record___init__.nd (de_add (dv 4) (de_callTy call_int1 ok_int1 T.b_int (by decide +kernel) (da_cons (de_cmpK (c_ne rfl hr) (dv 6) de_str) da_nil))))))))) (ds_cons (ds_fld (dv 0) (dv 1) rfl T.k_Record T.na_Record_steps rfl (by show (flds 9).length < 1000; decide)) (ds_one (ds_frz (ds_fld (dv 0) (dv 2) rfl T.k_Record T.na_Record_rows rfl (by show (flds 9).length < 1000; decide)))))))))
theorem ok_Record___add__ (T : Tx P w K mg ad cl) : DOk P w K mg base 5 (ad 9) ["self", "other"] (spD (Zz w K cl) f_Record___add__ 2) := by
  obtain ⟨fd, F, bd⟩ := T.f_Record___add__
  refine ⟨⟨fd, fnD F sc_Record___add__ (body := b_Record___add__) rfl rfl fun cdv A outer s H E hr => ?_, bd⟩, F.kp⟩
  have tk := L2N.takes_of (X := cxOf (L2N.CX P w) P w K mg base n_Record___add__ "Record.__add__" (defScope s_Record___add__) (ad 9) cdv A outer s H E) (E := E) rfl rfl rfl rfl
  have tw := tw_of tk
  exact (ds_one (ds_ret (de_makeD T.mk_Record (ok_Record___init__ (P := P) (w := w) (base := base) T) (hr.mono (by decide)) T.g_Record tw (da_cons (de_add (de_fld (dv 0) rfl T.k_Record T.na_Record_steps rfl) (de_fld (dv 1) rfl T.k_Record T.na_Record_steps rfl)) da_nil) rfl)))
theorem ok_Record_lefts (T : Tx P w K mg ad cl) : DOk P w K mg base 1 (ad 10) ["self"] (spD (Zz w K cl) f_Record_lefts 1) := by
  obtain ⟨fd, F, bd⟩ := T.f_Record_lefts
  refine ⟨⟨fd, fnD F sc_Record_lefts (body := b_Record_lefts) rfl rfl fun cdv A outer s H E hr => ?_, bd⟩, F.kp⟩
  have tk := L2N.takes_of (X := cxOf (L2N.CX P w) P w K mg base n_Record_lefts "Record.lefts" (defScope s_Record_lefts) (ad 10) cdv A outer s H E) (E := E) rfl rfl rfl rfl
  have tw := tw_of tk
  exact (ds_one (ds_ret (de_sub (de_callB call_len (ok_len rfl) T.b_len PySem.boot_len (da_cons (de_fld (dv 0) rfl T.k_Record T.na_Record_steps rfl) da_nil)) (de_count rfl (de_fld (dv 0) rfl T.k_Record T.na_Record_steps rfl) de_str))))
theorem ok_Record_rights (T : Tx P w K mg ad cl) : DOk P w K mg base 1 (ad 11) ["self"] (spD (Zz w K cl) f_Record_rights 1) := by
  obtain ⟨fd, F, bd⟩ := T.f_Record_rights
  refine ⟨⟨fd, fnD F sc_Record_rights (body := b_Record_rights) rfl rfl fun cdv A outer s H E hr => ?_, bd⟩, F.kp⟩
  have tk := L2N.takes_of (X := cxOf (L2N.CX P w) P w K mg base n_Record_rights "Record.rights" (defScope s_Record_rights) (ad 11) cdv A outer s H E) (E := E) rfl rfl rfl rfl
  have tw := tw_of tk
  exact (ds_one (ds_ret (de_sub (de_callB call_len (ok_len rfl) T.b_len PySem.boot_len (da_cons (de_fld (dv 0) rfl T.k_Record T.na_Record_steps rfl) da_nil)) (de_count rfl (de_fld (dv 0) rfl T.k_Record T.na_Record_steps rfl) de_str))))
theorem ok_picture (T : Tx P w K mg ad cl) : DOk P w K mg base 5 (ad 12) ["record", "left", "right"] (spD (Zz w K cl) f_picture 3) := by
  obtain ⟨fd, F, bd⟩ := T.f_picture
  refine ⟨⟨fd, fnD F sc_picture (body := b_picture) rfl rfl fun cdv A outer s H E hr => ?_, bd⟩, F.kp⟩
  have tk := L2N.takes_of (X := cxOf (L2N.CX P w) P w K mg base n_picture "picture" (defScope s_picture) (ad 12) cdv A outer s H E) (E := E) rfl rfl rfl rfl
  have tw := tw_of tk
  exact (ds_cons (ds_if (PW.pt (dw_or (dt_cmp (c_ne rfl hr) (de_propD (dv 0) T.k_Record T.p_Record_lefts (ok_Record_lefts (P := P) (w := w) (base := base) T) (hr.mono (by decide))) (de_lenO (dv 1) T.o1_Core___len__.hs T.o1_Core___len__.fn (ok_Core___len__ (P := P) (w := w) (base := base) T) (hr.mono (by decide)) rfl T.b_len)) (dw_or1 (dt_cmp (c_ne rfl hr) (de_propD (dv 0) T.k_Record T.p_Record_rights (ok_Record_rights (P := P) (w := w) (base := base) T) (hr.mono (by decide))) (de_lenO (dv 2) T.o1_Core___len__.hs T.o1_Core___len__.fn (ok_Core___len__ (P := P) (w := w) (base := base) T) (hr.mono (by decide)) rfl T.b_len))))) (ds_one (ds_raiseT rfl tk T.xt_Unlike T.g_Unlike)) ds_nil) (ds_cons (ds_set (i := 3) sc_picture.nd (de_lstC (da_cons (de_joined (dj_cons (de_fmtI false (de_propD (dv 1) T.k_Core T.p_Core_thickness (ok_Core_thickness (P := P) (w := w) (base := base) T) (hr.mono (by decide)))) (dj_cons de_str (dj_cons (de_fmtI true (de_propD (dv 2) T.k_Core T.p_Core_thickness (ok_Core_thickness (P := P) (w := w) (base := base) T) (hr.mono (by decide)))) dj_nil)))) da_nil))) (ds_cons (ds_for (passes_of rfl) (di_rev rfl T.b_reversed (da_cons (de_zipO rfl rfl T.k_Record T.na_Record_rows rfl (it_Record (P := P) (w := w) (base := base) T) (hr.mono (by decide)) T.b_zip T.b_list (da_cons (de_fld (dv 0) rfl T.k_Record T.na_Record_steps rfl) (da_cons (dv 0) da_nil))) da_nil)) (dg_tup rfl rfl (dgs_cons (dg_name (i := 4) sc_picture.nd) (dgs_cons (dg_tup rfl rfl (dgs_cons (dg_name (i := 5) sc_picture.nd) (dgs_cons (dg_name (i := 6) sc_picture.nd) dgs_nil))) dgs_nil))) (ds_cons (ds_set (i := 7) sc_picture.nd (de_if (dt_cmp c_isN (dv 5) de_non) de_str (de_callD (ok_written_layer (P := P) (w := w) (base := base) T) (hr.mono (by decide)) T.g_written_layer tw (da_cons (de_ownIx T.gi_Core (ok_Core___getitem__ (P := P) (w := w) (base := base) T) (hr.mono (by decide)) tw (dv 1) (dv 5)) da_nil)))) (ds_cons (ds_set (i := 8) sc_picture.nd (de_if (dt_cmp c_isN (dv 6) de_non) de_str (de_callD (ok_written_layer (P := P) (w := w) (base := base) T) (hr.mono (by decide)) T.g_written_layer tw (da_cons (de_ownIx T.gi_Core (ok_Core___getitem__ (P := P) (w := w) (base := base) T) (hr.mono (by decide)) tw (dv 2) (dv 6)) da_nil)))) (ds_one (ds_expr (de_append rfl (dv 3) (de_joined (dj_cons (de_fmtS false (dv 7)) (dj_cons de_str (dj_cons (de_fmt (dv 4)) (dj_cons de_str (dj_cons (de_fmtS true (dv 8)) dj_nil)))))))))))) (ds_one (ds_frz (ds_ret (dv 3)))))))
theorem ok__law_mix (T : Tx P w K mg ad cl) : DOk P w K mg base 1 (ad 13) ["_law_cell", "_law_turn"] (spD (Zz w K cl) f__law_mix 2) := by
  obtain ⟨fd, F, bd⟩ := T.f__law_mix
  refine ⟨⟨fd, fnD F sc__law_mix (body := b__law_mix) rfl rfl fun cdv A outer s H E hr => ?_, bd⟩, F.kp⟩
  have tk := L2N.takes_of (X := cxOf (L2N.CX P w) P w K mg base n__law_mix "_law_mix" (defScope s__law_mix) (ad 13) cdv A outer s H E) (E := E) rfl rfl rfl rfl
  have tw := tw_of tk
  exact (ds_cons (ds_set (i := 2) sc__law_mix.nd (de_mod (de_callTy call_int1 ok_int1 T.b_int (by decide +kernel) (da_cons (de_add (de_mul (de_mul (dv 0) de_int) (de_add (dv 1) de_int)) (de_mul de_int (dv 1))) da_nil)) de_int)) (ds_one (ds_ret (de_add (dv 2) (de_div (de_mul (dv 2) (dv 2)) de_int)))))
theorem ok__law_pool (T : Tx P w K mg ad cl) : DOk P w K mg base 2 (ad 14) ["_law_script", "_law_many"] (spD (Zz w K cl) f__law_pool 2) := by
  obtain ⟨fd, F, bd⟩ := T.f__law_pool
  refine ⟨⟨fd, fnD F sc__law_pool (body := b__law_pool) rfl rfl fun cdv A outer s H E hr => ?_, bd⟩, F.kp⟩
  have tk := L2N.takes_of (X := cxOf (L2N.CX P w) P w K mg base n__law_pool "_law_pool" (defScope s__law_pool) (ad 14) cdv A outer s H E) (E := E) rfl rfl rfl rfl
  have tw := tw_of tk
  exact (ds_cons (ds_set (i := 2) sc__law_pool.nd (de_lstC da_nil)) (ds_cons (ds_set (i := 3) sc__law_pool.nd de_int) (ds_cons (ds_for (passes_of rfl) (di_range1 T.b_range (da_cons (de_callB (call_min2 rfl) ok_min T.b_min (by decide +kernel) (da_cons (de_callB call_len (ok_len rfl) T.b_len PySem.boot_len (da_cons (dv 0) da_nil)) (da_cons de_int da_nil))) da_nil)) (dg_name (i := 4) sc__law_pool.nd) (ds_cons (ds_set (i := 3) sc__law_pool.nd (de_mod (de_callTy call_int1 ok_int1 T.b_int (by decide +kernel) (da_cons (de_add (dv 3) (de_mul (de_ix rfl (dv 0) (dv 4)) (de_add (dv 4) de_int))) da_nil)) de_int)) (ds_cons (ds_set (i := 5) sc__law_pool.nd (de_callB call_abs ok_abs T.b_abs (by decide +kernel) (da_cons (de_ix rfl (dv 0) (dv 4)) da_nil))) (ds_cons (ds_set (i := 6) sc__law_pool.nd (de_cmpK c_ge (dv 5) (de_pow de_int de_int))) (ds_one (ds_for (passes_of rfl) (di_range1 T.b_range (da_cons de_int da_nil)) (dg_name (i := 7) sc__law_pool.nd) (ds_one (ds_if (PW.pt (dw_and (dt_tru rfl (dv 6)) (dw_and1 (dt_cmp c_gt (dv 5) de_int)))) (ds_cons (ds_expr (de_append rfl (dv 2) (de_mod (de_callTy call_int1 ok_int1 T.b_int (by decide +kernel) (da_cons (dv 5) da_nil)) de_int))) (ds_one (ds_set (i := 5) sc__law_pool.nd (de_div (dv 5) de_int)))) (ds_one (ds_if (PW.pt (dw_and (dt_not (dt_tru rfl (dv 6))) (dw_and1 (dt_cmp c_lt (dv 7) de_int)))) (ds_one (ds_expr (de_append rfl (dv 2) (de_callD (ok__law_mix (P := P) (w := w) (base := base) T) (hr.mono (by decide)) T.g__law_mix tw (da_cons (de_ix rfl (dv 0) (dv 4)) (da_cons (dv 7) da_nil)))))) ds_nil)))))))))) (ds_cons (ds_for (passes_of rfl) (di_range1 T.b_range (da_cons (dv 1) da_nil)) (dg_name (i := 7) sc__law_pool.nd) (ds_one (ds_if (dt_cmp c_lt (de_callB call_len (ok_len rfl) T.b_len PySem.boot_len (da_cons (dv 2) da_nil)) (dv 1)) (ds_one (ds_expr (de_append rfl (dv 2) (de_callD (ok__law_mix (P := P) (w := w) (base := base) T) (hr.mono (by decide)) T.g__law_mix tw (da_cons (dv 3) (da_cons (de_callB call_len (ok_len rfl) T.b_len PySem.boot_len (da_cons (dv 2) da_nil)) da_nil)))))) ds_nil))) (ds_one (ds_ret (dv 2)))))))
theorem ok__law_draw (T : Tx P w K mg ad cl) : DOk P w K mg base 2 (ad 15) ["_law_pool_here", "_law_bound"] (spD (Zz w K cl) f__law_draw 2) := by
  obtain ⟨fd, F, bd⟩ := T.f__law_draw
  refine ⟨⟨fd, fnD F sc__law_draw (body := b__law_draw) rfl rfl fun cdv A outer s H E hr => ?_, bd⟩, F.kp⟩
  have tk := L2N.takes_of (X := cxOf (L2N.CX P w) P w K mg base n__law_draw "_law_draw" (defScope s__law_draw) (ad 15) cdv A outer s H E) (E := E) rfl rfl rfl rfl
  have tw := tw_of tk
  exact (ds_cons (ds_if (dt_cmp (c_eq rfl hr) (de_callB call_len (ok_len rfl) T.b_len PySem.boot_len (da_cons (dv 0) da_nil)) de_int) (ds_one (ds_ret de_int)) ds_nil) (ds_one (ds_ret (de_mod (de_callTy call_int1 ok_int1 T.b_int (by decide +kernel) (da_cons (de_popAt rfl (dv 0) de_int) da_nil)) (dv 1)))))
theorem ok__law_number (T : Tx P w K mg ad cl) : DOk P w K mg base 3 (ad 16) ["_law_pool_here"] (spD (Zz w K cl) f__law_number 1) := by
  obtain ⟨fd, F, bd⟩ := T.f__law_number
  refine ⟨⟨fd, fnD F sc__law_number (body := b__law_number) rfl rfl fun cdv A outer s H E hr => ?_, bd⟩, F.kp⟩
  have tk := L2N.takes_of (X := cxOf (L2N.CX P w) P w K mg base n__law_number "_law_number" (defScope s__law_number) (ad 16) cdv A outer s H E) (E := E) rfl rfl rfl rfl
  have tw := tw_of tk
  exact (ds_cons (ds_set (i := 1) sc__law_number.nd (de_callD (ok__law_draw (P := P) (w := w) (base := base) T) (hr.mono (by decide)) T.g__law_draw tw (da_cons (dv 0) (da_cons de_int da_nil)))) (ds_cons (ds_set (i := 2) sc__law_number.nd (de_callD (ok__law_draw (P := P) (w := w) (base := base) T) (hr.mono (by decide)) T.g__law_draw tw (da_cons (dv 0) (da_cons de_int da_nil)))) (ds_cons (ds_if (dt_cmp (c_eq rfl hr) (dv 1) de_int) (ds_one (ds_for (passes_of rfl) (di_range1 T.b_range (da_cons de_int da_nil)) (dg_name (i := 3) sc__law_number.nd) (ds_one (ds_set (i := 2) sc__law_number.nd (de_add (de_mul (dv 2) de_int) (de_callD (ok__law_draw (P := P) (w := w) (base := base) T) (hr.mono (by decide)) T.g__law_draw tw (da_cons (dv 0) (da_cons de_int da_nil)))))))) ds_nil) (ds_one (ds_ret (de_mod (de_callTy call_int1 ok_int1 T.b_int (by decide +kernel) (da_cons (dv 2) da_nil)) (de_pow de_int de_int)))))))
theorem ok__law_kind (T : Tx P w K mg ad cl) : DOk P w K mg base 3 (ad 17) ["_law_pool_here"] (spD (Zz w K cl) f__law_kind 1) := by
  obtain ⟨fd, F, bd⟩ := T.f__law_kind
  refine ⟨⟨fd, fnD F sc__law_kind (body := b__law_kind) rfl rfl fun cdv A outer s H E hr => ?_, bd⟩, F.kp⟩
  have tk := L2N.takes_of (X := cxOf (L2N.CX P w) P w K mg base n__law_kind "_law_kind" (defScope s__law_kind) (ad 17) cdv A outer s H E) (E := E) rfl rfl rfl rfl
  have tw := tw_of tk
  exact (ds_cons (ds_set (i := 1) sc__law_kind.nd (de_ix rfl (de_lst (da_cons de_int (da_cons de_int (da_cons de_int (da_cons de_int (da_cons de_int (da_cons de_int da_nil))))))) (de_callD (ok__law_draw (P := P) (w := w) (base := base) T) (hr.mono (by decide)) T.g__law_draw tw (da_cons (dv 0) (da_cons de_int da_nil))))) (ds_cons (ds_set (i := 2) sc__law_kind.nd (de_callD (ok__law_draw (P := P) (w := w) (base := base) T) (hr.mono (by decide)) T.g__law_draw tw (da_cons (dv 0) (da_cons (dv 1) da_nil)))) (ds_cons (ds_set (i := 3) sc__law_kind.nd de_str) (ds_cons (ds_set (i := 4) sc__law_kind.nd (de_ix rfl (dv 3) (de_callD (ok__law_draw (P := P) (w := w) (base := base) T) (hr.mono (by decide)) T.g__law_draw tw (da_cons (dv 0) (da_cons (de_ix rfl (de_lst (da_cons de_int (da_cons de_int (da_cons de_int da_nil)))) (de_callD (ok__law_draw (P := P) (w := w) (base := base) T) (hr.mono (by decide)) T.g__law_draw tw (da_cons (dv 0) (da_cons de_int da_nil)))) da_nil))))) (ds_one (ds_ret (de_add (de_add (de_repS de_str (dv 2)) (dv 4)) (de_repS de_str (de_sub (de_sub (dv 1) de_int) (dv 2))))))))))
theorem ok__law_path (T : Tx P w K mg ad cl) : DOk P w K mg base 3 (ad 18) ["_law_pool_here", "_law_lefts", "_law_rights"] (spD (Zz w K cl) f__law_path 3) := by
  obtain ⟨fd, F, bd⟩ := T.f__law_path
  refine ⟨⟨fd, fnD F sc__law_path (body := b__law_path) rfl rfl fun cdv A outer s H E hr => ?_, bd⟩, F.kp⟩
  have tk := L2N.takes_of (X := cxOf (L2N.CX P w) P w K mg base n__law_path "_law_path" (defScope s__law_path) (ad 18) cdv A outer s H E) (E := E) rfl rfl rfl rfl
  have tw := tw_of tk
  exact (ds_cons (ds_set (i := 3) sc__law_path.nd de_str) (ds_cons (ds_set (i := 4) sc__law_path.nd de_int) (ds_cons (ds_set (i := 5) sc__law_path.nd de_int) (ds_cons (ds_for (passes_of rfl) (di_range1 T.b_range (da_cons (de_add (dv 1) (dv 2)) da_nil)) (dg_name (i := 6) sc__law_path.nd) (ds_cons (ds_set (i := 7) sc__law_path.nd (de_ix rfl de_str (de_callD (ok__law_draw (P := P) (w := w) (base := base) T) (hr.mono (by decide)) T.g__law_draw tw (da_cons (dv 0) (da_cons de_int da_nil))))) (ds_cons (ds_if (dt_cmp (c_eq rfl hr) (dv 4) (dv 1)) (ds_one (ds_set (i := 7) sc__law_path.nd de_str)) ds_nil) (ds_cons (ds_if (dt_cmp (c_eq rfl hr) (dv 5) (dv 2)) (ds_one (ds_set (i := 7) sc__law_path.nd de_str)) ds_nil) (ds_one (ds_if (PW.pt (dw_or (dt_cmp c_lt (dv 4) (dv 1)) (dw_or1 (dt_cmp c_lt (dv 5) (dv 2))))) (ds_cons (ds_set (i := 3) sc__law_path.nd (de_add (dv 3) (dv 7))) (ds_cons (ds_set (i := 4) sc__law_path.nd (de_add (dv 4) (de_callTy call_int1 ok_int1 T.b_int (by decide +kernel) (da_cons (de_cmpK (c_ne rfl hr) (dv 7) de_str) da_nil)))) (ds_one (ds_set (i := 5) sc__law_path.nd (de_add (dv 5) (de_callTy call_int1 ok_int1 T.b_int (by decide +kernel) (da_cons (de_cmpK (c_ne rfl hr) (dv 7) de_str) da_nil))))))) ds_nil)))))) (ds_one (ds_ret (dv 3)))))))
theorem ok__law_names (T : Tx P w K mg ad cl) : DOk P w K mg base 2 (ad 19) ["_law_lefts", "_law_rights", "_law_paths"] (spD (Zz w K cl) f__law_names 3) := by
  obtain ⟨fd, F, bd⟩ := T.f__law_names
  refine ⟨⟨fd, fnD F sc__law_names (body := b__law_names) rfl rfl fun cdv A outer s H E hr => ?_, bd⟩, F.kp⟩
  have tk := L2N.takes_of (X := cxOf (L2N.CX P w) P w K mg base n__law_names "_law_names" (defScope s__law_names) (ad 19) cdv A outer s H E) (E := E) rfl rfl rfl rfl
  have tw := tw_of tk
  exact (ds_cons (ds_setLcI (i := 3) (own := [("_law_k", 10)]) rfl sc__law_names.nd (blkOk_by (own := [("_law_k", 10)]) (N := n__law_names) (sc := defScope s__law_names) (by decide +kernel)) (by decide) (di_range1 T.b_range (da_cons (de_add (dv 0) (dv 1)) da_nil)) (fun _ _ _ _ _ => (dg_name (i := 10) sc__law_names.nd)) (fun _ _ _ _ _ => dts_nil) (fun _ _ _ _ _ => (dv 10))) (ds_cons (ds_forC rfl (passes_of rfl) (dv 2) (dg_name (i := 4) sc__law_names.nd) (ds_cons (ds_set (i := 5) sc__law_names.nd de_int) (ds_cons (ds_set (i := 6) sc__law_names.nd de_int) (ds_one (ds_for (passes_of rfl) (di_str (dv 4)) (dg_name (i := 7) sc__law_names.nd) (ds_cons (ds_if (dt_cmp (c_eq rfl hr) (dv 7) de_str) (ds_cons (ds_set (i := 8) sc__law_names.nd (de_ix rfl (dv 3) (de_add (dv 0) (dv 6)))) (ds_cons (ds_set (i := 9) sc__law_names.nd (de_ix rfl (dv 3) (dv 5))) (ds_one (ds_setLcI (i := 3) (own := [("_law_name", 11)]) rfl sc__law_names.nd (blkOk_by (own := [("_law_name", 11)]) (N := n__law_names) (sc := defScope s__law_names) (by decide +kernel)) (by decide) (di_list rfl (dv 3)) (fun _ _ _ _ _ => (dg_name (i := 11) sc__law_names.nd)) (fun _ _ _ _ _ => dts_nil) (fun _ _ _ _ _ => (de_if (dt_cmp (c_eq rfl hr) (dv 11) (dv 8)) (dv 9) (dv 11))))))) ds_nil) (ds_cons (ds_set (i := 5) sc__law_names.nd (de_add (dv 5) (de_callTy call_int1 ok_int1 T.b_int (by decide +kernel) (da_cons (de_cmpK (c_ne rfl hr) (dv 7) de_str) da_nil)))) (ds_one (ds_set (i := 6) sc__law_names.nd (de_add (dv 6) (de_callTy call_int1 ok_int1 T.b_int (by decide +kernel) (da_cons (de_cmpK (c_ne rfl hr) (dv 7) de_str) da_nil)))))))))))) (ds_one (ds_ret (dv 3)))))
theorem ok__law_lost (T : Tx P w K mg ad cl) : DOk P w K mg base 2 (ad 20) ["_law_steps", "_law_lefts", "_law_rights"] (spD (Zz w K cl) f__law_lost 3) := by
  obtain ⟨fd, F, bd⟩ := T.f__law_lost
  refine ⟨⟨fd, fnD F sc__law_lost (body := b__law_lost) rfl rfl fun cdv A outer s H E hr => ?_, bd⟩, F.kp⟩
  have tk := L2N.takes_of (X := cxOf (L2N.CX P w) P w K mg base n__law_lost "_law_lost" (defScope s__law_lost) (ad 20) cdv A outer s H E) (E := E) rfl rfl rfl rfl
  have tw := tw_of tk
  exact (ds_cons (ds_set (i := 3) sc__law_lost.nd (de_lstP (da_cons (de_repLC (de_lst (da_cons de_int da_nil)) (de_add (de_callB call_len (ok_len rfl) T.b_len PySem.boot_len (da_cons (dv 1) da_nil)) de_int)) (da_cons (de_repLC (de_lst (da_cons de_int da_nil)) (de_add (de_callB call_len (ok_len rfl) T.b_len PySem.boot_len (da_cons (dv 2) da_nil)) de_int)) da_nil)))) (ds_cons (ds_set (i := 4) sc__law_lost.nd de_int) (ds_cons (ds_set (i := 5) sc__law_lost.nd de_int) (ds_cons (ds_for (passes_of rfl) (di_str (dv 0)) (dg_name (i := 6) sc__law_lost.nd) (ds_cons (ds_if (dt_cmp (c_eq rfl hr) (dv 6) de_str) (ds_one (ds_setIx (de_ixP rfl (dv 3) de_int) (dv 4) (de_add (de_ix rfl (de_ixP rfl (dv 3) de_int) (dv 4)) (de_ix rfl (de_ix rfl (dv 2) (dv 5)) de_int)))) ds_nil) (ds_cons (ds_if (dt_cmp (c_eq rfl hr) (dv 6) de_str) (ds_one (ds_setIx (de_ixP rfl (dv 3) de_int) (dv 5) (de_add (de_ix rfl (de_ixP rfl (dv 3) de_int) (dv 5)) (de_ix rfl (de_ix rfl (dv 1) (dv 4)) de_int)))) ds_nil) (ds_cons (ds_set (i := 4) sc__law_lost.nd (de_add (dv 4) (de_callTy call_int1 ok_int1 T.b_int (by decide +kernel) (da_cons (de_cmpK (c_ne rfl hr) (dv 6) de_str) da_nil)))) (ds_one (ds_set (i := 5) sc__law_lost.nd (de_add (dv 5) (de_callTy call_int1 ok_int1 T.b_int (by decide +kernel) (da_cons (de_cmpK (c_ne rfl hr) (dv 6) de_str) da_nil))))))))) (ds_one (ds_frzP (ds_ret (dv 3))))))))
theorem ok__law_joints (T : Tx P w K mg ad cl) : DOk P w K mg base 4 (ad 21) ["_law_pool_here", "_law_one", "_law_other"] (spD (Zz w K cl) f__law_joints 3) := by
  obtain ⟨fd, F, bd⟩ := T.f__law_joints
  refine ⟨⟨fd, fnD F sc__law_joints (body := b__law_joints) rfl rfl fun cdv A outer s H E hr => ?_, bd⟩, F.kp⟩
  have tk := L2N.takes_of (X := cxOf (L2N.CX P w) P w K mg base n__law_joints "_law_joints" (defScope s__law_joints) (ad 21) cdv A outer s H E) (E := E) rfl rfl rfl rfl
  have tw := tw_of tk
  exact (ds_cons (ds_set (i := 3) sc__law_joints.nd (de_lstC da_nil)) (ds_cons (ds_for (passes_of rfl) (di_range1 T.b_range (da_cons (de_callB call_len (ok_len rfl) T.b_len PySem.boot_len (da_cons (dv 1) da_nil)) da_nil)) (dg_name (i := 4) sc__law_joints.nd) (ds_cons (ds_set (i := 5) sc__law_joints.nd (de_callB (call_min2 rfl) ok_min T.b_min (by decide +kernel) (da_cons (de_callTy call_int1 ok_int1 T.b_int (by decide +kernel) (da_cons (de_ix rfl (dv 1) (dv 4)) da_nil)) (da_cons (de_callTy call_int1 ok_int1 T.b_int (by decide +kernel) (da_cons (de_ix rfl (dv 2) (dv 4)) da_nil)) da_nil)))) (ds_cons (ds_set (i := 6) sc__law_joints.nd (de_callB (call_max2 rfl) ok_max T.b_max (by decide +kernel) (da_cons (de_callTy call_int1 ok_int1 T.b_int (by decide +kernel) (da_cons (de_ix rfl (dv 1) (dv 4)) da_nil)) (da_cons (de_callTy call_int1 ok_int1 T.b_int (by decide +kernel) (da_cons (de_ix rfl (dv 2) (dv 4)) da_nil)) da_nil)))) (ds_cons (ds_set (i := 5) sc__law_joints.nd (de_ix rfl (de_lst (da_cons de_int (da_cons (dv 5) (da_cons (de_div (dv 5) de_int) da_nil)))) (de_callD (ok__law_draw (P := P) (w := w) (base := base) T) (hr.mono (by decide)) T.g__law_draw tw (da_cons (dv 0) (da_cons de_int da_nil))))) (ds_cons (ds_set (i := 6) sc__law_joints.nd (de_ix rfl (de_lst (da_cons de_non (da_cons (dv 6) (da_cons (de_add (dv 6) (de_callD (ok__law_number (P := P) (w := w) (base := base) T) (hr.mono (by decide)) T.g__law_number tw (da_cons (dv 0) da_nil))) da_nil)))) (de_callD (ok__law_draw (P := P) (w := w) (base := base) T) (hr.mono (by decide)) T.g__law_draw tw (da_cons (dv 0) (da_cons de_int da_nil))))) (ds_one (ds_expr (de_append rfl (dv 3) (de_tup (da_cons (dv 5) (da_cons (dv 6) da_nil))))))))))) (ds_one (ds_frz (ds_ret (dv 3))))))
theorem ok__law_world (T : Tx P w K mg ad cl) : DOk P w K mg base 5 (ad 22) ["_law_pool_here", "_law_sizes", "_law_paths"] (spD (Zz w K cl) f__law_world 3) := by
  obtain ⟨fd, F, bd⟩ := T.f__law_world
  refine ⟨⟨fd, fnD F sc__law_world (body := b__law_world) rfl rfl fun cdv A outer s H E hr => ?_, bd⟩, F.kp⟩
  have tk := L2N.takes_of (X := cxOf (L2N.CX P w) P w K mg base n__law_world "_law_world" (defScope s__law_world) (ad 22) cdv A outer s H E) (E := E) rfl rfl rfl rfl
  have tw := tw_of tk
  exact (ds_cons (ds_set (i := 3) sc__law_world.nd (de_callD (ok__law_names (P := P) (w := w) (base := base) T) (hr.mono (by decide)) T.g__law_names tw (da_cons (de_ix rfl (dv 1) de_int) (da_cons (de_ix rfl (dv 1) de_int) (da_cons (dv 2) da_nil))))) (ds_cons (ds_set (i := 4) sc__law_world.nd (de_settle (de_lcC (own := [("_law_name", 9)]) rfl sc__law_world.nd (blkOk_by (own := [("_law_name", 9)]) (N := n__law_world) (sc := defScope s__law_world) (by decide +kernel)) (by decide) (di_list rfl (dv 3)) (fun _ _ _ _ _ => (dg_name (i := 9) sc__law_world.nd)) (fun _ _ _ _ _ => dts_nil) (fun _ _ _ _ _ => (de_callD (ok__law_kind (P := P) (w := w) (base := base) T) (hr.mono (by decide)) T.g__law_kind tw_none (da_cons (dv 0) da_nil)))))) (ds_cons (ds_setLcI (i := 5) (own := [("_law_k", 10)]) rfl sc__law_world.nd (blkOk_by (own := [("_law_k", 10)]) (N := n__law_world) (sc := defScope s__law_world) (by decide +kernel)) (by decide) (di_range1 T.b_range (da_cons (de_ix rfl (dv 1) de_int) da_nil)) (fun _ _ _ _ _ => (dg_name (i := 10) sc__law_world.nd)) (fun _ _ _ _ _ => dts_nil) (fun _ _ _ _ _ => (de_tup (da_cons (de_ix rfl (dv 4) (de_ix rfl (dv 3) (dv 10))) (da_cons (de_add de_int (de_callD (ok__law_number (P := P) (w := w) (base := base) T) (hr.mono (by decide)) T.g__law_number tw_none (da_cons (dv 0) da_nil))) da_nil))))) (ds_cons (ds_setLcI (i := 6) (own := [("_law_k", 10)]) rfl sc__law_world.nd (blkOk_by (own := [("_law_k", 10)]) (N := n__law_world) (sc := defScope s__law_world) (by decide +kernel)) (by decide) (di_range1 T.b_range (da_cons (de_ix rfl (dv 1) de_int) da_nil)) (fun _ _ _ _ _ => (dg_name (i := 10) sc__law_world.nd)) (fun _ _ _ _ _ => dts_nil) (fun _ _ _ _ _ => (de_tup (da_cons (de_ix rfl (dv 4) (de_ix rfl (dv 3) (de_add (de_ix rfl (dv 1) de_int) (dv 10)))) (da_cons (de_add de_int (de_callD (ok__law_number (P := P) (w := w) (base := base) T) (hr.mono (by decide)) T.g__law_number tw_none (da_cons (dv 0) da_nil))) da_nil))))) (ds_cons (ds_set (i := 7) sc__law_world.nd (de_callD (ok__law_lost (P := P) (w := w) (base := base) T) (hr.mono (by decide)) T.g__law_lost tw (da_cons (de_ix rfl (dv 2) de_int) (da_cons (dv 5) (da_cons (dv 6) da_nil))))) (ds_cons (ds_set (i := 8) sc__law_world.nd (de_callD (ok__law_lost (P := P) (w := w) (base := base) T) (hr.mono (by decide)) T.g__law_lost tw (da_cons (de_ix rfl (dv 2) de_int) (da_cons (dv 5) (da_cons (dv 6) da_nil))))) (ds_one (ds_ret (de_lst (da_cons (dv 5) (da_cons (de_callD (ok__law_joints (P := P) (w := w) (base := base) T) (hr.mono (by decide)) T.g__law_joints tw (da_cons (dv 0) (da_cons (de_ix rfl (dv 7) de_int) (da_cons (de_ix rfl (dv 8) de_int) da_nil)))) (da_cons (dv 6) (da_cons (de_callD (ok__law_joints (P := P) (w := w) (base := base) T) (hr.mono (by decide)) T.g__law_joints tw (da_cons (dv 0) (da_cons (de_ix rfl (dv 7) de_int) (da_cons (de_ix rfl (dv 8) de_int) da_nil)))) da_nil)))))))))))))
theorem ok__law_cores (T : Tx P w K mg ad cl) : DOk P w K mg base 5 (ad 23) ["_law_world_here"] (spD (Zz w K cl) f__law_cores 1) := by
  obtain ⟨fd, F, bd⟩ := T.f__law_cores
  refine ⟨⟨fd, fnD F sc__law_cores (body := b__law_cores) rfl rfl fun cdv A outer s H E hr => ?_, bd⟩, F.kp⟩
  have tk := L2N.takes_of (X := cxOf (L2N.CX P w) P w K mg base n__law_cores "_law_cores" (defScope s__law_cores) (ad 23) cdv A outer s H E) (E := E) rfl rfl rfl rfl
  have tw := tw_of tk
  exact (ds_one (ds_ret (de_lst (da_cons (de_makeD T.mk_Core (ok_Core___init__ (P := P) (w := w) (base := base) T) (hr.mono (by decide)) T.g_Core tw (da_cons (de_callTy call_list_of (ok_listI rfl) T.b_list (by decide +kernel) (da_cons (de_ix rfl (dv 0) de_int) da_nil)) (da_cons (de_callTy call_list_of (ok_listI rfl) T.b_list (by decide +kernel) (da_cons (de_ix rfl (dv 0) de_int) da_nil)) da_nil)) rfl) (da_cons (de_makeD T.mk_Core (ok_Core___init__ (P := P) (w := w) (base := base) T) (hr.mono (by decide)) T.g_Core tw (da_cons (de_callTy call_list_of (ok_listI rfl) T.b_list (by decide +kernel) (da_cons (de_ix rfl (dv 0) de_int) da_nil)) (da_cons (de_callTy call_list_of (ok_listI rfl) T.b_list (by decide +kernel) (da_cons (de_ix rfl (dv 0) de_int) da_nil)) da_nil)) rfl) da_nil)))))
theorem ok__law_whole (T : Tx P w K mg ad cl) : DOk P w K mg base 1 (ad 24) ["_law_number_here"] (spD (Zz w K cl) f__law_whole 1) := by
  obtain ⟨fd, F, bd⟩ := T.f__law_whole
  refine ⟨⟨fd, fnD F sc__law_whole (body := b__law_whole) rfl rfl fun cdv A outer s H E hr => ?_, bd⟩, F.kp⟩
  have tk := L2N.takes_of (X := cxOf (L2N.CX P w) P w K mg base n__law_whole "_law_whole" (defScope s__law_whole) (ad 24) cdv A outer s H E) (E := E) rfl rfl rfl rfl
  have tw := tw_of tk
  exact (ds_one (ds_ret (de_and (de_isi (pe_bltn (v := .ty "int") (u := .type "int") rfl T.b_int (by decide +kernel) rfl) (.ty _) rfl T.ik_int T.ic_int (dv 0) T.b_isinstance) (de_one (de_not (de_isi (pe_bltn (v := .ty "bool") (u := .type "bool") rfl T.b_bool (by decide +kernel) rfl) (.ty _) rfl T.ik_bool T.ic_bool (dv 0) T.b_isinstance))))))
theorem ok__law_same (T : Tx P w K mg ad cl) : DOk P w K mg base 5 (ad 25) ["_law_core", "_law_layers", "_law_joints_here"] (spD (Zz w K cl) f__law_same 3) := by
  obtain ⟨fd, F, bd⟩ := T.f__law_same
  refine ⟨⟨fd, fnD F sc__law_same (body := b__law_same) rfl rfl fun cdv A outer s H E hr => ?_, bd⟩, F.kp⟩
  have tk := L2N.takes_of (X := cxOf (L2N.CX P w) P w K mg base n__law_same "_law_same" (defScope s__law_same) (ad 25) cdv A outer s H E) (E := E) rfl rfl rfl rfl
  have tw := tw_of tk
  exact (ds_cons (ds_if (PW.pt (dw_or (dt_not (dt_val (de_isi (pe_glob (v := .ref (cl 8)) rfl T.g_Core rfl) (.own _) rfl T.ik_Core T.ic_Core (dv 0) T.b_isinstance))) (dw_or1 (dt_cmp (c_ne rfl hr) (de_lenO (dv 0) T.o1_Core___len__.hs T.o1_Core___len__.fn (ok_Core___len__ (P := P) (w := w) (base := base) T) (hr.mono (by decide)) rfl T.b_len) (de_callB call_len (ok_len rfl) T.b_len PySem.boot_len (da_cons (dv 1) da_nil)))))) (ds_one (ds_ret de_bl)) ds_nil) (ds_cons (ds_if (dt_cmp (c_ne rfl hr) (de_settle (de_lcC (own := [("_law_layer", 5)]) rfl sc__law_same.nd (blkOk_by (own := [("_law_layer", 5)]) (N := n__law_same) (sc := defScope s__law_same) (by decide +kernel)) (by decide) (di_own rfl (dv 0) T.k_Core T.na_Core_layers rfl (it_Core (P := P) (w := w) (base := base) T) (hr.mono (by decide))) (fun _ _ _ _ _ => (dg_name (i := 5) sc__law_same.nd)) (fun _ _ _ _ _ => dts_nil) (fun _ _ _ _ _ => (dv 5)))) (dv 1)) (ds_one (ds_ret de_bl)) ds_nil) (ds_cons (ds_set (i := 3) sc__law_same.nd de_int) (ds_cons (ds_for (passes_of rfl) (di_range1 T.b_range (da_cons (de_callB call_len (ok_len rfl) T.b_len PySem.boot_len (da_cons (dv 1) da_nil)) da_nil)) (dg_name (i := 4) sc__law_same.nd) (ds_cons (ds_set (i := 5) sc__law_same.nd (de_ownIx T.gi_Core (ok_Core___getitem__ (P := P) (w := w) (base := base) T) (hr.mono (by decide)) tw (dv 0) (dv 4))) (ds_cons (ds_if (PW.pt (dw_or (dt_not (dt_val (de_isi (pe_bltn (v := .ty "tuple") (u := .type "tuple") rfl T.b_tuple (by decide +kernel) rfl) (.ty _) rfl T.ik_tuple T.ic_tuple (dv 5) T.b_isinstance))) (dw_or (dt_cmp (c_ne rfl hr) (dv 5) (de_ix rfl (dv 1) (dv 4))) (dw_or1 (dt_not (dt_val (de_callD (ok__law_whole (P := P) (w := w) (base := base) T) (hr.mono (by decide)) T.g__law_whole tw (da_cons (de_ix rfl (dv 5) de_int) da_nil)))))))) (ds_one (ds_ret de_bl)) ds_nil) (ds_one (ds_set (i := 3) sc__law_same.nd (de_add (dv 3) (de_ix rfl (de_ix rfl (dv 1) (dv 4)) de_int))))))) (ds_cons (ds_for (passes_of rfl) (di_range1 T.b_range (da_cons (de_callB call_len (ok_len rfl) T.b_len PySem.boot_len (da_cons (dv 2) da_nil)) da_nil)) (dg_name (i := 4) sc__law_same.nd) (ds_cons (ds_set (i := 6) sc__law_same.nd (de_methD (dv 0) T.k_Core T.m_Core_joint (show ("joint" : Str) ∉ flds 8 by decide +kernel) (ok_Core_joint (P := P) (w := w) (base := base) T) (hr.mono (by decide)) tw (da_cons (dv 4) da_nil))) (ds_cons (ds_if (PW.pt (dw_or (dt_not (dt_val (de_isi (pe_bltn (v := .ty "tuple") (u := .type "tuple") rfl T.b_tuple (by decide +kernel) rfl) (.ty _) rfl T.ik_tuple T.ic_tuple (dv 6) T.b_isinstance))) (dw_or (dt_cmp (c_ne rfl hr) (dv 6) (de_ix rfl (dv 2) (dv 4))) (dw_or1 (dt_not (dt_val (de_callD (ok__law_whole (P := P) (w := w) (base := base) T) (hr.mono (by decide)) T.g__law_whole tw (da_cons (de_ix rfl (dv 6) de_int) da_nil)))))))) (ds_one (ds_ret de_bl)) ds_nil) (ds_one (ds_if (PW.pt (dw_and (dt_cmp c_notN (de_ix rfl (dv 6) de_int) de_non) (dw_and1 (dt_not (dt_val (de_callD (ok__law_whole (P := P) (w := w) (base := base) T) (hr.mono (by decide)) T.g__law_whole tw (da_cons (de_ix rfl (dv 6) de_int) da_nil))))))) (ds_one (ds_ret de_bl)) ds_nil))))) (ds_one (ds_ret (de_and (de_callD (ok__law_whole (P := P) (w := w) (base := base) T) (hr.mono (by decide)) T.g__law_whole tw (da_cons (de_propD (dv 0) T.k_Core T.p_Core_thickness (ok_Core_thickness (P := P) (w := w) (base := base) T) (hr.mono (by decide))) da_nil)) (de_one (de_cmpK (c_eq rfl hr) (de_propD (dv 0) T.k_Core T.p_Core_thickness (ok_Core_thickness (P := P) (w := w) (base := base) T) (hr.mono (by decide))) (dv 3)))))))))))
theorem ok__law_commas (T : Tx P w K mg ad cl) : DOk P w K mg base 1 (ad 26) ["_law_number_here"] (spD (Zz w K cl) f__law_commas 1) := by
  obtain ⟨fd, F, bd⟩ := T.f__law_commas
  refine ⟨⟨fd, fnD F sc__law_commas (body := b__law_commas) rfl rfl fun cdv A outer s H E hr => ?_, bd⟩, F.kp⟩
  have tk := L2N.takes_of (X := cxOf (L2N.CX P w) P w K mg base n__law_commas "_law_commas" (defScope s__law_commas) (ad 26) cdv A outer s H E) (E := E) rfl rfl rfl rfl
  have tw := tw_of tk
  exact (ds_cons (ds_set (i := 1) sc__law_commas.nd (de_callTy call_str_int ok_strB T.b_str (by decide +kernel) (da_cons (dv 0) da_nil))) (ds_cons (ds_set (i := 2) sc__law_commas.nd (de_lst da_nil)) (ds_cons (ds_for (passes_of rfl) (di_range1 T.b_range (da_cons de_int da_nil)) (dg_name (i := 3) sc__law_commas.nd) (ds_one (ds_if (dt_cmp c_gt (de_callB call_len (ok_len rfl) T.b_len PySem.boot_len (da_cons (dv 1) da_nil)) de_int) (ds_cons (ds_set (i := 2) sc__law_commas.nd (de_add (de_lst (da_cons (de_slice rfl (dv 1) (dp_some (de_neg de_int)) dp_none) da_nil)) (dv 2))) (ds_one (ds_set (i := 1) sc__law_commas.nd (de_slice rfl (dv 1) dp_none (dp_some (de_neg de_int)))))) ds_nil))) (ds_one (ds_ret (de_join rfl de_str (de_add (de_lst (da_cons (dv 1) da_nil)) (dv 2))))))))
theorem ok__law_total (T : Tx P w K mg ad cl) : DOk P w K mg base 2 (ad 27) ["_law_layers"] (spD (Zz w K cl) f__law_total 1) := by
  obtain ⟨fd, F, bd⟩ := T.f__law_total
  refine ⟨⟨fd, fnD F sc__law_total (body := b__law_total) rfl rfl fun cdv A outer s H E hr => ?_, bd⟩, F.kp⟩
  have tk := L2N.takes_of (X := cxOf (L2N.CX P w) P w K mg base n__law_total "_law_total" (defScope s__law_total) (ad 27) cdv A outer s H E) (E := E) rfl rfl rfl rfl
  have tw := tw_of tk
  exact (ds_cons (ds_set (i := 1) sc__law_total.nd de_int) (ds_cons (ds_for (passes_of rfl) (di_list rfl (dv 0)) (dg_name (i := 2) sc__law_total.nd) (ds_one (ds_set (i := 1) sc__law_total.nd (de_add (dv 1) (de_ix rfl (dv 2) de_int))))) (ds_one (ds_ret (de_callD (ok__law_commas (P := P) (w := w) (base := base) T) (hr.mono (by decide)) T.g__law_commas tw (da_cons (dv 1) da_nil))))))
theorem ok__law_line (T : Tx P w K mg ad cl) : DOk P w K mg base 1 (ad 28) ["_law_one", "_law_sign", "_law_other"] (spD (Zz w K cl) f__law_line 3) := by
  obtain ⟨fd, F, bd⟩ := T.f__law_line
  refine ⟨⟨fd, fnD F sc__law_line (body := b__law_line) rfl rfl fun cdv A outer s H E hr => ?_, bd⟩, F.kp⟩
  have tk := L2N.takes_of (X := cxOf (L2N.CX P w) P w K mg base n__law_line "_law_line" (defScope s__law_line) (ad 28) cdv A outer s H E) (E := E) rfl rfl rfl rfl
  have tw := tw_of tk
  exact (ds_one (ds_ret (de_add (de_add (de_add (de_add (de_rjust (dv 0) de_int) de_str) (dv 1)) de_str) (de_ljust (dv 2) de_int))))
theorem ok__law_due (T : Tx P w K mg ad cl) : DOk P w K mg base 3 (ad 29) ["_law_steps", "_law_world_here"] (spD (Zz w K cl) f__law_due 2) := by
  obtain ⟨fd, F, bd⟩ := T.f__law_due
  refine ⟨⟨fd, fnD F sc__law_due (body := b__law_due) rfl rfl fun cdv A outer s H E hr => ?_, bd⟩, F.kp⟩
  have tk := L2N.takes_of (X := cxOf (L2N.CX P w) P w K mg base n__law_due "_law_due" (defScope s__law_due) (ad 29) cdv A outer s H E) (E := E) rfl rfl rfl rfl
  have tw := tw_of tk
  exact (ds_cons (ds_set (i := 2) sc__law_due.nd (de_lst da_nil)) (ds_cons (ds_set (i := 3) sc__law_due.nd de_int) (ds_cons (ds_set (i := 4) sc__law_due.nd de_int) (ds_cons (ds_for (passes_of rfl) (di_str (dv 0)) (dg_name (i := 5) sc__law_due.nd) (ds_cons (ds_set (i := 6) sc__law_due.nd de_str) (ds_cons (ds_set (i := 7) sc__law_due.nd de_str) (ds_cons (ds_if (dt_cmp (c_ne rfl hr) (dv 5) de_str) (ds_cons (ds_set (i := 6) sc__law_due.nd (de_add (de_add (de_ix rfl (de_ix rfl (de_ix rfl (dv 1) de_int) (dv 3)) de_int) de_str) (de_callTy call_str_int ok_strB T.b_str (by decide +kernel) (da_cons (de_ix rfl (de_ix rfl (de_ix rfl (dv 1) de_int) (dv 3)) de_int) da_nil)))) (ds_one (ds_set (i := 3) sc__law_due.nd (de_add (dv 3) de_int)))) ds_nil) (ds_cons (ds_if (dt_cmp (c_ne rfl hr) (dv 5) de_str) (ds_cons (ds_set (i := 7) sc__law_due.nd (de_add (de_add (de_ix rfl (de_ix rfl (de_ix rfl (dv 1) de_int) (dv 4)) de_int) de_str) (de_callTy call_str_int ok_strB T.b_str (by decide +kernel) (da_cons (de_ix rfl (de_ix rfl (de_ix rfl (dv 1) de_int) (dv 4)) de_int) da_nil)))) (ds_one (ds_set (i := 4) sc__law_due.nd (de_add (dv 4) de_int)))) ds_nil) (ds_one (ds_set (i := 2) sc__law_due.nd (de_add (de_lst (da_cons (de_callD (ok__law_line (P := P) (w := w) (base := base) T) (hr.mono (by decide)) T.g__law_line tw (da_cons (dv 6) (da_cons (dv 5) (da_cons (dv 7) da_nil)))) da_nil)) (dv 2))))))))) (ds_one (ds_ret (de_add (de_lst (da_cons (de_callD (ok__law_line (P := P) (w := w) (base := base) T) (hr.mono (by decide)) T.g__law_line tw (da_cons (de_callD (ok__law_total (P := P) (w := w) (base := base) T) (hr.mono (by decide)) T.g__law_total tw (da_cons (de_ix rfl (dv 1) de_int) da_nil)) (da_cons de_str (da_cons (de_callD (ok__law_total (P := P) (w := w) (base := base) T) (hr.mono (by decide)) T.g__law_total tw (da_cons (de_ix rfl (dv 1) de_int) da_nil)) da_nil)))) da_nil)) (dv 2))))))))
theorem ok__law_unlike (T : Tx P w K mg ad cl) : DOk P w K mg base 6 (ad 30) ["_law_record", "_law_cores_here"] (spD (Zz w K cl) f__law_unlike 2) := by
  obtain ⟨fd, F, bd⟩ := T.f__law_unlike
  refine ⟨⟨fd, fnD F sc__law_unlike (body := b__law_unlike) rfl rfl fun cdv A outer s H E hr => ?_, bd⟩, F.kp⟩
  have tk := L2N.takes_of (X := cxOf (L2N.CX P w) P w K mg base n__law_unlike "_law_unlike" (defScope s__law_unlike) (ad 30) cdv A outer s H E) (E := E) rfl rfl rfl rfl
  have tw := tw_of tk
  exact (ds_cons (ds_try_as (i := 2) rfl rfl sc__law_unlike.nd rfl ⟨rfl, by decide, .inl T.g_SiltError⟩ tk T.xe_SiltError (fun W pn xe tkb hpb => (ds_one (ds_expr (de_callD (ok_picture (P := P) (w := w) (base := base) T) (hr.mono (by decide)) T.g_picture (tw_of tkb) (da_cons (dv 0) (da_cons (de_ix rfl (dv 1) de_int) (da_cons (de_ix rfl (dv 1) de_int) da_nil))))))) (fun a oe c d pn hcn hzn hfl => (have hrh := L2H.roomH_mark hr (some (.ref a)); (ds_one (ds_ret (de_and (de_isX (T.xi _ hcn) (pe_glob (v := .ref (cl 6)) rfl T.g_Unlike rfl) (fun _ r => r) (fun b h => by cases h; exact T.xk_Unlike _ hcn) hzn hfl (dv 2) T.b_isinstance) (de_and (de_isX (T.xi _ hcn) (pe_bltn (v := .ty "ValueError") (u := .type "ValueError") rfl T.b_ValueError (by decide +kernel) rfl) (fun _ r => r) (fun b h => by cases h; exact T.xk_ValueError _ hcn) hzn hfl (dv 2) T.b_isinstance) (de_one (de_not (de_isX (T.xi _ hcn) (pe_glob (v := .ref (cl 7)) rfl T.g_NotFitting rfl) (fun _ r => r) (fun b h => by cases h; exact T.xk_NotFitting _ hcn) hzn hfl (dv 2) T.b_isinstance)))))))))) (ds_one (ds_ret de_bl)))
theorem ok__law_far (T : Tx P w K mg ad cl) : DOk P w K mg base 3 (ad 31) ["_law_pool_here", "_law_steps"] (spD (Zz w K cl) f__law_far 2) := by
  obtain ⟨fd, F, bd⟩ := T.f__law_far
  refine ⟨⟨fd, fnD F sc__law_far (body := b__law_far) rfl rfl fun cdv A outer s H E hr => ?_, bd⟩, F.kp⟩
  have tk := L2N.takes_of (X := cxOf (L2N.CX P w) P w K mg base n__law_far "_law_far" (defScope s__law_far) (ad 31) cdv A outer s H E) (E := E) rfl rfl rfl rfl
  have tw := tw_of tk
  exact (ds_cons (ds_set (i := 2) sc__law_far.nd (de_lstC (da_cons (de_add (de_ix rfl de_str (de_callD (ok__law_draw (P := P) (w := w) (base := base) T) (hr.mono (by decide)) T.g__law_draw tw (da_cons (dv 0) (da_cons de_int da_nil)))) (dv 1)) (da_cons (de_add (dv 1) de_str) (da_cons (de_add de_str (de_slice rfl (dv 1) (dp_some de_int) dp_none)) da_nil))))) (ds_cons (ds_if (dt_cmp c_gt (de_callB call_len (ok_len rfl) T.b_len PySem.boot_len (da_cons (dv 1) da_nil)) de_int) (ds_one (ds_expr (de_append rfl (dv 2) (de_slice rfl (dv 1) (dp_some de_int) dp_none)))) ds_nil) (ds_cons (ds_for (passes_of rfl) (di_range1 T.b_range (da_cons (de_callB call_len (ok_len rfl) T.b_len PySem.boot_len (da_cons (dv 1) da_nil)) da_nil)) (dg_name (i := 3) sc__law_far.nd) (ds_one (ds_if (dt_cmp (c_ne rfl hr) (de_ix rfl (dv 1) (dv 3)) de_str) (ds_one (ds_setIx (dv 2) de_int (de_add (de_add (de_slice rfl (dv 1) dp_none (dp_some (dv 3))) (de_ix rfl de_str (de_sidx rfl de_str (de_ix rfl (dv 1) (dv 3))))) (de_slice rfl (dv 1) (dp_some (de_add (dv 3) de_int)) dp_none)))) ds_nil))) (ds_cons (ds_if (dt_cmp (c_eq rfl hr) (de_callB call_len (ok_len rfl) T.b_len PySem.boot_len (da_cons (dv 1) da_nil)) (de_count rfl (dv 1) de_str)) (ds_one (ds_setIx (dv 2) de_int (de_add (dv 1) de_str))) ds_nil) (ds_one (ds_frz (ds_ret (dv 2))))))))
theorem okF_law (T : Tx P w K mg ad cl) {fa : Addr} {fd : FuncData} (F : Fun K "law" "law" s_law fa fd) : FnOk P w K mg base (L2N.CX P w) 7 fa fd ["_law_script"] (spD (Zz w K cl) f_law 1) := by
  refine fnD F sc_law (body := b_law) rfl rfl fun cdv A outer s H E hr => ?_
  have tk := L2N.takes_of (X := cxOf (L2N.CX P w) P w K mg base n_law "law" (defScope s_law) fa cdv A outer s H E) (E := E) rfl rfl rfl rfl
  have tw := tw_of tk
  exact (ds_cons (ds_set (i := 1) sc_law.nd (de_callD (ok__law_pool (P := P) (w := w) (base := base) T) (hr.mono (by decide)) T.g__law_pool tw (da_cons (dv 0) (da_cons de_int da_nil)))) (ds_cons (ds_set (i := 2) sc_law.nd (de_ix rfl (de_lst (da_cons de_int (da_cons de_int da_nil))) (de_callD (ok__law_draw (P := P) (w := w) (base := base) T) (hr.mono (by decide)) T.g__law_draw tw (da_cons (dv 1) (da_cons de_int da_nil))))) (ds_cons (ds_set (i := 3) sc_law.nd (de_lst (da_cons (de_callD (ok__law_draw (P := P) (w := w) (base := base) T) (hr.mono (by decide)) T.g__law_draw tw (da_cons (dv 1) (da_cons (dv 2) da_nil))) (da_cons (de_callD (ok__law_draw (P := P) (w := w) (base := base) T) (hr.mono (by decide)) T.g__law_draw tw (da_cons (dv 1) (da_cons (dv 2) da_nil))) da_nil)))) (ds_cons (ds_setLc (i := 4) (own := [("_law_k", 13)]) rfl sc_law.nd (blkOk_by (own := [("_law_k", 13)]) (N := n_law) (sc := defScope s_law) (by decide +kernel)) (by decide) (di_range1 T.b_range (da_cons de_int da_nil)) (fun _ _ _ _ _ => (dg_name (i := 13) sc_law.nd)) (fun _ _ _ _ _ => dts_nil) (fun _ _ _ _ _ => (de_callD (ok__law_path (P := P) (w := w) (base := base) T) (hr.mono (by decide)) T.g__law_path tw_none (da_cons (dv 1) (da_cons (de_ix rfl (dv 3) de_int) (da_cons (de_ix rfl (dv 3) de_int) da_nil)))))) (ds_cons (ds_set (i := 5) sc_law.nd (de_callD (ok__law_world (P := P) (w := w) (base := base) T) (hr.mono (by decide)) T.g__law_world tw (da_cons (dv 1) (da_cons (dv 3) (da_cons (dv 4) da_nil))))) (ds_cons (ds_set (i := 6) sc_law.nd (de_callD (ok__law_cores (P := P) (w := w) (base := base) T) (hr.mono (by decide)) T.g__law_cores tw (da_cons (dv 5) da_nil))) (ds_cons (ds_expr (de_append rfl (dv 4) (de_callD (ok__law_path (P := P) (w := w) (base := base) T) (hr.mono (by decide)) T.g__law_path tw (da_cons (dv 1) (da_cons (de_ix rfl (dv 3) de_int) (da_cons (de_ix rfl (dv 3) de_int) da_nil)))))) (ds_cons (ds_setLcI (i := 7) (own := [("_law_row", 14)]) rfl sc_law.nd (blkOk_by (own := [("_law_row", 14)]) (N := n_law) (sc := defScope s_law) (by decide +kernel)) (by decide) (di_list rfl (dv 5)) (fun _ _ _ _ _ => (dg_name (i := 14) sc_law.nd)) (fun _ _ _ _ _ => dts_nil) (fun _ _ _ _ _ => (de_revL rfl (dv 14)))) (ds_cons (ds_set (i := 8) sc_law.nd (de_callD (ok__law_cores (P := P) (w := w) (base := base) T) (hr.mono (by decide)) T.g__law_cores tw (da_cons (dv 7) da_nil))) (ds_cons (ds_forC rfl (passes_of rfl) (dv 4) (dg_name (i := 9) sc_law.nd) (ds_cons (ds_set (i := 10) sc_law.nd (de_div (de_callB call_len (ok_len rfl) T.b_len PySem.boot_len (da_cons (dv 9) da_nil)) de_int)) (ds_one (ds_for (passes_of rfl) (di_list rfl (de_lst (da_cons (de_makeD T.mk_Record (ok_Record___init__ (P := P) (w := w) (base := base) T) (hr.mono (by decide)) T.g_Record tw (da_cons (dv 9) da_nil) rfl) (da_cons (de_ownAdd T.o_Record___add__ (ok_Record___add__ (P := P) (w := w) (base := base) T) (hr.mono (by decide)) tw (de_makeD T.mk_Record (ok_Record___init__ (P := P) (w := w) (base := base) T) (hr.mono (by decide)) T.g_Record tw (da_cons (de_slice rfl (dv 9) dp_none (dp_some (dv 10))) da_nil) rfl) (de_makeD T.mk_Record (ok_Record___init__ (P := P) (w := w) (base := base) T) (hr.mono (by decide)) T.g_Record tw (da_cons (de_slice rfl (dv 9) (dp_some (dv 10)) dp_none) da_nil) rfl)) da_nil)))) (dg_name (i := 11) sc_law.nd) (ds_cons (ds_set (i := 12) sc_law.nd (de_callD (ok_picture (P := P) (w := w) (base := base) T) (hr.mono (by decide)) T.g_picture tw (da_cons (dv 11) (da_cons (de_ix rfl (dv 6) de_int) (da_cons (de_ix rfl (dv 6) de_int) da_nil))))) (ds_cons (ds_if (PW.pt (dw_or (dt_not (dt_val (de_isi (pe_bltn (v := .ty "list") (u := .type "list") rfl T.b_list (by decide +kernel) rfl) (.ty _) rfl T.ik_list T.ic_list (dv 12) T.b_isinstance))) (dw_or (dt_cmp (c_ne rfl hr) (dv 12) (de_callD (ok__law_due (P := P) (w := w) (base := base) T) (hr.mono (by decide)) T.g__law_due tw (da_cons (dv 9) (da_cons (dv 5) da_nil)))) (dw_or1 (dt_cmp (c_ne rfl hr) (de_fld (dv 11) rfl T.k_Record T.na_Record_steps rfl) (dv 9)))))) (ds_one (ds_ret de_bl)) ds_nil) (ds_one (ds_if (dt_cmp (c_ne rfl hr) (de_callD (ok_picture (P := P) (w := w) (base := base) T) (hr.mono (by decide)) T.g_picture tw (da_cons (dv 11) (da_cons (de_ix rfl (dv 8) de_int) (da_cons (de_ix rfl (dv 8) de_int) da_nil)))) (de_callD (ok__law_due (P := P) (w := w) (base := base) T) (hr.mono (by decide)) T.g__law_due tw (da_cons (dv 9) (da_cons (dv 7) da_nil)))) (ds_one (ds_ret de_bl)) ds_nil)))))))) (ds_cons (ds_for (passes_of rfl) (di_list rfl (de_callD (ok__law_far (P := P) (w := w) (base := base) T) (hr.mono (by decide)) T.g__law_far tw (da_cons (dv 1) (da_cons (de_ix rfl (dv 4) de_int) da_nil)))) (dg_name (i := 9) sc_law.nd) (ds_one (ds_if (dt_not (dt_val (de_callD (ok__law_unlike (P := P) (w := w) (base := base) T) (hr.mono (by decide)) T.g__law_unlike tw (da_cons (de_makeD T.mk_Record (ok_Record___init__ (P := P) (w := w) (base := base) T) (hr.mono (by decide)) T.g_Record tw (da_cons (dv 9) da_nil) rfl) (da_cons (dv 6) da_nil))))) (ds_one (ds_ret de_bl)) ds_nil))) (ds_one (ds_ret (de_and (de_callD (ok__law_same (P := P) (w := w) (base := base) T) (hr.mono (by decide)) T.g__law_same tw (da_cons (de_ix rfl (dv 6) de_int) (da_cons (de_ix rfl (dv 5) de_int) (da_cons (de_ix rfl (dv 5) de_int) da_nil)))) (de_one (de_callD (ok__law_same (P := P) (w := w) (base := base) T) (hr.mono (by decide)) T.g__law_same tw (da_cons (de_ix rfl (dv 6) de_int) (da_cons (de_ix rfl (dv 5) de_int) (da_cons (de_ix rfl (dv 5) de_int) da_nil)))))))))))))))))))
end
end ZZ
set_option Elab.async false
set_option linter.all false
set_option maxRecDepth 100000
set_option maxHeartbeats 4000000
open Lean Parser Tactic in
local macro_rules
  | `(tactic| simp? only [$xs,*] $[$l]?) => do
    let es := xs.getElems.filter fun x => x.raw.getKind == ``simpErase
    let ks := (#[`mkD, `List.map_cons, `List.map_nil, `List.length_cons, `List.length_nil, `Nat.reduceAdd, `Nat.reduceSub, `List.replicate_succ, `List.replicate_zero, `List.cons_append, `List.nil_append, `sSeq, `sSet, `sRet, `sExp, `sDrop, `sIf, `sNil, `sFor, `eBin, `eUn, `eBind, `eV, `eC, `eArgs, `eAnd, `eOr, `eNot, `eIf, `eMth, `eTru, `kBool, `List.getElem?_cons_zero, `List.getElem?_cons_succ, `List.set_cons_zero, `List.set_cons_succ, `if_true, `if_false, `ite_true, `ite_false, `Bool.false_eq_true, `eq_self_iff_true, `reduceIte, `ims, `Option.map_some, `kTup, `kLst, `kLstC, `kCall, `List.all_cons, `List.all_nil, `plainV, `Bool.and_true, `Bool.true_and, `iExp, `iArgs, `itS, `itL, `itT, `itLT, `gN, `gT, `gL, `Option.bind_some, `frz, `ce_get, `ce_get0, `ce_set, `ce_set0, `ce_take, `asL, `asSq, `asIm, `truV, `kTru, `kAdd, `kSub, `kMod, `kLen, `kInt, `kMin, `kMax, `kCmp, `kIsB, `tyL, `tyS, `Option.isSome_some, `Bool.and_self, `beq_self_eq_true, `Option.isSome, `Bool.or_true, `Bool.true_or, `Bool.not_true, `Bool.not_false, `Bool.false_and, `Bool.and_false, `Bool.or_false, `Bool.false_or, `List.cons.injEq, `reduceCtorEq, `false_and, `and_false, `and_self, `and_true, `true_and, `decide_true, `decide_false, `Nat.reduceLeDiff, `LINE] : Array Name).filter fun n => !es.any fun e => e.raw[1].getId == n
    let ls ← ks.mapM fun n => `(simpLemma| $(mkIdent n):ident)
    let ys := (ls.map fun l => l.raw) ++ (xs.getElems.filter fun x => x.raw.getKind != ``simpErase).map fun x => x.raw
    let zs : Syntax.TSepArray [``simpStar, ``simpErase, ``simpLemma] "," := ⟨(mkNullNode (Syntax.mkSep ys (mkAtom ",")).getArgs).getArgs⟩
    `(tactic| simp only [$zs,*] $[$l]?)
namespace ZZ
open PySem PySem.Spec L2
abbrev Lay := List Nat × Int
abbrev Jnt := Int × Option Int
def okL (l : Lay) : Prop := 1 ≤ l.1.length ∧ l.1.length ≤ 12 ∧ (∀ c ∈ l.1, 97 ≤ c ∧ c ≤ 122) ∧ 1 ≤ l.2
def okJ (j : Jnt) : Prop := 0 ≤ j.1 ∧ ∀ m, j.2 = some m → j.1 ≤ m
def layD (l : Lay) : D := .tup [.str (st l.1), .int l.2]
def optD : Option Int → D
  | none => .non
  | some i => .int i
def jntD (j : Jnt) : D := .tup [.int j.1, optD j.2]
def laysD (ls : List Lay) : D := .lst (ls.map layD)
def jntsD (js : List Jnt) : D := .lst (js.map jntD)
def coreD (ls : List Lay) (js : List Jnt) : D := .ins c_Core [laysD ls, jntsD js]
structure OkC (ls : List Lay) (js : List Jnt) : Prop where
  l : ∀ l ∈ ls, okL l
  j : ∀ j ∈ js, okJ j
  n : ls.length ≤ 20
  m : js.length = ls.length + 1
section
variable {sl : Sl} {ce : List Cell} {ls ls2 : List Lay} {js js2 : List Jnt} {l : Lay} {j : Jnt}
theorem letters_cps : ("abcdefghijklmnopqrstuvwxyz" : Str).cps.toList = List.range' 97 26 := by decide +kernel
theorem in_letters (c : Nat) (h : 97 ≤ c ∧ c ≤ 122) : kInS false (.im (.str (st [c]))) (.im (.str "abcdefghijklmnopqrstuvwxyz")) sl ce = .ok (.im (.bl true)) ce := by
  have : c ∈ List.range' 97 26 := by
    rw [List.mem_range'_1]
    omega
  unfold kInS st
  simp only [letters_cps, this, decide_true]
  rfl
theorem kall_true {α : Type} (xs : List α) : kAll [.im (.lst (xs.map fun _ => D.bl true))] sl ce = .ok (.im (.bl true)) ce := by
  have h : asBls (xs.map fun _ => D.bl true) = some (xs.map fun _ => true) := by
    induction xs with
    | nil => rfl
    | cons x xs ih => rw [List.map_cons, asBls, ih]; rfl
  unfold kAll
  simp only [asL, h]
  congr 3
  induction xs with
  | nil => rfl
  | cons x xs ih => simp
theorem lay0 : kIx (.im (layD l)) (.im (.int 0)) sl ce = .ok (.im (.str (st l.1))) ce := by rfl
theorem lay1 : kIx (.im (layD l)) (.im (.int 1)) sl ce = .ok (.im (.int l.2)) ce := by rfl
theorem jnt0 : kIx (.im (jntD j)) (.im (.int 0)) sl ce = .ok (.im (.int j.1)) ce := by rfl
theorem jnt1 : kIx (.im (jntD j)) (.im (.int 1)) sl ce = .ok (.im (optD j.2)) ce := by rfl
theorem m_islayer (h : okL l) : f_is_layer [.im (layD l)] ce = .ok (.im (.bl true)) ce := by
  obtain ⟨cs, t⟩ := l
  obtain ⟨h1, h2, h3, h4⟩ := h
  simp only at h1 h2 h3 h4
  have lc := fun (ce : List Cell) (sl : Sl) (h0 : sl[1]? = some (some (.im (.str (st cs))))) (hn : 3 < sl.length) => lc_map (own := [3]) (fi := iExp (eV 1) itS) (g := gN 3) (f := el_is_layer_0) (sl := sl) (ce := ce) cs (fun c => .str (st [c])) (fun _ => .bl true) (by simp? only [h0, st_signs]) (by omega) (fun c hc acc => ⟨_, rfl, by
    have e3 : ((wipeD sl [3]).set 3 (some (.im (.str (st [c])))))[3]? = some (some (.im (.str (st [c])))) := by simp [wipeD, hn]
    unfold el_is_layer_0
    simp only [eBin, eBind, eV, e3, eC, in_letters c (h3 c hc)]⟩)
  have a1 : (1 : Int) ≤ (cs.length : Int) := by omega
  have a2 : (cs.length : Int) ≤ 12 := by omega
  unfold f_is_layer b_is_layer layD
  simp? only [gT, gL, gN, sAsg, eChain, st_len, show cs.length ≤ 16777216 by omega, a1, a2, lc, kall_true, h4, Nat.reduceLT, finD, List.take_length]
theorem m_isjoint (h : okJ j) : f_is_joint [.im (jntD j)] ce = .ok (.im (.bl true)) ce := by
  obtain ⟨a, m⟩ := j
  obtain ⟨h1, h2⟩ := h
  simp only at h1 h2
  have n0 : ∀ sl ce, kIsN false (.im .non) (.im .non) sl ce = .ok (.im (.bl true)) ce := fun _ _ => rfl
  have n1 : ∀ i sl ce, kIsN false (.im (.int i)) (.im .non) sl ce = .ok (.im (.bl false)) ce := fun _ _ _ => rfl
  unfold f_is_joint b_is_joint jntD
  cases m with
  | none => simp? only [gT, gL, gN, sAsg, optD, h1, n0, finD, List.take_length]
  | some m =>
    have h3 : a ≤ m := h2 m rfl
    simp? only [gT, gL, gN, sAsg, optD, h1, h3, n1, finD, List.take_length]
theorem cinit0 (a0 a1 a2 a5 : Option Val) : ∀ (ls : List Lay) (k : Nat) (x3 x4 : Option Val), (∀ l ∈ ls, okL l) → ∃ y3 y4, forD (gT [gN 3, gN 4]) lp_Core___init___0 (enF k (ls.map layD)) [a0, a1, a2, x3, x4, a5] ce = .nx [a0, a1, a2, y3, y4, a5] ce
  | [], k, x3, x4, h => ⟨x3, x4, by rw [List.map_nil, enF, forD]⟩
  | l :: ls, k, x3, x4, h => by
    obtain ⟨y3, y4, e⟩ := cinit0 a0 a1 a2 a5 ls (k + 1) (some (.im (.int (k : Nat)))) (some (.im (layD l))) fun x hx => h x (List.mem_cons_of_mem _ hx)
    refine ⟨y3, y4, ?_⟩
    have hl := fun ce => m_islayer (ce := ce) (h l (List.mem_cons_self ..))
    rw [← e, List.map_cons, enF, forD]
    simp only [gT, gL, gN, List.set_cons_zero, List.set_cons_succ, Option.bind_some]
    unfold lp_Core___init___0
    simp? only [hl]
theorem cinit1 (a0 a1 a2 a4 : Option Val) : ∀ (js : List Jnt) (k : Nat) (x3 x5 : Option Val), (∀ j ∈ js, okJ j) → ∃ y3 y5, forD (gT [gN 3, gN 5]) lp_Core___init___1 (enF k (js.map jntD)) [a0, a1, a2, x3, a4, x5] ce = .nx [a0, a1, a2, y3, a4, y5] ce
  | [], k, x3, x5, h => ⟨x3, x5, by rw [List.map_nil, enF, forD]⟩
  | j :: js, k, x3, x5, h => by
    obtain ⟨y3, y5, e⟩ := cinit1 a0 a1 a2 a4 js (k + 1) (some (.im (.int (k : Nat)))) (some (.im (jntD j))) fun x hx => h x (List.mem_cons_of_mem _ hx)
    refine ⟨y3, y5, ?_⟩
    have hj := fun ce => m_isjoint (ce := ce) (h j (List.mem_cons_self ..))
    rw [← e, List.map_cons, enF, forD]
    simp only [gT, gL, gN, List.set_cons_zero, List.set_cons_succ, Option.bind_some]
    unfold lp_Core___init___1
    simp? only [hj]
theorem m_cinit (h : OkC ls js) : f_Core___init__ [.cell ce.length, .im (laysD ls), .im (jntsD js)] (ce ++ [.ins c_Core []]) = .ok (.im .non) (ce ++ [.ins c_Core [laysD ls, jntsD js]]) := by
  have k0 : kEnum [.im (laysD ls)] = some (enF 0 (ls.map layD)) := by
    unfold kEnum laysD
    simp only [enF_eq]
  have k1 : kEnum [.im (jntsD js)] = some (enF 0 (js.map jntD)) := by
    unfold kEnum jntsD
    simp only [enF_eq]
  have n0 : ∀ sl ce, kLen [.im (laysD ls)] sl ce = .ok (.im (.int (ls.length : Nat))) ce := fun _ _ => by simp [kLen, laysD, asSq]
  have n1 : ∀ sl ce, kLen [.im (jntsD js)] sl ce = .ok (.im (.int (js.length : Nat))) ce := fun _ _ => by simp [kLen, jntsD, asSq]
  have c0 : ∀ sl ce, kListI [.im (laysD ls)] sl ce = .ok (.im (laysD ls)) ce := fun _ _ => rfl
  have c1 : ∀ sl ce, kListI [.im (jntsD js)] sl ce = .ok (.im (jntsD js)) ce := fun _ _ => rfl
  have t1 : ¬ (20 : Int) < (ls.length : Int) := by have := h.n; omega
  have t2 : (js.length : Int) = (ls.length : Int) + 1 := by have := h.m; omega
  have nn : ∀ sl ce, kIsN false (.im (jntsD js)) (.im .non) sl ce = .ok (.im (.bl false)) ce := fun _ _ => rfl
  have d1 : decide ((ls.length : Int) + 1 = (ls.length : Int) + 1) = true := decide_eq_true rfl
  obtain ⟨y3, y4, e0⟩ := cinit0 (ce := ce ++ [.ins c_Core []]) (some (.cell ce.length)) (some (.im (laysD ls))) (some (.im (jntsD js))) none ls 0 none none h.l
  obtain ⟨z3, z5, e1⟩ := cinit1 (ce := ce ++ [.ins c_Core []]) (some (.cell ce.length)) (some (.im (laysD ls))) (some (.im (jntsD js))) y4 js 0 y3 none h.j
  have tk : ∀ (l : List Cell) (k : Nat), (ce ++ l).take (ce.length + k) = ce ++ l.take k := fun l k => List.take_length_add_append k
  unfold f_Core___init__ b_Core___init__
  simp? only [-kLen, n0, n1, t1, k0, e0, nn, eq_int, t2, d1, k1, e1, c0, c1, List.length_append, sFldSet, finD, tk, Nat.lt_irrefl, Nat.reduceLT, List.take_succ_cons, List.take_zero]
theorem m_cmake (h : OkC ls js) : kMake c_Core 2 f_Core___init__ [.im (laysD ls), .im (jntsD js)] sl ce = .ok (.im (coreD ls js)) ce := by
  unfold kMake
  simp only [List.all_cons, plainV, List.all_nil, Bool.and_self, if_true]
  rw [m_cinit h]
  simp [coreD]
theorem cfld0 : kFld c_Core 0 (.im (coreD ls js)) sl ce = .ok (.im (laysD ls)) ce := by simp [kFld, coreD]
theorem cfld1 : kFld c_Core 1 (.im (coreD ls js)) sl ce = .ok (.im (jntsD js)) ce := by simp [kFld, coreD]
theorem isC_c : isC c_Core ce (.im (coreD ls js)) = true := rfl
theorem llen : kLen [.im (laysD ls)] sl ce = .ok (.im (.int (ls.length : Nat))) ce := by simp [kLen, laysD, asSq]
theorem jlen : kLen [.im (jntsD js)] sl ce = .ok (.im (.int (js.length : Nat))) ce := by simp [kLen, jntsD, asSq]
theorem lix {k : Nat} (h : ls[k]? = some l) : kIx (.im (laysD ls)) (.im (.int (k : Nat))) sl ce = .ok (.im (layD l)) ce := ix_lst (by rw [List.getElem?_map, h]; rfl)
theorem jix {k : Nat} (h : js[k]? = some j) : kIx (.im (jntsD js)) (.im (.int (k : Nat))) sl ce = .ok (.im (jntD j)) ce := ix_lst (by rw [List.getElem?_map, h]; rfl)
theorem m_clen (h : ls.length ≤ 1000) : kLenO c_Core f_Core___len__ (.im (coreD ls js)) sl ce = .ok (.im (.int (ls.length : Nat))) ce := by
  have e : f_Core___len__ [.im (coreD ls js)] ce = .ok (.im (.int (ls.length : Nat))) ce := by
    unfold f_Core___len__ b_Core___len__
    simp? only [-kLen, cfld0, llen, finD, List.take_length]
  have hb : (Nat.ble ((ls.length : Nat) : Int).natAbs 4611686018427387903 && decide (0 ≤ ((ls.length : Nat) : Int))) = true := by
    rw [Bool.and_eq_true, Nat.ble_eq, decide_eq_true_eq]
    omega
  unfold kLenO
  simp only [isC_c, e, if_true, hb]
theorem m_cget {k : Nat} (h : ls[k]? = some l) : kOwnIx c_Core f_Core___getitem__ (.im (coreD ls js)) (.im (.int (k : Nat))) sl ce = .ok (.im (layD l)) ce := by
  have hk := (List.getElem?_eq_some_iff.mp h).1
  have h1 : (0 : Int) ≤ (k : Int) := by omega
  have h2 : (k : Int) < (ls.length : Int) := by omega
  have ix := fun sl ce => lix (sl := sl) (ce := ce) h
  unfold kOwnIx
  simp only [isC_c, plainV, Bool.and_self, if_true]
  unfold f_Core___getitem__ b_Core___getitem__
  simp? only [-kLen, cfld0, llen, eChain, h1, h2, ix, finD, List.take_length]
theorem m_cjoint {k : Nat} (h : js[k]? = some j) : f_Core_joint [.im (coreD ls js), .im (.int (k : Nat))] ce = .ok (.im (jntD j)) ce := by
  have hk := (List.getElem?_eq_some_iff.mp h).1
  have h1 : (0 : Int) ≤ (k : Int) := by omega
  have h2 : (k : Int) < (js.length : Int) := by omega
  have ix := fun sl ce => jix (sl := sl) (ce := ce) h
  unfold f_Core_joint b_Core_joint
  simp? only [-kLen, cfld1, jlen, eChain, h1, h2, ix, finD, List.take_length]
def thick (ls : List Lay) : Int := (ls.map (·.2)).sum
theorem ints_asInts (l : List Int) : asInts (l.map D.int) = some l := by
  induction l with
  | nil => rfl
  | cons x l ih => rw [List.map_cons, asInts, ih]; rfl
theorem m_cthick (h : ls.length ≤ 1000) : kProp c_Core f_Core_thickness (.im (coreD ls js)) sl ce = .ok (.im (.int (thick ls))) ce := by
  have lc := fun (ce : List Cell) => lc_map (own := [1]) (fi := iExp (eUn (kFld c_Core 0) (eV 0)) itL) (g := gN 1) (f := el_Core_thickness_0) (sl := [some (.im (coreD ls js)), none]) (ce := ce) ls layD (fun l => .int l.2) (by simp? only [cfld0, laysD]) (by omega) (fun l hl acc => ⟨_, rfl, by
    unfold el_Core_thickness_0
    simp? only [wipeD, lay1]⟩)
  simp only [eUn] at lc
  have sm : ∀ sl ce, kSum [.im (.lst (ls.map fun l => D.int l.2))] sl ce = .ok (.im (.int (thick ls))) ce := fun sl ce => by
    have e : (ls.map fun l => D.int l.2) = (ls.map (·.2)).map D.int := by rw [List.map_map]; rfl
    unfold kSum thick
    simp only [asL, e, ints_asInts]
  unfold kProp
  simp only [isC_c, if_true]
  unfold f_Core_thickness b_Core_thickness
  simp? only [lc, sm, finD, List.take_length]
theorem strOk_st (cs : List Nat) (h : ∀ c ∈ cs, 97 ≤ c ∧ c ≤ 122) : PyData.strOk (st cs) = true := by
  unfold PyData.strOk st
  rw [← Array.all_toList]
  simp only [List.toList_toArray, List.all_eq_true]
  intro c hc
  have := h c hc
  simp
  omega
theorem lay_okD (h : okL l) (n : Nat) : okD (n + 1) (layD l) = true := by
  simp [layD, okD, okDs, strOk_st _ h.2.2.1]
theorem jnt_okD (n : Nat) : okD (n + 1) (jntD j) = true := by
  obtain ⟨a, m⟩ := j
  cases m <;> simp [jntD, optD, okD, okDs]
theorem lays_okD (h : ∀ l ∈ ls, okL l) : okD 60 (laysD ls) = true := by
  rw [laysD, okD]
  refine okDs_all fun d hd => ?_
  obtain ⟨l, hl, rfl⟩ := List.mem_map.mp hd
  exact lay_okD (h l hl) 58
theorem lays_refl (h : ∀ l ∈ ls, okL l) (neg : Bool) : kEqG neg (.im (laysD ls)) (.im (laysD ls)) sl ce = .ok (.im (.bl (!neg))) ce := by
  rw [eq_gd (lays_okD h) (lays_okD h), eqD_refl _ 60 (lays_okD h)]
  cases neg <;> rfl
theorem lay_refl (h : okL l) (neg : Bool) : kEqG neg (.im (layD l)) (.im (layD l)) sl ce = .ok (.im (.bl (!neg))) ce := by
  rw [eq_gd (lay_okD h 59) (lay_okD h 59), eqD_refl _ 60 (lay_okD h 59)]
  cases neg <;> rfl
theorem jnt_refl (neg : Bool) : kEqG neg (.im (jntD j)) (.im (jntD j)) sl ce = .ok (.im (.bl (!neg))) ce := by
  rw [eq_gd (jnt_okD 59) (jnt_okD 59), eqD_refl _ 60 (jnt_okD 59)]
  cases neg <;> rfl
end
end ZZ
set_option Elab.async false
set_option linter.all false
set_option maxRecDepth 100000
set_option maxHeartbeats 4000000
namespace ZZ
open PySem PySem.Spec L2
def rowsD : Nat → Nat → List Sg → List D
  | _, _, [] => []
  | l, r, .l :: s => .tup [.int l, .non] :: rowsD (l + 1) r s
  | l, r, .e :: s => .tup [.int l, .int r] :: rowsD (l + 1) (r + 1) s
  | l, r, .g :: s => .tup [.non, .int r] :: rowsD l (r + 1) s
def recD (s : List Sg) : D := .ins c_Record [.str (txt s), .lst (rowsD 0 0 s)]
theorem in_swap (c : Sg) : (d_SWAPPED.lookup (txt [c])).isSome = true := by cases c <;> decide +kernel
theorem inK_swap (c : Sg) {sl : Sl} {ce : List Cell} : kInK d_SWAPPED true (.im (.str (txt [c]))) sl ce = .ok (.im (.bl false)) ce := by
  unfold kInK
  simp only [in_swap]
  rfl
theorem init_loop (a0 a1 : Option Val) (ce : List Cell) : ∀ (ps : List (Int × Sg)) (l r : Nat) (acc : List D) (x y : Option Val), acc.length + ps.length < LINE →
    ∃ l' r' x' y', forD (gT [(gN 5), (gN 6)]) lp_Record___init___0 (ps.map fun p => D.tup [.int p.1, .str (txt [p.2])]) [a0, a1, some (.cell ce.length), some (.im (.int l)), some (.im (.int r)), x, y] (ce ++ [.lst acc]) =
      .nx [a0, a1, some (.cell ce.length), l', r', x', y'] (ce ++ [.lst (acc ++ rowsD l r (ps.map Prod.snd))])
  | [], l, r, acc, x, y, h => ⟨_, _, x, y, by rw [List.map_nil, forD, List.map_nil, rowsD, List.append_nil]⟩
  | (i, c) :: ps, l, r, acc, x, y, h => by
    rw [List.length_cons] at h
    have hl : acc.length < LINE := by omega
    rw [List.map_cons, forD]
    simp only [gT, gL, gN, List.set_cons_zero, List.set_cons_succ, Option.bind_some]
    have ih := fun l r acc h => init_loop a0 a1 ce ps l r acc (some (.im (.int i))) (some (.im (.str (txt [c])))) h
    have c1 : ((l : Int) + 1) = ((l + 1 : Nat) : Int) := rfl
    have c2 : ((r : Int) + 1) = ((r + 1 : Nat) : Int) := rfl
    cases c with
    | l =>
      obtain ⟨l', r', x', y', e⟩ := ih (l + 1) r (acc ++ [.tup [.int l, .non]]) (by rw [List.length_append, List.length_singleton]; omega)
      refine ⟨l', r', x', y', ?_⟩
      rw [List.map_cons, rowsD, show acc ++ D.tup [.int l, .non] :: rowsD (l + 1) r (ps.map Prod.snd) = acc ++ [.tup [.int l, .non]] ++ rowsD (l + 1) r (ps.map Prod.snd) by simp, ← e]
      unfold lp_Record___init___0
      simp? only [inK_swap, sl1, sl2, sl3, eq_txt, app_ok hl, c1, c2]
      try simp
    | e =>
      obtain ⟨l', r', x', y', e⟩ := ih (l + 1) (r + 1) (acc ++ [.tup [.int l, .int r]]) (by rw [List.length_append, List.length_singleton]; omega)
      refine ⟨l', r', x', y', ?_⟩
      rw [List.map_cons, rowsD, show acc ++ D.tup [.int l, .int r] :: rowsD (l + 1) (r + 1) (ps.map Prod.snd) = acc ++ [.tup [.int l, .int r]] ++ rowsD (l + 1) (r + 1) (ps.map Prod.snd) by simp, ← e]
      unfold lp_Record___init___0
      simp? only [inK_swap, sl1, sl2, sl3, eq_txt, app_ok hl, c1, c2]
      try simp
    | g =>
      obtain ⟨l', r', x', y', e⟩ := ih l (r + 1) (acc ++ [.tup [.non, .int r]]) (by rw [List.length_append, List.length_singleton]; omega)
      refine ⟨l', r', x', y', ?_⟩
      rw [List.map_cons, rowsD, show acc ++ D.tup [.non, .int r] :: rowsD l (r + 1) (ps.map Prod.snd) = acc ++ [.tup [.non, .int r]] ++ rowsD l (r + 1) (ps.map Prod.snd) by simp, ← e]
      unfold lp_Record___init___0
      simp? only [inK_swap, sl1, sl2, sl3, eq_txt, app_ok hl, c1, c2]
      try simp
theorem m_init (s : List Sg) (ce : List Cell) (h : s.length < 16777216) : f_Record___init__ [.cell ce.length, .im (.str (txt s))] (ce ++ [.ins c_Record []]) = .ok (.im .non) (ce ++ [.ins c_Record [.str (txt s), .lst (rowsD 0 0 s)]]) := by
  obtain ⟨ps, h1, h2⟩ := enum_ps (fun c => .str (txt [c])) s
  have e0 : kEnumS [.im (.str (txt s))] = some (ps.map fun p => D.tup [.int p.1, .str (txt [p.2])]) := by
    unfold kEnumS
    simp only [txt_signs, h2]
  have hl : ps.length = s.length := by rw [← h1, List.length_map]
  obtain ⟨l', r', x', y', e1⟩ := init_loop (some (.cell ce.length)) (some (.im (.str (txt s)))) (ce ++ [.ins c_Record []]) ps 0 0 [] none none (by show 0 + ps.length < 16777216; omega)
  rw [h1, List.nil_append] at e1
  unfold f_Record___init__ b_Record___init__
  have hz : ((0 : Nat) : Int) = 0 := rfl
  rw [hz] at e1
  simp only [List.length_append, List.append_assoc, List.length_cons, List.length_nil, List.cons_append, List.nil_append, Nat.reduceAdd] at e1
  have tk : ∀ (l : List Cell) (k : Nat), (ce ++ l).take (ce.length + k) = ce ++ l.take k := fun l k => List.take_length_add_append k
  simp? only [e0, e1, List.length_append, List.append_assoc, sFldSet, finD, tk, Nat.lt_irrefl, Nat.reduceLT, List.take_succ_cons, List.take_zero]
theorem m_make (s : List Sg) (sl : Sl) (ce : List Cell) (h : s.length < 16777216) : kMake c_Record 2 f_Record___init__ [.im (.str (txt s))] sl ce = .ok (.im (recD s)) ce := by
  unfold kMake
  simp only [List.all_cons, plainV, List.all_nil, Bool.and_self, if_true]
  rw [m_init s ce h]
  simp [recD]
theorem fld_s {s : List Sg} {sl : Sl} {ce : List Cell} : kFld c_Record 0 (.im (recD s)) sl ce = .ok (.im (.str (txt s))) ce := by simp [kFld, recD]
theorem isC_s {s : List Sg} {ce : List Cell} : isC c_Record ce (.im (recD s)) = true := rfl
theorem m_lefts (s : List Sg) (ce : List Cell) (h : s.length ≤ 16777216) : f_Record_lefts [.im (recD s)] ce = .ok (.im (.int (lefts s : Nat))) ce := by
  unfold f_Record_lefts b_Record_lefts
  have := cnt_le s .g
  have e : ((s.length : Int) - (s.count .g : Nat)) = (lefts s : Nat) := by unfold lefts; omega
  simp? only [fld_s, txt_len, h, sl3, kcount, finD, e, List.take_length]
theorem m_rights (s : List Sg) (ce : List Cell) (h : s.length ≤ 16777216) : f_Record_rights [.im (recD s)] ce = .ok (.im (.int (rights s : Nat))) ce := by
  unfold f_Record_rights b_Record_rights
  have := cnt_le s .l
  have e : ((s.length : Int) - (s.count .l : Nat)) = (rights s : Nat) := by unfold rights; omega
  simp? only [fld_s, txt_len, h, sl1, kcount, finD, e, List.take_length]
/-- small, of one shape -/
structure Sm (L R : Nat) (s : List Sg) : Prop where
  i : In L R s
  l : L ≤ 400
  r : R ≤ 400
theorem Sm.len {L R : Nat} {s : List Sg} (h : Sm L R s) : s.length ≤ 800 := by
  have := len_le s
  have h1 := h.i.1
  have h2 := h.i.2
  have h3 := h.l
  have h4 := h.r
  omega
end ZZ
set_option Elab.async false
set_option linter.all false
set_option maxRecDepth 100000
set_option maxHeartbeats 4000000
namespace ZZ
open PySem PySem.Spec L2
theorem mul_ok_l {i j : Int} (h : i.natAbs < 2 ^ 64) : mulOK i j = true := by
  unfold mulOK
  simp only [h, decide_true, Bool.true_or, Bool.or_true]
theorem mul_ok_r {i j : Int} (h : j.natAbs < 2 ^ 64) : mulOK i j = true := by
  unfold mulOK
  simp only [h, decide_true, Bool.or_true]
def mixI (c t : Int) : Int := (c * 97 * (t + 1) + 31 * t) % 1000003 + (c * 97 * (t + 1) + 31 * t) % 1000003 * ((c * 97 * (t + 1) + 31 * t) % 1000003) / 1013
theorem m_mix' (c t : Int) (ce : List Cell) (h0 : 0 ≤ t) (h1 : t < 2 ^ 60) : f__law_mix [.im (.int c), .im (.int t)] ce = .ok (.im (.int (mixI c t))) ce := by
  have e1 : mulOK c 97 = true := mul_ok_r (by decide)
  have e2 : mulOK (c * 97) (t + 1) = true := mul_ok_r (by omega)
  have e3 : mulOK 31 t = true := mul_ok_l (by decide)
  have e4 : ∀ x : Int, mulOK (x % 1000003) (x % 1000003) = true := fun x => mul_ok_r (by omega)
  unfold f__law_mix b__law_mix
  simp? only [kMul, kDiv, e1, e2, e3, e4, finD, List.take_length, Int.reduceLT]
  rfl
theorem m_draw (k : Nat) (ds : List Int) (b : Int) (ce : List Cell) (hk : ce[k]? = some (.lst (ds.map .int))) (hb : 0 < b) : ∃ r ds', 0 ≤ r ∧ r < b ∧ f__law_draw [.cell k, .im (.int b)] ce = .ok (.im (.int r)) (ce.set k (.lst (List.map D.int ds'))) := by
  unfold f__law_draw b__law_draw
  cases ds with
  | nil =>
    refine ⟨0, [], Int.le_refl _, hb, ?_⟩
    have e : ce.set k (.lst (List.map D.int [])) = ce := by
      refine List.ext_getElem? fun j => ?_
      by_cases hj : k = j
      · subst hj
        rw [List.getElem?_set_self (List.getElem?_eq_some_iff.mp hk).1, hk]
      · rw [List.getElem?_set_ne hj]
    rw [e]
    rw [List.map_nil] at hk
    have hz : ((0 : Nat) : Int) = 0 := rfl
    simp? only [hk, eq_int, hz, finD, List.take_length]
  | cons d ds =>
    refine ⟨d % b, ds, Int.emod_nonneg _ (by omega), Int.emod_lt_of_pos _ hb, ?_⟩
    rw [List.map_cons] at hk
    have e : ¬ (((D.int d :: ds.map D.int).length : Nat) : Int) = 0 := by rw [List.length_cons]; omega
    have e2 : seqIndex? 0 (D.int d :: ds.map D.int).length = some 0 := by
      unfold seqIndex?
      rw [List.length_cons]
      simp
      try omega
    have kp : ∀ sl, kPopAt (.cell k) [.im (.int 0)] sl ce = .ok (.im (.int d)) (ce.set k (.lst (ds.map D.int))) := fun sl => by
      unfold kPopAt
      simp only [hk, e2]
      rw [if_pos ⟨by decide, by decide⟩]
      rfl
    simp only [eTru, mkD, List.map_cons, List.map_nil, Nat.reduceAdd, Nat.reduceSub, List.replicate_succ, List.replicate_zero, List.cons_append, List.nil_append, sSeq, sSet, sRet, sExp, sDrop, sIf, sNil, sFor, eBin, eUn, eBind, eV, eC, eArgs, eAnd, eOr, eNot, eIf, eMth, eTru, kBool, List.getElem?_cons_zero, List.getElem?_cons_succ, List.set_cons_zero, List.set_cons_succ, if_true, if_false, ite_true, ite_false, Bool.false_eq_true, eq_self_iff_true, reduceIte, ims, Option.map_some, kTup, kLst, kLstC, kCall, List.all_cons, List.all_nil, plainV, Bool.and_true, Bool.true_and, iExp, iArgs, itS, itL, itT, itLT, gN, gT, gL, Option.bind_some, frz, ce_get, ce_get0, ce_set, ce_set0, ce_take, asL, asSq, asIm, truV, kTru, kAdd, kSub, kMod, kLen, kInt, kMin, kMax, kCmp, kIsB, tyL, tyS, Option.isSome_some, Bool.and_self, beq_self_eq_true, Option.isSome, Bool.or_true, Bool.true_or, Bool.not_true, Bool.not_false, Bool.false_and, Bool.and_false, Bool.or_false, Bool.false_or, List.cons.injEq, reduceCtorEq, false_and, and_false, and_self, and_true, true_and, decide_true, decide_false, Nat.reduceLeDiff, LINE, hk, eq_int, e, kp, hb, finD, set_take]
def scr (ns : List Int) : D := .wl (ns.map .int)
theorem pool_in (ns : List Int) (many seed : Option Val) (k : Nat) (v : Int) (hk : ns[k]? = some v) (g : Bool) (ce : List Cell) : ∀ (js : List Int) (ρ : Int) (ds : List Int) (x7 : Option Val), (∀ j ∈ js, 0 ≤ j ∧ j < 100) → ds.length + js.length < 16777216 →
    ∃ (ds' : List Int) (ρ' : Int) (y7 : Option Val), forD (gN 7) lp__law_pool_0 (js.map .int) [some (.im (scr ns)), many, some (.cell ce.length), seed, some (.im (.int k)), some (.im (.int ρ)), some (.im (.bl g)), x7] (ce ++ [.lst (ds.map .int)]) =
      .nx [some (.im (scr ns)), many, some (.cell ce.length), seed, some (.im (.int k)), some (.im (.int ρ')), some (.im (.bl g)), y7] (ce ++ [.lst (ds'.map D.int)]) ∧ ds'.length ≤ ds.length + js.length
  | [], ρ, ds, x7, hj, h => ⟨ds, ρ, x7, by rw [List.map_nil, forD], by simp⟩
  | j :: js, ρ, ds, x7, hj, h => by
    rw [List.length_cons] at h
    have hj0 := hj j (List.mem_cons_self ..)
    have ih := fun ρ ds x7 h => pool_in ns many seed k v hk g ce js ρ ds x7 (fun j hm => hj j (List.mem_cons_of_mem _ hm)) h
    have app : ∀ (x : Int) sl, kAppend (.cell ce.length) [.im (.int x)] sl (ce ++ [.lst (ds.map .int)]) = .ok (.im .non) (ce ++ [.lst ((ds ++ [x]).map .int)]) := fun x sl => by
      rw [app_ok (by rw [List.length_map]; show ds.length < 16777216; omega), List.map_append]
      rfl
    have ix : ∀ sl ce, kIx (.im (scr ns)) (.im (.int k)) sl ce = .ok (.im (.int v)) ce := fun sl ce => by
      unfold kIx scr
      have hlt := (List.getElem?_eq_some_iff.mp hk).1
      have e : atI (ns.map D.int) (k : Int) = some (.int v) := by
        unfold atI ixN
        rw [if_pos (by omega), if_pos (by rw [List.length_map]; omega), Int.toNat_natCast, Option.bind_some, List.getElem?_map, hk]
        rfl
      simp only [asSq, e]
    have go : ∀ (ρ2 : Int) (ds2 : List Int), ds2.length ≤ ds.length + 1 → lp__law_pool_0 [some (.im (scr ns)), many, some (.cell ce.length), seed, some (.im (.int k)), some (.im (.int ρ)), some (.im (.bl g)), some (.im (.int j))] (ce ++ [.lst (ds.map .int)]) = .nx [some (.im (scr ns)), many, some (.cell ce.length), seed, some (.im (.int k)), some (.im (.int ρ2)), some (.im (.bl g)), some (.im (.int j))] (ce ++ [.lst (ds2.map .int)]) →
        ∃ (ds' : List Int) (ρ' : Int) (y7 : Option Val), forD (gN 7) lp__law_pool_0 ((j :: js).map .int) [some (.im (scr ns)), many, some (.cell ce.length), seed, some (.im (.int k)), some (.im (.int ρ)), some (.im (.bl g)), x7] (ce ++ [.lst (ds.map .int)]) =
      .nx [some (.im (scr ns)), many, some (.cell ce.length), seed, some (.im (.int k)), some (.im (.int ρ')), some (.im (.bl g)), y7] (ce ++ [.lst (ds'.map D.int)]) ∧ ds'.length ≤ ds.length + (js.length + 1) := fun ρ2 ds2 hd2 hb => by
      obtain ⟨ds', ρ', y7, e, q⟩ := ih ρ2 ds2 (some (.im (.int j))) (by omega)
      refine ⟨ds', ρ', y7, ?_, by omega⟩
      rw [List.map_cons, forD]
      simp only [gN, List.set_cons_zero, List.set_cons_succ, hb]
      exact e
    rw [List.length_cons]
    cases g with
    | true =>
      by_cases hp : 0 < ρ
      · refine go (ρ / 1000003) (ds ++ [ρ % 1000003]) (by simp) ?_
        unfold lp__law_pool_0
        simp? only [kDiv, hp, app, Int.reduceLT]
      · refine go ρ ds (by omega) ?_
        unfold lp__law_pool_0
        simp? only [kDiv, hp, app, Int.reduceLT]
    | false =>
      by_cases hp : j < 6
      · have er := fun ce => m_mix' v j ce hj0.1 (by omega)
        refine go ρ (ds ++ [mixI v j]) (by simp) ?_
        unfold lp__law_pool_0
        simp? only [hp, ix, er, app]
      · refine go ρ ds (by omega) ?_
        unfold lp__law_pool_0
        simp? only [hp]
theorem m_ix (ns : List Int) (k : Nat) (v : Int) (hk : ns[k]? = some v) (sl : Sl) (ce : List Cell) : kIx (.im (scr ns)) (.im (.int k)) sl ce = .ok (.im (.int v)) ce := by
  unfold kIx scr
  have hlt := (List.getElem?_eq_some_iff.mp hk).1
  have e : atI (ns.map D.int) (k : Int) = some (.int v) := by
    unfold atI ixN
    rw [if_pos (by omega), if_pos (by rw [List.length_map]; omega), Int.toNat_natCast, Option.bind_some, List.getElem?_map, hk]
    rfl
  simp only [asSq, e]
theorem pool_out (ns : List Int) (hn : ns.length ≤ 63) (many : Option Val) (ce : List Cell) : ∀ (ks : List Nat) (s : Int) (ds : List Int) (x4 x5 x6 x7 : Option Val), (∀ k ∈ ks, k < ns.length) → ds.length + 60 * ks.length < 16777216 →
    ∃ (ds' : List Int) (s' : Int) (y4 y5 y6 y7 : Option Val), forD (gN 4) lp__law_pool_1 (ks.map fun (k : Nat) => D.int (k : Int)) [some (.im (scr ns)), many, some (.cell ce.length), some (.im (.int s)), x4, x5, x6, x7] (ce ++ [.lst (ds.map .int)]) =
      .nx [some (.im (scr ns)), many, some (.cell ce.length), some (.im (.int s')), y4, y5, y6, y7] (ce ++ [.lst (ds'.map D.int)]) ∧ ds'.length ≤ ds.length + 60 * ks.length
  | [], s, ds, x4, x5, x6, x7, hj, h => ⟨ds, s, x4, x5, x6, x7, by rw [List.map_nil, forD], by simp⟩
  | k :: ks, s, ds, x4, x5, x6, x7, hj, h => by
    rw [List.length_cons] at h
    have hk0 := hj k (List.mem_cons_self ..)
    have hv : ns[k]? = some ns[k] := List.getElem?_eq_getElem hk0
    generalize ns[k] = v at hv
    have kr := rng1 60 (by decide)
    have hpow : ∀ sl ce, kPow (.im (.int 10)) (.im (.int 18)) sl ce = .ok (.im (.int (10 ^ 18))) ce := fun sl ce => by
      unfold kPow
      simp only []
      rw [if_pos (by decide)]
      rfl
    have hmul : mulOK v ((k : Int) + 1) = true := mul_ok_r (by omega)
    obtain ⟨ds1, ρ1, y7, e1, q1⟩ := pool_in ns many (some (.im (.int ((s + v * ((k : Int) + 1)) % 1000003)))) k v hv (decide (10 ^ 18 ≤ (if v < 0 then -v else v))) ce ((List.range 60).map fun (i : Nat) => (i : Int)) (if v < 0 then -v else v) ds x7 (fun j hm => by
      obtain ⟨i, hi, rfl⟩ := List.mem_map.mp hm
      rw [List.mem_range] at hi
      omega) (by rw [List.length_map, List.length_range]; omega)
    rw [List.map_map] at e1
    rw [List.length_map, List.length_range] at q1
    have hf : (D.int ∘ fun (i : Nat) => (i : Int)) = fun (i : Nat) => D.int (i : Int) := rfl
    rw [hf] at e1
    obtain ⟨ds', s', z4, z5, z6, z7, e, q⟩ := pool_out ns hn many ce ks ((s + v * ((k : Int) + 1)) % 1000003) ds1 (some (.im (.int k))) (some (.im (.int ρ1))) (some (.im (.bl (decide (10 ^ 18 ≤ (if v < 0 then -v else v)))))) y7 (fun k hm => hj k (List.mem_cons_of_mem _ hm)) (by omega)
    refine ⟨ds', s', z4, z5, z6, z7, ?_, by rw [List.length_cons]; omega⟩
    rw [List.map_cons, forD]
    simp only [gN, List.set_cons_zero, List.set_cons_succ]
    rw [← e]
    unfold lp__law_pool_1
    have kr' : kRng1 [.im (.int 60)] = some ((List.range 60).map fun (i : Nat) => D.int (i : Int)) := kr
    simp? only [kMul, kAbs, m_ix ns k v hv, hmul, hpow, kr', e1, Int.reduceLT]
theorem pool_fill (many : Nat) (hm : many ≤ 1000) (a0 a4 a5 a6 : Option Val) (s : Int) (ce : List Cell) : ∀ (js : List D) (ds : List Int) (x7 : Option Val), ds.length + js.length < 16777216 →
    ∃ (ds' : List Int) (y7 : Option Val), forD (gN 7) lp__law_pool_2 js [a0, some (.im (.int many)), some (.cell ce.length), some (.im (.int s)), a4, a5, a6, x7] (ce ++ [.lst (ds.map .int)]) =
      .nx [a0, some (.im (.int many)), some (.cell ce.length), some (.im (.int s)), a4, a5, a6, y7] (ce ++ [.lst (ds'.map D.int)])
  | [], ds, x7, h => ⟨ds, x7, by rw [forD]⟩
  | j :: js, ds, x7, h => by
    rw [List.length_cons] at h
    have app : ∀ (x : Int) sl, kAppend (.cell ce.length) [.im (.int x)] sl (ce ++ [.lst (ds.map .int)]) = .ok (.im .non) (ce ++ [.lst ((ds ++ [x]).map .int)]) := fun x sl => by
      rw [app_ok (by rw [List.length_map]; show ds.length < 16777216; omega), List.map_append]
      rfl
    rw [forD]
    simp only [gN, List.set_cons_zero, List.set_cons_succ]
    by_cases hl : ds.length < many
    · obtain ⟨ds', y7, e⟩ := pool_fill many hm a0 a4 a5 a6 s ce js (ds ++ [mixI s ds.length]) (some (.im j)) (by rw [List.length_append, List.length_singleton]; omega)
      refine ⟨ds', y7, ?_⟩
      rw [← e]
      have hl' : (ds.length : Int) < (many : Int) := by omega
      have er := fun ce => m_mix' s ds.length ce (by omega) (by omega)
      unfold lp__law_pool_2
      simp? only [List.length_map, hl', er, app]
    · obtain ⟨ds', y7, e⟩ := pool_fill many hm a0 a4 a5 a6 s ce js ds (some (.im j)) (by omega)
      refine ⟨ds', y7, ?_⟩
      rw [← e]
      have hl' : ¬ (ds.length : Int) < (many : Int) := by omega
      unfold lp__law_pool_2
      simp? only [List.length_map, hl']
theorem m_pool (ns : List Int) (hn : ns.length ≤ 63) (many : Nat) (hm : many ≤ 1000) (ce : List Cell) : ∃ ds : List Int, f__law_pool [.im (scr ns), .im (.int many)] ce = .ok (.cell ce.length) (ce ++ [.lst (ds.map .int)]) := by
  obtain ⟨ds1, s1, y4, y5, y6, y7, e1, q1⟩ := pool_out ns hn (some (.im (.int many))) ce (List.range ns.length) 0 [] none none none none (fun k h => List.mem_range.mp h) (by rw [List.length_range]; simp; omega)
  rw [List.length_range, List.length_nil] at q1
  obtain ⟨ds2, z7, e2⟩ := pool_fill many hm (some (.im (scr ns))) y4 y5 y6 s1 ce ((List.range many).map fun (i : Nat) => D.int (i : Int)) ds1 y7 (by rw [List.length_map, List.length_range]; omega)
  refine ⟨ds2, ?_⟩
  have hmin : ∀ (sl : Sl) (ce : List Cell), kMin [.im (.int (ns.length : Int)), .im (.int 63)] sl ce = .ok (.im (.int (ns.length : Int))) ce := fun sl ce => by
    unfold kMin
    have : ¬ (63 : Int) < (ns.length : Int) := by omega
    simp only [this, if_false, eC]
  have k1 := rng1 ns.length (by omega)
  have k2 := rng1 many (by omega)
  rw [List.map_nil] at e1
  have hlen : ∀ (sl : Sl) (ce : List Cell), kLen [.im (scr ns)] sl ce = .ok (.im (.int (ns.length : Int))) ce := fun sl ce => by
    unfold kLen scr
    simp only [asSq, List.length_map]
  unfold f__law_pool b__law_pool
  simp? only [-kLen, -kMin, hlen, hmin, k1, k2, e1, e2, finD, Nat.lt_irrefl]
end ZZ
set_option Elab.async false
set_option linter.all false
set_option maxRecDepth 100000
set_option maxHeartbeats 4000000
namespace ZZ
open PySem PySem.Spec L2
section
variable {sl : Sl} {ce : List Cell}
theorem set_get {k : Nat} {c c2 : Cell} (h : ce[k]? = some c) : (ce.set k c2)[k]? = some c2 := by
  rw [List.getElem?_set_self (List.getElem?_eq_some_iff.mp h).1]
theorem num_loop (k : Nat) : ∀ (items : List D) (n : Int) (ds : List Int) (ce : List Cell) (x1 x3 : Option Val), ce[k]? = some (.lst (ds.map .int)) →
    ∃ n' ds' y3, forD (gN 3) lp__law_number_0 items [some (.cell k), x1, some (.im (.int n)), x3] ce = .nx [some (.cell k), x1, some (.im (.int n')), y3] (ce.set k (.lst (List.map D.int ds')))
  | [], n, ds, ce, x1, x3, hk => ⟨n, ds, x3, by rw [forD, set_same hk]⟩
  | d :: items, n, ds, ce, x1, x3, hk => by
    obtain ⟨r, ds1, b, c, e⟩ := m_draw k ds 1000003 ce hk (by decide)
    obtain ⟨n', ds', y3, e2⟩ := num_loop k items (n * 1000003 + r) ds1 (ce.set k (.lst (ds1.map .int))) x1 (some (.im d)) (set_get hk)
    refine ⟨n', ds', y3, ?_⟩
    rw [List.set_set] at e2
    have mk : mulOK n 1000003 = true := mul_ok_r (by decide)
    have ml : ∀ sl ce, kMul (.im (.int n)) (.im (.int 1000003)) sl ce = .ok (.im (.int (n * 1000003))) ce := fun sl ce => by
      unfold kMul
      simp only [mk, if_true]
    rw [← e2, forD]
    simp only [gN, List.set_cons_zero, List.set_cons_succ]
    unfold lp__law_number_0
    simp? only [-kMul, ml, e]
theorem m_number (k : Nat) (ds : List Int) (ce : List Cell) (hk : ce[k]? = some (.lst (ds.map .int))) : ∃ n ds', 0 ≤ n ∧ n < 1000000000000000000000000000000 ∧ f__law_number [.cell k] ce = .ok (.im (.int n)) (ce.set k (.lst (List.map D.int ds'))) := by
  obtain ⟨r1, ds1, b1, c1, e1⟩ := m_draw k ds 8 ce hk (by decide)
  obtain ⟨r2, ds2, b2, c2, e2⟩ := m_draw k ds1 5 (ce.set k (.lst (ds1.map .int))) (set_get hk) (by decide)
  rw [List.set_set] at e2
  have h2 : (ce.set k (.lst (ds2.map .int)))[k]? = some (.lst (ds2.map .int)) := set_get hk
  have k5 : kRng1 [.im (.int 5)] = some [.int 0, .int 1, .int 2, .int 3, .int 4] := rng1 5 (by decide)
  have pw : ∀ sl ce, kPow (.im (.int 10)) (.im (.int 30)) sl ce = .ok (.im (.int 1000000000000000000000000000000)) ce := fun _ _ => rfl
  have md : ∀ (n : Int) sl ce, kMod (.im (.int n)) (.im (.int 1000000000000000000000000000000)) sl ce = .ok (.im (.int (n % 1000000000000000000000000000000))) ce := fun n sl ce => by
    unfold kMod
    simp
  have mb : ∀ n : Int, 0 ≤ n % 1000000000000000000000000000000 ∧ n % 1000000000000000000000000000000 < 1000000000000000000000000000000 := fun n => ⟨Int.emod_nonneg _ (by decide), Int.emod_lt_of_pos _ (by decide)⟩
  have hn : k < ce.length := (List.getElem?_eq_some_iff.mp hk).1
  by_cases h4 : r1 = 4
  · obtain ⟨n', ds', y3, e3⟩ := num_loop k [.int 0, .int 1, .int 2, .int 3, .int 4] r2 ds2 (ce.set k (.lst (ds2.map .int))) (some (.im (.int r1))) none h2
    rw [List.set_set, h4] at e3
    refine ⟨n' % 1000000000000000000000000000000, ds', (mb n').1, (mb n').2, ?_⟩
    unfold f__law_number b__law_number
    simp? only [-kMod, e1, h4, e2, eq_int, k5, e3, pw, md, finD, set_take]
  · refine ⟨r2 % 1000000000000000000000000000000, ds2, (mb r2).1, (mb r2).2, ?_⟩
    unfold f__law_number b__law_number
    simp? only [-kMod, e1, h4, e2, eq_int, pw, md, finD, set_take]
theorem letters_st : ("abcdefghijklmnopqrstuvwxyz" : Str) = st (List.range' 97 26) := by decide +kernel
theorem b_st : ("b" : Str) = st [98] := by decide +kernel
theorem rep_st (c : Nat) (n : Nat) (h : n ≤ 1000) : kRepS (.im (.str (st [c]))) (.im (.int n)) sl ce = .ok (.im (.str (st (List.replicate n c)))) ce := by
  unfold kRepS
  simp only [st_len, List.length_singleton]
  rw [if_pos ⟨by omega, by omega, by omega⟩, st_mul, Int.toNat_natCast]
def okK (cs : List Nat) : Prop := 1 ≤ cs.length ∧ cs.length ≤ 12 ∧ ∀ c ∈ cs, 97 ≤ c ∧ c ≤ 122
theorem m_kind (k : Nat) (ds : List Int) (ce : List Cell) (hk : ce[k]? = some (.lst (ds.map .int))) : ∃ cs ds', okK cs ∧ f__law_kind [.cell k] ce = .ok (.im (.str (st cs))) (ce.set k (.lst (List.map D.int ds'))) := by
  obtain ⟨r1, ds1, b1, c1, e1⟩ := m_draw k ds 6 ce hk (by decide)
  obtain ⟨z, z1, z2, ez⟩ : ∃ z : Nat, 1 ≤ z ∧ z ≤ 12 ∧ ∀ sl ce, kIx (.im (.lst [.int 1, .int 1, .int 1, .int 2, .int 3, .int 12])) (.im (.int r1)) sl ce = .ok (.im (.int z)) ce := by
    have e : r1 = 0 ∨ r1 = 1 ∨ r1 = 2 ∨ r1 = 3 ∨ r1 = 4 ∨ r1 = 5 := by omega
    rcases e with rfl | rfl | rfl | rfl | rfl | rfl
    · exact ⟨1, by decide, by decide, fun _ _ => rfl⟩
    · exact ⟨1, by decide, by decide, fun _ _ => rfl⟩
    · exact ⟨1, by decide, by decide, fun _ _ => rfl⟩
    · exact ⟨2, by decide, by decide, fun _ _ => rfl⟩
    · exact ⟨3, by decide, by decide, fun _ _ => rfl⟩
    · exact ⟨12, by decide, by decide, fun _ _ => rfl⟩
  have h1 : (ce.set k (.lst (ds1.map .int)))[k]? = some (.lst (ds1.map .int)) := set_get hk
  obtain ⟨r2, ds2, b2, c2, e2⟩ := m_draw k ds1 (z : Int) (ce.set k (.lst (ds1.map .int))) h1 (by omega)
  rw [List.set_set] at e2
  have h2 : (ce.set k (.lst (ds2.map .int)))[k]? = some (.lst (ds2.map .int)) := set_get hk
  obtain ⟨r3, ds3, b3, c3, e3⟩ := m_draw k ds2 3 (ce.set k (.lst (ds2.map .int))) h2 (by decide)
  rw [List.set_set] at e3
  obtain ⟨y, y1, y2, ey⟩ : ∃ y : Nat, 1 ≤ y ∧ y ≤ 26 ∧ ∀ sl ce, kIx (.im (.lst [.int 2, .int 3, .int 26])) (.im (.int r3)) sl ce = .ok (.im (.int y)) ce := by
    have e : r3 = 0 ∨ r3 = 1 ∨ r3 = 2 := by omega
    rcases e with rfl | rfl | rfl
    · exact ⟨2, by decide, by decide, fun _ _ => rfl⟩
    · exact ⟨3, by decide, by decide, fun _ _ => rfl⟩
    · exact ⟨26, by decide, by decide, fun _ _ => rfl⟩
  have h3 : (ce.set k (.lst (ds3.map .int)))[k]? = some (.lst (ds3.map .int)) := set_get hk
  obtain ⟨r4, ds4, b4, c4, e4⟩ := m_draw k ds3 (y : Int) (ce.set k (.lst (ds3.map .int))) h3 (by omega)
  rw [List.set_set] at e4
  obtain ⟨p, rfl⟩ : ∃ p : Nat, r2 = p := ⟨r2.toNat, by omega⟩
  obtain ⟨q, rfl⟩ : ∃ p : Nat, r4 = p := ⟨r4.toNat, by omega⟩
  have hq : (List.range' 97 26)[q]? = some (97 + q) := by
    rw [List.getElem?_range' (by omega)]
    simp
  have ix := fun sl ce => ix_st (sl := sl) (ce := ce) (List.range' 97 26) q (97 + q) hq (by rw [List.length_range']; omega)
  have p1 := fun sl ce => rep_st (sl := sl) (ce := ce) 98 p (by omega)
  obtain ⟨m, hm⟩ : ∃ m : Nat, (z : Int) - 1 - (p : Int) = m := ⟨z - 1 - p, by omega⟩
  have p2 := fun sl ce => rep_st (sl := sl) (ce := ce) 98 m (by omega)
  have a1 := fun sl ce => add_st (sl := sl) (ce := ce) (List.replicate p 98) [97 + q] (by rw [List.length_replicate, List.length_singleton]; omega)
  have a2 := fun sl ce => add_st (sl := sl) (ce := ce) (List.replicate p 98 ++ [97 + q]) (List.replicate m 98) (by rw [List.length_append, List.length_replicate, List.length_singleton, List.length_replicate]; omega)
  refine ⟨List.replicate p 98 ++ [97 + q] ++ List.replicate m 98, ds4, ⟨?_, ?_, ?_⟩, ?_⟩
  · simp only [List.length_append, List.length_replicate, List.length_singleton]
    omega
  · simp only [List.length_append, List.length_replicate, List.length_singleton]
    omega
  · intro c hc
    simp only [List.mem_append, List.mem_replicate, List.mem_singleton] at hc
    omega
  · unfold f__law_kind b__law_kind
    simp? only [-kAdd, e1, ez, e2, e3, ey, e4, letters_st, b_st, ix, p1, hm, p2, a1, a2, finD, set_take]
end
end ZZ
set_option Elab.async false
set_option linter.all false
set_option maxRecDepth 100000
set_option maxHeartbeats 4000000
namespace ZZ
open PySem PySem.Spec L2
theorem ix_sign (r : Int) (h0 : 0 ≤ r) (h1 : r < 4) : ∃ c : Sg, ∀ sl ce, kIx (.im (.str "<=>=")) (.im (.int r)) sl ce = .ok (.im (.str (txt [c]))) ce := by
  have e : r = 0 ∨ r = 1 ∨ r = 2 ∨ r = 3 := by omega
  have es : ("<=>=" : Str) = txt [.l, .e, .g, .e] := by decide +kernel
  rcases e with rfl | rfl | rfl | rfl
  · exact ⟨.l, fun sl ce => by rw [es]; rfl⟩
  · exact ⟨.e, fun sl ce => by rw [es]; rfl⟩
  · exact ⟨.g, fun sl ce => by rw [es]; rfl⟩
  · exact ⟨.e, fun sl ce => by rw [es]; rfl⟩
theorem path_loop (k L R : Nat) (hL : L ≤ 400) (hR : R ≤ 400) : ∀ (items : List D) (s : List Sg) (ds : List Int) (ce : List Cell) (x6 x7 : Option Val), ce[k]? = some (.lst (ds.map .int)) → lefts s ≤ L → rights s ≤ R →
    ∃ (s' : List Sg) (ds' : List Int) (y6 y7 : Option Val), forD (gN 6) lp__law_path_0 items [some (.cell k), some (.im (.int L)), some (.im (.int R)), some (.im (.str (txt s))), some (.im (.int (lefts s : Nat))), some (.im (.int (rights s : Nat))), x6, x7] ce =
      .nx [some (.cell k), some (.im (.int L)), some (.im (.int R)), some (.im (.str (txt s'))), some (.im (.int (lefts s' : Nat))), some (.im (.int (rights s' : Nat))), y6, y7] (ce.set k (.lst (ds'.map D.int))) ∧ lefts s' ≤ L ∧ rights s' ≤ R ∧
      ((lefts s' = L ∧ rights s' = R) ∨ lefts s + rights s + items.length ≤ lefts s' + rights s')
  | [], s, ds, ce, x6, x7, hk, h1, h2 => by
    have e : ce.set k (.lst (ds.map D.int)) = ce := by
      refine List.ext_getElem? fun j => ?_
      by_cases hj : k = j
      · subst hj
        rw [List.getElem?_set_self (List.getElem?_eq_some_iff.mp hk).1, hk]
      · rw [List.getElem?_set_ne hj]
    exact ⟨s, ds, x6, x7, by rw [forD, e], h1, h2, .inr (by simp)⟩
  | d :: items, s, ds, ce, x6, x7, hk, h1, h2 => by
    obtain ⟨r, ds1, r0, r1, ed⟩ := m_draw k ds 4 ce hk (by decide)
    obtain ⟨c, ec⟩ := ix_sign r r0 r1
    have hk1 : (ce.set k (.lst (ds1.map D.int)))[k]? = some (.lst (ds1.map .int)) := List.getElem?_set_self (List.getElem?_eq_some_iff.mp hk).1
    have ih := fun s x7 h1 h2 => path_loop k L R hL hR items s ds1 (ce.set k (.lst (ds1.map D.int))) (some (.im d)) x7 hk1 h1 h2
    simp only [List.set_set] at ih
    have hlen := len_le s
    have step : ∀ c2 : Sg, lefts (s ++ [c2]) = lefts s + (if c2 = .g then 0 else 1) ∧ rights (s ++ [c2]) = rights s + (if c2 = .l then 0 else 1) := fun c2 => by
      rw [lefts_app, rights_app, lefts_cons, rights_cons]
      simp [lefts, rights]
    have ad : ∀ (c2 : Sg) sl ce, kAdd (.im (.str (txt s))) (.im (.str (txt [c2]))) sl ce = .ok (.im (.str (txt (s ++ [c2])))) ce := fun c2 sl ce => add_s s [c2] (by simp; omega)
    have ai : ∀ (i j : Int) sl ce, kAdd (.im (.int i)) (.im (.int j)) sl ce = .ok (.im (.int (i + j))) ce := fun i j sl ce => rfl
    rw [forD]
    simp only [gN, List.set_cons_zero, List.set_cons_succ]
    unfold lp__law_path_0
    by_cases hx : lefts s = L
    · by_cases hy : rights s = R
      · obtain ⟨s', ds', y6, y7, e, q1, q2, q3⟩ := ih s (some (.im (.str (txt [.l])))) h1 h2
        refine ⟨s', ds', y6, y7, ?_, q1, q2, ?_⟩
        · rw [← e]
          have e1 : ((lefts s : Nat) : Int) = (L : Int) := by omega
          have e2 : ((rights s : Nat) : Int) = (R : Int) := by omega
          simp? only [-kAdd, ed, ec, eq_int, e1, e2, sl1, sl3, Int.lt_irrefl]
          rfl
        · rcases q3 with q3 | q3
          · exact .inl q3
          · exact .inl ⟨by omega, by omega⟩
      · obtain ⟨t1, t2⟩ := step .g
        simp only [if_true, reduceCtorEq, if_false] at t1 t2
        obtain ⟨s', ds', y6, y7, e, q1, q2, q3⟩ := ih (s ++ [.g]) (some (.im (.str (txt [.g])))) (by omega) (by omega)
        refine ⟨s', ds', y6, y7, ?_, q1, q2, ?_⟩
        · rw [← e, t1, t2]
          have e1 : ((lefts s : Nat) : Int) = (L : Int) := by omega
          have e2 : ¬ ((rights s : Nat) : Int) = (R : Int) := by omega
          have e3 : ((rights s : Nat) : Int) < (R : Int) := by omega
          have e4 : ((rights s : Nat) : Int) + 1 = ((rights s + 1 : Nat) : Int) := rfl
          simp? only [-kAdd, ed, ec, eq_int, eq_txt, e1, e2, e3, e4, sl1, sl3, ad, ai, Int.lt_irrefl, Int.add_zero, Nat.add_zero]
          rfl
        · rcases q3 with q3 | q3
          · exact .inl q3
          · exact .inr (by rw [List.length_cons]; omega)
    · by_cases hy : rights s = R
      · obtain ⟨t1, t2⟩ := step .l
        simp only [if_true, reduceCtorEq, if_false] at t1 t2
        obtain ⟨s', ds', y6, y7, e, q1, q2, q3⟩ := ih (s ++ [.l]) (some (.im (.str (txt [.l])))) (by omega) (by omega)
        refine ⟨s', ds', y6, y7, ?_, q1, q2, ?_⟩
        · rw [← e, t1, t2]
          have e1 : ¬ ((lefts s : Nat) : Int) = (L : Int) := by omega
          have e2 : ((rights s : Nat) : Int) = (R : Int) := by omega
          have e3 : ((lefts s : Nat) : Int) < (L : Int) := by omega
          have e4 : ((lefts s : Nat) : Int) + 1 = ((lefts s + 1 : Nat) : Int) := rfl
          simp? only [-kAdd, ed, ec, eq_int, eq_txt, e1, e2, e3, e4, sl1, sl3, ad, ai, Int.lt_irrefl, Int.add_zero, Nat.add_zero]
          rfl
        · rcases q3 with q3 | q3
          · exact .inl q3
          · exact .inr (by rw [List.length_cons]; omega)
      · have e1 : ¬ ((lefts s : Nat) : Int) = (L : Int) := by omega
        have e2 : ¬ ((rights s : Nat) : Int) = (R : Int) := by omega
        have e3 : ((lefts s : Nat) : Int) < (L : Int) := by omega
        have e5 : ((lefts s : Nat) : Int) + 1 = ((lefts s + 1 : Nat) : Int) := rfl
        have e6 : ((rights s : Nat) : Int) + 1 = ((rights s + 1 : Nat) : Int) := rfl
        cases c with
        | l =>
          obtain ⟨t1, t2⟩ := step .l
          simp only [if_true, reduceCtorEq, if_false] at t1 t2
          obtain ⟨s', ds', y6, y7, e, q1, q2, q3⟩ := ih (s ++ [.l]) (some (.im (.str (txt [.l])))) (by omega) (by omega)
          refine ⟨s', ds', y6, y7, ?_, q1, q2, ?_⟩
          · rw [← e, t1, t2]
            simp? only [-kAdd, ed, ec, eq_int, eq_txt, e1, e2, e3, e5, e6, sl1, sl3, ad, ai, Int.lt_irrefl, Int.add_zero, Nat.add_zero]
            rfl
          · rcases q3 with q3 | q3
            · exact .inl q3
            · exact .inr (by rw [List.length_cons]; omega)
        | e =>
          obtain ⟨t1, t2⟩ := step .e
          simp only [if_true, reduceCtorEq, if_false] at t1 t2
          obtain ⟨s', ds', y6, y7, e, q1, q2, q3⟩ := ih (s ++ [.e]) (some (.im (.str (txt [.e])))) (by omega) (by omega)
          refine ⟨s', ds', y6, y7, ?_, q1, q2, ?_⟩
          · rw [← e, t1, t2]
            simp? only [-kAdd, ed, ec, eq_int, eq_txt, e1, e2, e3, e5, e6, sl1, sl3, ad, ai, Int.lt_irrefl, Int.add_zero, Nat.add_zero]
            rfl
          · rcases q3 with q3 | q3
            · exact .inl q3
            · exact .inr (by rw [List.length_cons]; omega)
        | g =>
          obtain ⟨t1, t2⟩ := step .g
          simp only [if_true, reduceCtorEq, if_false] at t1 t2
          obtain ⟨s', ds', y6, y7, e, q1, q2, q3⟩ := ih (s ++ [.g]) (some (.im (.str (txt [.g])))) (by omega) (by omega)
          refine ⟨s', ds', y6, y7, ?_, q1, q2, ?_⟩
          · rw [← e, t1, t2]
            simp? only [-kAdd, ed, ec, eq_int, eq_txt, e1, e2, e3, e5, e6, sl1, sl3, ad, ai, Int.lt_irrefl, Int.add_zero, Nat.add_zero]
            rfl
          · rcases q3 with q3 | q3
            · exact .inl q3
            · exact .inr (by rw [List.length_cons]; omega)
theorem m_path (k L R : Nat) (hL : L ≤ 400) (hR : R ≤ 400) (ds : List Int) (ce : List Cell) (hk : ce[k]? = some (.lst (ds.map .int))) : ∃ s ds', f__law_path [.cell k, .im (.int L), .im (.int R)] ce = .ok (.im (.str (txt s))) (ce.set k (.lst (List.map D.int ds'))) ∧ Sm L R s := by
  obtain ⟨s', ds', y6, y7, e, q1, q2, q3⟩ := path_loop k L R hL hR ((List.range (L + R)).map fun (i : Nat) => D.int (i : Int)) [] ds ce none none hk (Nat.zero_le _) (Nat.zero_le _)
  rw [List.length_map, List.length_range] at q3
  have e00 : lefts [] = 0 := rfl
  have e01 : rights [] = 0 := rfl
  rw [e00, e01] at q3 e
  have hz : ((0 : Nat) : Int) = 0 := rfl
  rw [hz] at e
  refine ⟨s', ds', ?_, ⟨⟨by omega, by omega⟩, hL, hR⟩⟩
  unfold f__law_path b__law_path
  have kr := rng1 (L + R) (by omega)
  rw [Int.natCast_add] at kr
  have ai : ∀ (i j : Int) sl ce, kAdd (.im (.int i)) (.im (.int j)) sl ce = .ok (.im (.int (i + j))) ce := fun i j sl ce => rfl
  have es : ("" : Str) = txt [] := txt_nil.symm
  simp? only [-kAdd, ai, kr, es, e, finD, set_take]
end ZZ
set_option Elab.async false
set_option linter.all false
set_option maxRecDepth 100000
set_option maxHeartbeats 4000000
namespace ZZ
open PySem PySem.Spec L2
theorem thread_get {α : Type} {ds : List D} {ys : List D} {R : D → D → Prop} {P : α → Prop} {F : α → D} (hl : ys.length = ds.length) (h : ∀ (i : Nat) (d y : D), ds[i]? = some d → ys[i]? = some y → R d y) (hR : ∀ d y, R d y → ∃ a, P a ∧ y = F a) : ∀ (k : Nat) (y : D), ys[k]? = some y → ∃ a, P a ∧ y = F a := fun k y hy => by
  have hk : k < ds.length := by
    have := (List.getElem?_eq_some_iff.mp hy).1
    omega
  exact hR _ _ (h k ds[k] y (List.getElem?_eq_getElem hk) hy)
end ZZ
set_option Elab.async false
set_option linter.all false
set_option maxRecDepth 100000
set_option maxHeartbeats 4000000
namespace ZZ
open PySem PySem.Spec L2
section
variable {ls : List Lay} {js : List Jnt}
theorem fL : D.lst (ls.map layD) = laysD ls := rfl
end
end ZZ
set_option Elab.async false
set_option linter.all false
set_option maxRecDepth 100000
set_option maxHeartbeats 4000000
namespace ZZ
open PySem PySem.Spec L2
end ZZ
set_option Elab.async false
set_option linter.all false
set_option maxRecDepth 100000
set_option maxHeartbeats 4000000
namespace ZZ
open PySem PySem.Spec L2
inductive Wd | older | younger | one | nolder | nyounger
  deriving DecidableEq
def lets : Wd → Int → Int → Int → Bool
  | .older, b, a, j => decide (a ≤ j) && decide (b ≤ j)
  | .younger, b, a, j => decide (j < b) && decide (j < a)
  | .one, b, a, j => decide (b ≤ j) && decide (j < a)
  | .nolder, _, a, j => decide (j < a)
  | .nyounger, b, _, j => decide (b ≤ j)
end ZZ
set_option Elab.async false
set_option linter.all false
set_option maxRecDepth 100000
set_option maxHeartbeats 4000000
namespace ZZ
open PySem PySem.Spec L2
structure Wo where
  l1 : List Lay
  j1 : List Jnt
  l2 : List Lay
  j2 : List Jnt
structure Wo.Ok (w : Wo) : Prop where
  a : OkC w.l1 w.j1
  b : OkC w.l2 w.j2
structure Say where
  w : Wd
  i : Int
  j : Int
  no : False
instance say_dec : DecidableEq Say := fun a _ => a.no.elim
def askd (q : List Say) (k : Nat) : List Say := q.filter fun a => decide (a.i = (k : Int))
def kept (q : List Say) (k : Nat) (b a : Int) : Bool := (askd q k).all fun s => lets s.w b a s.j
structure Std where
  x : Nat
  y : Nat
  last : Sg
  since : Nat
def stdD (s : Std) : D := .tup [.int s.x, .int s.y, .str (txt [s.last]), .int s.since]
structure Std.Ok (w : Wo) (s : Std) : Prop where
  x : s.x ≤ w.l1.length
  y : s.y ≤ w.l2.length
  l : s.last = .l → s.since ≤ s.x
  g : s.last = .g → s.since ≤ s.y
def psum (ls : List Lay) (k : Nat) : Int := thick (ls.take k)
def inJ (j : Jnt) (l : Int) : Bool := decide (j.1 ≤ l) && (match j.2 with
  | none => true
  | some m => decide (l ≤ m))
def lossL (w : Wo) (s : Std) : Int := if s.last = .g then psum w.l2 s.y - psum w.l2 s.since else 0
def lossR (w : Wo) (s : Std) : Int := if s.last = .l then psum w.l1 s.x - psum w.l1 s.since else 0
def jn (js : List Jnt) (k : Nat) : Jnt := js.getD k (0, none)
def kn (ls : List Lay) (k : Nat) : List Nat := (ls.getD k ([], 0)).1
def fin (w : Wo) (s : Std) : Bool := decide (s.x = w.l1.length) && (decide (s.y = w.l2.length) && (inJ (jn w.j1 s.x) (lossL w s) && inJ (jn w.j2 s.y) (lossR w s)))
section
variable {sl : Sl} {ce : List Cell} {ls : List Lay} {js : List Jnt} {w : Wo} {s : Std}
theorem st1 : kIx (.im (stdD s)) (.im (.int 1)) sl ce = .ok (.im (.int s.y)) ce := by rfl
theorem st2 : kIx (.im (stdD s)) (.im (.int 2)) sl ce = .ok (.im (.str (txt [s.last]))) ce := by rfl
theorem st3 : kIx (.im (stdD s)) (.im (.int 3)) sl ce = .ok (.im (.int s.since)) ce := by rfl
end
end ZZ
set_option Elab.async false
set_option linter.all false
set_option maxRecDepth 100000
set_option maxHeartbeats 4000000
namespace ZZ
open PySem PySem.Spec L2
end ZZ
set_option Elab.async false
set_option linter.all false
set_option maxRecDepth 100000
set_option maxHeartbeats 4000000
namespace ZZ
open PySem PySem.Spec L2
end ZZ
set_option Elab.async false
set_option linter.all false
set_option maxRecDepth 100000
set_option maxHeartbeats 4000000
namespace ZZ
open PySem PySem.Spec L2
def lostA (l2 : List Lay) : Nat → Nat → List Sg → Nat → Int
  | _, _, [], _ => 0
  | x, y, .l :: s, k => lostA l2 (x + 1) y s k
  | x, y, .e :: s, k => lostA l2 (x + 1) (y + 1) s k
  | x, y, .g :: s, k => (if k = x then (l2.getD y ([], 0)).2 else 0) + lostA l2 x (y + 1) s k
def lostB (l1 : List Lay) : Nat → Nat → List Sg → Nat → Int
  | _, _, [], _ => 0
  | x, y, .g :: s, k => lostB l1 x (y + 1) s k
  | x, y, .e :: s, k => lostB l1 (x + 1) (y + 1) s k
  | x, y, .l :: s, k => (if k = y then (l1.getD x ([], 0)).2 else 0) + lostB l1 (x + 1) y s k
def eqs : Nat → Nat → List Sg → List (Nat × Nat)
  | _, _, [] => []
  | x, y, .l :: s => eqs (x + 1) y s
  | x, y, .g :: s => eqs x (y + 1) s
  | x, y, .e :: s => (x, y) :: eqs (x + 1) (y + 1) s
theorem thick_nn (ls : List Lay) (h : ∀ l ∈ ls, okL l) (y : Nat) : 0 ≤ (ls.getD y ([], 0)).2 := by
  rw [List.getD_eq_getElem?_getD]
  cases e : ls[y]? with
  | none => exact Int.le_refl _
  | some l =>
    have := (h l (List.mem_of_getElem? e)).2.2.2
    simp only [Option.getD_some]
    omega
theorem lostA_nn (l2 : List Lay) (h : ∀ l ∈ l2, okL l) : ∀ (s : List Sg) (x y k : Nat), 0 ≤ lostA l2 x y s k
  | [], x, y, k => Int.le_refl _
  | .l :: s, x, y, k => by rw [lostA]; exact lostA_nn l2 h s _ _ _
  | .e :: s, x, y, k => by rw [lostA]; exact lostA_nn l2 h s _ _ _
  | .g :: s, x, y, k => by
    rw [lostA]
    have := lostA_nn l2 h s x (y + 1) k
    have := thick_nn l2 h y
    split <;> omega
theorem lostB_nn (l1 : List Lay) (h : ∀ l ∈ l1, okL l) : ∀ (s : List Sg) (x y k : Nat), 0 ≤ lostB l1 x y s k
  | [], x, y, k => Int.le_refl _
  | .g :: s, x, y, k => by rw [lostB]; exact lostB_nn l1 h s _ _ _
  | .e :: s, x, y, k => by rw [lostB]; exact lostB_nn l1 h s _ _ _
  | .l :: s, x, y, k => by
    rw [lostB]
    have := lostB_nn l1 h s (x + 1) y k
    have := thick_nn l1 h x
    split <;> omega
/-- the rest of a record fits from a stand on -/
structure FS (w : Wo) (q : List Say) (s : Std) (r : List Sg) : Prop where
  x : s.x + lefts r = w.l1.length
  y : s.y + rights r = w.l2.length
  a : inJ (jn w.j1 s.x) (lossL w s + lostA w.l2 s.x s.y r s.x) = true
  b : inJ (jn w.j2 s.y) (lossR w s + lostB w.l1 s.x s.y r s.y) = true
  ak : ∀ k, s.x < k → k ≤ w.l1.length → inJ (jn w.j1 k) (lostA w.l2 s.x s.y r k) = true
  bk : ∀ k, s.y < k → k ≤ w.l2.length → inJ (jn w.j2 k) (lostB w.l1 s.x s.y r k) = true
  e : ∀ p ∈ eqs s.x s.y r, kn w.l1 p.1 = kn w.l2 p.2
  q : ∀ (k : Nat) (p : Nat × Nat), (hts s.y r)[k]? = some p → kept q (s.x + k) p.1 p.2 = true
/-- the document's conditions -/
structure Fw (w : Wo) (r : List Sg) : Prop where
  i : In w.l1.length w.l2.length r
  e : ∀ p ∈ eqs 0 0 r, kn w.l1 p.1 = kn w.l2 p.2
  a : ∀ k, k ≤ w.l1.length → inJ (jn w.j1 k) (lostA w.l2 0 0 r k) = true
  b : ∀ k, k ≤ w.l2.length → inJ (jn w.j2 k) (lostB w.l1 0 0 r k) = true
theorem fit_start {w : Wo} (hw : w.Ok) {r : List Sg} (hi : In w.l1.length w.l2.length r) (ha : ∀ k, k ≤ w.l1.length → inJ (jn w.j1 k) (lostA w.l2 0 0 r k) = true) (hb : ∀ k, k ≤ w.l2.length → inJ (jn w.j2 k) (lostB w.l1 0 0 r k) = true)
    (he : ∀ p ∈ eqs 0 0 r, kn w.l1 p.1 = kn w.l2 p.2) : Fw w r := ⟨hi, he, ha, hb⟩
end ZZ
set_option Elab.async false
set_option linter.all false
set_option maxRecDepth 100000
set_option maxHeartbeats 4000000
namespace ZZ
open PySem PySem.Spec L2
def worldD (w : Wo) : D := .lst [laysD w.l1, jntsD w.j1, laysD w.l2, jntsD w.j2]
def coresD (w : Wo) : D := .lst [coreD w.l1 w.j1, coreD w.l2 w.j2]
section
variable {sl : Sl} {ce : List Cell} {w : Wo} {s : Std} {ls : List Lay}
theorem wd0 : kIx (.im (worldD w)) (.im (.int 0)) sl ce = .ok (.im (laysD w.l1)) ce := by rfl
theorem wd1 : kIx (.im (worldD w)) (.im (.int 1)) sl ce = .ok (.im (jntsD w.j1)) ce := by rfl
theorem wd2 : kIx (.im (worldD w)) (.im (.int 2)) sl ce = .ok (.im (laysD w.l2)) ce := by rfl
theorem wd3 : kIx (.im (worldD w)) (.im (.int 3)) sl ce = .ok (.im (jntsD w.j2)) ce := by rfl
end
end ZZ
set_option Elab.async false
set_option linter.all false
set_option maxRecDepth 100000
set_option maxHeartbeats 4000000
namespace ZZ
open PySem PySem.Spec L2
def intsN (N : List Nat) : D := .lst (N.map fun (v : Nat) => .int (v : Int))
section
variable {sl : Sl} {ce : List Cell}
theorem nix {N : List Nat} {k v : Nat} (h : N[k]? = some v) : kIx (.im (intsN N)) (.im (.int (k : Nat))) sl ce = .ok (.im (.int (v : Nat))) ce := ix_lst (by rw [List.getElem?_map, h]; rfl)
theorem names_in (L R : Nat) (hLR : L + R ≤ 1000) (a2 a4 : Option Val) : ∀ (s : List Sg) (x y : Nat) (N : List Nat) (E : List (Nat × Nat)) (x7 x8 x9 x10 x11 : Option Val), x + lefts s = L → y + rights s = R → N.length = L + R → (∀ v ∈ N, v < L + R) → (∀ p ∈ E, N[p.1]? = N[L + p.2]?) →
    ∃ (N' : List Nat) (y5 y6 y7 y8 y9 y10 y11 : Option Val), forD (gN 7) lp__law_names_2 (s.map fun c => .str (txt [c])) [some (.im (.int L)), some (.im (.int R)), a2, some (.im (intsN N)), a4, some (.im (.int x)), some (.im (.int y)), x7, x8, x9, x10, x11] ce =
      .nx [some (.im (.int L)), some (.im (.int R)), a2, some (.im (intsN N')), a4, y5, y6, y7, y8, y9, y10, y11] ce ∧ N'.length = L + R ∧ (∀ v ∈ N', v < L + R) ∧ (∀ p ∈ E, N'[p.1]? = N'[L + p.2]?) ∧ ∀ p ∈ eqs x y s, N'[p.1]? = N'[L + p.2]?
  | [], x, y, N, E, x7, x8, x9, x10, x11, h1, h2, h3, h4, h5 => ⟨N, _, _, x7, x8, x9, x10, x11, by rw [List.map_nil, forD], h3, h4, h5, fun p hp => by rw [eqs] at hp; cases hp⟩
  | c :: s, x, y, N, E, x7, x8, x9, x10, x11, h1, h2, h3, h4, h5 => by
    have c1 : ((x : Int) + 1) = ((x + 1 : Nat) : Int) := rfl
    have c2 : ((y : Int) + 1) = ((y + 1 : Nat) : Int) := rfl
    rw [lefts_cons] at h1
    rw [rights_cons] at h2
    rw [List.map_cons, forD]
    simp only [gN, List.set_cons_zero, List.set_cons_succ]
    cases c with
    | l =>
      simp only [reduceCtorEq, if_true, if_false] at h1 h2
      obtain ⟨N', y5, y6, y7, y8, y9, y10, y11, e, q⟩ := names_in L R hLR a2 a4 s (x + 1) y N E (some (.im (.str (txt [.l])))) x8 x9 x10 x11 (by omega) (by omega) h3 h4 h5
      refine ⟨N', y5, y6, y7, y8, y9, y10, y11, ?_, q⟩
      rw [← e]
      unfold lp__law_names_2
      simp? only [sl1, sl2, sl3, eq_txt, c1, c2, Int.add_zero]
    | g =>
      simp only [reduceCtorEq, if_true, if_false] at h1 h2
      obtain ⟨N', y5, y6, y7, y8, y9, y10, y11, e, q⟩ := names_in L R hLR a2 a4 s x (y + 1) N E (some (.im (.str (txt [.g])))) x8 x9 x10 x11 (by omega) (by omega) h3 h4 h5
      refine ⟨N', y5, y6, y7, y8, y9, y10, y11, ?_, q⟩
      rw [← e]
      unfold lp__law_names_2
      simp? only [sl1, sl2, sl3, eq_txt, c1, c2, Int.add_zero]
    | e =>
      simp only [reduceCtorEq, if_true, if_false] at h1 h2
      obtain ⟨old, ho⟩ : ∃ v, N[L + y]? = some v := ⟨_, List.getElem?_eq_getElem (by omega)⟩
      obtain ⟨nw, hn⟩ : ∃ v, N[x]? = some v := ⟨_, List.getElem?_eq_getElem (by omega)⟩
      have bn := h4 _ (List.mem_of_getElem? hn)
      have g3 : (N.map fun v => if v = old then nw else v).length = L + R := by rw [List.length_map]; exact h3
      have g4 : ∀ v ∈ (N.map fun v => if v = old then nw else v), v < L + R := fun v hv => by
        obtain ⟨u, hu, rfl⟩ := List.mem_map.mp hv
        have := h4 u hu
        split <;> omega
      have g5 : ∀ p ∈ (x, y) :: E, (N.map fun v => if v = old then nw else v)[p.1]? = (N.map fun v => if v = old then nw else v)[L + p.2]? := fun p hp => by
        rw [List.getElem?_map, List.getElem?_map]
        rcases List.mem_cons.mp hp with rfl | hp
        · rw [hn, ho]
          simp
        · rw [h5 p hp]
      obtain ⟨N', y5, y6, y7, y8, y9, y10, y11, e, q1, q2, q3, q4⟩ := names_in L R hLR a2 a4 s (x + 1) (y + 1) (N.map fun v => if v = old then nw else v) ((x, y) :: E) (some (.im (.str (txt [.e])))) (some (.im (.int old))) (some (.im (.int nw))) x10 x11 (by omega) (by omega) g3 g4 g5
      refine ⟨N', y5, y6, y7, y8, y9, y10, y11, ?_, q1, q2, fun p hp => q3 p (List.mem_cons_of_mem _ hp), fun p hp => by
        rw [eqs] at hp
        rcases List.mem_cons.mp hp with rfl | hp
        · exact q3 (x, y) (List.mem_cons_self ..)
        · exact q4 p hp⟩
      have ai : ∀ (i j : Int) sl ce, kAdd (.im (.int i)) (.im (.int j)) sl ce = .ok (.im (.int (i + j))) ce := fun i j sl ce => rfl
      have e1 : (L : Int) + (y : Int) = ((L + y : Nat) : Int) := rfl
      have ix1 := fun sl ce => nix (sl := sl) (ce := ce) ho
      have ix2 := fun sl ce => nix (sl := sl) (ce := ce) hn
      have lc := fun (ce : List Cell) => lc_map (own := [11]) (fi := iExp (eV 3) itL) (g := gN 11) (f := el__law_names_1) (sl := [some (.im (.int L)), some (.im (.int R)), a2, some (.im (intsN N)), a4, some (.im (.int x)), some (.im (.int y)), some (.im (.str (txt [.e]))), some (.im (.int old)), some (.im (.int nw)), x10, x11]) (ce := ce) N (fun (v : Nat) => D.int (v : Int)) (fun v => D.int ((if v = old then nw else v : Nat) : Int)) (by simp? only [intsN]) (by omega) (fun v hv acc => ⟨_, rfl, by
        unfold el__law_names_1
        by_cases hvo : v = old
        · have d : decide ((v : Int) = (old : Int)) = true := decide_eq_true (by omega)
          simp? only [wipeD, eq_int, d, if_pos hvo]
        · have d : decide ((v : Int) = (old : Int)) = false := decide_eq_false (by omega)
          simp? only [wipeD, eq_int, d, if_neg hvo]⟩)
      have fd : D.lst (N.map fun v => D.int ((if v = old then nw else v : Nat) : Int)) = intsN (N.map fun v => if v = old then nw else v) := by
        unfold intsN
        rw [List.map_map]
        rfl
      simp only [fd] at lc
      rw [← e]
      unfold lp__law_names_2
      simp? only [-kAdd, ai, sl1, sl2, sl3, eq_txt, e1, ix1, ix2, lc, c1, c2, Int.add_zero]
theorem names_out {n0 : Nat} {ds0 : List D} (hc : ce[n0]? = some (.lst ds0)) (L R : Nat) (hLR : L + R ≤ 1000) (a2 : Option Val) : ∀ (ps : List (List Sg)) (N : List Nat) (E : List (Nat × Nat)) (x4 x5 x6 x7 x8 x9 x10 x11 : Option Val), (∀ s ∈ ps, In L R s) → N.length = L + R → (∀ v ∈ N, v < L + R) → (∀ p ∈ E, N[p.1]? = N[L + p.2]?) →
    ∃ (N' : List Nat) (y4 y5 y6 y7 y8 y9 y10 y11 : Option Val), forC (gN 4) lp__law_names_3 n0 ds0 (ps.map fun s => .str (txt s)) [some (.im (.int L)), some (.im (.int R)), a2, some (.im (intsN N)), x4, x5, x6, x7, x8, x9, x10, x11] ce =
      .nx [some (.im (.int L)), some (.im (.int R)), a2, some (.im (intsN N')), y4, y5, y6, y7, y8, y9, y10, y11] ce ∧ N'.length = L + R ∧ (∀ v ∈ N', v < L + R) ∧ (∀ p ∈ E, N'[p.1]? = N'[L + p.2]?) ∧ ∀ s ∈ ps, ∀ p ∈ eqs 0 0 s, N'[p.1]? = N'[L + p.2]?
  | [], N, E, x4, x5, x6, x7, x8, x9, x10, x11, h2, h3, h4, h5 => ⟨N, x4, x5, x6, x7, x8, x9, x10, x11, by rw [List.map_nil, forC, if_pos hc], h3, h4, h5, fun s hs => by cases hs⟩
  | s :: ps, N, E, x4, x5, x6, x7, x8, x9, x10, x11, h2, h3, h4, h5 => by
    have hs := h2 s (List.mem_cons_self ..)
    obtain ⟨N1, y5, y6, y7, y8, y9, y10, y11, e1, p1, p2, p3, p4⟩ := names_in (ce := ce) L R hLR a2 (some (.im (.str (txt s)))) s 0 0 N E x7 x8 x9 x10 x11 (by rw [Nat.zero_add]; exact hs.1) (by rw [Nat.zero_add]; exact hs.2) h3 h4 h5
    obtain ⟨N', z4, z5, z6, z7, z8, z9, z10, z11, e2, q1, q2, q3, q4⟩ := names_out hc L R hLR a2 ps N1 (E ++ eqs 0 0 s) (some (.im (.str (txt s)))) y5 y6 y7 y8 y9 y10 y11 (fun t ht => h2 t (List.mem_cons_of_mem _ ht)) p1 p2 (fun p hp => by
      rcases List.mem_append.mp hp with hp | hp
      · exact p3 p hp
      · exact p4 p hp)
    refine ⟨N', z4, z5, z6, z7, z8, z9, z10, z11, ?_, q1, q2, fun p hp => q3 p (List.mem_append_left _ hp), fun t ht p hp => by
      rcases List.mem_cons.mp ht with rfl | ht
      · exact q3 p (List.mem_append_right _ hp)
      · exact q4 t ht p hp⟩
    have z0 : ((0 : Nat) : Int) = 0 := rfl
    rw [z0] at e1
    rw [← e2, List.map_cons, forC, if_pos hc]
    simp only [gN, List.set_cons_zero, List.set_cons_succ]
    unfold lp__law_names_3
    simp? only [txt_signs, e1]
theorem m_names {n0 : Nat} (L R : Nat) (hLR : L + R ≤ 1000) (ps : List (List Sg)) (hc : ce[n0]? = some (.lst (ps.map fun s => .str (txt s)))) (h : ∀ s ∈ ps, In L R s) : ∃ N : List Nat, f__law_names [.im (.int L), .im (.int R), .cell n0] ce = .ok (.im (intsN N)) ce ∧ N.length = L + R ∧ (∀ v ∈ N, v < L + R) ∧ ∀ s ∈ ps, ∀ p ∈ eqs 0 0 s, N[p.1]? = N[L + p.2]? := by
  obtain ⟨N', y4, y5, y6, y7, y8, y9, y10, y11, e, q1, q2, q3, q4⟩ := names_out (ce := ce) hc L R hLR (some (.cell n0)) ps (List.range (L + R)) [] none none none none none none none none h (by rw [List.length_range]) (fun v hv => List.mem_range.mp hv) (fun p hp => by cases hp)
  have k1 := rng1 (L + R) (by omega)
  have cn : ((L + R : Nat) : Int) = (L : Int) + (R : Int) := rfl
  rw [cn] at k1
  have ai : ∀ (i j : Int) sl ce, kAdd (.im (.int i)) (.im (.int j)) sl ce = .ok (.im (.int (i + j))) ce := fun i j sl ce => rfl
  have lc := fun (ce : List Cell) => lc_map (own := [10]) (fi := iArgs [(eBin kAdd (eV 0) (eV 1))] kRng1) (g := gN 10) (f := el__law_names_0) (sl := [some (.im (.int L)), some (.im (.int R)), some (.cell n0), none, none, none, none, none, none, none, none, none]) (ce := ce) (List.range (L + R)) (fun (v : Nat) => D.int (v : Int)) (fun v => D.int (v : Int)) (by simp? only [-kAdd, ai, k1]) (by rw [List.length_range]; omega) (fun v hv acc => ⟨_, rfl, by
    unfold el__law_names_0
    simp? only [wipeD]⟩)
  have fd : D.lst ((List.range (L + R)).map fun (v : Nat) => D.int (v : Int)) = intsN (List.range (L + R)) := rfl
  simp only [fd] at lc
  simp only [iArgs, eArgs, eUn, eBin] at lc
  refine ⟨N', ?_, q1, q2, q4⟩
  unfold f__law_names b__law_names
  unfold sForC
  simp? only [-kAdd, ai, lc, hc, e, finD, List.take_length]
end
end ZZ
set_option Elab.async false
set_option linter.all false
set_option maxRecDepth 100000
set_option maxHeartbeats 4000000
namespace ZZ
open PySem PySem.Spec L2
def intsF (n : Nat) (f : Nat → Int) : List D := (List.range n).map fun k => .int (f k)
def lossD (n : Nat) (f : Nat → Int) : D := .lst (intsF n f)
section
variable {sl : Sl} {ce : List Cell}
theorem intsF_len {n : Nat} {f : Nat → Int} : (intsF n f).length = n := by
  unfold intsF
  rw [List.length_map, List.length_range]
theorem intsF_get {n k : Nat} {f : Nat → Int} (h : k < n) : (intsF n f)[k]? = some (.int (f k)) := by
  unfold intsF
  rw [List.getElem?_map, List.getElem?_range h]
  rfl
theorem intsF_set {n k : Nat} {f : Nat → Int} {v : Int} : (intsF n f).set k (.int v) = intsF n fun i => if i = k then v else f i := by
  refine List.ext_getElem? fun i => ?_
  unfold intsF
  by_cases hi : i < n
  · by_cases hk : k = i
    · subst hk
      rw [List.getElem?_set_self (by rw [List.length_map, List.length_range]; exact hi), List.getElem?_map, List.getElem?_range hi]
      simp
    · rw [List.getElem?_set_ne hk, List.getElem?_map, List.getElem?_map, List.getElem?_range hi]
      simp only [Option.map_some, if_neg fun z : i = k => hk z.symm]
  · rw [List.getElem?_eq_none (by simp; omega), List.getElem?_eq_none (by simp; omega)]
theorem intsF_congr {n : Nat} {f g : Nat → Int} (h : ∀ k, k < n → f k = g k) : intsF n f = intsF n g := List.map_congr_left fun k hk => by rw [h k (List.mem_range.mp hk)]
theorem ixN_nat {n k : Nat} (h : k < n) : ixN n (k : Int) = some k := by
  unfold ixN
  rw [if_pos (by omega), if_pos (by omega), Int.toNat_natCast]
theorem setIx_ok {fo fi fv : DE} {n k : Nat} {ds : List D} {d : D} (hv : fv sl ce = .ok (.im d) ce) (ho : fo sl ce = .ok (.cell n) ce) (hi : fi sl ce = .ok (.im (.int (k : Nat))) ce) (hc : ce[n]? = some (.lst ds)) (hk : k < ds.length) : sSetIx fo fi fv sl ce = .nx sl (ce.set n (.lst (ds.set k d))) := by
  unfold sSetIx
  simp only [sExp, hv, ho, hi, hc, ixN_nat hk]
abbrev ce3 (ce : List Cell) (A B : List D) : List Cell := ce ++ [.lst A, .lst B, .ptr [ce.length, ce.length + 1]]
theorem ip0 {A B : List D} : kIxP (.cell (ce.length + 2)) (.im (.int 0)) sl (ce3 ce A B) = .ok (.cell ce.length) (ce3 ce A B) := by
  unfold kIxP ce3
  simp only [ce_get, List.getElem?_cons_succ, List.getElem?_cons_zero]
  rfl
theorem ip1 {A B : List D} : kIxP (.cell (ce.length + 2)) (.im (.int 1)) sl (ce3 ce A B) = .ok (.cell (ce.length + 1)) (ce3 ce A B) := by
  unfold kIxP ce3
  simp only [ce_get, List.getElem?_cons_succ, List.getElem?_cons_zero]
  rfl
theorem ia {A B : List D} {k : Nat} {d : D} (h : A[k]? = some d) : kIx (.cell ce.length) (.im (.int (k : Nat))) sl (ce3 ce A B) = .ok (.im d) (ce3 ce A B) := ix_cell (l := A) (by rw [ce_get0]; rfl) h
theorem ib {A B : List D} {k : Nat} {d : D} (h : B[k]? = some d) : kIx (.cell (ce.length + 1)) (.im (.int (k : Nat))) sl (ce3 ce A B) = .ok (.im d) (ce3 ce A B) := ix_cell (l := B) (by rw [ce_get]; rfl) h
theorem lost_loop (l1 l2 : List Lay) (a0 : Option Val) : ∀ (s : List Sg) (x y : Nat) (a b : Nat → Int) (x6 : Option Val), x + lefts s = l1.length → y + rights s = l2.length →
    ∃ y4 y5 y6, forD (gN 6) lp__law_lost_0 (s.map fun c => .str (txt [c])) [a0, some (.im (laysD l1)), some (.im (laysD l2)), some (.cell (ce.length + 2)), some (.im (.int x)), some (.im (.int y)), x6] (ce3 ce (intsF (l1.length + 1) a) (intsF (l2.length + 1) b)) =
      .nx [a0, some (.im (laysD l1)), some (.im (laysD l2)), some (.cell (ce.length + 2)), y4, y5, y6] (ce3 ce (intsF (l1.length + 1) fun k => a k + lostA l2 x y s k) (intsF (l2.length + 1) fun k => b k + lostB l1 x y s k))
  | [], x, y, a, b, x6, h1, h2 => ⟨some (.im (.int x)), some (.im (.int y)), x6, by
    rw [List.map_nil, forD]
    simp only [lostA, lostB, Int.add_zero]⟩
  | c :: s, x, y, a, b, x6, h1, h2 => by
    have c1 : ((x : Int) + 1) = ((x + 1 : Nat) : Int) := rfl
    have c2 : ((y : Int) + 1) = ((y + 1 : Nat) : Int) := rfl
    have ai : ∀ (i j : Int) sl ce, kAdd (.im (.int i)) (.im (.int j)) sl ce = .ok (.im (.int (i + j))) ce := fun i j sl ce => rfl
    rw [lefts_cons] at h1
    rw [rights_cons] at h2
    rw [List.map_cons, forD]
    simp only [gN, List.set_cons_zero, List.set_cons_succ]
    cases c with
    | e =>
      simp only [reduceCtorEq, if_true, if_false] at h1 h2
      obtain ⟨y4, y5, y6, e⟩ := lost_loop l1 l2 a0 s (x + 1) (y + 1) a b (some (.im (.str (txt [.e])))) (by omega) (by omega)
      refine ⟨y4, y5, y6, ?_⟩
      simp only [lostA, lostB]
      rw [← e]
      unfold lp__law_lost_0
      simp? only [-kAdd, ai, sl1, sl2, sl3, eq_txt, c1, c2, Int.add_zero]
    | g =>
      simp only [reduceCtorEq, if_true, if_false] at h1 h2
      obtain ⟨l, hl⟩ : ∃ l, l2[y]? = some l := ⟨_, List.getElem?_eq_getElem (by omega)⟩
      have hv : (l2.getD y ([], 0)).2 = l.2 := by rw [List.getD_eq_getElem?_getD, hl]; rfl
      obtain ⟨y4, y5, y6, e⟩ := lost_loop l1 l2 a0 s x (y + 1) (fun k => if k = x then a x + l.2 else a k) b (some (.im (.str (txt [.g])))) (by omega) (by omega)
      refine ⟨y4, y5, y6, ?_⟩
      have r1 : intsF (l1.length + 1) (fun k => a k + lostA l2 x y (.g :: s) k) = intsF (l1.length + 1) fun k => (if k = x then a x + l.2 else a k) + lostA l2 x (y + 1) s k := intsF_congr fun k _ => by
        rw [lostA, hv]
        by_cases hk : k = x
        · subst hk
          rw [if_pos rfl, if_pos rfl]
          omega
        · rw [if_neg hk, if_neg hk]
          omega
      have r2 : intsF (l2.length + 1) (fun k => b k + lostB l1 x y (.g :: s) k) = intsF (l2.length + 1) fun k => b k + lostB l1 x (y + 1) s k := intsF_congr fun k _ => by rw [lostB]
      have ix := fun sl ce => lix (sl := sl) (ce := ce) hl
      have iA := fun sl => ia (sl := sl) (ce := ce) (B := intsF (l2.length + 1) b) (intsF_get (f := a) (show x < l1.length + 1 by omega))
      have st := setIx_ok (sl := [a0, some (.im (laysD l1)), some (.im (laysD l2)), some (.cell (ce.length + 2)), some (.im (.int x)), some (.im (.int y)), some (.im (.str (txt [.g])))]) (ce := ce3 ce (intsF (l1.length + 1) a) (intsF (l2.length + 1) b))
        (fo := eBin kIxP (eV 3) (eC (.int 0))) (fi := eV 4) (fv := eBin kAdd (eBin kIx (eBin kIxP (eV 3) (eC (.int 0))) (eV 4)) (eBin kIx (eBin kIx (eV 2) (eV 5)) (eC (.int 1)))) (n := ce.length) (k := x) (ds := intsF (l1.length + 1) a) (d := .int (a x + l.2))
        (by simp? only [-kAdd, ai, ip0, iA, ix, lay1]) (by simp? only [ip0]) (by simp? only []) (by rw [ce_get0]; rfl) (by rw [intsF_len]; omega)
      rw [intsF_set, ce_set0] at st
      simp only [List.set_cons_zero, eUn, eBin] at st
      rw [r1, r2, ← e]
      unfold lp__law_lost_0
      simp? only [-kAdd, ai, sl1, sl2, sl3, eq_txt, st, c1, c2, Int.add_zero]
    | l =>
      simp only [reduceCtorEq, if_true, if_false] at h1 h2
      obtain ⟨l, hl⟩ : ∃ l, l1[x]? = some l := ⟨_, List.getElem?_eq_getElem (by omega)⟩
      have hv : (l1.getD x ([], 0)).2 = l.2 := by rw [List.getD_eq_getElem?_getD, hl]; rfl
      obtain ⟨y4, y5, y6, e⟩ := lost_loop l1 l2 a0 s (x + 1) y a (fun k => if k = y then b y + l.2 else b k) (some (.im (.str (txt [.l])))) (by omega) (by omega)
      refine ⟨y4, y5, y6, ?_⟩
      have r1 : intsF (l2.length + 1) (fun k => b k + lostB l1 x y (.l :: s) k) = intsF (l2.length + 1) fun k => (if k = y then b y + l.2 else b k) + lostB l1 (x + 1) y s k := intsF_congr fun k _ => by
        rw [lostB, hv]
        by_cases hk : k = y
        · subst hk
          rw [if_pos rfl, if_pos rfl]
          omega
        · rw [if_neg hk, if_neg hk]
          omega
      have r2 : intsF (l1.length + 1) (fun k => a k + lostA l2 x y (.l :: s) k) = intsF (l1.length + 1) fun k => a k + lostA l2 (x + 1) y s k := intsF_congr fun k _ => by rw [lostA]
      have ix := fun sl ce => lix (sl := sl) (ce := ce) hl
      have iB := fun sl => ib (sl := sl) (ce := ce) (A := intsF (l1.length + 1) a) (intsF_get (f := b) (show y < l2.length + 1 by omega))
      have st := setIx_ok (sl := [a0, some (.im (laysD l1)), some (.im (laysD l2)), some (.cell (ce.length + 2)), some (.im (.int x)), some (.im (.int y)), some (.im (.str (txt [.l])))]) (ce := ce3 ce (intsF (l1.length + 1) a) (intsF (l2.length + 1) b))
        (fo := eBin kIxP (eV 3) (eC (.int 1))) (fi := eV 5) (fv := eBin kAdd (eBin kIx (eBin kIxP (eV 3) (eC (.int 1))) (eV 5)) (eBin kIx (eBin kIx (eV 1) (eV 4)) (eC (.int 1)))) (n := ce.length + 1) (k := y) (ds := intsF (l2.length + 1) b) (d := .int (b y + l.2))
        (by simp? only [-kAdd, ai, ip1, iB, ix, lay1]) (by simp? only [ip1]) (by simp? only []) (by rw [ce_get]; rfl) (by rw [intsF_len]; omega)
      rw [intsF_set, ce_set] at st
      simp only [List.set_cons_zero, List.set_cons_succ, eUn, eBin] at st
      rw [r1, r2, ← e]
      unfold lp__law_lost_0
      simp? only [-kAdd, ai, sl1, sl2, sl3, eq_txt, st, c1, c2, Int.add_zero]
theorem rep0 (n : Nat) (h : n ≤ 100) : kRepLC (.im (.lst [.int 0])) (.im (.int ((n : Int) + 1))) sl ce = .ok (.cell ce.length) (ce ++ [.lst (intsF (n + 1) fun _ => 0)]) := by
  have e : (List.replicate ((n : Int) + 1).toNat [D.int 0]).flatten = intsF (n + 1) fun _ => 0 := by
    rw [show ((n : Int) + 1).toNat = n + 1 by omega]
    unfold intsF
    generalize n + 1 = m
    have : ∀ m : Nat, (List.replicate m [D.int 0]).flatten = List.replicate m (.int 0) := fun m => by
      induction m with
      | zero => rfl
      | succ m ih => rw [List.replicate_succ, List.flatten_cons, ih, List.replicate_succ]; rfl
    rw [this]
    refine List.ext_getElem? fun i => ?_
    by_cases hi : i < m
    · rw [List.getElem?_map, List.getElem?_range hi, List.getElem?_replicate, if_pos hi]
      rfl
    · rw [List.getElem?_eq_none (by simp; omega), List.getElem?_eq_none (by simp; omega)]
  unfold kRepLC
  simp only [List.length_singleton]
  rw [if_pos ⟨by omega, by omega, by omega⟩, e]
theorem frzAll2 {A B : List D} : frzAll [ce.length, ce.length + 1] (ce3 ce A B) = some ([.lst A, .lst B], ce ++ [.dead, .dead, .ptr [ce.length, ce.length + 1]]) := by
  unfold frzAll ce3
  simp only [ce_get0, List.getElem?_cons_zero, ce_set0, List.set_cons_zero]
  unfold frzAll
  simp only [ce_get, List.getElem?_cons_succ, List.getElem?_cons_zero, ce_set, List.set_cons_zero, List.set_cons_succ]
  unfold frzAll
  rfl
theorem m_lost (l1 l2 : List Lay) (h1 : l1.length ≤ 20) (h2 : l2.length ≤ 20) (s : List Sg) (hi : In l1.length l2.length s) : f__law_lost [.im (.str (txt s)), .im (laysD l1), .im (laysD l2)] ce = .ok (.im (.lst [lossD (l1.length + 1) (lostA l2 0 0 s), lossD (l2.length + 1) (lostB l1 0 0 s)])) ce := by
  obtain ⟨y4, y5, y6, e⟩ := lost_loop (ce := ce) l1 l2 (some (.im (.str (txt s)))) s 0 0 (fun _ => 0) (fun _ => 0) none (by rw [Nat.zero_add]; exact hi.1) (by rw [Nat.zero_add]; exact hi.2)
  have z0 : ((0 : Nat) : Int) = 0 := rfl
  simp only [Int.zero_add, z0] at e
  have ai : ∀ (i j : Int) sl ce, kAdd (.im (.int i)) (.im (.int j)) sl ce = .ok (.im (.int (i + j))) ce := fun i j sl ce => rfl
  have r1 := fun sl ce => rep0 (sl := sl) (ce := ce) l1.length (by omega)
  have r2 := fun sl ce => rep0 (sl := sl) (ce := ce) l2.length (by omega)
  have lp : ∀ sl (A B : List D), kLstP [.cell ce.length, .cell (ce.length + 1)] sl (ce ++ [.lst A, .lst B]) = .ok (.cell (ce.length + 2)) (ce3 ce A B) := fun sl A B => by
    have hL : (2 : Nat) ≤ LINE := by decide
    unfold kLstP ce3
    simp only [cellsOf, Option.map_some, List.length_cons, List.length_nil, Nat.reduceAdd, hL, if_true, List.length_append, List.append_assoc, List.cons_append, List.nil_append]
  have gp : ∀ A B : List D, (ce3 ce A B)[ce.length + 2]? = some (.ptr [ce.length, ce.length + 1]) := fun A B => by
    unfold ce3
    rw [ce_get]
    rfl
  unfold f__law_lost b__law_lost
  simp? only [-kAdd, -kLen, llen, ai, r1, r2, List.length_append, List.append_assoc, lp, txt_signs, e, frzP, gp, frzAll2, lossD, finD]
end
end ZZ
set_option Elab.async false
set_option linter.all false
set_option maxRecDepth 100000
set_option maxHeartbeats 4000000
namespace ZZ
open PySem PySem.Spec L2
section
variable {sl : Sl} {ce : List Cell}
theorem kmin_ok (a b : Int) : kMin [.im (.int a), .im (.int b)] sl ce = .ok (.im (.int (min a b))) ce := by
  unfold kMin
  simp only [eC]
  congr 3
  split <;> omega
theorem kmax_ok (a b : Int) : kMax [.im (.int a), .im (.int b)] sl ce = .ok (.im (.int (max a b))) ce := by
  unfold kMax
  simp only [eC]
  congr 3
  split <;> omega
theorem lx {n k : Nat} {f : Nat → Int} (h : k < n) : kIx (.im (lossD n f)) (.im (.int (k : Nat))) sl ce = .ok (.im (.int (f k))) ce := ix_lst (intsF_get h)
def PS (s1 s2 : List Sg) : Cell := .lst ([s1, s2].map fun s => .str (txt s))
theorem jnts_loop {PC : Cell} (n : Nat) (f g : Nat → Int) (hn : n ≤ 1000) (hf : ∀ k, 0 ≤ f k) (hg : ∀ k, 0 ≤ g k) : ∀ (m k : Nat) (js : List Jnt) (ds : List Int) (x4 x5 x6 : Option Val), k + m = n → js.length = k → (∀ j ∈ js, okJ j) → (∀ i, i < k → inJ (jn js i) (f i) = true ∧ inJ (jn js i) (g i) = true) →
    ∃ (js' : List Jnt) (ds' : List Int) (y4 y5 y6 : Option Val), forD (gN 4) lp__law_joints_0 ((List.range' k m).map fun (i : Nat) => D.int (i : Int)) [some (.cell 0), some (.im (lossD n f)), some (.im (lossD n g)), some (.cell 2), x4, x5, x6] [.lst (ds.map .int), PC, .lst (js.map jntD)] =
      .nx [some (.cell 0), some (.im (lossD n f)), some (.im (lossD n g)), some (.cell 2), y4, y5, y6] [.lst (ds'.map .int), PC, .lst (js'.map jntD)] ∧ js'.length = n ∧ (∀ j ∈ js', okJ j) ∧ ∀ i, i < n → inJ (jn js' i) (f i) = true ∧ inJ (jn js' i) (g i) = true
  | 0, k, js, ds, x4, x5, x6, h1, h2, h3, h4 => ⟨js, ds, x4, x5, x6, by rw [List.range'_zero, List.map_nil, forD], by omega, h3, fun i hi => h4 i (by omega)⟩
  | m + 1, k, js, ds, x4, x5, x6, h1, h2, h3, h4 => by
    have fk := hf k
    have gk := hg k
    obtain ⟨r1, ds1, b1, c1, e1⟩ := m_draw 0 ds 3 [.lst (ds.map .int), PC, .lst (js.map jntD)] rfl (by decide)
    obtain ⟨lo, lo0, lo1, elo⟩ : ∃ lo : Int, 0 ≤ lo ∧ lo ≤ min (f k) (g k) ∧ ∀ sl ce, kIx (.im (.lst [.int 0, .int (min (f k) (g k)), .int (min (f k) (g k) / 2)])) (.im (.int r1)) sl ce = .ok (.im (.int lo)) ce := by
      have e : r1 = 0 ∨ r1 = 1 ∨ r1 = 2 := by omega
      rcases e with rfl | rfl | rfl
      · exact ⟨0, Int.le_refl _, by omega, fun _ _ => rfl⟩
      · exact ⟨_, by omega, Int.le_refl _, fun _ _ => rfl⟩
      · exact ⟨min (f k) (g k) / 2, by omega, by omega, fun _ _ => rfl⟩
    obtain ⟨n2, ds2, b2, c2, e2⟩ := m_number 0 ds1 [.lst (ds1.map .int), PC, .lst (js.map jntD)] rfl
    obtain ⟨r3, ds3, b3, c3, e3⟩ := m_draw 0 ds2 3 [.lst (ds2.map .int), PC, .lst (js.map jntD)] rfl (by decide)
    obtain ⟨hi, hi1, ehi⟩ : ∃ hi : Option Int, (∀ q, hi = some q → max (f k) (g k) ≤ q) ∧ ∀ sl ce, kIx (.im (.lst [.non, .int (max (f k) (g k)), .int (max (f k) (g k) + n2)])) (.im (.int r3)) sl ce = .ok (.im (optD hi)) ce := by
      have e : r3 = 0 ∨ r3 = 1 ∨ r3 = 2 := by omega
      rcases e with rfl | rfl | rfl
      · exact ⟨none, fun q hq => (by cases hq), fun _ _ => rfl⟩
      · exact ⟨some (max (f k) (g k)), fun q hq => (by cases hq; exact Int.le_refl _), fun _ _ => rfl⟩
      · exact ⟨some (max (f k) (g k) + n2), fun q hq => (by cases hq; omega), fun _ _ => rfl⟩
    simp only [List.set_cons_zero] at e1 e2 e3
    have inn : ∀ t, (t = f k ∨ t = g k) → inJ (lo, hi) t = true := fun t ht => by
      have q1 : lo ≤ t := by rcases ht with rfl | rfl <;> omega
      unfold inJ
      rw [decide_eq_true q1, Bool.true_and]
      cases hi with
      | none => rfl
      | some q =>
        have := hi1 q rfl
        exact decide_eq_true (by rcases ht with rfl | rfl <;> omega)
    have jl : ∀ i, i < k → jn (js ++ [(lo, hi)]) i = jn js i := fun i hi => by
      unfold jn
      rw [List.getD_eq_getElem?_getD, List.getElem?_append_left (by omega), List.getD_eq_getElem?_getD]
    have jk : jn (js ++ [(lo, hi)]) k = (lo, hi) := by
      unfold jn
      rw [List.getD_eq_getElem?_getD, ← h2, List.getElem?_append_right (Nat.le_refl _)]
      simp
    obtain ⟨js', ds', y4, y5, y6, e, q1, q2, q3⟩ := jnts_loop n f g hn hf hg m (k + 1) (js ++ [(lo, hi)]) ds3 (some (.im (.int (k : Nat)))) (some (.im (.int lo))) (some (.im (optD hi))) (by omega) (by rw [List.length_append, List.length_singleton, h2]) (fun j hj => by
      rcases List.mem_append.mp hj with hj | hj
      · exact h3 j hj
      · rw [List.mem_singleton] at hj
        rw [hj]
        exact ⟨lo0, fun q hq => by have := hi1 q hq; simp only; omega⟩) (fun i hi => by
      by_cases hik : i = k
      · subst hik
        rw [jk]
        exact ⟨inn _ (.inl rfl), inn _ (.inr rfl)⟩
      · rw [jl i (by omega)]
        exact h4 i (by omega))
    refine ⟨js', ds', y4, y5, y6, ?_, q1, q2, q3⟩
    have l1 := fun sl ce => lx (sl := sl) (ce := ce) (f := f) (show k < n by omega)
    have l2 := fun sl ce => lx (sl := sl) (ce := ce) (f := g) (show k < n by omega)
    have kd : ∀ (a : Int) sl ce, kDiv (.im (.int a)) (.im (.int 2)) sl ce = .ok (.im (.int (a / 2))) ce := fun a sl ce => by
      unfold kDiv
      simp
    have ai : ∀ (i j : Int) sl ce, kAdd (.im (.int i)) (.im (.int j)) sl ce = .ok (.im (.int (i + j))) ce := fun i j sl ce => rfl
    have ap : ∀ sl, kAppend (.cell 2) [.im (.tup [.int lo, optD hi])] sl [.lst (ds3.map .int), PC, .lst (js.map jntD)] = .ok (.im .non) [.lst (ds3.map .int), PC, .lst ((js ++ [(lo, hi)]).map jntD)] := fun sl => by
      have := app_at (sl := sl) (ce := [.lst (ds3.map .int), PC, .lst (js.map jntD)]) (n := 2) (acc := js.map jntD) (d := .tup [.int lo, optD hi]) rfl (by rw [List.length_map]; show _ < 16777216; omega)
      rw [this, List.map_append]
      rfl
    rw [← e, List.range'_succ, List.map_cons, forD]
    simp only [gN, List.set_cons_zero, List.set_cons_succ]
    unfold lp__law_joints_0
    simp? only [-kAdd, -kMin, -kMax, ai, l1, l2, kmin_ok, kmax_ok, kd, e1, elo, e2, e3, ehi, ap]
theorem m_joints {PC : Cell} (n : Nat) (f g : Nat → Int) (hn : n ≤ 1000) (hf : ∀ k, 0 ≤ f k) (hg : ∀ k, 0 ≤ g k) (ds : List Int) : ∃ (js : List Jnt) (ds' : List Int), f__law_joints [.cell 0, .im (lossD n f), .im (lossD n g)] [.lst (ds.map .int), PC] = .ok (.im (jntsD js)) [.lst (ds'.map .int), PC] ∧ js.length = n ∧ (∀ j ∈ js, okJ j) ∧ ∀ i, i < n → inJ (jn js i) (f i) = true ∧ inJ (jn js i) (g i) = true := by
  obtain ⟨js, ds', y4, y5, y6, e, q1, q2, q3⟩ := jnts_loop (PC := PC) n f g hn hf hg n 0 [] ds none none none (by omega) rfl (fun j hj => by cases hj) (fun i hi => by omega)
  have ln : ∀ sl ce, kLen [.im (lossD n f)] sl ce = .ok (.im (.int n)) ce := fun _ _ => by simp [kLen, lossD, asSq, intsF_len]
  have k1 : kRng1 [.im (.int (n : Nat))] = some ((List.range' 0 n).map fun (i : Nat) => D.int (i : Int)) := by rw [rng1 _ (by omega), List.range_eq_range']
  have tk : ∀ (c d e : Cell), List.take 2 [c, d, e] = [c, d] := fun _ _ _ => rfl
  have fd : D.lst (js.map jntD) = jntsD js := rfl
  rw [List.map_nil] at e
  refine ⟨js, ds', ?_, q1, q2, q3⟩
  unfold f__law_joints b__law_joints
  simp? only [-kLen, ln, k1, e, fd, finD, tk]
theorem eqs_lt : ∀ (s : List Sg) (x y : Nat), ∀ p ∈ eqs x y s, p.1 < x + lefts s ∧ p.2 < y + rights s
  | [], x, y, p, h => by rw [eqs] at h; cases h
  | .l :: s, x, y, p, h => by
    rw [eqs] at h
    have := eqs_lt s (x + 1) y p h
    rw [lefts_cons, rights_cons]
    simp only [reduceCtorEq, if_true, if_false]
    omega
  | .g :: s, x, y, p, h => by
    rw [eqs] at h
    have := eqs_lt s x (y + 1) p h
    rw [lefts_cons, rights_cons]
    simp only [reduceCtorEq, if_true, if_false]
    omega
  | .e :: s, x, y, p, h => by
    rw [eqs] at h
    rw [lefts_cons, rights_cons]
    simp only [reduceCtorEq, if_true, if_false]
    rcases List.mem_cons.mp h with rfl | h
    · simp only
      omega
    · have := eqs_lt s (x + 1) (y + 1) p h
      omega
theorem all_strs : ∀ (ys : List D), (∀ (k : Nat) (y : D), ys[k]? = some y → ∃ cs : List Nat, okK cs ∧ y = .str (st cs)) → ∃ K : List (List Nat), (∀ c ∈ K, okK c) ∧ ys = K.map fun cs => .str (st cs)
  | [], _ => ⟨[], fun l h => (List.not_mem_nil h).elim, rfl⟩
  | y :: ys, h => by
    obtain ⟨l, ho, rfl⟩ := h 0 y rfl
    obtain ⟨ls, h1, rfl⟩ := all_strs ys fun k y hy => h (k + 1) y (by rw [List.getElem?_cons_succ]; exact hy)
    exact ⟨l :: ls, fun x hx => by
      rcases List.mem_cons.mp hx with rfl | hx
      · exact ho
      · exact h1 x hx, rfl⟩
def okLb (l : Lay) : Prop := okL l ∧ l.2 ≤ 1000000000000000000000000000000
theorem all_layG (G : Nat → List Nat) : ∀ (ys : List D) (o : Nat), (∀ (k : Nat) (y : D), ys[k]? = some y → ∃ l : Lay, okLb l ∧ l.1 = G (o + k) ∧ y = layD l) → ∃ ls : List Lay, (∀ l ∈ ls, okLb l) ∧ ys = ls.map layD ∧ ls.length = ys.length ∧ ∀ (k : Nat) (l : Lay), ls[k]? = some l → l.1 = G (o + k)
  | [], o, _ => ⟨[], fun l h => (List.not_mem_nil h).elim, rfl, rfl, fun k l h => by simp at h⟩
  | y :: ys, o, h => by
    obtain ⟨l, ho, hg, rfl⟩ := h 0 y rfl
    obtain ⟨ls, h1, h2, h3, h4⟩ := all_layG G ys (o + 1) fun k y hy => by
      obtain ⟨l, q1, q2, q3⟩ := h (k + 1) y (by rw [List.getElem?_cons_succ]; exact hy)
      exact ⟨l, q1, by rw [q2]; congr 1; omega, q3⟩
    subst h2
    refine ⟨l :: ls, fun x hx => by
      rcases List.mem_cons.mp hx with rfl | hx
      · exact ho
      · exact h1 x hx, rfl, by simp, fun k l' hk => ?_⟩
    cases k with
    | zero =>
      simp only [List.getElem?_cons_zero, Option.some.injEq] at hk
      subst hk
      exact hg
    | succ k =>
      rw [List.getElem?_cons_succ] at hk
      rw [h4 k l' hk]
      congr 1
      omega
def kv (K : List (List Nat)) (N : List Nat) (k : Nat) : List Nat := K.getD (N.getD k 0) []
theorem kvix {K : List (List Nat)} {N : List Nat} {k : Nat} (h : k < N.length) (hb : ∀ v ∈ N, v < K.length) : ∃ v : Nat, N[k]? = some v ∧ (∀ sl ce, kIx (.im (.lst (K.map fun cs => .str (st cs)))) (.im (.int (v : Nat))) sl ce = .ok (.im (.str (st (kv K N k)))) ce) ∧ kv K N k ∈ K := by
  have e := List.getElem?_eq_getElem h
  have hv := hb N[k] (List.getElem_mem h)
  have e2 := List.getElem?_eq_getElem hv
  have kk : kv K N k = K[N[k]] := by
    unfold kv
    rw [List.getD_eq_getElem?_getD, List.getD_eq_getElem?_getD, e]
    simp only [Option.getD_some]
    rw [e2]
    rfl
  refine ⟨N[k], e, fun sl ce => ix_lst ?_, by rw [kk]; exact List.getElem_mem hv⟩
  rw [List.getElem?_map, e2, kk]
  rfl
theorem kn_of {ls : List Lay} {k : Nat} {c : List Nat} (h : k < ls.length) (hc : ∀ l, ls[k]? = some l → l.1 = c) : kn ls k = c := by
  have e := List.getElem?_eq_getElem h
  unfold kn
  rw [List.getD_eq_getElem?_getD, e]
  exact hc _ e
/-- the paths fit the world -/
abbrev Fits := Fw
theorem sz0 {L R : Nat} : kIx (.im (.lst [.int L, .int R])) (.im (.int 0)) sl ce = .ok (.im (.int L)) ce := by rfl
theorem sz1 {L R : Nat} : kIx (.im (.lst [.int L, .int R])) (.im (.int 1)) sl ce = .ok (.im (.int R)) ce := by rfl
theorem m_world (L R : Nat) (hL : L ≤ 20) (hR : R ≤ 20) (s1 s2 : List Sg) (h1 : In L R s1) (h2 : In L R s2) (ds : List Int) : ∃ (w : Wo) (ds' : List Int), f__law_world [.cell 0, .im (.lst [.int L, .int R]), .cell 1] [.lst (ds.map .int), PS s1 s2] = .ok (.im (worldD w)) [.lst (ds'.map .int), PS s1 s2] ∧ w.Ok ∧ w.l1.length = L ∧ w.l2.length = R ∧ Fits w s1 ∧ Fits w s2 ∧ (∀ l ∈ w.l1, l.2 ≤ 1000000000000000000000000000000) ∧ (∀ l ∈ w.l2, l.2 ≤ 1000000000000000000000000000000) := by
  have hps : ∀ s ∈ [s1, s2], In L R s := fun s hs => by
    rcases List.mem_cons.mp hs with rfl | hs
    · exact h1
    · rw [List.mem_singleton] at hs
      rw [hs]
      exact h2
  obtain ⟨N, eN, n1, n2, n3⟩ := m_names (n0 := 1) (ce := [.lst (ds.map .int), PS s1 s2]) L R (by omega) [s1, s2] rfl hps
  have ai : ∀ (i j : Int) sl ce, kAdd (.im (.int i)) (.im (.int j)) sl ce = .ok (.im (.int (i + j))) ce := fun i j sl ce => rfl
  have il : itL (.im (intsN N)) = some (N.map fun (v : Nat) => .int (v : Int)) := rfl
  obtain ⟨ys, ce4, e4, ⟨ds4, rfl⟩, l4, r4⟩ := lc_thread (own := [9]) (fi := iExp (eV 3) itL) (g := gN 9) (f := el__law_world_0) (sl := [some (.cell 0), some (.im (.lst [.int L, .int R])), some (.cell 1), some (.im (intsN N)), none, none, none, none, none, none, none]) (ce := [.lst (ds.map .int), PS s1 s2]) (N.map fun (v : Nat) => .int (v : Int))
    (fun ce => ∃ ds : List Int, ce = [.lst (ds.map .int), PS s1 s2]) (fun _ y => ∃ cs : List Nat, okK cs ∧ y = .str (st cs)) (by simp? only [-itL, il]) (by rw [List.length_map]; omega) ⟨_, rfl⟩ (by rintro ce' ⟨ds, rfl⟩; rfl)
    (by
      rintro d hd acc ce ⟨ds, rfl⟩
      obtain ⟨cs, ds4, ok, e4⟩ := m_kind 0 ds [.lst (ds.map .int), PS s1 s2, .lst acc] rfl
      simp only [List.set_cons_zero] at e4
      refine ⟨_, [.lst (ds4.map .int), PS s1 s2], .str (st cs), rfl, ?_, ⟨_, rfl⟩, _, ok, rfl⟩
      unfold el__law_world_0
      simp? only [wipeD, List.cons_append, List.nil_append, e4])
  obtain ⟨K, kK, rfl⟩ := all_strs ys (thread_get l4 r4 fun _ _ h => h)
  rw [List.length_map, List.length_map] at l4
  have hb : ∀ v ∈ N, v < K.length := fun v hv => by
    have := n2 v hv
    omega
  have k1 := rng1 L (by omega)
  have k2 := rng1 R (by omega)
  obtain ⟨ys5, ce5, e5, ⟨ds5, rfl⟩, l5, r5⟩ := lc_thread (own := [10]) (fi := iArgs [(eBin kIx (eV 1) (eC (.int 0)))] kRng1) (g := gN 10) (f := el__law_world_1) (sl := [some (.cell 0), some (.im (.lst [.int L, .int R])), some (.cell 1), some (.im (intsN N)), some (.im (.lst (K.map fun cs => .str (st cs)))), none, none, none, none, none, none]) (ce := [.lst (ds4.map .int), PS s1 s2]) ((List.range L).map fun (i : Nat) => D.int (i : Int))
    (fun ce => ∃ ds : List Int, ce = [.lst (ds.map .int), PS s1 s2]) (fun d y => ∃ (k : Nat) (l : Lay), d = .int k ∧ okLb l ∧ l.1 = kv K N k ∧ y = layD l) (by simp? only [sz0, k1]) (by rw [List.length_map, List.length_range]; omega) ⟨_, rfl⟩ (by rintro ce' ⟨ds, rfl⟩; rfl)
    (by
      rintro d hd acc ce ⟨ds, rfl⟩
      obtain ⟨k, hk, rfl⟩ := List.mem_map.mp hd
      rw [List.mem_range] at hk
      obtain ⟨v, hv, hx, hm⟩ := kvix (K := K) (N := N) (k := k) (by omega) hb
      have nx := fun sl ce => nix (sl := sl) (ce := ce) hv
      obtain ⟨t, ds5, b5, c5, e5⟩ := m_number 0 ds [.lst (ds.map .int), PS s1 s2, .lst acc] rfl
      simp only [List.set_cons_zero] at e5
      have ok := kK _ hm
      refine ⟨_, [.lst (ds5.map .int), PS s1 s2], layD (kv K N k, 1 + t), rfl, ?_, ⟨_, rfl⟩, k, (kv K N k, 1 + t), rfl, ⟨⟨ok.1, ok.2.1, ok.2.2, by show 1 ≤ 1 + t; omega⟩, by show 1 + t ≤ _; omega⟩, rfl, rfl⟩
      unfold el__law_world_1 layD
      simp? only [-kAdd, wipeD, List.cons_append, List.nil_append, ai, nx, hx, e5])
  obtain ⟨l1, o1, rfl, p1, g1⟩ := all_layG (kv K N) ys5 0 (fun k y hy => by
    have hk : k < L := by
      have := (List.getElem?_eq_some_iff.mp hy).1
      rw [l5, List.length_map, List.length_range] at this
      exact this
    obtain ⟨k', l, q1, q2, q3, q4⟩ := r5 k (.int (k : Nat)) y (by rw [List.getElem?_map, List.getElem?_range hk]; rfl) hy
    have : k' = k := by
      have := D.int.inj q1
      omega
    subst this
    exact ⟨l, q2, by rw [Nat.zero_add]; exact q3, q4⟩)
  rw [l5, List.length_map, List.length_range] at p1
  obtain ⟨ys6, ce6, e6, ⟨ds6, rfl⟩, l6, r6⟩ := lc_thread (own := [10]) (fi := iArgs [(eBin kIx (eV 1) (eC (.int 1)))] kRng1) (g := gN 10) (f := el__law_world_2) (sl := [some (.cell 0), some (.im (.lst [.int L, .int R])), some (.cell 1), some (.im (intsN N)), some (.im (.lst (K.map fun cs => .str (st cs)))), some (.im (laysD l1)), none, none, none, none, none]) (ce := [.lst (ds5.map .int), PS s1 s2]) ((List.range R).map fun (i : Nat) => D.int (i : Int))
    (fun ce => ∃ ds : List Int, ce = [.lst (ds.map .int), PS s1 s2]) (fun d y => ∃ (k : Nat) (l : Lay), d = .int k ∧ okLb l ∧ l.1 = kv K N (L + k) ∧ y = layD l) (by simp? only [sz1, k2]) (by rw [List.length_map, List.length_range]; omega) ⟨_, rfl⟩ (by rintro ce' ⟨ds, rfl⟩; rfl)
    (by
      rintro d hd acc ce ⟨ds, rfl⟩
      obtain ⟨k, hk, rfl⟩ := List.mem_map.mp hd
      rw [List.mem_range] at hk
      obtain ⟨v, hv, hx, hm⟩ := kvix (K := K) (N := N) (k := L + k) (by omega) hb
      have nx : ∀ sl ce, kIx (.im (intsN N)) (.im (.int ((L : Int) + (k : Int)))) sl ce = .ok (.im (.int (v : Nat))) ce := fun sl ce => nix (k := L + k) hv
      obtain ⟨t, ds5, b5, c5, e5⟩ := m_number 0 ds [.lst (ds.map .int), PS s1 s2, .lst acc] rfl
      simp only [List.set_cons_zero] at e5
      have ok := kK _ hm
      refine ⟨_, [.lst (ds5.map .int), PS s1 s2], layD (kv K N (L + k), 1 + t), rfl, ?_, ⟨_, rfl⟩, k, (kv K N (L + k), 1 + t), rfl, ⟨⟨ok.1, ok.2.1, ok.2.2, by show 1 ≤ 1 + t; omega⟩, by show 1 + t ≤ _; omega⟩, rfl, rfl⟩
      unfold el__law_world_2 layD
      simp? only [-kAdd, wipeD, List.cons_append, List.nil_append, ai, sz0, nx, hx, e5])
  obtain ⟨l2, o2, rfl, p2, g2⟩ := all_layG (fun k => kv K N (L + k)) ys6 0 (fun k y hy => by
    have hk : k < R := by
      have := (List.getElem?_eq_some_iff.mp hy).1
      rw [l6, List.length_map, List.length_range] at this
      exact this
    obtain ⟨k', l, q1, q2, q3, q4⟩ := r6 k (.int (k : Nat)) y (by rw [List.getElem?_map, List.getElem?_range hk]; rfl) hy
    have : k' = k := by
      have := D.int.inj q1
      omega
    subst this
    exact ⟨l, q2, by rw [Nat.zero_add]; exact q3, q4⟩)
  rw [l6, List.length_map, List.length_range] at p2
  have B1 := o1
  have o1 : ∀ l ∈ l1, okL l := fun l h => (B1 l h).1
  have B2 := o2
  have o2 : ∀ l ∈ l2, okL l := fun l h => (B2 l h).1
  simp only [iArgs, eArgs, eUn, eBin] at e4 e5 e6
  rw [fL] at e5 e6
  have i1 : In l1.length l2.length s1 := by rw [p1, p2]; exact h1
  have i2 : In l1.length l2.length s2 := by rw [p1, p2]; exact h2
  have t1 := fun ce => m_lost (ce := ce) l1 l2 (by omega) (by omega) s1 i1
  have t2 := fun ce => m_lost (ce := ce) l1 l2 (by omega) (by omega) s2 i2
  obtain ⟨j1, ds7, e7, u1, u2, u3⟩ := m_joints (PC := PS s1 s2) (l1.length + 1) (lostA l2 0 0 s1) (lostA l2 0 0 s2) (by omega) (fun k => lostA_nn l2 o2 s1 0 0 k) (fun k => lostA_nn l2 o2 s2 0 0 k) ds6
  obtain ⟨j2, ds8, e8, v1, v2, v3⟩ := m_joints (PC := PS s1 s2) (l2.length + 1) (lostB l1 0 0 s1) (lostB l1 0 0 s2) (by omega) (fun k => lostB_nn l1 o1 s1 0 0 k) (fun k => lostB_nn l1 o1 s2 0 0 k) ds7
  have wok : (⟨l1, j1, l2, j2⟩ : Wo).Ok := ⟨⟨o1, u2, by show l1.length ≤ 20; omega, u1⟩, ⟨o2, v2, by show l2.length ≤ 20; omega, v1⟩⟩
  have keq : ∀ s ∈ [s1, s2], ∀ p ∈ eqs 0 0 s, kn l1 p.1 = kn l2 p.2 := fun s hs p hp => by
    have hsz := hps s hs
    have hlt := eqs_lt s 0 0 p hp
    rw [hsz.1, hsz.2, Nat.zero_add, Nat.zero_add] at hlt
    have he := n3 s hs p hp
    rw [kn_of (c := kv K N p.1) (by omega) fun l hl => by have := g1 _ l hl; rw [Nat.zero_add] at this; exact this,
      kn_of (c := kv K N (L + p.2)) (by omega) fun l hl => by have := g2 _ l hl; rw [Nat.zero_add] at this; exact this]
    unfold kv
    rw [List.getD_eq_getElem?_getD (l := N), List.getD_eq_getElem?_getD (l := N), he]
  have px0 : ∀ sl (ds : List Int), kIx (.cell 1) (.im (.int 0)) sl [.lst (ds.map .int), PS s1 s2] = .ok (.im (.str (txt s1))) [.lst (ds.map .int), PS s1 s2] := fun _ _ => rfl
  have px1 : ∀ sl (ds : List Int), kIx (.cell 1) (.im (.int 1)) sl [.lst (ds.map .int), PS s1 s2] = .ok (.im (.str (txt s2))) [.lst (ds.map .int), PS s1 s2] := fun _ _ => rfl
  have q0 : ∀ (a b : D) sl ce, kIx (.im (.lst [a, b])) (.im (.int 0)) sl ce = .ok (.im a) ce := fun _ _ _ _ => rfl
  have q1 : ∀ (a b : D) sl ce, kIx (.im (.lst [a, b])) (.im (.int 1)) sl ce = .ok (.im b) ce := fun _ _ _ _ => rfl
  have fd : D.lst [laysD l1, jntsD j1, laysD l2, jntsD j2] = worldD ⟨l1, j1, l2, j2⟩ := rfl
  have tk : ∀ (c d : Cell), List.take 2 [c, d] = [c, d] := fun _ _ => rfl
  refine ⟨⟨l1, j1, l2, j2⟩, ds8, ?_, wok, p1, p2, fit_start wok i1 (fun k hk => (u3 k (by simp only at hk; omega)).1) (fun k hk => (v3 k (by simp only at hk; omega)).1) (keq s1 (List.mem_cons_self ..)), fit_start wok i2 (fun k hk => (u3 k (by simp only at hk; omega)).2) (fun k hk => (v3 k (by simp only at hk; omega)).2) (keq s2 (List.mem_cons_of_mem _ (List.mem_cons_self ..))), fun l h => (B1 l h).2, fun l h => (B2 l h).2⟩
  unfold f__law_world b__law_world
  simp? only [q0, q1, eN, e4, e5, e6, px0, px1, t1, t2, e7, e8, fd, finD, tk]
end
end ZZ
set_option Elab.async false
set_option linter.all false
set_option maxRecDepth 100000
set_option maxHeartbeats 4000000
namespace ZZ
open PySem PySem.Spec L2
section
variable {L R : Nat} {a b c : List Sg} {sl : Sl} {ce : List Cell}
theorem m_add (s t : List Sg) (h : s.length + t.length < 16777216) : f_Record___add__ [.im (recD s), .im (recD t)] ce = .ok (.im (recD (s ++ t))) ce := by
  have ad := fun sl ce => @add_s sl ce s t (Nat.le_of_lt h)
  unfold f_Record___add__ b_Record___add__
  simp? only [-kAdd, fld_s, ad, m_make (s ++ t) _ _ (show (s ++ t).length < 16777216 by rw [List.length_append]; exact h), finD, List.take_length]
end
end ZZ
set_option Elab.async false
set_option linter.all false
set_option maxRecDepth 100000
set_option maxHeartbeats 4000000
namespace ZZ
open PySem PySem.Spec L2
section
variable {sl : Sl} {ce : List Cell} {ls : List Lay} {js : List Jnt}
theorem m_whole (i : Int) : f__law_whole [.im (.int i)] ce = .ok (.im (.bl true)) ce := by
  have h1 : ∀ sl ce, kIsi i_int (.im (.int i)) sl ce = .ok (.im (.bl true)) ce := fun _ _ => rfl
  have h2 : ∀ sl ce, kIsi i_bool (.im (.int i)) sl ce = .ok (.im (.bl false)) ce := fun _ _ => rfl
  unfold f__law_whole b__law_whole
  simp? only [h1, h2, finD, List.take_length]
theorem thick_take {k : Nat} {l : Lay} (h : ls[k]? = some l) : thick (ls.take (k + 1)) = thick (ls.take k) + l.2 := by
  unfold thick
  rw [List.take_succ, h]
  simp
theorem same1 (hl : ∀ l ∈ ls, okL l) (a2 a6 : Option Val) : ∀ (m k : Nat) (x4 x5 : Option Val), k + m = ls.length → ∃ y4 y5, forD (gN 4) lp__law_same_1 ((List.range' k m).map fun (i : Nat) => D.int (i : Int)) [some (.im (coreD ls js)), some (.im (laysD ls)), a2, some (.im (.int (thick (ls.take k)))), x4, x5, a6] ce =
    .nx [some (.im (coreD ls js)), some (.im (laysD ls)), a2, some (.im (.int (thick ls))), y4, y5, a6] ce
  | 0, k, x4, x5, h => ⟨x4, x5, by rw [List.range'_zero, List.map_nil, forD, List.take_of_length_le (by omega)]⟩
  | m + 1, k, x4, x5, h => by
    obtain ⟨l, hk⟩ : ∃ l, ls[k]? = some l := ⟨_, List.getElem?_eq_getElem (by omega)⟩
    have ho := hl l (List.mem_of_getElem? hk)
    obtain ⟨y4, y5, e⟩ := same1 hl a2 a6 m (k + 1) (some (.im (.int (k : Nat)))) (some (.im (layD l))) (by omega)
    refine ⟨y4, y5, ?_⟩
    have g := fun sl ce => m_cget (sl := sl) (ce := ce) (js := js) hk
    have ix := fun sl ce => lix (sl := sl) (ce := ce) hk
    have tu : ∀ sl ce, kIsi i_tuple (.im (layD l)) sl ce = .ok (.im (.bl true)) ce := fun _ _ => rfl
    have rf := fun sl ce => lay_refl (sl := sl) (ce := ce) ho true
    have ai : ∀ (i j : Int) sl ce, kAdd (.im (.int i)) (.im (.int j)) sl ce = .ok (.im (.int (i + j))) ce := fun i j sl ce => rfl
    rw [← e, List.range'_succ, List.map_cons, forD, thick_take hk]
    simp only [gN, List.set_cons_zero, List.set_cons_succ]
    unfold lp__law_same_1
    simp? only [-kAdd, ai, g, ix, tu, rf, lay1, m_whole, Bool.not_true]
theorem same2 (hj : ∀ j ∈ js, okJ j) (a1 a3 a5 : Option Val) : ∀ (m k : Nat) (x4 x6 : Option Val), k + m = js.length → ∃ y4 y6, forD (gN 4) lp__law_same_2 ((List.range' k m).map fun (i : Nat) => D.int (i : Int)) [some (.im (coreD ls js)), a1, some (.im (jntsD js)), a3, x4, a5, x6] ce =
    .nx [some (.im (coreD ls js)), a1, some (.im (jntsD js)), a3, y4, a5, y6] ce
  | 0, k, x4, x6, h => ⟨x4, x6, by rw [List.range'_zero, List.map_nil, forD]⟩
  | m + 1, k, x4, x6, h => by
    obtain ⟨j, hk⟩ : ∃ j, js[k]? = some j := ⟨_, List.getElem?_eq_getElem (by omega)⟩
    obtain ⟨y4, y6, e⟩ := same2 hj a1 a3 a5 m (k + 1) (some (.im (.int (k : Nat)))) (some (.im (jntD j))) (by omega)
    refine ⟨y4, y6, ?_⟩
    have g := fun ce => m_cjoint (ce := ce) (ls := ls) hk
    have ix := fun sl ce => jix (sl := sl) (ce := ce) hk
    have tu : ∀ sl ce, kIsi i_tuple (.im (jntD j)) sl ce = .ok (.im (.bl true)) ce := fun _ _ => rfl
    have rf := fun sl ce => jnt_refl (sl := sl) (ce := ce) (j := j) true
    have n0 : ∀ sl ce, kIsN true (.im .non) (.im .non) sl ce = .ok (.im (.bl false)) ce := fun _ _ => rfl
    have n1 : ∀ i sl ce, kIsN true (.im (.int i)) (.im .non) sl ce = .ok (.im (.bl true)) ce := fun _ _ _ => rfl
    rw [← e, List.range'_succ, List.map_cons, forD]
    simp only [gN, List.set_cons_zero, List.set_cons_succ]
    unfold lp__law_same_2
    cases hm : j.2 with
    | none => simp? only [isC_c, kMeth, g, ix, tu, rf, jnt0, jnt1, hm, optD, n0, m_whole, Bool.not_true]
    | some v => simp? only [isC_c, kMeth, g, ix, tu, rf, jnt0, jnt1, hm, optD, n1, m_whole, Bool.not_true]
theorem m_same (h : OkC ls js) : f__law_same [.im (coreD ls js), .im (laysD ls), .im (jntsD js)] ce = .ok (.im (.bl true)) ce := by
  have hn := h.n
  have hm := h.m
  have ic : ∀ sl ce, kIsi i_Core (.im (coreD ls js)) sl ce = .ok (.im (.bl true)) ce := fun _ _ => rfl
  have cl := fun sl ce => m_clen (sl := sl) (ce := ce) (ls := ls) (js := js) (by omega)
  have th := fun sl ce => m_cthick (sl := sl) (ce := ce) (ls := ls) (js := js) (by omega)
  have lc := fun (ce : List Cell) => lc_map (own := [5]) (fi := iExp (eV 0) (itO c_Core 0)) (g := gN 5) (f := el__law_same_0) (sl := [some (.im (coreD ls js)), some (.im (laysD ls)), some (.im (jntsD js)), none, none, none, none]) (ce := ce) ls layD layD (by
    simp? only [itO, coreD, laysD]) (by omega) (fun l hl acc => ⟨_, rfl, by
    unfold el__law_same_0
    simp? only [wipeD]⟩)
  have hd : D.lst (ls.map layD) = laysD ls := rfl
  simp only [hd] at lc
  have rf := fun sl ce => lays_refl (sl := sl) (ce := ce) h.l true
  have k1 : kRng1 [.im (.int (ls.length : Nat))] = some ((List.range' 0 ls.length).map fun (i : Nat) => D.int (i : Int)) := by rw [rng1 _ (by omega), List.range_eq_range']
  have k2 : kRng1 [.im (.int (js.length : Nat))] = some ((List.range' 0 js.length).map fun (i : Nat) => D.int (i : Int)) := by rw [rng1 _ (by omega), List.range_eq_range']
  obtain ⟨y4, y5, e1⟩ := same1 (js := js) (ce := ce) h.l (some (.im (jntsD js))) none ls.length 0 none none (by omega)
  obtain ⟨z4, z6, e2⟩ := same2 (ls := ls) (ce := ce) h.j (some (.im (laysD ls))) (some (.im (.int (thick ls)))) y5 js.length 0 y4 none (by omega)
  have t0 : thick (ls.take 0) = 0 := rfl
  rw [t0] at e1
  have d1 : decide ((ls.length : Int) = (ls.length : Int)) = true := decide_eq_true rfl
  have d2 : decide (thick ls = thick ls) = true := decide_eq_true rfl
  unfold f__law_same b__law_same
  simp? only [-kLen, ic, cl, llen, jlen, eq_int, d1, lc, rf, k1, e1, k2, e2, th, m_whole, d2, finD, List.take_length, Bool.not_true]
end
end ZZ
set_option Elab.async false
set_option linter.all false
set_option maxRecDepth 100000
set_option maxHeartbeats 4000000
namespace ZZ
open PySem PySem.Spec L2
section
variable {sl : Sl} {ce : List Cell} {x y : Str} {N : Nat}
def dig (c : Nat) : Bool := decide (48 ≤ c) && decide (c ≤ 57)
/-- the number that a word tells -/
def pn (x : Str) : Option Int :=
  if TL.tl x = [] ∨ (TL.tl x).all dig = false then none else if (TL.tl x).head? = some 48 ∧ TL.tl x ≠ [48] then none else some ((NumText.digitsVal (TL.tl x) : Nat) : Int)
/-- signs that may be compared, and not too many -/
structure Fi (N : Nat) (x : Str) : Prop where
  ok : PyData.strOk x = true
  len : (TL.tl x).length ≤ N
theorem sok_iff : PyData.strOk x = true ↔ ∀ c ∈ TL.tl x, c < 0x110000 := by
  unfold PyData.strOk
  rw [← Array.all_toList, List.all_eq_true]
  exact ⟨fun h c hc => of_decide_eq_true (h c hc), fun h c hc => decide_eq_true (h c hc)⟩
theorem Fi.mono {M : Nat} (h : Fi N x) (l : N ≤ M) : Fi M x := ⟨h.ok, Nat.le_trans h.len l⟩
theorem fi_app {M : Nat} (h : Fi N x) (g : Fi M y) : Fi (N + M) (x ++ y) := by
  refine ⟨sok_iff.mpr fun c q => ?_, ?_⟩
  · rw [TL.tl_append] at q
    rcases List.mem_append.mp q with z | z
    · exact sok_iff.mp h.ok c z
    · exact sok_iff.mp g.ok c z
  · rw [TL.tl_append, List.length_append]
    have := h.len
    have := g.len
    omega
theorem sp_tl : TL.tl (" " : Str) = [32] := by decide +kernel
theorem asStrs_map : ∀ l : List Str, asStrs (l.map D.str) = some l
  | [] => rfl
  | a :: l => by
    rw [List.map_cons]
    simp only [asStrs, asStrs_map l]
    rfl
theorem k_join {v : Val} {l : List Str} (hv : asL ce v = some (l.map .str)) (hl : (l.map (·.length)).sum + l.length * y.length ≤ 16777216) : kJoin (.im (.str y)) [v] sl ce = .ok (.im (.str (Txt.join y l))) ce := by
  unfold kJoin
  simp only [hv, asStrs_map, if_pos hl]
theorem k_len (hl : (TL.tl x).length ≤ 1000) : kLen [.im (.str x)] sl ce = .ok (.im (.int ((TL.tl x).length : Nat))) ce := by
  have e := TL.len_tl x
  have hx : x.length ≤ LINE := by
    rw [e]
    exact Nat.le_trans hl (by decide)
  unfold kLen
  simp only [if_pos hx]
  rw [e]
theorem k_app (h : (TL.tl x).length + (TL.tl y).length ≤ 1000) : kAdd (.im (.str x)) (.im (.str y)) sl ce = .ok (.im (.str (x ++ y))) ce := by
  have hx : x.length + y.length ≤ LINE := by
    rw [TL.len_tl, TL.len_tl]
    exact Nat.le_trans h (by decide)
  unfold kAdd
  simp only [if_pos hx]
def nw (n : Nat) : Str := Str.ofString (toString ((n : Nat) : Int))
theorem nw_tl (n : Nat) : TL.tl (nw n) = TL.numL n := TL.tl_num n
theorem nw_fi {n k : Nat} (hk : 0 < k) (h : n < 10 ^ k) : Fi k (nw n) := by
  refine ⟨sok_iff.mpr fun c hc => ?_, ?_⟩
  · rw [nw_tl] at hc
    have := TL.numL_digits n c hc
    omega
  · rw [nw_tl]
    exact TL.numL_len hk h
theorem log_lt {n : Nat} (h : n < 10 ^ 61) : n.log2 < 1920 := by
  by_cases h0 : n = 0
  · rw [h0]
    decide
  · exact (Nat.log2_lt h0).mpr (Nat.lt_trans h (by decide +kernel))
theorem k_str {n : Nat} (h : n < 10 ^ 61) : kStrB [.im (.int (n : Nat))] sl ce = .ok (.im (.str (nw n))) ce := by
  have hn : ((n : Nat) : Int).natAbs.log2 < 1920 := by rw [Int.natAbs_natCast]; exact log_lt h
  unfold kStrB
  simp only [if_pos hn]
  rfl
end
end ZZ
set_option Elab.async false
set_option linter.all false
set_option maxRecDepth 100000
set_option maxHeartbeats 4000000
namespace ZZ
open PySem PySem.Spec L2
section
theorem co_fi : Fi 1 (":" : Str) := ⟨by decide +kernel, by decide +kernel⟩
end
section
variable {sl : Sl} {ce : List Cell} {x y p : Str} {N : Nat} {l : Lay} {j : Jnt} {ls l2 : List Lay} {js j2 : List Jnt}
structure BL (l : Lay) : Prop where
  ok : okL l
  lt : l.2.toNat < 10 ^ 61
structure BJ (j : Jnt) : Prop where
  ok : okJ j
  lt : j.1.toNat < 10 ^ 61
  lm : ∀ m, j.2 = some m → m.toNat < 10 ^ 61
def wl (l : Lay) : Str := st l.1 ++ ":" ++ nw l.2.toNat
theorem BL.int (h : BL l) : l.2 = ((l.2.toNat : Nat) : Int) := by
  have := h.ok.2.2.2
  omega
theorem BJ.int (h : BJ j) : j.1 = ((j.1.toNat : Nat) : Int) := by
  have := h.ok.1
  omega
theorem st_tl (cs : List Nat) : TL.tl (st cs) = cs := rfl
theorem st_fi (h : okL l) : Fi 12 (st l.1) := ⟨sok_iff.mpr fun c hc => by
  have := h.2.2.1 c hc
  omega, h.2.1⟩
theorem wl_fi (h : BL l) : Fi 74 (wl l) := (fi_app (fi_app (st_fi h.ok) co_fi) (nw_fi (by decide) h.lt)).mono (by decide)
theorem kfmt_s (h : Fi 1000 x) : kFmt (.im (.str x)) sl ce = .ok (.im (.str x)) ce := by
  have hx : x.length ≤ 1000000 := by
    rw [TL.len_tl]
    exact Nat.le_trans h.len (by decide)
  unfold kFmt
  simp only [if_pos hx]
theorem kfmt_n {n : Nat} (hn : n < 10 ^ 61) : kFmt (.im (.int (n : Nat))) sl ce = .ok (.im (.str (nw n))) ce := by
  have h : ((n : Nat) : Int).natAbs.log2 < 1920 := by rw [Int.natAbs_natCast]; exact log_lt hn
  unfold kFmt
  simp only [if_pos h]
  rfl
theorem le6 (h : Fi N x) (hN : N ≤ 1000000) : x.length ≤ 1000000 := by
  rw [TL.len_tl]
  exact Nat.le_trans h.len hN
theorem em_app (x : Str) : Str.empty ++ x = x := TL.ext_tl (by rw [TL.tl_append]; rfl)
theorem m_wl (h : BL l) : f_written_layer [.im (layD l)] ce = .ok (.im (.str (wl l))) ce := by
  have f0 := st_fi h.ok
  have i1 : ∀ sl ce, kIx (.im (layD l)) (.im (.int 1)) sl ce = .ok (.im (.int (l.2.toNat : Nat))) ce := fun sl ce => by
    rw [lay1, ← h.int]
  have i0 := fun sl ce => lay0 (l := l) (sl := sl) (ce := ce)
  have k0 := fun sl ce => kfmt_s (sl := sl) (ce := ce) (f0.mono (by decide : 12 ≤ 1000))
  have k1 := fun sl ce => kfmt_n (sl := sl) (ce := ce) h.lt
  have f1 := fi_app f0 co_fi
  have f2 := fi_app f1 (nw_fi (k := 61) (by decide) h.lt)
  have L0 := le6 f0 (by decide)
  have L1 := le6 f1 (by decide)
  have L2 := le6 f2 (by decide)
  have L2 : (wl l).length ≤ 1000000 := L2
  have e0 := em_app (st l.1)
  have e2 : st l.1 ++ ":" ++ nw l.2.toNat = wl l := rfl
  unfold f_written_layer b_written_layer eFs
  simp? only [-kIx, kJn, i0, i1, k0, k1, e0, e2, L0, L1, L2, finD, List.take_length]
end
end ZZ
set_option Elab.async false
set_option linter.all false
set_option maxRecDepth 100000
set_option maxHeartbeats 4000000
namespace ZZ
open PySem PySem.Spec L2
section
variable {sl : Sl} {ce : List Cell} {x y : Str} {N : Nat} {ls : List Lay} {js : List Jnt}
def cm : Nat → List Nat → List Nat → List Nat
  | 0, t, out => t ++ out
  | m + 1, t, out => if 3 < t.length then cm m (t.take (t.length - 3)) (44 :: (t.drop (t.length - 3) ++ out)) else t ++ out
theorem cm_small {t : List Nat} (h : t.length ≤ 3) (out : List Nat) : ∀ m, cm m t out = t ++ out
  | 0 => rfl
  | m + 1 => by rw [cm, if_neg (by omega)]
theorem grp_n {t : List Nat} {room : Int} (hn : t ≠ []) (hr : room ≤ 0) : min 3 (max (max (t.reverse.length : Int) room) 1).toNat = min 3 t.length := by
  have : 0 < t.length := List.length_pos_iff.mpr hn
  rw [List.length_reverse]
  omega
theorem grp_cm : ∀ (m turns : Nat) (t out : List Nat) (room : Int), t ≠ [] → t.length ≤ 3 * (m + 1) → t.length < turns → room ≤ 0 → PyProof.Rows.groupsFromRight' 3 44 turns t.reverse room out = cm m t out
  | m, 0, t, out, room, hn, hl, ht, hr => absurd ht (Nat.not_lt_zero _)
  | m, k + 1, t, out, room, hn, hl, ht, hr => by
    rw [PyProof.Rows.groupsFromRight']
    have e := grp_n hn hr
    have pos : 0 < t.length := List.length_pos_iff.mpr hn
    simp only [e]
    by_cases h3 : t.length ≤ 3
    · have e2 : min 3 t.length = t.length := by omega
      rw [e2, cm_small h3, List.length_reverse, Nat.sub_self]
      have e3 : t.reverse.drop t.length = [] := List.drop_eq_nil_of_le (by rw [List.length_reverse]; exact Nat.le_refl _)
      have e4 : t.reverse.take t.length = t.reverse := List.take_of_length_le (by rw [List.length_reverse]; exact Nat.le_refl _)
      rw [e3, e4, List.reverse_reverse]
      have e5 : (([] : List Nat).isEmpty && decide (room - (t.length : Int) ≤ 0)) = true := by
        rw [decide_eq_true (by omega)]
        rfl
      rw [if_pos e5]
      rfl
    · have e2 : min 3 t.length = 3 := by omega
      rw [e2, List.length_reverse]
      have z : 3 - t.length = 0 := by omega
      have e3 : t.reverse.drop 3 = (t.take (t.length - 3)).reverse := by
        rw [List.drop_reverse]
      have e4 : (t.reverse.take 3).reverse = t.drop (t.length - 3) := by
        rw [List.take_reverse, List.reverse_reverse]
      have ne : t.take (t.length - 3) ≠ [] := fun q => by
        have := congrArg List.length q
        rw [List.length_take, List.length_nil] at this
        omega
      have e5 : (((t.take (t.length - 3)).reverse).isEmpty && decide (room - ((3 : Nat) : Int) ≤ 0)) = false := by
        cases q : (t.take (t.length - 3)).reverse with
        | nil =>
          have := congrArg List.length q
          rw [List.length_reverse, List.length_take, List.length_nil] at this
          omega
        | cons a b => rfl
      rw [z, e3, e4, if_neg (by rw [e5]; exact Bool.false_ne_true)]
      cases m with
      | zero => omega
      | succ m =>
        rw [grp_cm m k (t.take (t.length - 3)) _ _ ne (by rw [List.length_take]; omega) (by rw [List.length_take]; omega) (by omega), cm, if_pos (by omega)]
        rfl
/-- a number with commas -/
def comL (n : Nat) : List Nat := cm 12 (TL.numL n) []
def comS (n : Nat) : Str := st (comL n)
theorem cm_len : ∀ (m : Nat) (t out : List Nat), (cm m t out).length ≤ t.length + out.length + m
  | 0, t, out => by rw [cm, List.length_append]; omega
  | m + 1, t, out => by
    rw [cm]
    split
    · have := cm_len m (t.take (t.length - 3)) (44 :: (t.drop (t.length - 3) ++ out))
      rw [List.length_take, List.length_cons, List.length_append, List.length_drop] at this
      omega
    · rw [List.length_append]
      omega
theorem cm_mem : ∀ (m : Nat) (t out : List Nat) (c : Nat), c ∈ cm m t out → c ∈ t ∨ c ∈ out ∨ c = 44
  | 0, t, out, c, h => by
    rw [cm] at h
    rcases List.mem_append.mp h with z | z
    · exact .inl z
    · exact .inr (.inl z)
  | m + 1, t, out, c, h => by
    rw [cm] at h
    split at h
    · rcases cm_mem m _ _ c h with z | z | z
      · exact .inl (List.mem_of_mem_take z)
      · rcases List.mem_cons.mp z with q | q
        · exact .inr (.inr q)
        · rcases List.mem_append.mp q with r | r
          · exact .inl (List.mem_of_mem_drop r)
          · exact .inr (.inl r)
      · exact .inr (.inr z)
    · rcases List.mem_append.mp h with z | z
      · exact .inl z
      · exact .inr (.inl z)
theorem p39 : (10 : Nat) ^ 39 = 1000000000000000000000000000000000000000 := by decide
theorem com_fi {n : Nat} (h : n < 10 ^ 39) : Fi 51 (comS n) := by
  refine ⟨sok_iff.mpr fun c hc => ?_, ?_⟩
  · rcases cm_mem 12 (TL.numL n) [] c hc with z | z | z
    · have := TL.numL_digits n c z
      omega
    · cases z
    · rw [z]
      decide
  · have h1 := cm_len 12 (TL.numL n) []
    have h2 := TL.numL_len (k := 39) (by decide) h
    show (cm 12 (TL.numL n) []).length ≤ 51
    rw [List.length_nil] at h1
    omega
def outP : List (List Nat) → List Nat
  | [] => []
  | p :: ps => 44 :: (p ++ outP ps)
theorem join_out (t : List Nat) : ∀ ps : List (List Nat), TL.joinL [44] (t :: ps) = t ++ outP ps := by
  intro ps
  induction ps generalizing t with
  | nil => rw [outP, List.append_nil]; rfl
  | cons p ps ih =>
    show t ++ ([44] ++ TL.joinL [44] (p :: ps)) = _
    rw [ih p, outP]
    rfl
def stsD (ps : List (List Nat)) : D := .lst (ps.map fun p => .str (st p))
theorem sl_neg (n d : Nat) (h : 3 ≤ n) : HT.sIx n d (some (-3)) = n - 3 := by
  show (if (-3 : Int) < 0 then (-3 + (n : Int)).toNat else min (-3 : Int).toNat n) = _
  rw [if_pos (by decide)]
  omega
theorem sl_last (t : List Nat) (h : 3 ≤ t.length) (h2 : t.length ≤ 1000) : kSlL (.im (.str (st t))) (some (-3)) none sl ce = .ok (.im (.str (st (t.drop (t.length - 3))))) ce := by
  have hx : (st t).length ≤ LINE := by rw [st_len]; exact Nat.le_trans h2 (by decide)
  have e : cutS (st t) (some (-3)) none = st (t.drop (t.length - 3)) := by
    unfold cutS
    rw [HT.sIx_none, sl_neg _ _ (by rw [st_len]; exact h), st_len, List.take_of_length_le (by rw [List.length_drop]; exact Nat.le_refl _)]
    rfl
  unfold kSlL
  simp only [if_pos hx, e]
theorem sl_init (t : List Nat) (h : 3 ≤ t.length) (h2 : t.length ≤ 1000) : kSlL (.im (.str (st t))) none (some (-3)) sl ce = .ok (.im (.str (st (t.take (t.length - 3))))) ce := by
  have hx : (st t).length ≤ LINE := by rw [st_len]; exact Nat.le_trans h2 (by decide)
  have e : cutS (st t) none (some (-3)) = st (t.take (t.length - 3)) := by
    unfold cutS
    rw [HT.sIx_none, sl_neg _ _ (by rw [st_len]; exact h), st_len, List.drop_zero, Nat.sub_zero]
    rfl
  unfold kSlL
  simp only [if_pos hx, e]
theorem ad_l {α : Type} (f : α → D) (L M : List α) (h : L.length + M.length ≤ 1000) : kAdd (.im (.lst (L.map f))) (.im (.lst (M.map f))) sl ce = .ok (.im (.lst ((L ++ M).map f))) ce := by
  have hl : (L.map f).length + (M.map f).length ≤ LINE := by
    rw [List.length_map, List.length_map]
    exact Nat.le_trans h (by decide)
  unfold kAdd
  simp only [asL, if_pos hl, List.map_append]
theorem com_loop (a0 : Option Val) : ∀ (items : List D) (t : List Nat) (ps : List (List Nat)) (x3 : Option Val), t.length ≤ 1000 → ps.length + items.length ≤ 900 →
    ∃ t' ps' y3, forD (gN 3) lp__law_commas_0 items [a0, some (.im (.str (st t))), some (.im (stsD ps)), x3] ce = .nx [a0, some (.im (.str (st t'))), some (.im (stsD ps')), y3] ce ∧ t' ++ outP ps' = cm items.length t (outP ps) ∧ t'.length + (ps'.map List.length).sum = t.length + (ps.map List.length).sum ∧ ps'.length ≤ ps.length + items.length
  | [], t, ps, x3, h1, h2 => ⟨t, ps, x3, by rw [forD], rfl, rfl, Nat.le_refl _⟩
  | d :: items, t, ps, x3, h1, h2 => by
    rw [List.length_cons] at h2
    have kl : ∀ sl ce, kLen [.im (.str (st t))] sl ce = .ok (.im (.int (t.length : Nat))) ce := fun sl ce => k_len (x := st t) (by rw [st_tl]; exact h1)
    have gt : ∀ (i j : Int) sl ce, kGt (.im (.int i)) (.im (.int j)) sl ce = .ok (.im (.bl (decide (j < i)))) ce := fun _ _ _ _ => rfl
    have ng : ∀ sl ce, kNeg (.im (.int 3)) sl ce = .ok (.im (.int (-3))) ce := fun _ _ => rfl
    rw [forD]
    simp only [gN, List.set_cons_zero, List.set_cons_succ]
    by_cases h3 : 3 < t.length
    · have dd : decide ((3 : Int) < ((t.length : Nat) : Int)) = true := decide_eq_true (by omega)
      have s1 := fun sl ce => sl_last (sl := sl) (ce := ce) t (by omega) h1
      have s2 := fun sl ce => sl_init (sl := sl) (ce := ce) t (by omega) h1
      have ka : ∀ sl ce, kAdd (.im (.lst [.str (st (t.drop (t.length - 3)))])) (.im (stsD ps)) sl ce = .ok (.im (stsD (t.drop (t.length - 3) :: ps))) ce := fun sl ce => ad_l (fun p => D.str (st p)) [t.drop (t.length - 3)] ps (by rw [List.length_singleton]; omega)
      have e : lp__law_commas_0 [a0, some (.im (.str (st t))), some (.im (stsD ps)), some (.im d)] ce = .nx [a0, some (.im (.str (st (t.take (t.length - 3))))), some (.im (stsD (t.drop (t.length - 3) :: ps))), some (.im d)] ce := by
        unfold lp__law_commas_0
        simp? only [-kLen, -kAdd, eSlice, eOpt, kl, gt, dd, ng, s1, s2, ka]
      obtain ⟨t', ps', y3, q1, q2, q3, q4⟩ := com_loop a0 items (t.take (t.length - 3)) (t.drop (t.length - 3) :: ps) (some (.im d)) (by rw [List.length_take]; omega) (by rw [List.length_cons]; omega)
      refine ⟨t', ps', y3, by rw [e]; exact q1, ?_, ?_, ?_⟩
      · rw [q2, List.length_cons, cm, if_pos h3, outP]
      · rw [q3, List.map_cons, List.sum_cons, List.length_take, List.length_drop]
        omega
      · rw [List.length_cons] at q4 ⊢
        omega
    · have dd : decide ((3 : Int) < ((t.length : Nat) : Int)) = false := decide_eq_false (by omega)
      have e : lp__law_commas_0 [a0, some (.im (.str (st t))), some (.im (stsD ps)), some (.im d)] ce = .nx [a0, some (.im (.str (st t))), some (.im (stsD ps)), some (.im d)] ce := by
        unfold lp__law_commas_0
        simp? only [-kLen, -kAdd, eSlice, eOpt, kl, gt, dd]
      obtain ⟨t', ps', y3, q1, q2, q3, q4⟩ := com_loop a0 items t ps (some (.im d)) h1 (by omega)
      refine ⟨t', ps', y3, by rw [e]; exact q1, ?_, q3, ?_⟩
      · rw [q2, cm_small (by omega), cm_small (by omega)]
      · rw [List.length_cons]
        omega
theorem cma_tl : TL.tl ("," : Str) = [44] := by decide +kernel
theorem m_commas {n : Nat} (h : n < 10 ^ 39) : f__law_commas [.im (.int (n : Nat))] ce = .ok (.im (.str (comS n))) ce := by
  have h61 : n < 10 ^ 61 := Nat.lt_of_lt_of_le h (Nat.pow_le_pow_right (by decide) (by decide))
  have ks := fun sl ce => k_str (sl := sl) (ce := ce) h61
  have en : nw n = st (TL.numL n) := TL.ext_tl (by rw [nw_tl, st_tl])
  have hl := TL.numL_len (k := 39) (by decide) h
  have rg : kRng1 [.im (.int 12)] = some ((List.range 12).map fun (i : Nat) => D.int (i : Int)) := rng1 12 (by decide)
  obtain ⟨t', ps', y3, q1, q2, q3, q4⟩ := com_loop (ce := ce) (some (.im (.int (n : Nat)))) ((List.range 12).map fun (i : Nat) => D.int (i : Int)) (TL.numL n) [] none (by omega) (by simp)
  have e12 : ((List.range 12).map fun (i : Nat) => D.int (i : Int)).length = 12 := by rw [List.length_map, List.length_range]
  rw [e12] at q2 q4
  have e0 : stsD [] = .lst [] := rfl
  rw [e0] at q1
  rw [en] at ks
  have kc : ∀ sl ce, kAdd (.im (.lst [.str (st t')])) (.im (stsD ps')) sl ce = .ok (.im (stsD (t' :: ps'))) ce := fun sl ce => ad_l (fun p => D.str (st p)) [t'] ps' (by rw [List.length_singleton]; rw [List.length_nil] at q4; omega)
  have kj : ∀ sl ce, kJoin (.im (.str ",")) [.im (stsD (t' :: ps'))] sl ce = .ok (.im (.str (comS n))) ce := fun sl ce => by
    have e1 : stsD (t' :: ps') = .lst (((t' :: ps').map st).map D.str) := by
      rw [List.map_map]
      rfl
    have e2 : Txt.join "," ((t' :: ps').map st) = comS n := by
      apply TL.ext_tl
      rw [TL.join_eq, TL.tl_join, cma_tl, List.map_map]
      have : (TL.tl ∘ st) = id := by funext z; rfl
      rw [this, List.map_id, join_out, q2]
      rfl
    have s1 : (((t' :: ps').map st).map (·.length)).sum = t'.length + (ps'.map List.length).sum := by
      rw [List.map_map]
      have : ((fun z : Str => z.length) ∘ st) = List.length := by funext z; exact st_len z
      rw [this, List.map_cons, List.sum_cons]
    rw [e1, ← e2]
    refine k_join rfl ?_
    rw [s1, q3, List.length_map, List.length_cons]
    have : ("," : Str).length = 1 := by rw [TL.len_tl, cma_tl]; rfl
    rw [this]
    rw [List.length_nil] at q4
    rw [List.map_nil, List.sum_nil]
    omega
  unfold f__law_commas b__law_commas
  simp? only [-kAdd, ks, rg, q1, kc, kj, finD, List.take_length]
theorem fmtI_eq (left : Bool) {n : Nat} (h : n < 10 ^ 39) : fmtI left (n : Int) = fmtS left (comS n) := by
  have hl := TL.numL_len (k := 39) (by decide) h
  have hne := TL.numL_ne n
  have hd : ((Nat.toDigits 10 ((n : Nat) : Int).natAbs).map fun c => (if ((100 : Nat) == 88) = true then c.toUpper else c).toNat) = TL.numL n := rfl
  have hg : PyProof.Rows.groupsFromRight' 3 (','.toNat) ((TL.numL n).length + (0 : Int).toNat + 1) (TL.numL n).reverse 0 [] = comL n := grp_cm 12 _ _ [] 0 hne (by omega) (by show (TL.numL n).length < (TL.numL n).length + 0 + 1; omega) (Int.le_refl _)
  have hg2 : PyProof.Rows.groupsFromRight' 3 44 ((TL.numL n).length + 1) (TL.numL n).reverse 0 [] = comL n := hg
  have he : (TL.numL n).isEmpty = false := by
    cases q : TL.numL n with
    | nil => exact absurd q hne
    | cons a b => rfl
  have hs : decide (((n : Nat) : Int) < 0) = false := decide_eq_false (by omega)
  have cl : (comS n).length = (comL n).length := st_len _
  cases left with
  | false =>
    have e : fmtI false (n : Int) = ⟨(List.replicate ((20 : Int) - 0 - ((comL n).length : Int)).toNat 32 ++ comL n).toArray⟩ := by
      unfold fmtI PyProof.Rows.intSpecText PyProof.Rows.intField'
      rw [hd, hs]
      simp only [spcI, he, Bool.false_eq_true, if_false]
      show (⟨(List.replicate _ 32 ++ [] ++ [] ++ List.replicate 0 32 ++ PyProof.Rows.groupsFromRight' 3 (','.toNat) ((TL.numL n).length + (0 : Int).toNat + 1) (TL.numL n).reverse 0 [] ++ [] ++ List.replicate 0 32).toArray⟩ : Str) = _
      rw [hg]
      simp
      rw [hg2]
    rw [e]
    unfold fmtS
    show _ = Txt.rjust (comS n) 20
    unfold Txt.rjust
    rw [cl]
    by_cases hq : (20 : Int) ≤ ((comL n).length : Int)
    · rw [if_pos hq]
      have : ((20 : Int) - 0 - ((comL n).length : Int)).toNat = 0 := by omega
      rw [this]
      rfl
    · rw [if_neg hq]
      have : ((20 : Int) - 0 - ((comL n).length : Int)).toNat = (20 : Int).toNat - (comL n).length := by omega
      rw [this]
      unfold Builtin.Str.padded
      apply TL.ext_tl
      show _ = (Array.replicate _ 32 ++ (comL n).toArray ++ Array.replicate 0 32).toList
      simp
  | true =>
    have e : fmtI true (n : Int) = ⟨(comL n ++ List.replicate ((20 : Int) - 0 - ((comL n).length : Int)).toNat 32).toArray⟩ := by
      unfold fmtI PyProof.Rows.intSpecText PyProof.Rows.intField'
      rw [hd, hs]
      simp only [spcI, he, Bool.false_eq_true, if_false]
      show (⟨(List.replicate 0 32 ++ [] ++ [] ++ List.replicate 0 32 ++ PyProof.Rows.groupsFromRight' 3 (','.toNat) ((TL.numL n).length + (0 : Int).toNat + 1) (TL.numL n).reverse 0 [] ++ [] ++ List.replicate _ 32).toArray⟩ : Str) = _
      rw [hg]
      simp
      rw [hg2]
    rw [e]
    unfold fmtS
    show _ = Txt.ljust (comS n) 20
    unfold Txt.ljust
    rw [cl]
    by_cases hq : (20 : Int) ≤ ((comL n).length : Int)
    · rw [if_pos hq]
      have : ((20 : Int) - 0 - ((comL n).length : Int)).toNat = 0 := by omega
      rw [this]
      apply TL.ext_tl
      show comL n ++ [] = comL n
      rw [List.append_nil]
    · rw [if_neg hq]
      have : ((20 : Int) - 0 - ((comL n).length : Int)).toNat = (20 : Int).toNat - (comL n).length := by omega
      rw [this]
      unfold Builtin.Str.padded
      apply TL.ext_tl
      show _ = (Array.replicate 0 32 ++ (comL n).toArray ++ Array.replicate _ 32).toList
      simp
end
end ZZ
set_option Elab.async false
set_option linter.all false
set_option maxRecDepth 100000
set_option maxHeartbeats 4000000
namespace ZZ
open PySem PySem.Spec L2
section
variable {sl : Sl} {ce : List Cell} {x y a b g : Str} {N : Nat} {ls l1 l2 : List Lay} {js j1 j2 : List Jnt}
structure Tri where
  c : Sg
  i : Option Nat
  j : Option Nat
def trN : Option Nat → D
  | none => .non
  | some i => .int (i : Int)
def Tri.d (t : Tri) : D := .tup [.str (txt [t.c]), .tup [trN t.i, trN t.j]]
def trs : Nat → Nat → List Sg → List Tri
  | _, _, [] => []
  | x, y, .l :: s => ⟨.l, some x, none⟩ :: trs (x + 1) y s
  | x, y, .e :: s => ⟨.e, some x, some y⟩ :: trs (x + 1) (y + 1) s
  | x, y, .g :: s => ⟨.g, none, some y⟩ :: trs x (y + 1) s
theorem pairs_trs : ∀ (s : List Sg) (x y : Nat), pairs (s.map fun c => D.str (txt [c])) (rowsD x y s) = (trs x y s).map Tri.d
  | [], x, y => rfl
  | .l :: s, x, y => by
    have := pairs_trs s (x + 1) y
    rw [rowsD, trs, List.map_cons, List.map_cons, ← this]
    rfl
  | .e :: s, x, y => by
    have := pairs_trs s (x + 1) (y + 1)
    rw [rowsD, trs, List.map_cons, List.map_cons, ← this]
    rfl
  | .g :: s, x, y => by
    have := pairs_trs s x (y + 1)
    rw [rowsD, trs, List.map_cons, List.map_cons, ← this]
    rfl
def Tri.ok (n m : Nat) (t : Tri) : Prop := (∀ i, t.i = some i → i < n) ∧ ∀ j, t.j = some j → j < m
theorem trs_ok {n m : Nat} : ∀ (s : List Sg) (x y : Nat), x + lefts s ≤ n → y + rights s ≤ m → ∀ t ∈ trs x y s, t.ok n m
  | [], x, y, h1, h2, t, h => by cases h
  | c :: s, x, y, h1, h2, t, h => by
    rw [lefts_cons] at h1
    rw [rights_cons] at h2
    cases c with
    | l =>
      simp only [reduceCtorEq, if_true, if_false] at h1 h2
      rw [trs] at h
      rcases List.mem_cons.mp h with rfl | h
      · exact ⟨fun i z => by cases z; omega, fun j z => by cases z⟩
      · exact trs_ok s (x + 1) y (by omega) (by omega) t h
    | e =>
      simp only [reduceCtorEq, if_true, if_false] at h1 h2
      rw [trs] at h
      rcases List.mem_cons.mp h with rfl | h
      · exact ⟨fun i z => by cases z; omega, fun j z => by cases z; omega⟩
      · exact trs_ok s (x + 1) (y + 1) (by omega) (by omega) t h
    | g =>
      simp only [reduceCtorEq, if_true, if_false] at h1 h2
      rw [trs] at h
      rcases List.mem_cons.mp h with rfl | h
      · exact ⟨fun i z => (by cases z), fun j z => by cases z; omega⟩
      · exact trs_ok s x (y + 1) (by omega) (by omega) t h
theorem trs_len : ∀ (s : List Sg) (x y : Nat), (trs x y s).length = s.length
  | [], x, y => rfl
  | .l :: s, x, y => by rw [trs, List.length_cons, List.length_cons, trs_len]
  | .e :: s, x, y => by rw [trs, List.length_cons, List.length_cons, trs_len]
  | .g :: s, x, y => by rw [trs, List.length_cons, List.length_cons, trs_len]
def wlk (ls : List Lay) : Option Nat → Str
  | none => ""
  | some k => match ls[k]? with
    | some l => wl l
    | none => ""
def lineS (a g b : Str) : Str := fmtS false a ++ " " ++ g ++ " " ++ fmtS true b
def Tri.t (l1 l2 : List Lay) (t : Tri) : Str := lineS (wlk l1 t.i) (txt [t.c]) (wlk l2 t.j)
theorem fmt_fi (left : Bool) (h : Fi N x) : Fi (N + 20) (fmtS left x) := by
  have hl := TL.len_tl x
  cases left with
  | false =>
    show Fi (N + 20) (Txt.rjust x 20)
    unfold Txt.rjust
    split
    · exact h.mono (by omega)
    · have e : TL.tl (Builtin.Str.padded x ((20 : Int).toNat - x.length) 0 32) = List.replicate ((20 : Int).toNat - x.length) 32 ++ TL.tl x := by
        unfold Builtin.Str.padded
        show (Array.replicate _ 32 ++ x.cps ++ Array.replicate 0 32).toList = _
        simp
      refine ⟨sok_iff.mpr fun c hc => ?_, ?_⟩
      · rw [e] at hc
        rcases List.mem_append.mp hc with z | z
        · rw [(List.mem_replicate.mp z).2]
          decide
        · exact sok_iff.mp h.ok c z
      · rw [e, List.length_append, List.length_replicate]
        have := h.len
        omega
  | true =>
    show Fi (N + 20) (Txt.ljust x 20)
    unfold Txt.ljust
    split
    · exact h.mono (by omega)
    · have e : TL.tl (Builtin.Str.padded x 0 ((20 : Int).toNat - x.length) 32) = TL.tl x ++ List.replicate ((20 : Int).toNat - x.length) 32 := by
        unfold Builtin.Str.padded
        show (Array.replicate 0 32 ++ x.cps ++ Array.replicate _ 32).toList = _
        simp
      refine ⟨sok_iff.mpr fun c hc => ?_, ?_⟩
      · rw [e] at hc
        rcases List.mem_append.mp hc with z | z
        · exact sok_iff.mp h.ok c z
        · rw [(List.mem_replicate.mp z).2]
          decide
      · rw [e, List.length_append, List.length_replicate]
        have := h.len
        omega
theorem wlk_fi (h : ∀ l ∈ ls, BL l) (o : Option Nat) : Fi 74 (wlk ls o) := by
  have e : Fi 74 ("" : Str) := ⟨by decide +kernel, by decide +kernel⟩
  cases o with
  | none => exact e
  | some k =>
    show Fi 74 (match ls[k]? with
      | some l => wl l
      | none => "")
    cases hk : ls[k]? with
    | some l => exact wl_fi (h l (List.mem_of_getElem? hk))
    | none => exact e
theorem sg_fi (c : Sg) : Fi 1 (txt [c]) := ⟨txt_ok [c], by cases c <;> decide +kernel⟩
theorem spc_fi : Fi 1 (" " : Str) := ⟨by decide +kernel, by decide +kernel⟩
theorem kfS (left : Bool) (h : Fi 74 x) : kFmtS left (.im (.str x)) sl ce = .ok (.im (.str (fmtS left x))) ce := by
  have := le6 h (by decide)
  unfold kFmtS
  simp only [if_pos this]
theorem line_eq (a g b : Str) : Str.empty ++ fmtS false a ++ " " ++ g ++ " " ++ fmtS true b = lineS a g b := by
  rw [em_app]
  rfl
theorem line_le (ha : Fi 74 a) (hg : Fi 1 g) (hb : Fi 74 b) : (Str.empty ++ fmtS false a).length ≤ 1000000 ∧ (Str.empty ++ fmtS false a ++ " ").length ≤ 1000000 ∧ (Str.empty ++ fmtS false a ++ " " ++ g).length ≤ 1000000 ∧ (Str.empty ++ fmtS false a ++ " " ++ g ++ " ").length ≤ 1000000 ∧ (Str.empty ++ fmtS false a ++ " " ++ g ++ " " ++ fmtS true b).length ≤ 1000000 := by
  have f0 := fmt_fi false ha
  have f1 := fi_app f0 spc_fi
  have f2 := fi_app f1 hg
  have f3 := fi_app f2 spc_fi
  have f4 := fi_app f3 (fmt_fi true hb)
  rw [em_app]
  exact ⟨le6 f0 (by decide), le6 f1 (by decide), le6 f2 (by decide), le6 f3 (by decide), le6 f4 (by decide)⟩
theorem line_fi (ha : Fi 74 a) (hg : Fi 1 g) (hb : Fi 74 b) : Fi 300 (lineS a g b) :=
  (fi_app (fi_app (fi_app (fi_app (fmt_fi false ha) spc_fi) hg) spc_fi) (fmt_fi true hb)).mono (by decide)
theorem eFs_line (ha : Fi 74 a) (hg : Fi 1 g) (hb : Fi 74 b) {fa fg fb : DE} {X : List Cell} (ea : fa sl X = .ok (.im (.str a)) X) (eg : fg sl X = .ok (.im (.str g)) X) (eb : fb sl X = .ok (.im (.str b)) X) :
    eFs [eUn (kFmtS false) fa, eC (.str " "), eUn kFmt fg, eC (.str " "), eUn (kFmtS true) fb] sl X = .ok (.im (.str (lineS a g b))) X := by
  have k1 := fun sl ce => kfS (sl := sl) (ce := ce) false ha
  have k2 := fun sl ce => kfS (sl := sl) (ce := ce) true hb
  have k3 := fun sl ce => kfmt_s (sl := sl) (ce := ce) (hg.mono (show 1 ≤ 1000 by decide))
  obtain ⟨L0, L1, L2, L3, L4⟩ := line_le ha hg hb
  have le := line_eq a g b
  rw [le] at L4
  unfold eFs
  simp? only [kJn, ea, eg, eb, k1, k2, k3, L0, L1, L2, L3, L4, le]
theorem pic_step (h1 : ∀ l ∈ l1, BL l) (h2 : ∀ l ∈ l2, BL l) (t : Tri) (ht : t.ok l1.length l2.length) (acc : List Str) (hl : acc.length ≤ 1000) (a0 x7 x8 : Option Val) :
    ∃ y7 y8, lp_picture_0 [a0, some (.im (coreD l1 j1)), some (.im (coreD l2 j2)), some (.cell ce.length), some (.im (.str (txt [t.c]))), some (.im (trN t.i)), some (.im (trN t.j)), x7, x8] (ce ++ [.lst (acc.map .str)]) =
      .nx [a0, some (.im (coreD l1 j1)), some (.im (coreD l2 j2)), some (.cell ce.length), some (.im (.str (txt [t.c]))), some (.im (trN t.i)), some (.im (trN t.j)), y7, y8] (ce ++ [.lst ((acc ++ [t.t l1 l2]).map .str)]) := by
  have n0 : ∀ sl ce, kIsN false (.im .non) (.im .non) sl ce = .ok (.im (.bl true)) ce := fun _ _ => rfl
  have n1 : ∀ (i : Int) sl ce, kIsN false (.im (.int i)) (.im .non) sl ce = .ok (.im (.bl false)) ce := fun _ _ _ => rfl
  have e7 : ∀ (x7 x8 : Option Val) (X : List Cell), eIf (eBin (kIsN false) (eV 5) (eC .non)) (eC (.str "")) (eArgs [(eBin (kOwnIx c_Core f_Core___getitem__) (eV 1) (eV 5))] (kCall f_written_layer)) [a0, some (.im (coreD l1 j1)), some (.im (coreD l2 j2)), some (.cell ce.length), some (.im (.str (txt [t.c]))), some (.im (trN t.i)), some (.im (trN t.j)), x7, x8] X = .ok (.im (.str (wlk l1 t.i))) X := fun x7 x8 X => by
    cases hi : t.i with
    | none => simp? only [-kIx, trN, n0, wlk]
    | some i =>
      have hlt := ht.1 i hi
      obtain ⟨l, hk⟩ : ∃ l, l1[i]? = some l := ⟨_, List.getElem?_eq_getElem hlt⟩
      have g := fun sl ce => m_cget (sl := sl) (ce := ce) (js := j1) hk
      have mw := fun ce => m_wl (ce := ce) (h1 l (List.mem_of_getElem? hk))
      simp? only [-kIx, trN, n1, g, mw, wlk, hk]
  have e8 : ∀ (x7 x8 : Option Val) (X : List Cell), eIf (eBin (kIsN false) (eV 6) (eC .non)) (eC (.str "")) (eArgs [(eBin (kOwnIx c_Core f_Core___getitem__) (eV 2) (eV 6))] (kCall f_written_layer)) [a0, some (.im (coreD l1 j1)), some (.im (coreD l2 j2)), some (.cell ce.length), some (.im (.str (txt [t.c]))), some (.im (trN t.i)), some (.im (trN t.j)), x7, x8] X = .ok (.im (.str (wlk l2 t.j))) X := fun x7 x8 X => by
    cases hi : t.j with
    | none => simp? only [-kIx, trN, n0, wlk]
    | some i =>
      have hlt := ht.2 i hi
      obtain ⟨l, hk⟩ : ∃ l, l2[i]? = some l := ⟨_, List.getElem?_eq_getElem hlt⟩
      have g := fun sl ce => m_cget (sl := sl) (ce := ce) (js := j2) hk
      have mw := fun ce => m_wl (ce := ce) (h2 l (List.mem_of_getElem? hk))
      simp? only [-kIx, trN, n1, g, mw, wlk, hk]
  have ef := fun (sl : Sl) (X : List Cell) (ea : eV 7 sl X = .ok (.im (.str (wlk l1 t.i))) X) (eg : eV 4 sl X = .ok (.im (.str (txt [t.c]))) X) (eb : eV 8 sl X = .ok (.im (.str (wlk l2 t.j))) X) => eFs_line (sl := sl) (X := X) (wlk_fi h1 t.i) (sg_fi t.c) (wlk_fi h2 t.j) ea eg eb
  have hl2 : (acc.map D.str).length < LINE := by rw [List.length_map]; exact Nat.lt_of_le_of_lt hl (by decide)
  have ap := fun (d : D) sl => app_ok (ce := ce) (sl := sl) (d := d) hl2
  refine ⟨some (.im (.str (wlk l1 t.i))), some (.im (.str (wlk l2 t.j))), ?_⟩
  unfold lp_picture_0
  generalize eIf (eBin (kIsN false) (eV 5) (eC .non)) (eC (.str "")) (eArgs [(eBin (kOwnIx c_Core f_Core___getitem__) (eV 1) (eV 5))] (kCall f_written_layer)) = F7 at e7 ⊢
  generalize eIf (eBin (kIsN false) (eV 6) (eC .non)) (eC (.str "")) (eArgs [(eBin (kOwnIx c_Core f_Core___getitem__) (eV 2) (eV 6))] (kCall f_written_layer)) = F8 at e8 ⊢
  have ef' := ef [a0, some (.im (coreD l1 j1)), some (.im (coreD l2 j2)), some (.cell ce.length), some (.im (.str (txt [t.c]))), some (.im (trN t.i)), some (.im (trN t.j)), some (.im (.str (wlk l1 t.i))), some (.im (.str (wlk l2 t.j)))] (ce ++ [.lst (acc.map .str)]) rfl rfl rfl
  generalize eFs [eUn (kFmtS false) (eV 7), eC (.str " "), eUn kFmt (eV 4), eC (.str " "), eUn (kFmtS true) (eV 8)] = FS at ef' ⊢
  simp? only [e7, e8, ef', ap, List.map_append, List.map_cons, List.map_nil, Tri.t]
theorem pic_loop (h1 : ∀ l ∈ l1, BL l) (h2 : ∀ l ∈ l2, BL l) (a0 : Option Val) : ∀ (L : List Tri) (acc : List Str) (x4 x5 x6 x7 x8 : Option Val), (∀ t ∈ L, t.ok l1.length l2.length) → acc.length + L.length ≤ 1000 →
    ∃ y4 y5 y6 y7 y8, forD (gT [(gN 4), (gT [(gN 5), (gN 6)])]) lp_picture_0 (L.map Tri.d) [a0, some (.im (coreD l1 j1)), some (.im (coreD l2 j2)), some (.cell ce.length), x4, x5, x6, x7, x8] (ce ++ [.lst (acc.map .str)]) =
      .nx [a0, some (.im (coreD l1 j1)), some (.im (coreD l2 j2)), some (.cell ce.length), y4, y5, y6, y7, y8] (ce ++ [.lst ((acc ++ L.map (Tri.t l1 l2)).map .str)])
  | [], acc, x4, x5, x6, x7, x8, _, _ => ⟨x4, x5, x6, x7, x8, by rw [List.map_nil, List.map_nil, List.append_nil, forD]⟩
  | t :: L, acc, x4, x5, x6, x7, x8, ht, hl => by
    rw [List.length_cons] at hl
    obtain ⟨z7, z8, e⟩ := pic_step (ce := ce) (j1 := j1) (j2 := j2) h1 h2 t (ht t List.mem_cons_self) acc (by omega) a0 x7 x8
    obtain ⟨y4, y5, y6, y7, y8, ih⟩ := pic_loop h1 h2 a0 L (acc ++ [t.t l1 l2]) (some (.im (.str (txt [t.c])))) (some (.im (trN t.i))) (some (.im (trN t.j))) z7 z8 (fun u hu => ht u (List.mem_cons_of_mem _ hu)) (by rw [List.length_append, List.length_singleton]; omega)
    refine ⟨y4, y5, y6, y7, y8, ?_⟩
    rw [List.map_cons, forD, Tri.d]
    simp only [gT, gL, gN, List.set_cons_zero, List.set_cons_succ, Option.bind_some]
    rw [e]
    simp only
    rw [ih, List.map_cons, List.append_assoc]
    rfl
def topS (l1 l2 : List Lay) : Str := lineS (comS (thick l1).toNat) "|" (comS (thick l2).toNat)
def picR (l1 l2 : List Lay) (s : List Sg) : List Str := topS l1 l2 :: ((trs 0 0 s).map (Tri.t l1 l2)).reverse
structure Tk (ls : List Lay) : Prop where
  i : thick ls = ((thick ls).toNat : Int)
  lt : (thick ls).toNat < 10 ^ 39
theorem bar_fi : Fi 1 ("|" : Str) := ⟨by decide +kernel, by decide +kernel⟩
theorem bar_tl : TL.tl (" | " : Str) = [32, 124, 32] := by decide +kernel
theorem bar1_tl : TL.tl ("|" : Str) = [124] := by decide +kernel
theorem kfI (left : Bool) (h : Tk ls) : kFmtI left (.im (.int (thick ls))) sl ce = .ok (.im (.str (fmtS left (comS (thick ls).toNat)))) ce := by
  have e := fmtI_eq left h.lt
  rw [← h.i] at e
  have hlog : (thick ls).natAbs.log2 < 1920 := by
    rw [h.i, Int.natAbs_natCast]
    exact log_lt (Nat.lt_of_lt_of_le h.lt (Nat.pow_le_pow_right (by decide) (by decide)))
  have hz : (fmtI left (thick ls)).length ≤ 1000000 := by
    rw [e]
    exact le6 (fmt_fi left (com_fi h.lt)) (by decide)
  show (if _ then _ else _) = _
  rw [if_pos (And.intro hlog hz), e]
theorem top_eq (h1 : Tk l1) (h2 : Tk l2) {f1 f2 : DE} {X : List Cell} (ea : f1 sl X = .ok (.im (.int (thick l1))) X) (eb : f2 sl X = .ok (.im (.int (thick l2))) X) :
    eFs [eUn (kFmtI false) f1, eC (.str " | "), eUn (kFmtI true) f2] sl X = .ok (.im (.str (topS l1 l2))) X := by
  have k1 := fun sl ce => kfI (sl := sl) (ce := ce) false h1
  have k2 := fun sl ce => kfI (sl := sl) (ce := ce) true h2
  have f0 := fmt_fi false (com_fi h1.lt)
  have fb : Fi 3 (" | " : Str) := ⟨by decide +kernel, by decide +kernel⟩
  have f1 := fi_app f0 fb
  have f2 := fi_app f1 (fmt_fi true (com_fi h2.lt))
  have L0 := le6 f0 (by decide)
  have L1 := le6 f1 (by decide)
  have L2 := le6 f2 (by decide)
  have e0 := em_app (fmtS false (comS (thick l1).toNat))
  have le : fmtS false (comS (thick l1).toNat) ++ " | " ++ fmtS true (comS (thick l2).toNat) = topS l1 l2 := by
    apply TL.ext_tl
    unfold topS lineS
    simp only [TL.tl_append, bar_tl, bar1_tl, sp_tl, List.append_assoc, List.cons_append, List.nil_append]
  rw [le] at L2
  unfold eFs
  simp? only [kJn, ea, eb, k1, k2, e0, L0, L1, L2, le]
theorem kprop_lefts (s : List Sg) (h : s.length ≤ 16777216) : kProp c_Record f_Record_lefts (.im (recD s)) sl ce = .ok (.im (.int (lefts s : Nat))) ce := by
  unfold kProp
  rw [if_pos isC_s, m_lefts s ce h]
theorem kprop_rights (s : List Sg) (h : s.length ≤ 16777216) : kProp c_Record f_Record_rights (.im (recD s)) sl ce = .ok (.im (.int (rights s : Nat))) ce := by
  unfold kProp
  rw [if_pos isC_s, m_rights s ce h]
theorem m_picture (hw1 : OkC l1 j1) (hw2 : OkC l2 j2) (h1 : ∀ l ∈ l1, BL l) (h2 : ∀ l ∈ l2, BL l) (t1 : Tk l1) (t2 : Tk l2) {s : List Sg} (hs : In l1.length l2.length s) : f_picture [.im (recD s), .im (coreD l1 j1), .im (coreD l2 j2)] ce = .ok (.im (.lst ((picR l1 l2 s).map .str))) ce := by
  have n1 := hw1.n
  have n2 := hw2.n
  have hsl : s.length ≤ 40 := by
    have := len_le s
    rw [hs.1, hs.2] at this
    omega
  have ml := fun sl ce => kprop_lefts (sl := sl) (ce := ce) s (by omega)
  have mr := fun sl ce => kprop_rights (sl := sl) (ce := ce) s (by omega)
  have c1 := fun sl ce => m_clen (sl := sl) (ce := ce) (ls := l1) (js := j1) (by omega)
  have c2 := fun sl ce => m_clen (sl := sl) (ce := ce) (ls := l2) (js := j2) (by omega)
  have th1 := fun sl ce => m_cthick (sl := sl) (ce := ce) (ls := l1) (js := j1) (by omega)
  have th2 := fun sl ce => m_cthick (sl := sl) (ce := ce) (ls := l2) (js := j2) (by omega)
  have nq : ∀ (i : Int) sl ce, kNe (.im (.int i)) (.im (.int i)) sl ce = .ok (.im (.bl false)) ce := fun i sl ce => by
    show kEqG true _ _ sl ce = _
    rw [eq_int]
    simp
  have te := fun sl X ea eb => top_eq (sl := sl) (X := X) (f1 := eUn (kProp c_Core f_Core_thickness) (eV 1)) (f2 := eUn (kProp c_Core f_Core_thickness) (eV 2)) t1 t2 ea eb
  have te' := te [some (.im (recD s)), some (.im (coreD l1 j1)), some (.im (coreD l2 j2)), none, none, none, none, none, none] ce (by simp? only [th1]) (by simp? only [th2])
  have zo : ∀ sl ce, kZipO c_Record 1 [.im (.str (txt s)), .im (recD s)] sl ce = .ok (.im (.lst ((trs 0 0 s).map Tri.d))) ce := fun sl ce => by
    have e := pairs_trs s 0 0
    unfold kZipO
    simp only [recD, itO, if_true, List.getElem?_cons_succ, List.getElem?_cons_zero, txt_signs, e]
  have rv : kRevL [.im (.lst ((trs 0 0 s).map Tri.d))] = some (((trs 0 0 s).reverse).map Tri.d) := by
    show some ((trs 0 0 s).map Tri.d).reverse = _
    rw [List.map_reverse]
  obtain ⟨y4, y5, y6, y7, y8, lp⟩ := pic_loop (ce := ce) (j1 := j1) (j2 := j2) h1 h2 (some (.im (recD s))) (trs 0 0 s).reverse [topS l1 l2] none none none none none (fun t ht => trs_ok s 0 0 (by have := hs.1; omega) (by have := hs.2; omega) t (List.mem_reverse.mp ht)) (by rw [List.length_reverse, trs_len, List.length_singleton]; omega)
  have kc : ∀ sl ce, kLstC [.im (.str (topS l1 l2))] sl ce = .ok (.cell ce.length) (ce ++ [.lst ([topS l1 l2].map .str)]) := fun _ _ => rfl
  have er : [topS l1 l2] ++ (trs 0 0 s).reverse.map (Tri.t l1 l2) = picR l1 l2 s := by rw [List.map_reverse]; rfl
  rw [er] at lp
  have m1 : [topS l1 l2].map D.str = [.str (topS l1 l2)] := rfl
  rw [m1] at lp kc
  unfold f_picture b_picture
  rw [hs.1] at ml
  rw [hs.2] at mr
  generalize eFs [eUn (kFmtI false) (eUn (kProp c_Core f_Core_thickness) (eV 1)), eC (.str " | "), eUn (kFmtI true) (eUn (kProp c_Core f_Core_thickness) (eV 2))] = FT at te' ⊢
  simp? only [-kNe, -kLstC, -kLen, ml, mr, c1, c2, nq, te', kc, fld_s, zo, rv, lp, frz, ce_get0, ce_set0, List.getElem?_cons_zero, List.getElem?_cons_succ, List.set_cons_zero, List.set_cons_succ, finD, ce_take]
theorem x_picture (hw1 : OkC l1 j1) (hw2 : OkC l2 j2) {s : List Sg} (hsl : s.length ≤ 1000) (hs : ¬ In l1.length l2.length s) : f_picture [.im (recD s), .im (coreD l1 j1), .im (coreD l2 j2)] ce = .exc e_Unlike [] ce := by
  have n1 := hw1.n
  have n2 := hw2.n
  have ml := fun sl ce => kprop_lefts (sl := sl) (ce := ce) s (by omega)
  have mr := fun sl ce => kprop_rights (sl := sl) (ce := ce) s (by omega)
  have c1 := fun sl ce => m_clen (sl := sl) (ce := ce) (ls := l1) (js := j1) (by omega)
  have c2 := fun sl ce => m_clen (sl := sl) (ce := ce) (ls := l2) (js := j2) (by omega)
  have nq : ∀ (i j : Int) sl ce, kNe (.im (.int i)) (.im (.int j)) sl ce = .ok (.im (.bl (!decide (i = j)))) ce := fun i j sl ce => eq_int (neg := true)
  unfold f_picture b_picture
  by_cases hq : lefts s = l1.length
  · have d1 : decide (((lefts s : Nat) : Int) = ((l1.length : Nat) : Int)) = true := decide_eq_true (by omega)
    have d2 : decide (((rights s : Nat) : Int) = ((l2.length : Nat) : Int)) = false := decide_eq_false fun z => hs ⟨hq, by omega⟩
    simp? only [-kNe, -kLstC, -kLen, ml, mr, c1, c2, nq, d1, d2, Bool.not_true, Bool.not_false, sRaiseT, finD, List.take_length]
  · have d1 : decide (((lefts s : Nat) : Int) = ((l1.length : Nat) : Int)) = false := decide_eq_false (by omega)
    simp? only [-kNe, -kLstC, -kLen, ml, mr, c1, c2, nq, d1, Bool.not_false, sRaiseT, finD, List.take_length]
end
end ZZ
set_option Elab.async false
set_option linter.all false
set_option maxRecDepth 100000
set_option maxHeartbeats 4000000
namespace ZZ
open PySem PySem.Spec L2
section
variable {sl : Sl} {ce : List Cell} {x y a b g : Str} {N : Nat} {ls l1 l2 : List Lay} {js j1 j2 : List Jnt} {w : Wo}
theorem kj20 (left : Bool) (a : Str) : kJust left (.im (.str a)) [.im (.int 20)] sl ce = .ok (.im (.str (fmtS left a))) ce := rfl
theorem m_lline (ha : Fi 74 a) (hg : Fi 1 g) (hb : Fi 74 b) : f__law_line [.im (.str a), .im (.str g), .im (.str b)] ce = .ok (.im (.str (lineS a g b))) ce := by
  have f0 := fmt_fi false ha
  have f1 := fi_app f0 spc_fi
  have f2 := fi_app f1 hg
  have f3 := fi_app f2 spc_fi
  have fb := fmt_fi true hb
  have k0 := fun sl ce => kj20 (sl := sl) (ce := ce) false a
  have k1 := fun sl ce => kj20 (sl := sl) (ce := ce) true b
  have a1 := fun sl ce => k_app (sl := sl) (ce := ce) (x := fmtS false a) (y := " ") (by have := f0.len; have := spc_fi.len; omega)
  have a2 := fun sl ce => k_app (sl := sl) (ce := ce) (x := fmtS false a ++ " ") (y := g) (by have := f1.len; have := hg.len; omega)
  have a3 := fun sl ce => k_app (sl := sl) (ce := ce) (x := fmtS false a ++ " " ++ g) (y := " ") (by have := f2.len; have := spc_fi.len; omega)
  have a4 := fun sl ce => k_app (sl := sl) (ce := ce) (x := fmtS false a ++ " " ++ g ++ " ") (y := fmtS true b) (by have := f3.len; have := fb.len; omega)
  have e : fmtS false a ++ " " ++ g ++ " " ++ fmtS true b = lineS a g b := rfl
  rw [e] at a4
  unfold f__law_line b__law_line
  simp? only [-kAdd, k0, k1, a1, a2, a3, a4, finD, List.take_length]
theorem tot_loop (a0 : Option Val) : ∀ (ls : List Lay) (z : Int) (x2 : Option Val), ∃ y2, forD (gN 2) lp__law_total_0 (ls.map layD) [a0, some (.im (.int z)), x2] ce = .nx [a0, some (.im (.int (z + thick ls))), y2] ce
  | [], z, x2 => ⟨x2, by rw [List.map_nil, forD]; show _ = Out.nx [a0, some (.im (.int (z + 0))), x2] ce; rw [Int.add_zero]⟩
  | l :: ls, z, x2 => by
    obtain ⟨y2, ih⟩ := tot_loop a0 ls (z + l.2) (some (.im (layD l)))
    refine ⟨y2, ?_⟩
    have ai : ∀ (i j : Int) sl ce, kAdd (.im (.int i)) (.im (.int j)) sl ce = .ok (.im (.int (i + j))) ce := fun i j sl ce => rfl
    have e : lp__law_total_0 [a0, some (.im (.int z)), some (.im (layD l))] ce = .nx [a0, some (.im (.int (z + l.2))), some (.im (layD l))] ce := by
      unfold lp__law_total_0
      simp? only [-kAdd, -kIx, lay1, ai]
    rw [List.map_cons, forD]
    simp only [gN, List.set_cons_zero, List.set_cons_succ]
    rw [e]
    have : z + thick (l :: ls) = z + l.2 + thick ls := by
      unfold thick
      rw [List.map_cons, List.sum_cons]
      omega
    rw [this]
    exact ih
theorem m_ltotal (h : Tk ls) : f__law_total [.im (laysD ls)] ce = .ok (.im (.str (comS (thick ls).toNat))) ce := by
  obtain ⟨y2, e⟩ := tot_loop (ce := ce) (some (.im (laysD ls))) ls 0 none
  rw [Int.zero_add] at e
  have il : itL (.im (laysD ls)) = some (ls.map layD) := rfl
  have mc := fun ce => m_commas (ce := ce) h.lt
  rw [← h.i] at mc
  unfold f__law_total b__law_total
  simp? only [-itL, il, e, mc, finD, List.take_length]
theorem due_loop (h1 : ∀ l ∈ w.l1, BL l) (h2 : ∀ l ∈ w.l2, BL l) (a0 : Option Val) : ∀ (s : List Sg) (x y : Nat) (acc : List Str) (x5 x6 x7 : Option Val), x + lefts s = w.l1.length → y + rights s = w.l2.length → acc.length + s.length ≤ 900 →
    ∃ y3 y4 y5 y6 y7, forD (gN 5) lp__law_due_0 (s.map fun c => .str (txt [c])) [a0, some (.im (worldD w)), some (.im (.lst (acc.map .str))), some (.im (.int x)), some (.im (.int y)), x5, x6, x7] ce =
      .nx [a0, some (.im (worldD w)), some (.im (.lst ((((trs x y s).map (Tri.t w.l1 w.l2)).reverse ++ acc).map .str))), y3, y4, y5, y6, y7] ce
  | [], x, y, acc, x5, x6, x7, _, _, _ => ⟨_, _, x5, x6, x7, by rw [List.map_nil, forD]; rfl⟩
  | c :: s, x, y, acc, x5, x6, x7, hx, hy, hl => by
    rw [lefts_cons] at hx
    rw [rights_cons] at hy
    rw [List.length_cons] at hl
    have c1 : ((x : Int) + 1) = ((x + 1 : Nat) : Int) := rfl
    have c2 : ((y : Int) + 1) = ((y + 1 : Nat) : Int) := rfl
    have ai : ∀ (i j : Int) sl ce, kAdd (.im (.int i)) (.im (.int j)) sl ce = .ok (.im (.int (i + j))) ce := fun i j sl ce => rfl
    have e0 : Fi 74 ("" : Str) := ⟨by decide +kernel, by decide +kernel⟩
    have word : ∀ (l : Lay), BL l → (∀ sl ce, kAdd (.im (.str (st l.1))) (.im (.str ":")) sl ce = .ok (.im (.str (st l.1 ++ ":"))) ce) ∧ (∀ sl ce, kIx (.im (layD l)) (.im (.int 1)) sl ce = .ok (.im (.int (l.2.toNat : Nat))) ce) ∧ (∀ sl ce, kStrB [.im (.int (l.2.toNat : Nat))] sl ce = .ok (.im (.str (nw l.2.toNat))) ce) ∧ (∀ sl ce, kAdd (.im (.str (st l.1 ++ ":"))) (.im (.str (nw l.2.toNat))) sl ce = .ok (.im (.str (wl l))) ce) := fun l bl => by
      have f1 := st_fi bl.ok
      have f2 := nw_fi (k := 61) (by decide) bl.lt
      refine ⟨fun sl ce => k_app (by have := f1.len; have := co_fi.len; omega), fun sl ce => by rw [lay1, ← bl.int], fun sl ce => k_str bl.lt, fun sl ce => ?_⟩
      rw [k_app (by have := (fi_app f1 co_fi).len; have := f2.len; omega)]
      rfl
    have ad : ∀ (t : Str) sl ce, kAdd (.im (.lst [.str t])) (.im (.lst (acc.map .str))) sl ce = .ok (.im (.lst ((t :: acc).map .str))) ce := fun t sl ce => ad_l D.str [t] acc (by rw [List.length_singleton]; omega)
    rw [List.map_cons, forD]
    simp only [gN, List.set_cons_zero, List.set_cons_succ]
    cases c with
    | l =>
      simp only [reduceCtorEq, if_true, if_false] at hx hy
      obtain ⟨l, hk⟩ : ∃ l, w.l1[x]? = some l := ⟨_, List.getElem?_eq_getElem (by omega)⟩
      have bl := h1 l (List.mem_of_getElem? hk)
      obtain ⟨w1, w2, w3, w4⟩ := word l bl
      have ix := fun sl ce => lix (sl := sl) (ce := ce) hk
      have ml := fun ce => m_lline (ce := ce) (wl_fi bl) (sg_fi .l) e0
      obtain ⟨y3, y4, y5, y6, y7, ih⟩ := due_loop h1 h2 a0 s (x + 1) y (lineS (wl l) (txt [.l]) "" :: acc) (some (.im (.str (txt [.l])))) (some (.im (.str (wl l)))) (some (.im (.str ""))) (by omega) (by omega) (by rw [List.length_cons]; omega)
      refine ⟨y3, y4, y5, y6, y7, ?_⟩
      have e : lp__law_due_0 [a0, some (.im (worldD w)), some (.im (.lst (acc.map .str))), some (.im (.int x)), some (.im (.int y)), some (.im (.str (txt [.l]))), x6, x7] ce = .nx [a0, some (.im (worldD w)), some (.im (.lst ((lineS (wl l) (txt [.l]) "" :: acc).map .str))), some (.im (.int ((x + 1 : Nat) : Int))), some (.im (.int y)), some (.im (.str (txt [.l]))), some (.im (.str (wl l))), some (.im (.str ""))] ce := by
        unfold lp__law_due_0
        simp? only [-kAdd, -kIx, sl1, sl3, eq_txt, wd0, ix, lay0, w1, w2, w3, w4, ai, c1, ml, ad]
      rw [e]
      have et : ((trs x y (.l :: s)).map (Tri.t w.l1 w.l2)).reverse ++ acc = ((trs (x + 1) y s).map (Tri.t w.l1 w.l2)).reverse ++ (lineS (wl l) (txt [.l]) "" :: acc) := by
        rw [trs, List.map_cons, List.reverse_cons, List.append_assoc]
        simp only [Tri.t, wlk, hk]
        rfl
      rw [et]
      exact ih
    | g =>
      simp only [reduceCtorEq, if_true, if_false] at hx hy
      obtain ⟨l, hk⟩ : ∃ l, w.l2[y]? = some l := ⟨_, List.getElem?_eq_getElem (by omega)⟩
      have bl := h2 l (List.mem_of_getElem? hk)
      obtain ⟨w1, w2, w3, w4⟩ := word l bl
      have ix := fun sl ce => lix (sl := sl) (ce := ce) hk
      have ml := fun ce => m_lline (ce := ce) e0 (sg_fi .g) (wl_fi bl)
      obtain ⟨y3, y4, y5, y6, y7, ih⟩ := due_loop h1 h2 a0 s x (y + 1) (lineS "" (txt [.g]) (wl l) :: acc) (some (.im (.str (txt [.g])))) (some (.im (.str ""))) (some (.im (.str (wl l)))) (by omega) (by omega) (by rw [List.length_cons]; omega)
      refine ⟨y3, y4, y5, y6, y7, ?_⟩
      have e : lp__law_due_0 [a0, some (.im (worldD w)), some (.im (.lst (acc.map .str))), some (.im (.int x)), some (.im (.int y)), some (.im (.str (txt [.g]))), x6, x7] ce = .nx [a0, some (.im (worldD w)), some (.im (.lst ((lineS "" (txt [.g]) (wl l) :: acc).map .str))), some (.im (.int x)), some (.im (.int ((y + 1 : Nat) : Int))), some (.im (.str (txt [.g]))), some (.im (.str "")), some (.im (.str (wl l)))] ce := by
        unfold lp__law_due_0
        simp? only [-kAdd, -kIx, sl1, sl3, eq_txt, wd2, ix, lay0, w1, w2, w3, w4, ai, c2, ml, ad]
      rw [e]
      have et : ((trs x y (.g :: s)).map (Tri.t w.l1 w.l2)).reverse ++ acc = ((trs x (y + 1) s).map (Tri.t w.l1 w.l2)).reverse ++ (lineS "" (txt [.g]) (wl l) :: acc) := by
        rw [trs, List.map_cons, List.reverse_cons, List.append_assoc]
        simp only [Tri.t, wlk, hk]
        rfl
      rw [et]
      exact ih
    | e =>
      simp only [reduceCtorEq, if_true, if_false] at hx hy
      obtain ⟨l, hk⟩ : ∃ l, w.l1[x]? = some l := ⟨_, List.getElem?_eq_getElem (by omega)⟩
      obtain ⟨m, hm⟩ : ∃ m, w.l2[y]? = some m := ⟨_, List.getElem?_eq_getElem (by omega)⟩
      have bl := h1 l (List.mem_of_getElem? hk)
      have bm := h2 m (List.mem_of_getElem? hm)
      obtain ⟨w1, w2, w3, w4⟩ := word l bl
      obtain ⟨v1, v2, v3, v4⟩ := word m bm
      have ix := fun sl ce => lix (sl := sl) (ce := ce) hk
      have iy := fun sl ce => lix (sl := sl) (ce := ce) hm
      have ml := fun ce => m_lline (ce := ce) (wl_fi bl) (sg_fi .e) (wl_fi bm)
      obtain ⟨y3, y4, y5, y6, y7, ih⟩ := due_loop h1 h2 a0 s (x + 1) (y + 1) (lineS (wl l) (txt [.e]) (wl m) :: acc) (some (.im (.str (txt [.e])))) (some (.im (.str (wl l)))) (some (.im (.str (wl m)))) (by omega) (by omega) (by rw [List.length_cons]; omega)
      refine ⟨y3, y4, y5, y6, y7, ?_⟩
      have e : lp__law_due_0 [a0, some (.im (worldD w)), some (.im (.lst (acc.map .str))), some (.im (.int x)), some (.im (.int y)), some (.im (.str (txt [.e]))), x6, x7] ce = .nx [a0, some (.im (worldD w)), some (.im (.lst ((lineS (wl l) (txt [.e]) (wl m) :: acc).map .str))), some (.im (.int ((x + 1 : Nat) : Int))), some (.im (.int ((y + 1 : Nat) : Int))), some (.im (.str (txt [.e]))), some (.im (.str (wl l))), some (.im (.str (wl m)))] ce := by
        unfold lp__law_due_0
        simp? only [-kAdd, -kIx, sl1, sl3, eq_txt, wd0, wd2, ix, iy, lay0, w1, w2, w3, w4, v1, v2, v3, v4, ai, c1, c2, ml, ad]
      rw [e]
      have et : ((trs x y (.e :: s)).map (Tri.t w.l1 w.l2)).reverse ++ acc = ((trs (x + 1) (y + 1) s).map (Tri.t w.l1 w.l2)).reverse ++ (lineS (wl l) (txt [.e]) (wl m) :: acc) := by
        rw [trs, List.map_cons, List.reverse_cons, List.append_assoc]
        simp only [Tri.t, wlk, hk, hm]
        rfl
      rw [et]
      exact ih
theorem m_ldue (h1 : ∀ l ∈ w.l1, BL l) (h2 : ∀ l ∈ w.l2, BL l) (t1 : Tk w.l1) (t2 : Tk w.l2) {s : List Sg} (hs : In w.l1.length w.l2.length s) (hl : s.length ≤ 800) : f__law_due [.im (.str (txt s)), .im (worldD w)] ce = .ok (.im (.lst ((picR w.l1 w.l2 s).map .str))) ce := by
  obtain ⟨y3, y4, y5, y6, y7, e⟩ := due_loop (ce := ce) h1 h2 (some (.im (.str (txt s)))) s 0 0 [] none none none (by rw [Nat.zero_add]; exact hs.1) (by rw [Nat.zero_add]; exact hs.2) (by rw [List.length_nil]; omega)
  have z0 : ((0 : Nat) : Int) = 0 := rfl
  rw [List.append_nil, List.map_nil, z0] at e
  have m1 := fun ce => m_ltotal (ce := ce) t1
  have m2 := fun ce => m_ltotal (ce := ce) t2
  have fc : ∀ {ls : List Lay}, Tk ls → Fi 74 (comS (thick ls).toNat) := fun h => (com_fi h.lt).mono (by decide)
  have ml := fun ce => m_lline (ce := ce) (fc t1) bar_fi (fc t2)
  have ad : ∀ sl ce, kAdd (.im (.lst [.str (lineS (comS (thick w.l1).toNat) "|" (comS (thick w.l2).toNat))])) (.im (.lst ((((trs 0 0 s).map (Tri.t w.l1 w.l2)).reverse).map .str))) sl ce = .ok (.im (.lst ((picR w.l1 w.l2 s).map .str))) ce := fun sl ce => ad_l D.str [lineS (comS (thick w.l1).toNat) "|" (comS (thick w.l2).toNat)] _ (by rw [List.length_singleton, List.length_reverse, List.length_map, trs_len]; omega)
  have its : itS (.im (.str (txt s))) = some (s.map fun c => .str (txt [c])) := by
    show some (signs (txt s)) = _
    rw [txt_signs]
  unfold f__law_due b__law_due
  simp? only [-kAdd, -itS, its, e, wd0, wd2, m1, m2, ml, ad, finD, List.take_length]
theorem m_lunlike (hw : w.Ok) {s : List Sg} (hl : s.length ≤ 1000) (hs : ¬ In w.l1.length w.l2.length s) : f__law_unlike [.im (recD s), .im (coresD w)] ce = .ok (.im (.bl true)) ce := by
  have x := fun ce => x_picture (ce := ce) hw.a hw.b hl hs
  have i0 : ∀ sl ce, kIx (.im (coresD w)) (.im (.int 0)) sl ce = .ok (.im (coreD w.l1 w.j1)) ce := fun _ _ => rfl
  have i1 : ∀ sl ce, kIx (.im (coresD w)) (.im (.int 1)) sl ce = .ok (.im (coreD w.l2 w.j2)) ce := fun _ _ => rfl
  have r1 : e_Unlike < 8 := by decide
  have s1 : x_SiltError e_Unlike = true := by decide
  have s2 : x_Unlike e_Unlike = true := by decide
  have s3 : x_ValueError e_Unlike = true := by decide
  have s4 : x_NotFitting e_Unlike = false := by decide
  unfold f__law_unlike b__law_unlike sTry
  simp? only [i0, i1, x, r1, s1, s2, s3, s4, kIsE, offD, if_true, Bool.not_false, finD, List.take_length]
end
end ZZ
set_option Elab.async false
set_option linter.all false
set_option maxRecDepth 100000
set_option maxHeartbeats 4000000
namespace ZZ
open PySem PySem.Spec L2
section
variable {sl : Sl} {ce : List Cell} {x y : Str} {L R : Nat} {ls : List Lay} {w : Wo} {s : List Sg}
theorem sx1 : ∀ (sl : Sl) (ce : List Cell), kSIdx (.im (.str "<>")) [.im (.str (txt [.l]))] sl ce = .ok (.im (.int 0)) ce := fun sl ce => by
  rw [txt_l]
  have : Builtin.Str.occurrences ("<>" : Str) ("<" : Str) 0 ("<>" : Str).length 1 = [0] := by decide +kernel
  unfold kSIdx
  simp only [this]
  rfl
theorem sx2 : ∀ (sl : Sl) (ce : List Cell), kSIdx (.im (.str "<>")) [.im (.str (txt [.g]))] sl ce = .ok (.im (.int 1)) ce := fun sl ce => by
  rw [txt_g]
  have : Builtin.Str.occurrences ("<>" : Str) (">" : Str) 0 ("<>" : Str).length 1 = [1] := by decide +kernel
  unfold kSIdx
  simp only [this]
  rfl
theorem tw1 : ("<>" : Str) = txt [.l, .g] := by decide +kernel
theorem tw2 : ("><" : Str) = txt [.g, .l] := by decide +kernel
def opp : Sg → Sg
  | .l => .g
  | .g => .l
  | .e => .e
def flipAt (s : List Sg) (k : Nat) (c : Sg) : List Sg := s.take k ++ [opp c] ++ s.drop (k + 1)
theorem cut_at {k : Nat} {c : Sg} (h : s[k]? = some c) : s = s.take k ++ ([c] ++ s.drop (k + 1)) := by
  obtain ⟨hk, e⟩ := List.getElem?_eq_some_iff.mp h
  conv => lhs; rw [← List.take_append_drop k s, List.drop_eq_getElem_cons hk, e]
  rfl
theorem flip_len {k : Nat} {c : Sg} (h : s[k]? = some c) : (flipAt s k c).length = s.length := by
  have hk := (List.getElem?_eq_some_iff.mp h).1
  unfold flipAt
  simp only [List.length_append, List.length_take, List.length_drop, List.length_singleton]
  omega
theorem flip_no {k : Nat} {c : Sg} (h : s[k]? = some c) (hc : c ≠ .e) (hs : In L R s) : ¬ In L R (flipAt s k c) := fun z => by
  have e := cut_at h
  have h1 := hs.1
  have h2 := z.1
  rw [e, lefts_app, lefts_app] at h1
  unfold flipAt at h2
  rw [lefts_app, lefts_app] at h2
  cases c with
  | l =>
    have q1 : lefts [.l] = 1 := rfl
    have q2 : lefts [opp .l] = 0 := rfl
    omega
  | g =>
    have q1 : lefts [.g] = 0 := rfl
    have q2 : lefts [opp .g] = 1 := rfl
    omega
  | e => exact hc rfl
theorem setIx_any {fo fi fv : DE} {n k : Nat} {z : Int} {ds : List D} {d : D} (hv : fv sl ce = .ok (.im d) ce) (ho : fo sl ce = .ok (.cell n) ce) (hi : fi sl ce = .ok (.im (.int z)) ce) (hc : ce[n]? = some (.lst ds)) (hk : ixN ds.length z = some k) : sSetIx fo fi fv sl ce = .nx sl (ce.set n (.lst (ds.set k d))) := by
  unfold sSetIx
  simp only [sExp, hv, ho, hi, hc, hk]
def fl3 (t0 t1 u : List Sg) (r : List (List Sg)) : List D := (t0 :: t1 :: u :: r).map fun s => .str (txt s)
theorem set3 (a0 : Option Val) (t0 t1 u v : List Sg) (r : List (List Sg)) (C : List Cell) (x3 : Option Val) {fv : DE} (hv : fv [a0, some (.im (.str (txt s))), some (.cell C.length), x3] (C ++ [.lst (fl3 t0 t1 u r)]) = .ok (.im (.str (txt v))) (C ++ [.lst (fl3 t0 t1 u r)])) :
    sSetIx (eV 2) (eC (.int 2)) fv [a0, some (.im (.str (txt s))), some (.cell C.length), x3] (C ++ [.lst (fl3 t0 t1 u r)]) = .nx [a0, some (.im (.str (txt s))), some (.cell C.length), x3] (C ++ [.lst (fl3 t0 t1 v r)]) := by
  refine (setIx_any (k := 2) (z := 2) hv rfl rfl (ce_get0 ..) ?_).trans ?_
  · show ixN ((fl3 t0 t1 u r).length) 2 = some 2
    have : (fl3 t0 t1 u r).length = r.length + 3 := by simp [fl3]
    rw [this]
    unfold ixN
    rw [if_pos (by decide), if_pos (by omega)]
    rfl
  · rw [ce_set0]
    rfl
theorem far_loop (hs : In L R s) (hl : s.length ≤ 800) (a0 : Option Val) (t0 t1 : List Sg) (r : List (List Sg)) (C : List Cell) : ∀ (ks : List Nat) (u : List Sg) (x3 : Option Val), (∀ k ∈ ks, k < s.length) →
    ∃ v y3, forD (gN 3) lp__law_far_0 (ks.map fun (k : Nat) => D.int (k : Int)) [a0, some (.im (.str (txt s))), some (.cell C.length), x3] (C ++ [.lst (fl3 t0 t1 u r)]) = .nx [a0, some (.im (.str (txt s))), some (.cell C.length), y3] (C ++ [.lst (fl3 t0 t1 v r)]) ∧
      ((v = u ∧ ∀ k ∈ ks, s[k]? = some .e) ∨ (v.length = s.length ∧ ¬ In L R v))
  | [], u, x3, _ => ⟨u, x3, by rw [List.map_nil, forD], .inl ⟨rfl, fun k h => by cases h⟩⟩
  | k :: ks, u, x3, hk => by
    have hk0 := hk k List.mem_cons_self
    obtain ⟨c, hc⟩ : ∃ c, s[k]? = some c := ⟨_, List.getElem?_eq_getElem hk0⟩
    have ix := fun sl ce => ix_txt (sl := sl) (ce := ce) s k c hc (by omega)
    rw [List.map_cons, forD]
    simp only [gN, List.set_cons_zero, List.set_cons_succ]
    have sE := sl2
    by_cases he : c = .e
    · subst he
      obtain ⟨v, y3, e, q⟩ := far_loop hs hl a0 t0 t1 r C ks u (some (.im (.int (k : Nat)))) fun j hj => hk j (List.mem_cons_of_mem _ hj)
      have e1 : lp__law_far_0 [a0, some (.im (.str (txt s))), some (.cell C.length), some (.im (.int (k : Nat)))] (C ++ [.lst (fl3 t0 t1 u r)]) = .nx [a0, some (.im (.str (txt s))), some (.cell C.length), some (.im (.int (k : Nat)))] (C ++ [.lst (fl3 t0 t1 u r)]) := by
        unfold lp__law_far_0
        simp? only [-kIx, ix, sl2, eq_txt]
      rw [e1]
      refine ⟨v, y3, e, q.elim (fun z => .inl ⟨z.1, fun j hj => ?_⟩) .inr⟩
      rcases List.mem_cons.mp hj with rfl | hj
      · exact hc
      · exact z.2 j hj
    · obtain ⟨v, y3, e, q⟩ := far_loop hs hl a0 t0 t1 r C ks (flipAt s k c) (some (.im (.int (k : Nat)))) fun j hj => hk j (List.mem_cons_of_mem _ hj)
      have s1 := fun sl ce => sl_to (sl := sl) (ce := ce) s k (by omega) (by omega)
      have s2 := fun sl ce => sl_from (sl := sl) (ce := ce) s (k + 1) (by omega) (by omega)
      have kp : ∀ sl ce, kAdd (.im (.int (k : Nat))) (.im (.int 1)) sl ce = .ok (.im (.int ((k + 1 : Nat) : Int))) ce := fun _ _ => rfl
      have op : ∃ i : Nat, (∀ sl ce, kSIdx (.im (.str "<>")) [.im (.str (txt [c]))] sl ce = .ok (.im (.int (i : Nat))) ce) ∧ ∀ sl ce, kIx (.im (.str "><")) (.im (.int (i : Nat))) sl ce = .ok (.im (.str (txt [opp c]))) ce := by
        cases c with
        | l => exact ⟨0, sx1, fun sl ce => by rw [tw2]; exact ix_txt [.g, .l] 0 .g rfl (by decide)⟩
        | g => exact ⟨1, sx2, fun sl ce => by rw [tw2]; exact ix_txt [.g, .l] 1 .l rfl (by decide)⟩
        | e => exact absurd rfl he
      obtain ⟨i, o1, o2⟩ := op
      have a1 := fun sl ce => add_s (sl := sl) (ce := ce) (s.take k) [opp c] (by rw [List.length_take, List.length_singleton]; omega)
      have a2 := fun sl ce => add_s (sl := sl) (ce := ce) (s.take k ++ [opp c]) (s.drop (k + 1)) (by rw [List.length_append, List.length_take, List.length_singleton, List.length_drop]; omega)
      have ef : s.take k ++ [opp c] ++ s.drop (k + 1) = flipAt s k c := rfl
      rw [ef] at a2
      have st3 := set3 (s := s) a0 t0 t1 u (flipAt s k c) r C (some (.im (.int (k : Nat)))) (fv := (eBin kAdd (eBin kAdd (eSlice (eV 1) none (some (eV 3))) (eBin kIx (eC (.str "><")) (eMth tyS kSIdx (eC (.str "<>")) [(eBin kIx (eV 1) (eV 3))]))) (eSlice (eV 1) (some (eBin kAdd (eV 3) (eC (.int 1)))) none))) (by
        simp? only [-kIx, -kAdd, -kSIdx, eSlice, eOpt, s1, ix, o1, o2, a1, kp, s2, a2])
      have dc : decide ([c] = [Sg.e]) = false := decide_eq_false fun z => he (by injection z)
      have dc2 : decide (c = Sg.e) = false := decide_eq_false he
      have e1 : lp__law_far_0 [a0, some (.im (.str (txt s))), some (.cell C.length), some (.im (.int (k : Nat)))] (C ++ [.lst (fl3 t0 t1 u r)]) = .nx [a0, some (.im (.str (txt s))), some (.cell C.length), some (.im (.int (k : Nat)))] (C ++ [.lst (fl3 t0 t1 (flipAt s k c) r)]) := by
        unfold lp__law_far_0
        generalize sSetIx (eV 2) (eC (.int 2)) _ = G at st3 ⊢
        simp? only [-kIx, ix, sl2, eq_txt, List.cons.injEq, and_true, dc, dc2, Bool.not_false, st3]
      rw [e1]
      exact ⟨v, y3, e, q.elim (fun z => .inr ⟨by rw [z.1]; exact flip_len hc, by rw [z.1]; exact flip_no hc he hs⟩) .inr⟩
theorem sl_d1 (s : List Sg) (h2 : s.length ≤ 16777216) : kSlL (.im (.str (txt s))) (some 1) none sl ce = .ok (.im (.str (txt (s.drop 1)))) ce := by
  have e : cutS (txt s) (some ((1 : Nat) : Int)) none = txt (s.drop 1) := by
    rw [txt_cut, HT.sIx_nat, HT.sIx_none]
    cases s with
    | nil => rfl
    | cons c s =>
      rw [Nat.min_eq_left (by rw [List.length_cons]; omega), List.take_of_length_le (by rw [List.length_drop]; exact Nat.le_refl _)]
  have e : cutS (txt s) (some 1) none = txt (s.drop 1) := e
  unfold kSlL
  simp only [txt_len, h2, if_true, e]
theorem m_lfar (hs : In L R s) (hl : s.length ≤ 800) (ds : List Int) (ce0 : List Cell) : ∃ (ts : List (List Sg)) (ds' : List Int), f__law_far [.cell 0, .im (.str (txt s))] (.lst (ds.map .int) :: ce0) = .ok (.im (.lst (ts.map fun s => .str (txt s)))) (.lst (ds'.map .int) :: ce0) ∧ ∀ t ∈ ts, t.length ≤ 801 ∧ ¬ In L R t := by
  obtain ⟨r, d1, b1, b2, e1⟩ := m_draw 0 ds 2 (.lst (ds.map .int) :: ce0) rfl (by decide)
  rw [List.set_cons_zero] at e1
  obtain ⟨c, hc0, hc⟩ : ∃ c : Sg, c ≠ .e ∧ ∀ sl ce, kIx (.im (.str "<>")) (.im (.int r)) sl ce = .ok (.im (.str (txt [c]))) ce := by
    rcases (show r = 0 ∨ r = 1 by omega) with rfl | rfl
    · exact ⟨.l, by decide, fun sl ce => by rw [tw1]; exact ix_txt [.l, .g] 0 .l rfl (by decide)⟩
    · exact ⟨.g, by decide, fun sl ce => by rw [tw1]; exact ix_txt [.l, .g] 1 .g rfl (by decide)⟩
  have a1 : ∀ sl ce, kAdd (.im (.str (txt [c]))) (.im (.str (txt s))) sl ce = .ok (.im (.str (txt (c :: s)))) ce := fun sl ce => add_s (sl := sl) (ce := ce) [c] s (by rw [List.length_singleton]; omega)
  have a2 := fun sl ce => add_s (sl := sl) (ce := ce) s [.e] (by rw [List.length_singleton]; omega)
  have a3 : ∀ sl ce, kAdd (.im (.str (txt [.e]))) (.im (.str (txt (s.drop 1)))) sl ce = .ok (.im (.str (txt (.e :: s.drop 1)))) ce := fun sl ce => add_s (sl := sl) (ce := ce) [.e] (s.drop 1) (by rw [List.length_singleton, List.length_drop]; omega)
  have a4 := fun sl ce => add_s (sl := sl) (ce := ce) s [.l] (by rw [List.length_singleton]; omega)
  have d1' := fun sl ce => sl_d1 (sl := sl) (ce := ce) s (by omega)
  have kl : ∀ sl ce, kLen [.im (.str (txt s))] sl ce = .ok (.im (.int (s.length : Nat))) ce := fun sl ce => by
    have := k_len (sl := sl) (ce := ce) (x := txt s) (by rw [← TL.len_tl, txt_len]; omega)
    rw [← TL.len_tl, txt_len] at this
    exact this
  have gt : ∀ (i j : Int) sl ce, kGt (.im (.int i)) (.im (.int j)) sl ce = .ok (.im (.bl (decide (j < i)))) ce := fun _ _ _ _ => rfl
  have qq : ∀ (i j : Int) sl ce, kEq (.im (.int i)) (.im (.int j)) sl ce = .ok (.im (.bl (decide (i = j)))) ce := fun i j sl ce => eq_int (neg := false)
  have rg : kRng1 [.im (.int (s.length : Nat))] = some ((List.range s.length).map fun (i : Nat) => D.int (i : Int)) := rng1 _ (by omega)
  have kcn : ∀ sl ce, kCount (.im (.str (txt s))) [.im (.str (txt [.e]))] sl ce = .ok (.im (.int (s.count .e : Nat))) ce := fun _ _ => kcount
  -- the fourth text
  obtain ⟨q, hq, eIf⟩ : ∃ q : List (List Sg), (∀ t ∈ q, t.length ≤ 801 ∧ ¬ In L R t) ∧ ∀ (C : List Cell) (a0 a3 : Option Val), sIf (eBin kGt (eArgs [(eV 1)] kLen) (eC (.int 0))) (sDrop (eMth tyL kAppend (eV 2) [(eSlice (eV 1) (some (eC (.int 1))) none)])) sNil [a0, some (.im (.str (txt s))), some (.cell C.length), a3] (C ++ [.lst (fl3 (c :: s) (s ++ [.e]) (.e :: s.drop 1) [])]) = .nx [a0, some (.im (.str (txt s))), some (.cell C.length), a3] (C ++ [.lst (fl3 (c :: s) (s ++ [.e]) (.e :: s.drop 1) q)]) := by
    by_cases h0 : 0 < s.length
    · have dd : decide ((0 : Int) < ((s.length : Nat) : Int)) = true := decide_eq_true (by omega)
      refine ⟨[s.drop 1], fun t ht => ?_, fun C a0 a3 => ?_⟩
      · rw [List.mem_singleton.mp ht]
        refine ⟨by rw [List.length_drop]; omega, fun z => ?_⟩
        cases s with
        | nil => simp at h0
        | cons a s =>
          have h1 := hs.1
          have h2 := hs.2
          have z1 := z.1
          have z2 := z.2
          rw [List.drop_one, List.tail_cons] at z1 z2
          rw [lefts_cons] at h1
          rw [rights_cons] at h2
          cases a <;> simp only [reduceCtorEq, if_true, if_false] at h1 h2 <;> omega
      · have ap := fun sl => app_ok (ce := C) (sl := sl) (acc := fl3 (c :: s) (s ++ [.e]) (.e :: s.drop 1) []) (d := .str (txt (s.drop 1))) (by show 3 < 16777216; decide)
        have ef : fl3 (c :: s) (s ++ [.e]) (.e :: s.drop 1) [] ++ [.str (txt (s.drop 1))] = fl3 (c :: s) (s ++ [.e]) (.e :: s.drop 1) [s.drop 1] := rfl
        rw [ef] at ap
        have tl : tyL (C ++ [.lst (fl3 (c :: s) (s ++ [.e]) (.e :: s.drop 1) [])]) (.cell C.length) = true := by
          unfold tyL asL
          simp only [ce_get0, List.getElem?_cons_zero]
          rfl
        generalize fl3 (c :: s) (s ++ [.e]) (.e :: s.drop 1) [] = A at tl ap ⊢
        generalize fl3 (c :: s) (s ++ [.e]) (.e :: s.drop 1) [s.drop 1] = B at ap ⊢
        simp? only [-kLen, -tyL, eSlice, eOpt, kl, gt, dd, tl, d1', ap]
    · have dd : decide ((0 : Int) < ((s.length : Nat) : Int)) = false := decide_eq_false (by omega)
      refine ⟨[], fun t ht => (by cases ht), fun C a0 a3 => ?_⟩
      simp? only [-kLen, kl, gt, dd]
  obtain ⟨v, y3, lp, hv⟩ := far_loop hs hl (some (.cell 0)) (c :: s) (s ++ [.e]) q (.lst (d1.map .int) :: ce0) (List.range s.length) (.e :: s.drop 1) none fun k hk => List.mem_range.mp hk
  -- the third text at the end
  obtain ⟨u, hu, e3⟩ : ∃ u : List Sg, (u.length ≤ 801 ∧ ¬ In L R u) ∧ sIf (eBin kEq (eArgs [(eV 1)] kLen) (eMth tyS kCount (eV 1) [(eC (.str "="))])) (sSetIx (eV 2) (eC (.int 2)) (eBin kAdd (eV 1) (eC (.str "<")))) sNil [some (.cell 0), some (.im (.str (txt s))), some (.cell (Cell.lst (d1.map .int) :: ce0).length), y3] ((.lst (d1.map .int) :: ce0) ++ [.lst (fl3 (c :: s) (s ++ [.e]) v q)]) = .nx [some (.cell 0), some (.im (.str (txt s))), some (.cell (Cell.lst (d1.map .int) :: ce0).length), y3] ((.lst (d1.map .int) :: ce0) ++ [.lst (fl3 (c :: s) (s ++ [.e]) u q)]) := by
    by_cases hc : s.length = s.count .e
    · have dd : decide (((s.length : Nat) : Int) = ((s.count .e : Nat) : Int)) = true := decide_eq_true (by omega)
      have st3 := set3 (s := s) (some (.cell 0)) (c :: s) (s ++ [.e]) v (s ++ [.l]) q (.lst (d1.map .int) :: ce0) y3 (fv := (eBin kAdd (eV 1) (eC (.str "<")))) (by
        simp? only [-kAdd, sl1, a4])
      refine ⟨s ++ [.l], ⟨by rw [List.length_append, List.length_singleton]; omega, fun z => ?_⟩, ?_⟩
      · have h1 := hs.1
        have z1 := z.1
        rw [lefts_app] at z1
        have : lefts [.l] = 1 := rfl
        omega
      · generalize sSetIx (eV 2) (eC (.int 2)) _ = G at st3 ⊢
        generalize (Cell.lst (d1.map .int) :: ce0) = C at st3 ⊢
        simp? only [-kLen, -kCount, -kEq, kl, sl2, kcn, qq, dd, st3]
    · have dd : decide (((s.length : Nat) : Int) = ((s.count .e : Nat) : Int)) = false := decide_eq_false (by omega)
      refine ⟨v, ?_, ?_⟩
      · rcases hv with z | z
        · exact absurd (Eq.symm (List.count_eq_length.mpr fun b hb => by
            obtain ⟨k, hk, e⟩ := List.mem_iff_getElem.mp hb
            have := z.2 k (List.mem_range.mpr hk)
            rw [List.getElem?_eq_getElem hk, e] at this
            injection this with this
            exact this.symm)) hc
        · exact ⟨by omega, z.2⟩
      · generalize (Cell.lst (d1.map .int) :: ce0) = C
        simp? only [-kLen, -kCount, -kEq, kl, sl2, kcn, qq, dd]
  have kc : ∀ (C : List Cell) sl, kLstC [.im (.str (txt (c :: s))), .im (.str (txt (s ++ [.e]))), .im (.str (txt (.e :: s.drop 1)))] sl C = .ok (.cell C.length) (C ++ [.lst (fl3 (c :: s) (s ++ [.e]) (.e :: s.drop 1) [])]) := fun _ _ => rfl
  refine ⟨(c :: s) :: (s ++ [.e]) :: u :: q, d1, ?_, fun t ht => ?_⟩
  · have hl1 : (Cell.lst (d1.map .int) :: ce0).length = (Cell.lst (ds.map .int) :: ce0).length := rfl
    have fz : ∀ (C : List Cell) (A : List D) (a0 a1 a3 : Option Val), frz 2 (sRet (eV 2)) [a0, a1, some (.cell C.length), a3] (C ++ [.lst A]) = .rt (.im (.lst A)) (C ++ [.dead]) := fun C A a0 a1 a3 => by
      unfold frz
      simp only [List.getElem?_cons_succ, List.getElem?_cons_zero, ce_get0, ce_set0]
      rfl
    unfold f__law_far b__law_far
    generalize hC : (Cell.lst (d1.map .int) :: ce0) = C at *
    generalize hC0 : (Cell.lst (ds.map .int) :: ce0) = C0 at *
    have tk : List.take C0.length (C ++ [Cell.dead]) = C := by rw [← hl1]; exact List.take_left' rfl
    generalize sIf (eBin kGt (eArgs [(eV 1)] kLen) (eC (.int 0))) _ sNil = S1 at eIf ⊢
    generalize sIf (eBin kEq (eArgs [(eV 1)] kLen) (eMth tyS kCount (eV 1) [(eC (.str "="))])) _ sNil = S3 at e3 ⊢
    generalize frz 2 (sRet (eV 2)) = FZ at fz ⊢
    generalize lp__law_far_0 = LP at lp ⊢
    generalize fl3 (c :: s) (s ++ [.e]) (.e :: s.drop 1) [] = A0 at kc eIf
    generalize fl3 (c :: s) (s ++ [.e]) (.e :: s.drop 1) q = A1 at eIf lp
    generalize hA2 : fl3 (c :: s) (s ++ [.e]) v q = A2 at lp e3
    generalize hA3 : fl3 (c :: s) (s ++ [.e]) u q = A3 at e3
    have hA3' : (((c :: s) :: (s ++ [.e]) :: u :: q).map fun s => D.str (txt s)) = A3 := hA3
    rw [hA3']
    simp? only [-kIx, -kAdd, -kLstC, -kLen, eSlice, eOpt, e1, hc, a1, sl2, a2, d1', a3, kc, eIf, kl, rg, lp, e3, fz, finD, tk]
  · rcases List.mem_cons.mp ht with rfl | ht
    · refine ⟨by rw [List.length_cons]; omega, fun z => ?_⟩
      have h1 := hs.1
      have h2 := hs.2
      have z1 := z.1
      have z2 := z.2
      rw [lefts_cons] at z1
      rw [rights_cons] at z2
      cases c <;> simp only [reduceCtorEq, if_true, if_false] at z1 z2 <;> first | omega | exact hc0 rfl
    · rcases List.mem_cons.mp ht with rfl | ht
      · refine ⟨by rw [List.length_append, List.length_singleton]; omega, fun z => ?_⟩
        have h1 := hs.1
        have z1 := z.1
        rw [lefts_app] at z1
        have : lefts [.e] = 1 := rfl
        omega
      · rcases List.mem_cons.mp ht with rfl | ht
        · exact hu
        · exact hq t ht
end
end ZZ
set_option Elab.async false
set_option linter.all false
set_option maxRecDepth 100000
set_option maxHeartbeats 4000000
namespace ZZ
open PySem PySem.Spec L2
section
variable {sl : Sl} {ce : List Cell} {L R : Nat} {ls l1 l2 : List Lay} {w : Wo} {s : List Sg}
theorem m_cores (hw : w.Ok) : f__law_cores [.im (worldD w)] ce = .ok (.im (coresD w)) ce := by
  have kl : ∀ (ls : List Lay) sl ce, kListI [.im (laysD ls)] sl ce = .ok (.im (laysD ls)) ce := fun _ _ _ => rfl
  have kj : ∀ (js : List Jnt) sl ce, kListI [.im (jntsD js)] sl ce = .ok (.im (jntsD js)) ce := fun _ _ _ => rfl
  have m1 := fun sl ce => m_cmake (sl := sl) (ce := ce) hw.a
  have m2 := fun sl ce => m_cmake (sl := sl) (ce := ce) hw.b
  have fd : D.lst [coreD w.l1 w.j1, coreD w.l2 w.j2] = coresD w := rfl
  unfold f__law_cores b__law_cores
  simp? only [wd0, wd1, wd2, wd3, kl, kj, m1, m2, fd, finD, List.take_length]
theorem strs_ok (P : List Str) (h : ∀ p ∈ P, PyData.strOk p = true) : okD 60 (.lst (P.map .str)) = true := by
  have okd : ∀ (n : Nat) (P : List Str), (∀ p ∈ P, PyData.strOk p = true) → okDs (n + 1) (P.map .str) = true := fun n P => by
    induction P with
    | nil => exact fun _ => rfl
    | cons a l ih =>
      intro h
      rw [List.map_cons, okDs, ih fun p hp => h p (List.mem_cons_of_mem _ hp), Bool.and_true]
      exact h a List.mem_cons_self
  rw [show (60 : Nat) = 58 + 1 + 1 from rfl, okD]
  exact okd 58 P h
theorem strs_ne (P : List Str) (h : ∀ p ∈ P, PyData.strOk p = true) : kNe (.im (.lst (P.map .str))) (.im (.lst (P.map .str))) sl ce = .ok (.im (.bl false)) ce := by
  have hk := strs_ok P h
  show kEqG true _ _ sl ce = _
  rw [eq_gd hk hk, eqD_refl _ 60 hk]
  rfl
structure Gd (w : Wo) : Prop where
  ok : w.Ok
  a : ∀ l ∈ w.l1, BL l
  b : ∀ l ∈ w.l2, BL l
  s : Tk w.l1
  t : Tk w.l2
theorem pic_ok (g : Gd w) (s : List Sg) : ∀ p ∈ picR w.l1 w.l2 s, PyData.strOk p = true := fun p hp => by
  have fc : ∀ {ls : List Lay}, Tk ls → Fi 74 (comS (thick ls).toNat) := fun h => (com_fi h.lt).mono (by decide)
  rcases List.mem_cons.mp hp with rfl | hp
  · exact (line_fi (fc g.s) bar_fi (fc g.t)).ok
  · obtain ⟨t, ht, rfl⟩ := List.mem_map.mp (List.mem_reverse.mp hp)
    exact (line_fi (wlk_fi g.a t.i) (sg_fi t.c) (wlk_fi g.b t.j)).ok
theorem thick_b : ∀ (ls : List Lay), (∀ l ∈ ls, okL l) → (∀ l ∈ ls, l.2 ≤ 1000000000000000000000000000000) → 0 ≤ thick ls ∧ thick ls ≤ (ls.length : Int) * 1000000000000000000000000000000
  | [], _, _ => ⟨Int.le_refl _, Int.le_refl _⟩
  | l :: ls, h, g => by
    have h1 := (h l List.mem_cons_self).2.2.2
    have g1 := g l List.mem_cons_self
    obtain ⟨i1, i2⟩ := thick_b ls (fun q hq => h q (List.mem_cons_of_mem _ hq)) fun q hq => g q (List.mem_cons_of_mem _ hq)
    have e : thick (l :: ls) = l.2 + thick ls := by
      unfold thick
      rw [List.map_cons, List.sum_cons]
    rw [e, List.length_cons]
    omega
theorem tk_of (hn : ls.length ≤ 20) (h : ∀ l ∈ ls, okL l) (g : ∀ l ∈ ls, l.2 ≤ 1000000000000000000000000000000) : Tk ls := by
  obtain ⟨h1, h2⟩ := thick_b ls h g
  refine ⟨by omega, ?_⟩
  rw [p39]
  omega
theorem bl_of3 {l : Lay} (h : okL l) (g : l.2 ≤ 1000000000000000000000000000000) : BL l := ⟨h, by
  have : (10 : Nat) ^ 61 = 10000000000000000000000000000000000000000000000000000000000000 := by decide
  rw [this]
  omega⟩
theorem gd_of (hw : w.Ok) (g1 : ∀ l ∈ w.l1, l.2 ≤ 1000000000000000000000000000000) (g2 : ∀ l ∈ w.l2, l.2 ≤ 1000000000000000000000000000000) : Gd w :=
  ⟨hw, fun l h => bl_of3 (hw.a.l l h) (g1 l h), fun l h => bl_of3 (hw.b.l l h) (g2 l h), tk_of hw.a.n hw.a.l g1, tk_of hw.b.n hw.b.l g2⟩
def rvW (w : Wo) : Wo := ⟨w.l1.reverse, w.j1.reverse, w.l2.reverse, w.j2.reverse⟩
theorem rvC {ls : List Lay} {js : List Jnt} (h : OkC ls js) : OkC ls.reverse js.reverse := ⟨fun l q => h.l l (List.mem_reverse.mp q), fun j q => h.j j (List.mem_reverse.mp q), by rw [List.length_reverse]; exact h.n, by rw [List.length_reverse, List.length_reverse]; exact h.m⟩
theorem rv_gd (hw : w.Ok) (g1 : ∀ l ∈ w.l1, l.2 ≤ 1000000000000000000000000000000) (g2 : ∀ l ∈ w.l2, l.2 ≤ 1000000000000000000000000000000) : Gd (rvW w) :=
  gd_of ⟨rvC hw.a, rvC hw.b⟩ (fun l q => g1 l (List.mem_reverse.mp q)) fun l q => g2 l (List.mem_reverse.mp q)
def rvD : D → D
  | .lst xs => .lst xs.reverse
  | d => d
abbrev slT (w : Wo) (s : List Sg) (a0 a1 a2 a3 a4 a7 x10 x11 x12 a13 a14 : Option Val) : Sl := [a0, a1, a2, a3, a4, some (.im (worldD w)), some (.im (coresD w)), some (.im (worldD (rvW w))), some (.im (coresD (rvW w))), some (.im (.str (txt s))), x10, x11, x12, a13, a14]
theorem rec_step (g : Gd w) (g' : Gd (rvW w)) (hs : In w.l1.length w.l2.length s) (hl : s.length ≤ 800) (a0 a1 a2 a3 a4 x10 x12 a13 a14 : Option Val) : ∃ y12, lp_law_2 (slT w s a0 a1 a2 a3 a4 none x10 (some (.im (recD s))) x12 a13 a14) ce = .nx (slT w s a0 a1 a2 a3 a4 none x10 (some (.im (recD s))) y12 a13 a14) ce := by
  have hs' : In (rvW w).l1.length (rvW w).l2.length s := by
    show In w.l1.reverse.length w.l2.reverse.length s
    rw [List.length_reverse, List.length_reverse]
    exact hs
  have i0 : ∀ (w : Wo) sl ce, kIx (.im (coresD w)) (.im (.int 0)) sl ce = .ok (.im (coreD w.l1 w.j1)) ce := fun _ _ _ => rfl
  have i1 : ∀ (w : Wo) sl ce, kIx (.im (coresD w)) (.im (.int 1)) sl ce = .ok (.im (coreD w.l2 w.j2)) ce := fun _ _ _ => rfl
  have p1 := fun ce => m_picture (ce := ce) g.ok.a g.ok.b g.a g.b g.s g.t hs
  have p2 := fun ce => m_picture (ce := ce) g'.ok.a g'.ok.b g'.a g'.b g'.s g'.t hs'
  have d1 := fun ce => m_ldue (ce := ce) g.a g.b g.s g.t hs hl
  have d2 := fun ce => m_ldue (ce := ce) g'.a g'.b g'.s g'.t hs' hl
  have n1 := fun sl ce => strs_ne (sl := sl) (ce := ce) _ (pic_ok g s)
  have n2 := fun sl ce => strs_ne (sl := sl) (ce := ce) _ (pic_ok g' s)
  have il : ∀ (xs : List D) sl ce, kIsi i_list (.im (.lst xs)) sl ce = .ok (.im (.bl true)) ce := fun _ _ _ => rfl
  have ns : ∀ sl ce, kNe (.im (.str (txt s))) (.im (.str (txt s))) sl ce = .ok (.im (.bl false)) ce := fun sl ce => by
    show kEqG true _ _ sl ce = _
    rw [eq_txt]
    simp
  refine ⟨some (.im (.lst ((picR w.l1 w.l2 s).map .str))), ?_⟩
  unfold lp_law_2 slT
  simp? only [-kNe, -kIx, i0, i1, p1, p2, d1, d2, n1, n2, il, fld_s, ns, Bool.not_true]
theorem pth_step (g : Gd w) (g' : Gd (rvW w)) (hs : In w.l1.length w.l2.length s) (hl : s.length ≤ 800) (a0 a1 a2 a3 a4 x10 x11 x12 a13 a14 : Option Val) : ∃ y10 y11 y12, lp_law_3 (slT w s a0 a1 a2 a3 a4 none x10 x11 x12 a13 a14) ce = .nx (slT w s a0 a1 a2 a3 a4 none y10 y11 y12 a13 a14) ce := by
  have kl : ∀ sl ce, kLen [.im (.str (txt s))] sl ce = .ok (.im (.int (s.length : Nat))) ce := fun sl ce => by
    have := k_len (sl := sl) (ce := ce) (x := txt s) (by rw [← TL.len_tl, txt_len]; omega)
    rw [← TL.len_tl, txt_len] at this
    exact this
  have kd : ∀ sl ce, kDiv (.im (.int (s.length : Nat))) (.im (.int 2)) sl ce = .ok (.im (.int ((s.length / 2 : Nat) : Int))) ce := fun sl ce => by
    unfold kDiv
    simp
  have s1 := fun sl ce => sl_to (sl := sl) (ce := ce) s (s.length / 2) (by omega) (by omega)
  have s2 := fun sl ce => sl_from (sl := sl) (ce := ce) s (s.length / 2) (by omega) (by omega)
  have k1 := fun sl ce => m_make s sl ce (by omega)
  have k2 := fun sl ce => m_make (s.take (s.length / 2)) sl ce (by rw [List.length_take]; omega)
  have k3 := fun sl ce => m_make (s.drop (s.length / 2)) sl ce (by rw [List.length_drop]; omega)
  have oa : ∀ sl ce, kOwn c_Record f_Record___add__ (.im (recD (s.take (s.length / 2)))) (.im (recD (s.drop (s.length / 2)))) sl ce = .ok (.im (recD s)) ce := fun sl ce => by
    have e := m_add (ce := ce) (s.take (s.length / 2)) (s.drop (s.length / 2)) (by rw [List.length_take, List.length_drop]; omega)
    rw [List.take_append_drop] at e
    unfold kOwn
    exact e
  obtain ⟨y, e1⟩ := rec_step (ce := ce) g g' hs hl a0 a1 a2 a3 a4 (some (.im (.int ((s.length / 2 : Nat) : Int)))) x12 a13 a14
  obtain ⟨z, e2⟩ := rec_step (ce := ce) g g' hs hl a0 a1 a2 a3 a4 (some (.im (.int ((s.length / 2 : Nat) : Int)))) y a13 a14
  have lp : forD (gN 11) lp_law_2 [recD s, recD s] (slT w s a0 a1 a2 a3 a4 none (some (.im (.int ((s.length / 2 : Nat) : Int)))) x11 x12 a13 a14) ce = .nx (slT w s a0 a1 a2 a3 a4 none (some (.im (.int ((s.length / 2 : Nat) : Int)))) (some (.im (recD s))) z a13 a14) ce := by
    rw [forD]
    simp only [gN, slT, List.set_cons_zero, List.set_cons_succ] at e1 e2 ⊢
    rw [e1]
    simp only
    rw [forD]
    simp only [gN, List.set_cons_zero, List.set_cons_succ]
    rw [e2]
    simp only
    rw [forD]
  refine ⟨some (.im (.int ((s.length / 2 : Nat) : Int))), some (.im (recD s)), z, ?_⟩
  unfold slT at lp
  unfold lp_law_3 slT
  simp? only [-kLen, -kDiv, eSlice, eOpt, kl, kd, s1, s2, k1, k2, k3, oa, lp]
theorem pth_loop (g : Gd w) (g' : Gd (rvW w)) {n0 : Nat} {ds0 : List D} (hce : ce[n0]? = some (.lst ds0)) (a0 a1 a2 a3 a4 a13 a14 : Option Val) : ∀ (ss : List (List Sg)) (x9 x10 x11 x12 : Option Val), (∀ s ∈ ss, In w.l1.length w.l2.length s ∧ s.length ≤ 800) →
    ∃ y9 y10 y11 y12, forC (gN 9) lp_law_3 n0 ds0 (ss.map fun s => .str (txt s)) [a0, a1, a2, a3, a4, some (.im (worldD w)), some (.im (coresD w)), some (.im (worldD (rvW w))), some (.im (coresD (rvW w))), x9, x10, x11, x12, a13, a14] ce =
      .nx [a0, a1, a2, a3, a4, some (.im (worldD w)), some (.im (coresD w)), some (.im (worldD (rvW w))), some (.im (coresD (rvW w))), y9, y10, y11, y12, a13, a14] ce
  | [], x9, x10, x11, x12, _ => ⟨x9, x10, x11, x12, by rw [List.map_nil, forC, if_pos hce]⟩
  | s :: ss, x9, x10, x11, x12, h => by
    obtain ⟨h1, h2⟩ := h s List.mem_cons_self
    obtain ⟨z10, z11, z12, e⟩ := pth_step (ce := ce) g g' h1 h2 a0 a1 a2 a3 a4 x10 x11 x12 a13 a14
    obtain ⟨y9, y10, y11, y12, ih⟩ := pth_loop g g' hce a0 a1 a2 a3 a4 a13 a14 ss (some (.im (.str (txt s)))) z10 z11 z12 fun u hu => h u (List.mem_cons_of_mem _ hu)
    refine ⟨y9, y10, y11, y12, ?_⟩
    unfold slT at e
    rw [List.map_cons, forC, if_pos hce]
    simp only [gN, List.set_cons_zero, List.set_cons_succ, e]
    exact ih
theorem un_loop (hw : w.Ok) (a0 a1 a2 a3 a4 a5 a7 a8 a10 a11 a12 a13 a14 : Option Val) : ∀ (ts : List (List Sg)) (x9 : Option Val), (∀ t ∈ ts, t.length ≤ 801 ∧ ¬ In w.l1.length w.l2.length t) →
    ∃ y9, forD (gN 9) lp_law_4 (ts.map fun s => .str (txt s)) [a0, a1, a2, a3, a4, a5, some (.im (coresD w)), a7, a8, x9, a10, a11, a12, a13, a14] ce = .nx [a0, a1, a2, a3, a4, a5, some (.im (coresD w)), a7, a8, y9, a10, a11, a12, a13, a14] ce
  | [], x9, _ => ⟨x9, by rw [List.map_nil, forD]⟩
  | t :: ts, x9, h => by
    obtain ⟨h1, h2⟩ := h t List.mem_cons_self
    obtain ⟨y9, ih⟩ := un_loop hw a0 a1 a2 a3 a4 a5 a7 a8 a10 a11 a12 a13 a14 ts (some (.im (.str (txt t)))) fun u hu => h u (List.mem_cons_of_mem _ hu)
    refine ⟨y9, ?_⟩
    have mk := fun sl ce => m_make t sl ce (by omega)
    have mu := fun ce => m_lunlike (ce := ce) hw (s := t) (by omega) h2
    have e : lp_law_4 [a0, a1, a2, a3, a4, a5, some (.im (coresD w)), a7, a8, some (.im (.str (txt t))), a10, a11, a12, a13, a14] ce = .nx [a0, a1, a2, a3, a4, a5, some (.im (coresD w)), a7, a8, some (.im (.str (txt t))), a10, a11, a12, a13, a14] ce := by
      unfold lp_law_4
      simp? only [mk, mu, Bool.not_true]
    rw [List.map_cons, forD]
    simp only [gN, List.set_cons_zero, List.set_cons_succ]
    rw [e]
    exact ih
theorem law_paths (a0 a2 : Option Val) (ds : List Int) (hL : L ≤ 20) (hR : R ≤ 20) : ∃ (s1 s2 : List Sg) (ds' : List Int), In L R s1 ∧ In L R s2 ∧
    eLcC [13] (iArgs [(eC (.int 2))] kRng1) (gN 13) (eC (.bl true)) el_law_0 [a0, some (.cell 0), a2, some (.im (.lst [.int L, .int R])), none, none, none, none, none, none, none, none, none, none, none] [.lst (ds.map .int)] = .ok (.cell 1) [.lst (ds'.map .int), PS s1 s2] := by
  have k2 : kRng1 [.im (.int 2)] = some [.int 0, .int 1] := rng1 2 (by decide)
  obtain ⟨ys, ce4, e4, ⟨ds4, rfl⟩, l4, r4⟩ := lcD_thread (own := [13]) (g := gN 13) (f := el_law_0) (sl := [a0, some (.cell 0), a2, some (.im (.lst [.int L, .int R])), none, none, none, none, none, none, none, none, none, none, none]) (fun ce => ∃ ds : List Int, ce = [.lst (ds.map .int)]) (fun _ y => ∃ s : List Sg, In L R s ∧ y = .str (txt s)) 1 (by rintro ce' ⟨ds, rfl⟩; rfl) [.int 0, .int 1] [] [.lst (ds.map .int)] (by decide) ⟨_, rfl⟩
    (by
      rintro d hd acc ce ⟨ds, rfl⟩
      obtain ⟨s, ds4, e4, hs⟩ := m_path 0 L R (by omega) (by omega) ds [.lst (ds.map .int), .lst acc] rfl
      simp only [List.set_cons_zero] at e4
      refine ⟨_, [.lst (ds4.map .int)], .str (txt s), rfl, ?_, ⟨_, rfl⟩, s, hs.i, rfl⟩
      unfold el_law_0
      simp? only [wipeD, List.cons_append, List.nil_append, sz0, sz1, e4])
  obtain ⟨s1, s2, h1, h2, rfl⟩ : ∃ s1 s2, In L R s1 ∧ In L R s2 ∧ ys = [.str (txt s1), .str (txt s2)] := by
    match ys, l4, r4 with
    | [y1, y2], _, r4 =>
      obtain ⟨s1, h1, rfl⟩ := r4 0 _ _ rfl rfl
      obtain ⟨s2, h2, rfl⟩ := r4 1 _ _ rfl rfl
      exact ⟨s1, s2, h1, h2, rfl⟩
  refine ⟨s1, s2, ds4, h1, h2, ?_⟩
  unfold eLcC
  simp only [iArgs, eArgs, eUn, eBin, eC, k2]
  exact e4
end
theorem law_true : ∀ ns : List Int, ns.length ≤ 63 → ∃ ce', f_law [.im (.wl (ns.map .int))] [] = .ok (.im (.bl true)) ce' := by
  intro ns hl
  obtain ⟨ds0, e0⟩ := m_pool ns hl 500 (by decide) []
  have ne : ([] : List Cell).length = 0 := rfl
  simp only [ne, List.nil_append] at e0
  have e500 : ((500 : Nat) : Int) = 500 := rfl
  rw [e500] at e0
  obtain ⟨r1, ds1, b1, c1, e1⟩ := m_draw 0 ds0 2 [.lst (ds0.map .int)] rfl (by decide)
  obtain ⟨T, hT0, hT, eT⟩ : ∃ T : Nat, 0 < T ∧ T ≤ 20 ∧ ∀ sl ce, kIx (.im (.lst [.int 3, .int 20])) (.im (.int r1)) sl ce = .ok (.im (.int T)) ce := by
    rcases (show r1 = 0 ∨ r1 = 1 by omega) with rfl | rfl
    · exact ⟨3, by decide, by decide, fun _ _ => rfl⟩
    · exact ⟨20, by decide, by decide, fun _ _ => rfl⟩
  obtain ⟨L', ds2, b2, c2, e2⟩ := m_draw 0 ds1 (T : Int) [.lst (ds1.map .int)] rfl (by omega)
  obtain ⟨R', ds3, b3, c3, e3⟩ := m_draw 0 ds2 (T : Int) [.lst (ds2.map .int)] rfl (by omega)
  simp only [List.set_cons_zero] at e1 e2 e3
  obtain ⟨L, rfl⟩ : ∃ L : Nat, L' = (L : Int) := ⟨L'.toNat, by omega⟩
  obtain ⟨R, rfl⟩ : ∃ R : Nat, R' = (R : Int) := ⟨R'.toNat, by omega⟩
  have hL : L ≤ 20 := by omega
  have hR : R ≤ 20 := by omega
  have es : D.wl (ns.map .int) = scr ns := rfl
  obtain ⟨s1, s2, ds4, h1, h2, e4⟩ := law_paths (some (.im (scr ns))) (some (.im (.int T))) ds3 hL hR
  obtain ⟨w, ds5, e5, hw, wl, wr, f1, f2, g1, g2⟩ := m_world L R hL hR s1 s2 h1 h2 ds4
  subst wl wr
  clear e500 ne
  have g := gd_of hw g1 g2
  have g' := rv_gd hw g1 g2
  obtain ⟨s3, ds6, e6, p3⟩ := m_path 0 w.l1.length w.l2.length (by omega) (by omega) ds5 [.lst (ds5.map .int), PS s1 s2] rfl
  simp only [List.set_cons_zero] at e6
  have h3 := p3.i
  have lens : ∀ s, In w.l1.length w.l2.length s → s.length ≤ 800 := fun s hs => by
    have := len_le s
    rw [hs.1, hs.2] at this
    omega
  have mc := fun ce => m_cores (ce := ce) hw
  have mc' := fun ce => m_cores (ce := ce) g'.ok
  obtain ⟨PT, hPT⟩ : ∃ PT : Cell, PT = .lst ([s1, s2, s3].map fun s => .str (txt s)) := ⟨_, rfl⟩
  have ap : ∀ sl, kAppend (.cell 1) [.im (.str (txt s3))] sl [.lst (ds6.map .int), PS s1 s2] = .ok (.im .non) [.lst (ds6.map .int), PT] := fun sl => by rw [hPT]; rfl
  have tl : tyL [.lst (ds5.map .int), PS s1 s2] (.cell 1) = true := rfl
  have tn : eSettle (eLcC [14] (iExp (eV 5) itL) (gN 14) (eC (.bl true)) el_law_1) [some (.im (scr ns)), some (.cell 0), some (.im (.int T)), some (.im (.lst [.int (w.l1.length : Nat), .int (w.l2.length : Nat)])), some (.cell 1), some (.im (worldD w)), some (.im (coresD w)), none, none, none, none, none, none, none, none] [.lst (ds6.map .int), PT] = .ok (.im (worldD (rvW w))) [.lst (ds6.map .int), PT] := by
    have lc := lc_map (own := [14]) (fi := iExp (eV 5) itL) (g := gN 14) (f := el_law_1) (sl := [some (.im (scr ns)), some (.cell 0), some (.im (.int T)), some (.im (.lst [.int (w.l1.length : Nat), .int (w.l2.length : Nat)])), some (.cell 1), some (.im (worldD w)), some (.im (coresD w)), none, none, none, none, none, none, none, none]) (ce := [.lst (ds6.map .int), PT]) [laysD w.l1, jntsD w.j1, laysD w.l2, jntsD w.j2] id rvD rfl (by show 4 < 16777216; decide) (fun b hb acc => ⟨_, rfl, by
      have : ∃ xs, b = .lst xs := by
        simp only [List.mem_cons, List.not_mem_nil, or_false] at hb
        rcases hb with rfl | rfl | rfl | rfl <;> exact ⟨_, rfl⟩
      obtain ⟨xs, rfl⟩ := this
      have kr : ∀ sl ce, kRevV (.im (.lst xs)) sl ce = .ok (.im (.lst xs.reverse)) ce := fun _ _ => rfl
      unfold el_law_1
      simp? only [wipeD, id, kr, rvD]⟩)
    rw [lc]
    have : [laysD w.l1, jntsD w.j1, laysD w.l2, jntsD w.j2].map rvD = [laysD w.l1.reverse, jntsD w.j1.reverse, laysD w.l2.reverse, jntsD w.j2.reverse] := by
      simp only [List.map_cons, List.map_nil, rvD, laysD, jntsD, List.map_reverse]
    rw [this]
    rfl
  have fc : ∀ sl : Sl, sl[4]? = some (some (.cell 1)) → sForC (eV 4) (gN 9) lp_law_3 sl [.lst (ds6.map .int), PT] = forC (gN 9) lp_law_3 1 ([s1, s2, s3].map fun s => .str (txt s)) ([s1, s2, s3].map fun s => .str (txt s)) sl [.lst (ds6.map .int), PT] := fun sl h => by
    unfold sForC eV
    simp only [h, hPT, List.getElem?_cons_succ, List.getElem?_cons_zero]
  obtain ⟨y9, y10, y11, y12, w3⟩ := pth_loop (ce := [.lst (ds6.map .int), PT]) g g' (n0 := 1) (ds0 := [s1, s2, s3].map fun s => .str (txt s)) (by rw [hPT]; rfl) (some (.im (scr ns))) (some (.cell 0)) (some (.im (.int T))) (some (.im (.lst [.int (w.l1.length : Nat), .int (w.l2.length : Nat)]))) (some (.cell 1)) none none [s1, s2, s3] none none none none (fun s hs => by
    have : In w.l1.length w.l2.length s := by
      simp only [List.mem_cons, List.not_mem_nil, or_false] at hs
      rcases hs with rfl | rfl | rfl
      · exact h1
      · exact h2
      · exact h3
    exact ⟨this, lens s this⟩)
  have fc' := fc [some (.im (scr ns)), some (.cell 0), some (.im (.int T)), some (.im (.lst [.int (w.l1.length : Nat), .int (w.l2.length : Nat)])), some (.cell 1), some (.im (worldD w)), some (.im (coresD w)), some (.im (worldD (rvW w))), some (.im (coresD (rvW w))), none, none, none, none, none, none] rfl
  rw [w3] at fc'
  have ip : ∀ sl, kIx (.cell 1) (.im (.int 1)) sl [.lst (ds6.map .int), PT] = .ok (.im (.str (txt s2))) [.lst (ds6.map .int), PT] := fun sl => by rw [hPT]; rfl
  obtain ⟨ts, ds7, e7, hts⟩ := m_lfar h2 (lens s2 h2) ds6 [PT]
  obtain ⟨z9, w4⟩ := un_loop (ce := [.lst (ds7.map .int), PT]) hw (some (.im (scr ns))) (some (.cell 0)) (some (.im (.int T))) (some (.im (.lst [.int (w.l1.length : Nat), .int (w.l2.length : Nat)]))) (some (.cell 1)) (some (.im (worldD w))) (some (.im (worldD (rvW w)))) (some (.im (coresD (rvW w)))) y10 y11 y12 none none ts y9 hts
  have il : itL (.im (.lst (ts.map fun s => .str (txt s)))) = some (ts.map fun s => .str (txt s)) := rfl
  have i0 : ∀ (w : Wo) sl ce, kIx (.im (coresD w)) (.im (.int 0)) sl ce = .ok (.im (coreD w.l1 w.j1)) ce := fun _ _ _ => rfl
  have i1 : ∀ (w : Wo) sl ce, kIx (.im (coresD w)) (.im (.int 1)) sl ce = .ok (.im (coreD w.l2 w.j2)) ce := fun _ _ _ => rfl
  have m1 := fun ce => m_same (ce := ce) hw.a
  have m2 := fun ce => m_same (ce := ce) hw.b
  have sz0' : ∀ sl ce, kIx (.im (.lst [.int (w.l1.length : Nat), .int (w.l2.length : Nat)])) (.im (.int 0)) sl ce = .ok (.im (.int (w.l1.length : Nat))) ce := fun _ _ => rfl
  have sz1' : ∀ sl ce, kIx (.im (.lst [.int (w.l1.length : Nat), .int (w.l2.length : Nat)])) (.im (.int 1)) sl ce = .ok (.im (.int (w.l2.length : Nat))) ce := fun _ _ => rfl
  rw [es]
  refine ⟨[], ?_⟩
  unfold f_law b_law
  generalize eLcC [13] (iArgs [(eC (.int 2))] kRng1) (gN 13) (eC (.bl true)) el_law_0 = G4 at e4 ⊢
  generalize eSettle (eLcC [14] (iExp (eV 5) itL) (gN 14) (eC (.bl true)) el_law_1) = G7 at tn ⊢
  generalize sForC (eV 4) (gN 9) lp_law_3 = F9 at fc' ⊢
  simp? only [-kIx, -tyL, -itL, e0, e1, eT, e2, e3, e4, e5, mc, sz0', sz1', tl, e6, ap, tn, mc', fc', ip, e7, il, w4, i0, i1, wd0, wd1, wd2, wd3, m1, m2, finD, List.take_zero]
end ZZ
set_option Elab.async false
set_option linter.all false
set_option maxRecDepth 100000
set_option maxHeartbeats 4000000
namespace ZZ
open PySem PySem.Spec L2 L2H
open ZH
/-- the law's own promise -/
def spLaw (K : PySem.W.Frag) : Sp := fun vs H Q _ => ∃ (a : Addr) (ns : List Int), vs = [.ref a] ∧ SqL K H a (ns.map V.int) ∧ ns.length ≤ 63 ∧ ∀ H', Q (.bl true) H'
theorem ints_reps {Z : Zx} {F : Hp} : ∀ ns : List Int, Reps Z F (ns.map D.int) (ns.map V.int)
  | [] => reps_nil
  | n :: ns => reps_cons (by unfold Rep; rfl) (ints_reps ns)
theorem sp_law {w : World} {K : PySem.W.Frag} {cl : Nat → Addr} {vs : List V} {H : Hp} {Q : VK} {E : XK} (h : spLaw K vs H Q E) : spD (Zz w K cl) f_law 1 vs H Q E := by
  obtain ⟨a, ns, rfl, hS, hl, k⟩ := h
  obtain ⟨ce', he⟩ := law_true ns hl
  refine ⟨[], H, [], [.im (.wl (ns.map .int))], ⟨Same.refl _, rfl, List.nodup_nil, fun k a c h1 h2 => by simp at h1⟩, ⟨_, _, rfl, ?_, rfl⟩, rfl, ?_⟩
  · unfold VRep Rep
    exact ⟨a, _, rfl, hS, ints_reps ns⟩
  · rw [he]
    intro A' F' H' x _ _ _ r
    rw [rep_bl r]
    exact k H'
theorem tx_mk {w : World} {K : PySem.W.Frag} {h : Heap} {mg : Str → Option Value} (X : K.In h) (G : h.Ns mainGlobals mg) (cZ : SaysZ fbs fnl tbs w K) : Tx PySem.Challenge.pw_siltmeet_k37_picture w K mg (fun n => [189, 196, 222, 251, 275, 289, 303, 308, 388, 510, 415, 423, 352, 536, 543, 550, 557, 564, 571, 576, 583, 590, 595, 602, 609, 614, 621, 628, 635, 642, 649, 656, 661, 60, 79, 155, 98, 117, 282, 446, 309, 416, 424].getD n 0) (fun n => [44, 63, 82, 158, 101, 120, 170, 182, 341, 525, 31].getD n 0) := {
    b_ValueError := PySem.W.mg_none_of X G (cZ.dec (p := PySem.W.nsIn K mainGlobals "ValueError" = some none) (i := 0) (j := 0) rfl rfl rfl),
    b_abs := PySem.W.mg_none_of X G (cZ.dec (p := PySem.W.nsIn K mainGlobals "abs" = some none) (i := 0) (j := 1) rfl rfl rfl),
    b_all := PySem.W.mg_none_of X G (cZ.dec (p := PySem.W.nsIn K mainGlobals "all" = some none) (i := 0) (j := 2) rfl rfl rfl),
    b_bool := PySem.W.mg_none_of X G (cZ.dec (p := PySem.W.nsIn K mainGlobals "bool" = some none) (i := 0) (j := 3) rfl rfl rfl),
    b_enumerate := PySem.W.mg_none_of X G (cZ.dec (p := PySem.W.nsIn K mainGlobals "enumerate" = some none) (i := 0) (j := 4) rfl rfl rfl),
    b_int := PySem.W.mg_none_of X G (cZ.dec (p := PySem.W.nsIn K mainGlobals "int" = some none) (i := 0) (j := 5) rfl rfl rfl),
    b_isinstance := PySem.W.mg_none_of X G (cZ.dec (p := PySem.W.nsIn K mainGlobals "isinstance" = some none) (i := 0) (j := 6) rfl rfl rfl),
    b_len := PySem.W.mg_none_of X G (cZ.dec (p := PySem.W.nsIn K mainGlobals "len" = some none) (i := 0) (j := 7) rfl rfl rfl),
    b_list := PySem.W.mg_none_of X G (cZ.dec (p := PySem.W.nsIn K mainGlobals "list" = some none) (i := 0) (j := 8) rfl rfl rfl),
    b_max := PySem.W.mg_none_of X G (cZ.dec (p := PySem.W.nsIn K mainGlobals "max" = some none) (i := 0) (j := 9) rfl rfl rfl),
    b_min := PySem.W.mg_none_of X G (cZ.dec (p := PySem.W.nsIn K mainGlobals "min" = some none) (i := 0) (j := 10) rfl rfl rfl),
    b_range := PySem.W.mg_none_of X G (cZ.dec (p := PySem.W.nsIn K mainGlobals "range" = some none) (i := 0) (j := 11) rfl rfl rfl),
    b_reversed := PySem.W.mg_none_of X G (cZ.dec (p := PySem.W.nsIn K mainGlobals "reversed" = some none) (i := 0) (j := 12) rfl rfl rfl),
    b_str := PySem.W.mg_none_of X G (cZ.dec (p := PySem.W.nsIn K mainGlobals "str" = some none) (i := 0) (j := 13) rfl rfl rfl),
    b_sum := PySem.W.mg_none_of X G (cZ.dec (p := PySem.W.nsIn K mainGlobals "sum" = some none) (i := 0) (j := 14) rfl rfl rfl),
    b_tuple := PySem.W.mg_none_of X G (cZ.dec (p := PySem.W.nsIn K mainGlobals "tuple" = some none) (i := 0) (j := 15) rfl rfl rfl),
    b_zip := PySem.W.mg_none_of X G (cZ.dec (p := PySem.W.nsIn K mainGlobals "zip" = some none) (i := 0) (j := 16) rfl rfl rfl),
    f_is_layer := (let ⟨_, F⟩ := fun_z (cZ.fns (i := 0) (d := dz_0) rfl) rfl rfl; ⟨_, F, F.binds (ps := ["layer"]) fun _ _ _ _ _ _ us hl => match us, hl with | [_], _ => rfl⟩),
    g_is_layer := PySem.W.mg_of X G (cZ.dec (p := PySem.W.nsIn K mainGlobals "is_layer" = some (some (.ref 189))) (i := 0) (j := 17) rfl rfl rfl),
    f_is_joint := (let ⟨_, F⟩ := fun_z (cZ.fns (i := 1) (d := dz_1) rfl) rfl rfl; ⟨_, F, F.binds (ps := ["joint"]) fun _ _ _ _ _ _ us hl => match us, hl with | [_], _ => rfl⟩),
    g_is_joint := PySem.W.mg_of X G (cZ.dec (p := PySem.W.nsIn K mainGlobals "is_joint" = some (some (.ref 196))) (i := 0) (j := 18) rfl rfl rfl),
    f_written_layer := (let ⟨_, F⟩ := fun_z (cZ.fns (i := 2) (d := dz_2) rfl) rfl rfl; ⟨_, F, F.binds (ps := ["layer"]) fun _ _ _ _ _ _ us hl => match us, hl with | [_], _ => rfl⟩),
    g_written_layer := PySem.W.mg_of X G (cZ.dec (p := PySem.W.nsIn K mainGlobals "written_layer" = some (some (.ref 222))) (i := 0) (j := 19) rfl rfl rfl),
    f_Core___init__ := (let ⟨_, F⟩ := funD_z (ds := [.non]) (qs := []) (cZ.fns (i := 3) (d := dz_3) rfl) rfl (cZ.fact (i := 0) (j := 20) rfl rfl : dflZ K dz_3.dfl [.non] = true) rfl; ⟨_, F, FunD.all1 F fun _ _ _ _ _ _ _ us its h1 h2 => match us, its, h1, h2 with | [_, _, _], [_], _, _ => ⟨_, rfl, rfl⟩⟩),
    f_Core___len__ := (let ⟨_, F⟩ := fun_z (cZ.fns (i := 4) (d := dz_4) rfl) rfl rfl; ⟨_, F, F.binds (ps := ["self"]) fun _ _ _ _ _ _ us hl => match us, hl with | [_], _ => rfl⟩),
    o1_Core___len__ := ⟨(cZ.dec (p := PySem.W.findIn K (.ref 341) "__len__" = some (some (.ref 275))) (i := 0) (j := 21) rfl rfl rfl), (cZ.fact (i := 0) (j := 22) rfl rfl : PySem.W.isFn K (.ref 275) = true)⟩,
    f_Core___getitem__ := (let ⟨_, F⟩ := fun_z (cZ.fns (i := 5) (d := dz_5) rfl) rfl rfl; ⟨_, F, F.binds (ps := ["self", "k"]) fun _ _ _ _ _ _ us hl => match us, hl with | [_, _], _ => rfl⟩),
    m_Core___getitem__ := ⟨(cZ.dec (p := PySem.W.findIn K (.ref 341) "__getitem__" = some (some (.ref 289))) (i := 0) (j := 23) rfl rfl rfl), (cZ.fact (i := 0) (j := 24) rfl rfl : PySem.W.isFn K (.ref 289) = true), (cZ.fact (i := 1) (j := 0) rfl rfl : PySem.W.keepIn K (.ref 289) = true)⟩,
    f_Core_joint := (let ⟨_, F⟩ := fun_z (cZ.fns (i := 6) (d := dz_6) rfl) rfl rfl; ⟨_, F, F.binds (ps := ["self", "k"]) fun _ _ _ _ _ _ us hl => match us, hl with | [_, _], _ => rfl⟩),
    m_Core_joint := ⟨(cZ.dec (p := PySem.W.findIn K (.ref 341) "joint" = some (some (.ref 303))) (i := 1) (j := 1) rfl rfl rfl), (cZ.fact (i := 1) (j := 2) rfl rfl : PySem.W.isFn K (.ref 303) = true), (cZ.fact (i := 1) (j := 3) rfl rfl : PySem.W.keepIn K (.ref 303) = true)⟩,
    f_Core_thickness := (let ⟨_, F⟩ := fun_z (cZ.fns (i := 7) (d := dz_7) rfl) rfl rfl; ⟨_, F, F.binds (ps := ["self"]) fun _ _ _ _ _ _ us hl => match us, hl with | [_], _ => rfl⟩),
    p_Core_thickness := ⟨(cZ.dec (p := PySem.W.findIn K (.ref 341) "thickness" = some (some (.ref 309))) (i := 1) (j := 4) rfl rfl rfl), (cZ.dec (p := PySem.W.specialIn K (.ref 309) "__get__" = some (some (.builtin "property.__get__"))) (i := 1) (j := 5) rfl rfl rfl), (cZ.dec (p := PySem.W.takesIn K (.ref 309) = some true) (i := 1) (j := 6) rfl rfl rfl), (recB_ok (cZ.fact (i := 1) (j := 7) rfl rfl : recB K 309 "property" 308 = true))⟩,
    f_Record___init__ := (let ⟨_, F⟩ := fun_z (cZ.fns (i := 8) (d := dz_8) rfl) rfl rfl; ⟨_, F, F.binds (ps := ["self", "steps"]) fun _ _ _ _ _ _ us hl => match us, hl with | [_, _], _ => rfl⟩),
    f_Record___add__ := (let ⟨_, F⟩ := fun_z (cZ.fns (i := 9) (d := dz_9) rfl) rfl rfl; ⟨_, F, F.binds (ps := ["self", "other"]) fun _ _ _ _ _ _ us hl => match us, hl with | [_, _], _ => rfl⟩),
    o_Record___add__ := ⟨(cZ.fact (i := 1) (j := 8) rfl rfl : PySem.W.selfFirst K 525 = true), (cZ.dec (p := PySem.W.findIn K (.ref 525) "__add__" = some (some (.ref 510))) (i := 1) (j := 9) rfl rfl rfl), (cZ.fact (i := 1) (j := 10) rfl rfl : PySem.W.isFn K (.ref 510) = true)⟩,
    f_Record_lefts := (let ⟨_, F⟩ := fun_z (cZ.fns (i := 10) (d := dz_10) rfl) rfl rfl; ⟨_, F, F.binds (ps := ["self"]) fun _ _ _ _ _ _ us hl => match us, hl with | [_], _ => rfl⟩),
    p_Record_lefts := ⟨(cZ.dec (p := PySem.W.findIn K (.ref 525) "lefts" = some (some (.ref 416))) (i := 1) (j := 11) rfl rfl rfl), (cZ.dec (p := PySem.W.specialIn K (.ref 416) "__get__" = some (some (.builtin "property.__get__"))) (i := 1) (j := 12) rfl rfl rfl), (cZ.dec (p := PySem.W.takesIn K (.ref 416) = some true) (i := 1) (j := 13) rfl rfl rfl), (recB_ok (cZ.fact (i := 1) (j := 14) rfl rfl : recB K 416 "property" 415 = true))⟩,
    f_Record_rights := (let ⟨_, F⟩ := fun_z (cZ.fns (i := 11) (d := dz_11) rfl) rfl rfl; ⟨_, F, F.binds (ps := ["self"]) fun _ _ _ _ _ _ us hl => match us, hl with | [_], _ => rfl⟩),
    p_Record_rights := ⟨(cZ.dec (p := PySem.W.findIn K (.ref 525) "rights" = some (some (.ref 424))) (i := 1) (j := 15) rfl rfl rfl), (cZ.dec (p := PySem.W.specialIn K (.ref 424) "__get__" = some (some (.builtin "property.__get__"))) (i := 1) (j := 16) rfl rfl rfl), (cZ.dec (p := PySem.W.takesIn K (.ref 424) = some true) (i := 1) (j := 17) rfl rfl rfl), (recB_ok (cZ.fact (i := 1) (j := 18) rfl rfl : recB K 424 "property" 423 = true))⟩,
    f_picture := (let ⟨_, F⟩ := fun_z (cZ.fns (i := 12) (d := dz_12) rfl) rfl rfl; ⟨_, F, F.binds (ps := ["record", "left", "right"]) fun _ _ _ _ _ _ us hl => match us, hl with | [_, _, _], _ => rfl⟩),
    g_picture := PySem.W.mg_of X G (cZ.dec (p := PySem.W.nsIn K mainGlobals "picture" = some (some (.ref 352))) (i := 1) (j := 19) rfl rfl rfl),
    f__law_mix := (let ⟨_, F⟩ := fun_z (cZ.fns (i := 13) (d := dz_13) rfl) rfl rfl; ⟨_, F, F.binds (ps := ["_law_cell", "_law_turn"]) fun _ _ _ _ _ _ us hl => match us, hl with | [_, _], _ => rfl⟩),
    g__law_mix := PySem.W.mg_of X G (cZ.dec (p := PySem.W.nsIn K mainGlobals "_law_mix" = some (some (.ref 536))) (i := 1) (j := 20) rfl rfl rfl),
    f__law_pool := (let ⟨_, F⟩ := fun_z (cZ.fns (i := 14) (d := dz_14) rfl) rfl rfl; ⟨_, F, F.binds (ps := ["_law_script", "_law_many"]) fun _ _ _ _ _ _ us hl => match us, hl with | [_, _], _ => rfl⟩),
    g__law_pool := PySem.W.mg_of X G (cZ.dec (p := PySem.W.nsIn K mainGlobals "_law_pool" = some (some (.ref 543))) (i := 1) (j := 21) rfl rfl rfl),
    f__law_draw := (let ⟨_, F⟩ := fun_z (cZ.fns (i := 15) (d := dz_15) rfl) rfl rfl; ⟨_, F, F.binds (ps := ["_law_pool_here", "_law_bound"]) fun _ _ _ _ _ _ us hl => match us, hl with | [_, _], _ => rfl⟩),
    g__law_draw := PySem.W.mg_of X G (cZ.dec (p := PySem.W.nsIn K mainGlobals "_law_draw" = some (some (.ref 550))) (i := 1) (j := 22) rfl rfl rfl),
    f__law_number := (let ⟨_, F⟩ := fun_z (cZ.fns (i := 16) (d := dz_16) rfl) rfl rfl; ⟨_, F, F.binds (ps := ["_law_pool_here"]) fun _ _ _ _ _ _ us hl => match us, hl with | [_], _ => rfl⟩),
    g__law_number := PySem.W.mg_of X G (cZ.dec (p := PySem.W.nsIn K mainGlobals "_law_number" = some (some (.ref 557))) (i := 1) (j := 23) rfl rfl rfl),
    f__law_kind := (let ⟨_, F⟩ := fun_z (cZ.fns (i := 17) (d := dz_17) rfl) rfl rfl; ⟨_, F, F.binds (ps := ["_law_pool_here"]) fun _ _ _ _ _ _ us hl => match us, hl with | [_], _ => rfl⟩),
    g__law_kind := PySem.W.mg_of X G (cZ.dec (p := PySem.W.nsIn K mainGlobals "_law_kind" = some (some (.ref 564))) (i := 1) (j := 24) rfl rfl rfl),
    f__law_path := (let ⟨_, F⟩ := fun_z (cZ.fns (i := 18) (d := dz_18) rfl) rfl rfl; ⟨_, F, F.binds (ps := ["_law_pool_here", "_law_lefts", "_law_rights"]) fun _ _ _ _ _ _ us hl => match us, hl with | [_, _, _], _ => rfl⟩),
    g__law_path := PySem.W.mg_of X G (cZ.dec (p := PySem.W.nsIn K mainGlobals "_law_path" = some (some (.ref 571))) (i := 2) (j := 0) rfl rfl rfl),
    f__law_names := (let ⟨_, F⟩ := fun_z (cZ.fns (i := 19) (d := dz_19) rfl) rfl rfl; ⟨_, F, F.binds (ps := ["_law_lefts", "_law_rights", "_law_paths"]) fun _ _ _ _ _ _ us hl => match us, hl with | [_, _, _], _ => rfl⟩),
    g__law_names := PySem.W.mg_of X G (cZ.dec (p := PySem.W.nsIn K mainGlobals "_law_names" = some (some (.ref 576))) (i := 2) (j := 1) rfl rfl rfl),
    f__law_lost := (let ⟨_, F⟩ := fun_z (cZ.fns (i := 20) (d := dz_20) rfl) rfl rfl; ⟨_, F, F.binds (ps := ["_law_steps", "_law_lefts", "_law_rights"]) fun _ _ _ _ _ _ us hl => match us, hl with | [_, _, _], _ => rfl⟩),
    g__law_lost := PySem.W.mg_of X G (cZ.dec (p := PySem.W.nsIn K mainGlobals "_law_lost" = some (some (.ref 583))) (i := 2) (j := 2) rfl rfl rfl),
    f__law_joints := (let ⟨_, F⟩ := fun_z (cZ.fns (i := 21) (d := dz_21) rfl) rfl rfl; ⟨_, F, F.binds (ps := ["_law_pool_here", "_law_one", "_law_other"]) fun _ _ _ _ _ _ us hl => match us, hl with | [_, _, _], _ => rfl⟩),
    g__law_joints := PySem.W.mg_of X G (cZ.dec (p := PySem.W.nsIn K mainGlobals "_law_joints" = some (some (.ref 590))) (i := 2) (j := 3) rfl rfl rfl),
    f__law_world := (let ⟨_, F⟩ := fun_z (cZ.fns (i := 22) (d := dz_22) rfl) rfl rfl; ⟨_, F, F.binds (ps := ["_law_pool_here", "_law_sizes", "_law_paths"]) fun _ _ _ _ _ _ us hl => match us, hl with | [_, _, _], _ => rfl⟩),
    g__law_world := PySem.W.mg_of X G (cZ.dec (p := PySem.W.nsIn K mainGlobals "_law_world" = some (some (.ref 595))) (i := 2) (j := 4) rfl rfl rfl),
    f__law_cores := (let ⟨_, F⟩ := fun_z (cZ.fns (i := 23) (d := dz_23) rfl) rfl rfl; ⟨_, F, F.binds (ps := ["_law_world_here"]) fun _ _ _ _ _ _ us hl => match us, hl with | [_], _ => rfl⟩),
    g__law_cores := PySem.W.mg_of X G (cZ.dec (p := PySem.W.nsIn K mainGlobals "_law_cores" = some (some (.ref 602))) (i := 2) (j := 5) rfl rfl rfl),
    f__law_whole := (let ⟨_, F⟩ := fun_z (cZ.fns (i := 24) (d := dz_24) rfl) rfl rfl; ⟨_, F, F.binds (ps := ["_law_number_here"]) fun _ _ _ _ _ _ us hl => match us, hl with | [_], _ => rfl⟩),
    g__law_whole := PySem.W.mg_of X G (cZ.dec (p := PySem.W.nsIn K mainGlobals "_law_whole" = some (some (.ref 609))) (i := 2) (j := 6) rfl rfl rfl),
    f__law_same := (let ⟨_, F⟩ := fun_z (cZ.fns (i := 25) (d := dz_25) rfl) rfl rfl; ⟨_, F, F.binds (ps := ["_law_core", "_law_layers", "_law_joints_here"]) fun _ _ _ _ _ _ us hl => match us, hl with | [_, _, _], _ => rfl⟩),
    g__law_same := PySem.W.mg_of X G (cZ.dec (p := PySem.W.nsIn K mainGlobals "_law_same" = some (some (.ref 614))) (i := 2) (j := 7) rfl rfl rfl),
    f__law_commas := (let ⟨_, F⟩ := fun_z (cZ.fns (i := 26) (d := dz_26) rfl) rfl rfl; ⟨_, F, F.binds (ps := ["_law_number_here"]) fun _ _ _ _ _ _ us hl => match us, hl with | [_], _ => rfl⟩),
    g__law_commas := PySem.W.mg_of X G (cZ.dec (p := PySem.W.nsIn K mainGlobals "_law_commas" = some (some (.ref 621))) (i := 2) (j := 8) rfl rfl rfl),
    f__law_total := (let ⟨_, F⟩ := fun_z (cZ.fns (i := 27) (d := dz_27) rfl) rfl rfl; ⟨_, F, F.binds (ps := ["_law_layers"]) fun _ _ _ _ _ _ us hl => match us, hl with | [_], _ => rfl⟩),
    g__law_total := PySem.W.mg_of X G (cZ.dec (p := PySem.W.nsIn K mainGlobals "_law_total" = some (some (.ref 628))) (i := 2) (j := 9) rfl rfl rfl),
    f__law_line := (let ⟨_, F⟩ := fun_z (cZ.fns (i := 28) (d := dz_28) rfl) rfl rfl; ⟨_, F, F.binds (ps := ["_law_one", "_law_sign", "_law_other"]) fun _ _ _ _ _ _ us hl => match us, hl with | [_, _, _], _ => rfl⟩),
    g__law_line := PySem.W.mg_of X G (cZ.dec (p := PySem.W.nsIn K mainGlobals "_law_line" = some (some (.ref 635))) (i := 2) (j := 10) rfl rfl rfl),
    f__law_due := (let ⟨_, F⟩ := fun_z (cZ.fns (i := 29) (d := dz_29) rfl) rfl rfl; ⟨_, F, F.binds (ps := ["_law_steps", "_law_world_here"]) fun _ _ _ _ _ _ us hl => match us, hl with | [_, _], _ => rfl⟩),
    g__law_due := PySem.W.mg_of X G (cZ.dec (p := PySem.W.nsIn K mainGlobals "_law_due" = some (some (.ref 642))) (i := 2) (j := 11) rfl rfl rfl),
    f__law_unlike := (let ⟨_, F⟩ := fun_z (cZ.fns (i := 30) (d := dz_30) rfl) rfl rfl; ⟨_, F, F.binds (ps := ["_law_record", "_law_cores_here"]) fun _ _ _ _ _ _ us hl => match us, hl with | [_, _], _ => rfl⟩),
    g__law_unlike := PySem.W.mg_of X G (cZ.dec (p := PySem.W.nsIn K mainGlobals "_law_unlike" = some (some (.ref 649))) (i := 2) (j := 12) rfl rfl rfl),
    f__law_far := (let ⟨_, F⟩ := fun_z (cZ.fns (i := 31) (d := dz_31) rfl) rfl rfl; ⟨_, F, F.binds (ps := ["_law_pool_here", "_law_steps"]) fun _ _ _ _ _ _ us hl => match us, hl with | [_, _], _ => rfl⟩),
    g__law_far := PySem.W.mg_of X G (cZ.dec (p := PySem.W.nsIn K mainGlobals "_law_far" = some (some (.ref 656))) (i := 2) (j := 13) rfl rfl rfl),
    f_law := (let ⟨_, F⟩ := fun_z (cZ.fns (i := 32) (d := dz_32) rfl) rfl rfl; ⟨_, F, F.binds (ps := ["_law_script"]) fun _ _ _ _ _ _ us hl => match us, hl with | [_], _ => rfl⟩),
    g_law := PySem.W.mg_of X G (cZ.dec (p := PySem.W.nsIn K mainGlobals "law" = some (some (.ref 661))) (i := 2) (j := 14) rfl rfl rfl),
    g_Core := PySem.W.mg_of X G (cZ.dec (p := PySem.W.nsIn K mainGlobals "Core" = some (some (.ref 341))) (i := 2) (j := 15) rfl rfl rfl),
    k_Core := ⟨⟨(cZ.fact (i := 2) (j := 16) rfl rfl : PySem.W.plainGet K 341 Str.empty = true), (cZ.fact (i := 2) (j := 17) rfl rfl : PySem.W.hasDictIn K 341 = true), (cZ.fact (i := 2) (j := 18) rfl rfl : PySem.W.plainOver K 341 = true), (cZ.dec (p := PySem.W.findIn K (.ref 341) "__setattr__" = some (some (.builtin "object.__setattr__"))) (i := 2) (j := 19) rfl rfl rfl)⟩, by show (flds 8).Nodup; decide +kernel⟩,
    na_Core_layers := (cZ.dec (p := PySem.W.findIn K (.ref 341) "layers" = some none) (i := 2) (j := 20) rfl rfl rfl),
    na_Core_joints := (cZ.dec (p := PySem.W.findIn K (.ref 341) "joints" = some none) (i := 2) (j := 21) rfl rfl rfl),
    mk_Core := ⟨(cZ.fact (i := 2) (j := 22) rfl rfl : PySem.W.makesIn K 341 = true), (cZ.dec (p := PySem.W.findIn K (.ref 341) "__init__" = some (some (.ref 251))) (i := 2) (j := 23) rfl rfl rfl), (cZ.fact (i := 2) (j := 24) rfl rfl : PySem.W.isFn K (.ref 251) = true), (cZ.fact (i := 3) (j := 0) rfl rfl : PySem.W.keepIn K (.ref 341) = true)⟩,
    g_Record := PySem.W.mg_of X G (cZ.dec (p := PySem.W.nsIn K mainGlobals "Record" = some (some (.ref 525))) (i := 3) (j := 1) rfl rfl rfl),
    k_Record := ⟨⟨(cZ.fact (i := 3) (j := 2) rfl rfl : PySem.W.plainGet K 525 Str.empty = true), (cZ.fact (i := 3) (j := 3) rfl rfl : PySem.W.hasDictIn K 525 = true), (cZ.fact (i := 3) (j := 4) rfl rfl : PySem.W.plainOver K 525 = true), (cZ.dec (p := PySem.W.findIn K (.ref 525) "__setattr__" = some (some (.builtin "object.__setattr__"))) (i := 3) (j := 5) rfl rfl rfl)⟩, by show (flds 9).Nodup; decide +kernel⟩,
    na_Record_steps := (cZ.dec (p := PySem.W.findIn K (.ref 525) "steps" = some none) (i := 3) (j := 6) rfl rfl rfl),
    na_Record_rows := (cZ.dec (p := PySem.W.findIn K (.ref 525) "rows" = some none) (i := 3) (j := 7) rfl rfl rfl),
    mk_Record := ⟨(cZ.fact (i := 3) (j := 8) rfl rfl : PySem.W.makesIn K 525 = true), (cZ.dec (p := PySem.W.findIn K (.ref 525) "__init__" = some (some (.ref 388))) (i := 3) (j := 9) rfl rfl rfl), (cZ.fact (i := 3) (j := 10) rfl rfl : PySem.W.isFn K (.ref 388) = true), (cZ.fact (i := 3) (j := 11) rfl rfl : PySem.W.keepIn K (.ref 525) = true)⟩,
    g_SiltError := PySem.W.mg_of X G (cZ.dec (p := PySem.W.nsIn K mainGlobals "SiltError" = some (some (.ref 31))) (i := 3) (j := 12) rfl rfl rfl),
    gs_LETTERS := (strB_ok X G (cZ.fact (i := 3) (j := 13) rfl rfl : strB K "LETTERS" "abcdefghijklmnopqrstuvwxyz" = true)),
    gi_Core := ⟨(cZ.dec (p := PySem.W.findIn K (.ref 341) "__getitem__" = some (some (.ref 289))) (i := 3) (j := 14) rfl rfl rfl), (cZ.fact (i := 3) (j := 15) rfl rfl : PySem.W.isFn K (.ref 289) = true), (cZ.fact (i := 3) (j := 16) rfl rfl : PySem.W.fnIn K 289 = true)⟩,
    cr_Core := ⟨(cZ.fact (i := 3) (j := 17) rfl rfl : PySem.W.readsIn K 341 (.type "type") = true), (cZ.dec (p := PySem.W.specialIn K (.ref 341) "__getattribute__" = some (some (.builtin "type.__getattribute__"))) (i := 3) (j := 18) rfl rfl rfl)⟩,
    cv_Core_MOST := (let ⟨_, h, t, e⟩ := cvB_ok (d := .int 20) (cZ.fact (i := 3) (j := 19) rfl rfl : cvB K 341 "MOST" (.int 20) = true); ⟨t, e ▸ h, ⟨_, rfl⟩⟩),
    f_Core___iter__ := (let ⟨_, F⟩ := fun_z (cZ.fns (i := 33) (d := dz_33) rfl) rfl rfl; ⟨_, F, F.binds (ps := ["self"]) fun _ _ _ _ _ _ us hl => match us, hl with | [_], _ => rfl⟩),
    b_iter := PySem.W.mg_none_of X G (cZ.dec (p := PySem.W.nsIn K mainGlobals "iter" = some none) (i := 3) (j := 20) rfl rfl rfl),
    it_Core := ⟨(cZ.dec (p := PySem.W.findIn K (.ref 341) "__iter__" = some (some (.ref 282))) (i := 3) (j := 21) rfl rfl rfl), (cZ.fact (i := 3) (j := 22) rfl rfl : PySem.W.isFn K (.ref 282) = true)⟩,
    f_Record___iter__ := (let ⟨_, F⟩ := fun_z (cZ.fns (i := 34) (d := dz_34) rfl) rfl rfl; ⟨_, F, F.binds (ps := ["self"]) fun _ _ _ _ _ _ us hl => match us, hl with | [_], _ => rfl⟩),
    it_Record := ⟨(cZ.dec (p := PySem.W.findIn K (.ref 525) "__iter__" = some (some (.ref 446))) (i := 3) (j := 23) rfl rfl rfl), (cZ.fact (i := 3) (j := 24) rfl rfl : PySem.W.isFn K (.ref 446) = true)⟩,
    g_BadCore := PySem.W.mg_of X G (cZ.dec (p := PySem.W.nsIn K mainGlobals "BadCore" = some (some (.ref 44))) (i := 4) (j := 0) rfl rfl rfl),
    xt_BadCore := ⟨(cZ.fact (i := 4) (j := 4) rfl rfl : PySem.W.excIn K 44 [.type "ValueError", .type "Exception", .type "BaseException", .type "object"] "ValueError.__new__" = true), (cZ.fact (i := 4) (j := 1) rfl rfl : PySem.W.keepIn K (.ref 44) = true), (cZ.dec (p := PySem.W.subIn K (.ref 44) (.type "BaseException") = some true) (i := 4) (j := 2) rfl rfl rfl), (cZ.dec (p := PySem.W.typeIn K (.ref 44) = some (.type "type")) (i := 4) (j := 3) rfl rfl rfl)⟩,
    g_BadLayer := PySem.W.mg_of X G (cZ.dec (p := PySem.W.nsIn K mainGlobals "BadLayer" = some (some (.ref 63))) (i := 4) (j := 5) rfl rfl rfl),
    o_BadLayer := ⟨excB_ok (cZ.fact (i := 4) (j := 10) rfl rfl : excB K 63 = true), (cZ.dec (p := PySem.W.findIn K (.ref 63) "__setattr__" = some (some (.builtin "object.__setattr__"))) (i := 4) (j := 9) rfl rfl rfl), (cZ.dec (p := PySem.W.subIn K (.ref 63) (.type "BaseException") = some true) (i := 4) (j := 7) rfl rfl rfl), (cZ.dec (p := PySem.W.typeIn K (.ref 63) = some (.type "type")) (i := 4) (j := 8) rfl rfl rfl), (cZ.fact (i := 4) (j := 6) rfl rfl : PySem.W.keepIn K (.ref 63) = true)⟩,
    i_BadLayer := (cZ.dec (p := PySem.W.findIn K (.ref 63) "__init__" = some (some (.ref 60))) (i := 4) (j := 11) rfl rfl rfl),
    t_BadLayer := (cZ.dec (p := PySem.W.typeIn K (.ref 60) = some (.type "function")) (i := 4) (j := 12) rfl rfl rfl),
    nx_BadLayer_index := (cZ.dec (p := PySem.W.findIn K (.ref 63) "index" = some none) (i := 4) (j := 13) rfl rfl rfl),
    f_BadLayer___init__ := (let ⟨_, F⟩ := fun_z (cZ.fns (i := 35) (d := dz_35) rfl) rfl rfl; ⟨_, F, F.binds (ps := ["self", "index"]) fun _ _ _ _ _ _ us hl => match us, hl with | [_, _], _ => rfl⟩),
    g_BadJoint := PySem.W.mg_of X G (cZ.dec (p := PySem.W.nsIn K mainGlobals "BadJoint" = some (some (.ref 82))) (i := 4) (j := 14) rfl rfl rfl),
    o_BadJoint := ⟨excB_ok (cZ.fact (i := 4) (j := 19) rfl rfl : excB K 82 = true), (cZ.dec (p := PySem.W.findIn K (.ref 82) "__setattr__" = some (some (.builtin "object.__setattr__"))) (i := 4) (j := 18) rfl rfl rfl), (cZ.dec (p := PySem.W.subIn K (.ref 82) (.type "BaseException") = some true) (i := 4) (j := 16) rfl rfl rfl), (cZ.dec (p := PySem.W.typeIn K (.ref 82) = some (.type "type")) (i := 4) (j := 17) rfl rfl rfl), (cZ.fact (i := 4) (j := 15) rfl rfl : PySem.W.keepIn K (.ref 82) = true)⟩,
    i_BadJoint := (cZ.dec (p := PySem.W.findIn K (.ref 82) "__init__" = some (some (.ref 79))) (i := 4) (j := 20) rfl rfl rfl),
    t_BadJoint := (cZ.dec (p := PySem.W.typeIn K (.ref 79) = some (.type "function")) (i := 4) (j := 21) rfl rfl rfl),
    nx_BadJoint_index := (cZ.dec (p := PySem.W.findIn K (.ref 82) "index" = some none) (i := 4) (j := 22) rfl rfl rfl),
    f_BadJoint___init__ := (let ⟨_, F⟩ := fun_z (cZ.fns (i := 36) (d := dz_36) rfl) rfl rfl; ⟨_, F, F.binds (ps := ["self", "index"]) fun _ _ _ _ _ _ us hl => match us, hl with | [_, _], _ => rfl⟩),
    g_BadRecord := PySem.W.mg_of X G (cZ.dec (p := PySem.W.nsIn K mainGlobals "BadRecord" = some (some (.ref 158))) (i := 4) (j := 23) rfl rfl rfl),
    o_BadRecord := ⟨excB_ok (cZ.fact (i := 5) (j := 3) rfl rfl : excB K 158 = true), (cZ.dec (p := PySem.W.findIn K (.ref 158) "__setattr__" = some (some (.builtin "object.__setattr__"))) (i := 5) (j := 2) rfl rfl rfl), (cZ.dec (p := PySem.W.subIn K (.ref 158) (.type "BaseException") = some true) (i := 5) (j := 0) rfl rfl rfl), (cZ.dec (p := PySem.W.typeIn K (.ref 158) = some (.type "type")) (i := 5) (j := 1) rfl rfl rfl), (cZ.fact (i := 4) (j := 24) rfl rfl : PySem.W.keepIn K (.ref 158) = true)⟩,
    i_BadRecord := (cZ.dec (p := PySem.W.findIn K (.ref 158) "__init__" = some (some (.ref 155))) (i := 5) (j := 4) rfl rfl rfl),
    t_BadRecord := (cZ.dec (p := PySem.W.typeIn K (.ref 155) = some (.type "function")) (i := 5) (j := 5) rfl rfl rfl),
    nx_BadRecord_index := (cZ.dec (p := PySem.W.findIn K (.ref 158) "index" = some none) (i := 5) (j := 6) rfl rfl rfl),
    f_BadRecord___init__ := (let ⟨_, F⟩ := fun_z (cZ.fns (i := 37) (d := dz_37) rfl) rfl rfl; ⟨_, F, F.binds (ps := ["self", "index"]) fun _ _ _ _ _ _ us hl => match us, hl with | [_, _], _ => rfl⟩),
    g_NoLayer := PySem.W.mg_of X G (cZ.dec (p := PySem.W.nsIn K mainGlobals "NoLayer" = some (some (.ref 101))) (i := 5) (j := 7) rfl rfl rfl),
    o_NoLayer := ⟨excB_ok (cZ.fact (i := 5) (j := 12) rfl rfl : excB K 101 = true), (cZ.dec (p := PySem.W.findIn K (.ref 101) "__setattr__" = some (some (.builtin "object.__setattr__"))) (i := 5) (j := 11) rfl rfl rfl), (cZ.dec (p := PySem.W.subIn K (.ref 101) (.type "BaseException") = some true) (i := 5) (j := 9) rfl rfl rfl), (cZ.dec (p := PySem.W.typeIn K (.ref 101) = some (.type "type")) (i := 5) (j := 10) rfl rfl rfl), (cZ.fact (i := 5) (j := 8) rfl rfl : PySem.W.keepIn K (.ref 101) = true)⟩,
    i_NoLayer := (cZ.dec (p := PySem.W.findIn K (.ref 101) "__init__" = some (some (.ref 98))) (i := 5) (j := 13) rfl rfl rfl),
    t_NoLayer := (cZ.dec (p := PySem.W.typeIn K (.ref 98) = some (.type "function")) (i := 5) (j := 14) rfl rfl rfl),
    nx_NoLayer_index := (cZ.dec (p := PySem.W.findIn K (.ref 101) "index" = some none) (i := 5) (j := 15) rfl rfl rfl),
    f_NoLayer___init__ := (let ⟨_, F⟩ := fun_z (cZ.fns (i := 38) (d := dz_38) rfl) rfl rfl; ⟨_, F, F.binds (ps := ["self", "index"]) fun _ _ _ _ _ _ us hl => match us, hl with | [_, _], _ => rfl⟩),
    g_NoJoint := PySem.W.mg_of X G (cZ.dec (p := PySem.W.nsIn K mainGlobals "NoJoint" = some (some (.ref 120))) (i := 5) (j := 16) rfl rfl rfl),
    o_NoJoint := ⟨excB_ok (cZ.fact (i := 5) (j := 21) rfl rfl : excB K 120 = true), (cZ.dec (p := PySem.W.findIn K (.ref 120) "__setattr__" = some (some (.builtin "object.__setattr__"))) (i := 5) (j := 20) rfl rfl rfl), (cZ.dec (p := PySem.W.subIn K (.ref 120) (.type "BaseException") = some true) (i := 5) (j := 18) rfl rfl rfl), (cZ.dec (p := PySem.W.typeIn K (.ref 120) = some (.type "type")) (i := 5) (j := 19) rfl rfl rfl), (cZ.fact (i := 5) (j := 17) rfl rfl : PySem.W.keepIn K (.ref 120) = true)⟩,
    i_NoJoint := (cZ.dec (p := PySem.W.findIn K (.ref 120) "__init__" = some (some (.ref 117))) (i := 5) (j := 22) rfl rfl rfl),
    t_NoJoint := (cZ.dec (p := PySem.W.typeIn K (.ref 117) = some (.type "function")) (i := 5) (j := 23) rfl rfl rfl),
    nx_NoJoint_index := (cZ.dec (p := PySem.W.findIn K (.ref 120) "index" = some none) (i := 5) (j := 24) rfl rfl rfl),
    f_NoJoint___init__ := (let ⟨_, F⟩ := fun_z (cZ.fns (i := 39) (d := dz_39) rfl) rfl rfl; ⟨_, F, F.binds (ps := ["self", "index"]) fun _ _ _ _ _ _ us hl => match us, hl with | [_, _], _ => rfl⟩),
    g_Unlike := PySem.W.mg_of X G (cZ.dec (p := PySem.W.nsIn K mainGlobals "Unlike" = some (some (.ref 170))) (i := 6) (j := 0) rfl rfl rfl),
    xt_Unlike := ⟨(cZ.fact (i := 6) (j := 4) rfl rfl : PySem.W.excIn K 170 [.type "ValueError", .type "Exception", .type "BaseException", .type "object"] "ValueError.__new__" = true), (cZ.fact (i := 6) (j := 1) rfl rfl : PySem.W.keepIn K (.ref 170) = true), (cZ.dec (p := PySem.W.subIn K (.ref 170) (.type "BaseException") = some true) (i := 6) (j := 2) rfl rfl rfl), (cZ.dec (p := PySem.W.typeIn K (.ref 170) = some (.type "type")) (i := 6) (j := 3) rfl rfl rfl)⟩,
    g_NotFitting := PySem.W.mg_of X G (cZ.dec (p := PySem.W.nsIn K mainGlobals "NotFitting" = some (some (.ref 182))) (i := 6) (j := 5) rfl rfl rfl),
    xt_NotFitting := ⟨(cZ.fact (i := 6) (j := 9) rfl rfl : PySem.W.excIn K 182 [.type "ValueError", .type "Exception", .type "BaseException", .type "object"] "ValueError.__new__" = true), (cZ.fact (i := 6) (j := 6) rfl rfl : PySem.W.keepIn K (.ref 182) = true), (cZ.dec (p := PySem.W.subIn K (.ref 182) (.type "BaseException") = some true) (i := 6) (j := 7) rfl rfl rfl), (cZ.dec (p := PySem.W.typeIn K (.ref 182) = some (.type "type")) (i := 6) (j := 8) rfl rfl rfl)⟩,
    xi := fun c hc => match c, hc with | 0, _ => ⟨(cZ.dec (p := PySem.W.findIn K (.ref 44) "__getattribute__" = some (some (.builtin "BaseException.__getattribute__"))) (i := 6) (j := 12) rfl rfl rfl), (cZ.dec (p := PySem.W.findIn K (.ref 44) "__getattr__" = some none) (i := 6) (j := 13) rfl rfl rfl), (cZ.dec (p := PySem.W.subIn K (.ref 44) (.type "BaseException") = some true) (i := 4) (j := 2) rfl rfl rfl), (cZ.fact (i := 6) (j := 14) rfl rfl : PySem.W.hasDictIn K 44 = true), (cZ.dec (p := PySem.W.findIn K (.ref 44) "__class__" = some (some (.builtin "object.__class__"))) (i := 6) (j := 15) rfl rfl rfl), (cZ.dec (p := PySem.W.specialIn K (.builtin "object.__class__") "__get__" = some (some (.builtin "getset_descriptor.__get__"))) (i := 6) (j := 10) rfl rfl rfl), (cZ.dec (p := PySem.W.takesIn K (.builtin "object.__class__") = some true) (i := 6) (j := 11) rfl rfl rfl), (cZ.dec (p := PySem.W.mroIn K 44 (.type "object") = some true) (i := 6) (j := 16) rfl rfl rfl)⟩ | 1, _ => ⟨(cZ.dec (p := PySem.W.findIn K (.ref 63) "__getattribute__" = some (some (.builtin "BaseException.__getattribute__"))) (i := 6) (j := 17) rfl rfl rfl), (cZ.dec (p := PySem.W.findIn K (.ref 63) "__getattr__" = some none) (i := 6) (j := 18) rfl rfl rfl), (cZ.dec (p := PySem.W.subIn K (.ref 63) (.type "BaseException") = some true) (i := 4) (j := 7) rfl rfl rfl), (cZ.fact (i := 6) (j := 19) rfl rfl : PySem.W.hasDictIn K 63 = true), (cZ.dec (p := PySem.W.findIn K (.ref 63) "__class__" = some (some (.builtin "object.__class__"))) (i := 6) (j := 20) rfl rfl rfl), (cZ.dec (p := PySem.W.specialIn K (.builtin "object.__class__") "__get__" = some (some (.builtin "getset_descriptor.__get__"))) (i := 6) (j := 10) rfl rfl rfl), (cZ.dec (p := PySem.W.takesIn K (.builtin "object.__class__") = some true) (i := 6) (j := 11) rfl rfl rfl), (cZ.dec (p := PySem.W.mroIn K 63 (.type "object") = some true) (i := 6) (j := 21) rfl rfl rfl)⟩ | 2, _ => ⟨(cZ.dec (p := PySem.W.findIn K (.ref 82) "__getattribute__" = some (some (.builtin "BaseException.__getattribute__"))) (i := 6) (j := 22) rfl rfl rfl), (cZ.dec (p := PySem.W.findIn K (.ref 82) "__getattr__" = some none) (i := 6) (j := 23) rfl rfl rfl), (cZ.dec (p := PySem.W.subIn K (.ref 82) (.type "BaseException") = some true) (i := 4) (j := 16) rfl rfl rfl), (cZ.fact (i := 6) (j := 24) rfl rfl : PySem.W.hasDictIn K 82 = true), (cZ.dec (p := PySem.W.findIn K (.ref 82) "__class__" = some (some (.builtin "object.__class__"))) (i := 7) (j := 0) rfl rfl rfl), (cZ.dec (p := PySem.W.specialIn K (.builtin "object.__class__") "__get__" = some (some (.builtin "getset_descriptor.__get__"))) (i := 6) (j := 10) rfl rfl rfl), (cZ.dec (p := PySem.W.takesIn K (.builtin "object.__class__") = some true) (i := 6) (j := 11) rfl rfl rfl), (cZ.dec (p := PySem.W.mroIn K 82 (.type "object") = some true) (i := 7) (j := 1) rfl rfl rfl)⟩ | 3, _ => ⟨(cZ.dec (p := PySem.W.findIn K (.ref 158) "__getattribute__" = some (some (.builtin "BaseException.__getattribute__"))) (i := 7) (j := 2) rfl rfl rfl), (cZ.dec (p := PySem.W.findIn K (.ref 158) "__getattr__" = some none) (i := 7) (j := 3) rfl rfl rfl), (cZ.dec (p := PySem.W.subIn K (.ref 158) (.type "BaseException") = some true) (i := 5) (j := 0) rfl rfl rfl), (cZ.fact (i := 7) (j := 4) rfl rfl : PySem.W.hasDictIn K 158 = true), (cZ.dec (p := PySem.W.findIn K (.ref 158) "__class__" = some (some (.builtin "object.__class__"))) (i := 7) (j := 5) rfl rfl rfl), (cZ.dec (p := PySem.W.specialIn K (.builtin "object.__class__") "__get__" = some (some (.builtin "getset_descriptor.__get__"))) (i := 6) (j := 10) rfl rfl rfl), (cZ.dec (p := PySem.W.takesIn K (.builtin "object.__class__") = some true) (i := 6) (j := 11) rfl rfl rfl), (cZ.dec (p := PySem.W.mroIn K 158 (.type "object") = some true) (i := 7) (j := 6) rfl rfl rfl)⟩ | 4, _ => ⟨(cZ.dec (p := PySem.W.findIn K (.ref 101) "__getattribute__" = some (some (.builtin "BaseException.__getattribute__"))) (i := 7) (j := 7) rfl rfl rfl), (cZ.dec (p := PySem.W.findIn K (.ref 101) "__getattr__" = some none) (i := 7) (j := 8) rfl rfl rfl), (cZ.dec (p := PySem.W.subIn K (.ref 101) (.type "BaseException") = some true) (i := 5) (j := 9) rfl rfl rfl), (cZ.fact (i := 7) (j := 9) rfl rfl : PySem.W.hasDictIn K 101 = true), (cZ.dec (p := PySem.W.findIn K (.ref 101) "__class__" = some (some (.builtin "object.__class__"))) (i := 7) (j := 10) rfl rfl rfl), (cZ.dec (p := PySem.W.specialIn K (.builtin "object.__class__") "__get__" = some (some (.builtin "getset_descriptor.__get__"))) (i := 6) (j := 10) rfl rfl rfl), (cZ.dec (p := PySem.W.takesIn K (.builtin "object.__class__") = some true) (i := 6) (j := 11) rfl rfl rfl), (cZ.dec (p := PySem.W.mroIn K 101 (.type "object") = some true) (i := 7) (j := 11) rfl rfl rfl)⟩ | 5, _ => ⟨(cZ.dec (p := PySem.W.findIn K (.ref 120) "__getattribute__" = some (some (.builtin "BaseException.__getattribute__"))) (i := 7) (j := 12) rfl rfl rfl), (cZ.dec (p := PySem.W.findIn K (.ref 120) "__getattr__" = some none) (i := 7) (j := 13) rfl rfl rfl), (cZ.dec (p := PySem.W.subIn K (.ref 120) (.type "BaseException") = some true) (i := 5) (j := 18) rfl rfl rfl), (cZ.fact (i := 7) (j := 14) rfl rfl : PySem.W.hasDictIn K 120 = true), (cZ.dec (p := PySem.W.findIn K (.ref 120) "__class__" = some (some (.builtin "object.__class__"))) (i := 7) (j := 15) rfl rfl rfl), (cZ.dec (p := PySem.W.specialIn K (.builtin "object.__class__") "__get__" = some (some (.builtin "getset_descriptor.__get__"))) (i := 6) (j := 10) rfl rfl rfl), (cZ.dec (p := PySem.W.takesIn K (.builtin "object.__class__") = some true) (i := 6) (j := 11) rfl rfl rfl), (cZ.dec (p := PySem.W.mroIn K 120 (.type "object") = some true) (i := 7) (j := 16) rfl rfl rfl)⟩ | 6, _ => ⟨(cZ.dec (p := PySem.W.findIn K (.ref 170) "__getattribute__" = some (some (.builtin "BaseException.__getattribute__"))) (i := 7) (j := 17) rfl rfl rfl), (cZ.dec (p := PySem.W.findIn K (.ref 170) "__getattr__" = some none) (i := 7) (j := 18) rfl rfl rfl), (cZ.dec (p := PySem.W.subIn K (.ref 170) (.type "BaseException") = some true) (i := 6) (j := 2) rfl rfl rfl), (cZ.fact (i := 7) (j := 19) rfl rfl : PySem.W.hasDictIn K 170 = true), (cZ.dec (p := PySem.W.findIn K (.ref 170) "__class__" = some (some (.builtin "object.__class__"))) (i := 7) (j := 20) rfl rfl rfl), (cZ.dec (p := PySem.W.specialIn K (.builtin "object.__class__") "__get__" = some (some (.builtin "getset_descriptor.__get__"))) (i := 6) (j := 10) rfl rfl rfl), (cZ.dec (p := PySem.W.takesIn K (.builtin "object.__class__") = some true) (i := 6) (j := 11) rfl rfl rfl), (cZ.dec (p := PySem.W.mroIn K 170 (.type "object") = some true) (i := 7) (j := 21) rfl rfl rfl)⟩ | 7, _ => ⟨(cZ.dec (p := PySem.W.findIn K (.ref 182) "__getattribute__" = some (some (.builtin "BaseException.__getattribute__"))) (i := 7) (j := 22) rfl rfl rfl), (cZ.dec (p := PySem.W.findIn K (.ref 182) "__getattr__" = some none) (i := 7) (j := 23) rfl rfl rfl), (cZ.dec (p := PySem.W.subIn K (.ref 182) (.type "BaseException") = some true) (i := 6) (j := 7) rfl rfl rfl), (cZ.fact (i := 7) (j := 24) rfl rfl : PySem.W.hasDictIn K 182 = true), (cZ.dec (p := PySem.W.findIn K (.ref 182) "__class__" = some (some (.builtin "object.__class__"))) (i := 8) (j := 0) rfl rfl rfl), (cZ.dec (p := PySem.W.specialIn K (.builtin "object.__class__") "__get__" = some (some (.builtin "getset_descriptor.__get__"))) (i := 6) (j := 10) rfl rfl rfl), (cZ.dec (p := PySem.W.takesIn K (.builtin "object.__class__") = some true) (i := 6) (j := 11) rfl rfl rfl), (cZ.dec (p := PySem.W.mroIn K 182 (.type "object") = some true) (i := 8) (j := 1) rfl rfl rfl)⟩ | n + 8, h => absurd h (by omega),
    xe_SiltError := fun c hc => match c, hc with | 0, _ => (cZ.dec (p := PySem.W.exmOne K (.ref 44) (.ref 31) = some true) (i := 8) (j := 2) rfl rfl rfl) | 1, _ => (cZ.dec (p := PySem.W.exmOne K (.ref 63) (.ref 31) = some true) (i := 8) (j := 3) rfl rfl rfl) | 2, _ => (cZ.dec (p := PySem.W.exmOne K (.ref 82) (.ref 31) = some true) (i := 8) (j := 4) rfl rfl rfl) | 3, _ => (cZ.dec (p := PySem.W.exmOne K (.ref 158) (.ref 31) = some true) (i := 8) (j := 5) rfl rfl rfl) | 4, _ => (cZ.dec (p := PySem.W.exmOne K (.ref 101) (.ref 31) = some true) (i := 8) (j := 6) rfl rfl rfl) | 5, _ => (cZ.dec (p := PySem.W.exmOne K (.ref 120) (.ref 31) = some true) (i := 8) (j := 7) rfl rfl rfl) | 6, _ => (cZ.dec (p := PySem.W.exmOne K (.ref 170) (.ref 31) = some true) (i := 8) (j := 8) rfl rfl rfl) | 7, _ => (cZ.dec (p := PySem.W.exmOne K (.ref 182) (.ref 31) = some true) (i := 8) (j := 9) rfl rfl rfl) | n + 8, h => absurd h (by omega),
    xk_NotFitting := fun c hc => match c, hc with | 0, _ => (cZ.dec (p := PySem.W.kitOne K (.ref 44) (.ref 182) = some false) (i := 8) (j := 10) rfl rfl rfl) | 1, _ => (cZ.dec (p := PySem.W.kitOne K (.ref 63) (.ref 182) = some false) (i := 8) (j := 11) rfl rfl rfl) | 2, _ => (cZ.dec (p := PySem.W.kitOne K (.ref 82) (.ref 182) = some false) (i := 8) (j := 12) rfl rfl rfl) | 3, _ => (cZ.dec (p := PySem.W.kitOne K (.ref 158) (.ref 182) = some false) (i := 8) (j := 13) rfl rfl rfl) | 4, _ => (cZ.dec (p := PySem.W.kitOne K (.ref 101) (.ref 182) = some false) (i := 8) (j := 14) rfl rfl rfl) | 5, _ => (cZ.dec (p := PySem.W.kitOne K (.ref 120) (.ref 182) = some false) (i := 8) (j := 15) rfl rfl rfl) | 6, _ => (cZ.dec (p := PySem.W.kitOne K (.ref 170) (.ref 182) = some false) (i := 8) (j := 16) rfl rfl rfl) | 7, _ => (cZ.dec (p := PySem.W.kitOne K (.ref 182) (.ref 182) = some true) (i := 8) (j := 17) rfl rfl rfl) | n + 8, h => absurd h (by omega),
    xk_Unlike := fun c hc => match c, hc with | 0, _ => (cZ.dec (p := PySem.W.kitOne K (.ref 44) (.ref 170) = some false) (i := 8) (j := 18) rfl rfl rfl) | 1, _ => (cZ.dec (p := PySem.W.kitOne K (.ref 63) (.ref 170) = some false) (i := 8) (j := 19) rfl rfl rfl) | 2, _ => (cZ.dec (p := PySem.W.kitOne K (.ref 82) (.ref 170) = some false) (i := 8) (j := 20) rfl rfl rfl) | 3, _ => (cZ.dec (p := PySem.W.kitOne K (.ref 158) (.ref 170) = some false) (i := 8) (j := 21) rfl rfl rfl) | 4, _ => (cZ.dec (p := PySem.W.kitOne K (.ref 101) (.ref 170) = some false) (i := 8) (j := 22) rfl rfl rfl) | 5, _ => (cZ.dec (p := PySem.W.kitOne K (.ref 120) (.ref 170) = some false) (i := 8) (j := 23) rfl rfl rfl) | 6, _ => (cZ.dec (p := PySem.W.kitOne K (.ref 170) (.ref 170) = some true) (i := 8) (j := 24) rfl rfl rfl) | 7, _ => (cZ.dec (p := PySem.W.kitOne K (.ref 182) (.ref 170) = some false) (i := 9) (j := 0) rfl rfl rfl) | n + 8, h => absurd h (by omega),
    xk_ValueError := fun c hc => match c, hc with | 0, _ => (cZ.dec (p := PySem.W.kitOne K (.ref 44) (.type "ValueError") = some true) (i := 9) (j := 1) rfl rfl rfl) | 1, _ => (cZ.dec (p := PySem.W.kitOne K (.ref 63) (.type "ValueError") = some true) (i := 9) (j := 2) rfl rfl rfl) | 2, _ => (cZ.dec (p := PySem.W.kitOne K (.ref 82) (.type "ValueError") = some true) (i := 9) (j := 3) rfl rfl rfl) | 3, _ => (cZ.dec (p := PySem.W.kitOne K (.ref 158) (.type "ValueError") = some true) (i := 9) (j := 4) rfl rfl rfl) | 4, _ => (cZ.dec (p := PySem.W.kitOne K (.ref 101) (.type "ValueError") = some true) (i := 9) (j := 5) rfl rfl rfl) | 5, _ => (cZ.dec (p := PySem.W.kitOne K (.ref 120) (.type "ValueError") = some true) (i := 9) (j := 6) rfl rfl rfl) | 6, _ => (cZ.dec (p := PySem.W.kitOne K (.ref 170) (.type "ValueError") = some true) (i := 9) (j := 7) rfl rfl rfl) | 7, _ => (cZ.dec (p := PySem.W.kitOne K (.ref 182) (.type "ValueError") = some true) (i := 9) (j := 8) rfl rfl rfl) | n + 8, h => absurd h (by omega),
    ik_Core := (fun ty b h => by
      unfold i_Core at h
      split at h
      · cases h; exact (cZ.dec (p := PySem.W.kitOne K (.type "NoneType") (.ref 341) = some false) (i := 9) (j := 9) rfl rfl rfl)
      · cases h; exact (cZ.dec (p := PySem.W.kitOne K (.type "bool") (.ref 341) = some false) (i := 9) (j := 10) rfl rfl rfl)
      · cases h; exact (cZ.dec (p := PySem.W.kitOne K (.type "int") (.ref 341) = some false) (i := 9) (j := 11) rfl rfl rfl)
      · cases h; exact (cZ.dec (p := PySem.W.kitOne K (.type "str") (.ref 341) = some false) (i := 9) (j := 12) rfl rfl rfl)
      · cases h; exact (cZ.dec (p := PySem.W.kitOne K (.type "tuple") (.ref 341) = some false) (i := 9) (j := 13) rfl rfl rfl)
      · cases h; exact (cZ.dec (p := PySem.W.kitOne K (.type "list") (.ref 341) = some false) (i := 9) (j := 14) rfl rfl rfl)
      · cases h; exact (cZ.dec (p := PySem.W.kitOne K (.ref 341) (.ref 341) = some true) (i := 9) (j := 15) rfl rfl rfl)
      · cases h; exact (cZ.dec (p := PySem.W.kitOne K (.ref 525) (.ref 341) = some false) (i := 9) (j := 16) rfl rfl rfl)
      · cases h),
    ic_Core := (fun c b h => by
      unfold i_Core at h
      split at h
      · rename_i e; cases e
      · rename_i e; cases e
      · rename_i e; cases e
      · rename_i e; cases e
      · rename_i e; cases e
      · rename_i e; cases e
      · rename_i e; cases e; exact ⟨⟨(cZ.fact (i := 2) (j := 16) rfl rfl : PySem.W.plainGet K 341 Str.empty = true), (cZ.fact (i := 2) (j := 17) rfl rfl : PySem.W.hasDictIn K 341 = true), (cZ.fact (i := 2) (j := 18) rfl rfl : PySem.W.plainOver K 341 = true), (cZ.dec (p := PySem.W.findIn K (.ref 341) "__setattr__" = some (some (.builtin "object.__setattr__"))) (i := 2) (j := 19) rfl rfl rfl)⟩, (cZ.dec (p := PySem.W.findIn K (.ref 341) "__class__" = some (some (.builtin "object.__class__"))) (i := 9) (j := 17) rfl rfl rfl), (cZ.dec (p := PySem.W.specialIn K (.builtin "object.__class__") "__get__" = some (some (.builtin "getset_descriptor.__get__"))) (i := 6) (j := 10) rfl rfl rfl), (cZ.dec (p := PySem.W.takesIn K (.builtin "object.__class__") = some true) (i := 6) (j := 11) rfl rfl rfl), (cZ.dec (p := PySem.W.mroIn K 341 (.type "object") = some true) (i := 9) (j := 18) rfl rfl rfl)⟩
      · rename_i e; cases e; exact ⟨⟨(cZ.fact (i := 3) (j := 2) rfl rfl : PySem.W.plainGet K 525 Str.empty = true), (cZ.fact (i := 3) (j := 3) rfl rfl : PySem.W.hasDictIn K 525 = true), (cZ.fact (i := 3) (j := 4) rfl rfl : PySem.W.plainOver K 525 = true), (cZ.dec (p := PySem.W.findIn K (.ref 525) "__setattr__" = some (some (.builtin "object.__setattr__"))) (i := 3) (j := 5) rfl rfl rfl)⟩, (cZ.dec (p := PySem.W.findIn K (.ref 525) "__class__" = some (some (.builtin "object.__class__"))) (i := 9) (j := 19) rfl rfl rfl), (cZ.dec (p := PySem.W.specialIn K (.builtin "object.__class__") "__get__" = some (some (.builtin "getset_descriptor.__get__"))) (i := 6) (j := 10) rfl rfl rfl), (cZ.dec (p := PySem.W.takesIn K (.builtin "object.__class__") = some true) (i := 6) (j := 11) rfl rfl rfl), (cZ.dec (p := PySem.W.mroIn K 525 (.type "object") = some true) (i := 9) (j := 20) rfl rfl rfl)⟩
      · cases h),
    ik_bool := (fun ty b h => by
      unfold i_bool at h
      split at h
      · cases h; exact kit_ty (by decide +kernel)
      · cases h; exact kit_ty (by decide +kernel)
      · cases h; exact kit_ty (by decide +kernel)
      · cases h; exact kit_ty (by decide +kernel)
      · cases h; exact kit_ty (by decide +kernel)
      · cases h; exact kit_ty (by decide +kernel)
      · cases h; exact (cZ.dec (p := PySem.W.kitOne K (.ref 341) (.type "bool") = some false) (i := 9) (j := 21) rfl rfl rfl)
      · cases h; exact (cZ.dec (p := PySem.W.kitOne K (.ref 525) (.type "bool") = some false) (i := 9) (j := 22) rfl rfl rfl)
      · cases h),
    ic_bool := (fun c b h => by
      unfold i_bool at h
      split at h
      · rename_i e; cases e
      · rename_i e; cases e
      · rename_i e; cases e
      · rename_i e; cases e
      · rename_i e; cases e
      · rename_i e; cases e
      · rename_i e; cases e; exact ⟨⟨(cZ.fact (i := 2) (j := 16) rfl rfl : PySem.W.plainGet K 341 Str.empty = true), (cZ.fact (i := 2) (j := 17) rfl rfl : PySem.W.hasDictIn K 341 = true), (cZ.fact (i := 2) (j := 18) rfl rfl : PySem.W.plainOver K 341 = true), (cZ.dec (p := PySem.W.findIn K (.ref 341) "__setattr__" = some (some (.builtin "object.__setattr__"))) (i := 2) (j := 19) rfl rfl rfl)⟩, (cZ.dec (p := PySem.W.findIn K (.ref 341) "__class__" = some (some (.builtin "object.__class__"))) (i := 9) (j := 17) rfl rfl rfl), (cZ.dec (p := PySem.W.specialIn K (.builtin "object.__class__") "__get__" = some (some (.builtin "getset_descriptor.__get__"))) (i := 6) (j := 10) rfl rfl rfl), (cZ.dec (p := PySem.W.takesIn K (.builtin "object.__class__") = some true) (i := 6) (j := 11) rfl rfl rfl), (cZ.dec (p := PySem.W.mroIn K 341 (.type "object") = some true) (i := 9) (j := 18) rfl rfl rfl)⟩
      · rename_i e; cases e; exact ⟨⟨(cZ.fact (i := 3) (j := 2) rfl rfl : PySem.W.plainGet K 525 Str.empty = true), (cZ.fact (i := 3) (j := 3) rfl rfl : PySem.W.hasDictIn K 525 = true), (cZ.fact (i := 3) (j := 4) rfl rfl : PySem.W.plainOver K 525 = true), (cZ.dec (p := PySem.W.findIn K (.ref 525) "__setattr__" = some (some (.builtin "object.__setattr__"))) (i := 3) (j := 5) rfl rfl rfl)⟩, (cZ.dec (p := PySem.W.findIn K (.ref 525) "__class__" = some (some (.builtin "object.__class__"))) (i := 9) (j := 19) rfl rfl rfl), (cZ.dec (p := PySem.W.specialIn K (.builtin "object.__class__") "__get__" = some (some (.builtin "getset_descriptor.__get__"))) (i := 6) (j := 10) rfl rfl rfl), (cZ.dec (p := PySem.W.takesIn K (.builtin "object.__class__") = some true) (i := 6) (j := 11) rfl rfl rfl), (cZ.dec (p := PySem.W.mroIn K 525 (.type "object") = some true) (i := 9) (j := 20) rfl rfl rfl)⟩
      · cases h),
    ik_int := (fun ty b h => by
      unfold i_int at h
      split at h
      · cases h; exact kit_ty (by decide +kernel)
      · cases h; exact kit_ty (by decide +kernel)
      · cases h; exact kit_ty (by decide +kernel)
      · cases h; exact kit_ty (by decide +kernel)
      · cases h; exact kit_ty (by decide +kernel)
      · cases h; exact kit_ty (by decide +kernel)
      · cases h; exact (cZ.dec (p := PySem.W.kitOne K (.ref 341) (.type "int") = some false) (i := 9) (j := 23) rfl rfl rfl)
      · cases h; exact (cZ.dec (p := PySem.W.kitOne K (.ref 525) (.type "int") = some false) (i := 9) (j := 24) rfl rfl rfl)
      · cases h),
    ic_int := (fun c b h => by
      unfold i_int at h
      split at h
      · rename_i e; cases e
      · rename_i e; cases e
      · rename_i e; cases e
      · rename_i e; cases e
      · rename_i e; cases e
      · rename_i e; cases e
      · rename_i e; cases e; exact ⟨⟨(cZ.fact (i := 2) (j := 16) rfl rfl : PySem.W.plainGet K 341 Str.empty = true), (cZ.fact (i := 2) (j := 17) rfl rfl : PySem.W.hasDictIn K 341 = true), (cZ.fact (i := 2) (j := 18) rfl rfl : PySem.W.plainOver K 341 = true), (cZ.dec (p := PySem.W.findIn K (.ref 341) "__setattr__" = some (some (.builtin "object.__setattr__"))) (i := 2) (j := 19) rfl rfl rfl)⟩, (cZ.dec (p := PySem.W.findIn K (.ref 341) "__class__" = some (some (.builtin "object.__class__"))) (i := 9) (j := 17) rfl rfl rfl), (cZ.dec (p := PySem.W.specialIn K (.builtin "object.__class__") "__get__" = some (some (.builtin "getset_descriptor.__get__"))) (i := 6) (j := 10) rfl rfl rfl), (cZ.dec (p := PySem.W.takesIn K (.builtin "object.__class__") = some true) (i := 6) (j := 11) rfl rfl rfl), (cZ.dec (p := PySem.W.mroIn K 341 (.type "object") = some true) (i := 9) (j := 18) rfl rfl rfl)⟩
      · rename_i e; cases e; exact ⟨⟨(cZ.fact (i := 3) (j := 2) rfl rfl : PySem.W.plainGet K 525 Str.empty = true), (cZ.fact (i := 3) (j := 3) rfl rfl : PySem.W.hasDictIn K 525 = true), (cZ.fact (i := 3) (j := 4) rfl rfl : PySem.W.plainOver K 525 = true), (cZ.dec (p := PySem.W.findIn K (.ref 525) "__setattr__" = some (some (.builtin "object.__setattr__"))) (i := 3) (j := 5) rfl rfl rfl)⟩, (cZ.dec (p := PySem.W.findIn K (.ref 525) "__class__" = some (some (.builtin "object.__class__"))) (i := 9) (j := 19) rfl rfl rfl), (cZ.dec (p := PySem.W.specialIn K (.builtin "object.__class__") "__get__" = some (some (.builtin "getset_descriptor.__get__"))) (i := 6) (j := 10) rfl rfl rfl), (cZ.dec (p := PySem.W.takesIn K (.builtin "object.__class__") = some true) (i := 6) (j := 11) rfl rfl rfl), (cZ.dec (p := PySem.W.mroIn K 525 (.type "object") = some true) (i := 9) (j := 20) rfl rfl rfl)⟩
      · cases h),
    ik_list := (fun ty b h => by
      unfold i_list at h
      split at h
      · cases h; exact kit_ty (by decide +kernel)
      · cases h; exact kit_ty (by decide +kernel)
      · cases h; exact kit_ty (by decide +kernel)
      · cases h; exact kit_ty (by decide +kernel)
      · cases h; exact kit_ty (by decide +kernel)
      · cases h; exact kit_ty (by decide +kernel)
      · cases h; exact (cZ.dec (p := PySem.W.kitOne K (.ref 341) (.type "list") = some false) (i := 10) (j := 0) rfl rfl rfl)
      · cases h; exact (cZ.dec (p := PySem.W.kitOne K (.ref 525) (.type "list") = some false) (i := 10) (j := 1) rfl rfl rfl)
      · cases h),
    ic_list := (fun c b h => by
      unfold i_list at h
      split at h
      · rename_i e; cases e
      · rename_i e; cases e
      · rename_i e; cases e
      · rename_i e; cases e
      · rename_i e; cases e
      · rename_i e; cases e
      · rename_i e; cases e; exact ⟨⟨(cZ.fact (i := 2) (j := 16) rfl rfl : PySem.W.plainGet K 341 Str.empty = true), (cZ.fact (i := 2) (j := 17) rfl rfl : PySem.W.hasDictIn K 341 = true), (cZ.fact (i := 2) (j := 18) rfl rfl : PySem.W.plainOver K 341 = true), (cZ.dec (p := PySem.W.findIn K (.ref 341) "__setattr__" = some (some (.builtin "object.__setattr__"))) (i := 2) (j := 19) rfl rfl rfl)⟩, (cZ.dec (p := PySem.W.findIn K (.ref 341) "__class__" = some (some (.builtin "object.__class__"))) (i := 9) (j := 17) rfl rfl rfl), (cZ.dec (p := PySem.W.specialIn K (.builtin "object.__class__") "__get__" = some (some (.builtin "getset_descriptor.__get__"))) (i := 6) (j := 10) rfl rfl rfl), (cZ.dec (p := PySem.W.takesIn K (.builtin "object.__class__") = some true) (i := 6) (j := 11) rfl rfl rfl), (cZ.dec (p := PySem.W.mroIn K 341 (.type "object") = some true) (i := 9) (j := 18) rfl rfl rfl)⟩
      · rename_i e; cases e; exact ⟨⟨(cZ.fact (i := 3) (j := 2) rfl rfl : PySem.W.plainGet K 525 Str.empty = true), (cZ.fact (i := 3) (j := 3) rfl rfl : PySem.W.hasDictIn K 525 = true), (cZ.fact (i := 3) (j := 4) rfl rfl : PySem.W.plainOver K 525 = true), (cZ.dec (p := PySem.W.findIn K (.ref 525) "__setattr__" = some (some (.builtin "object.__setattr__"))) (i := 3) (j := 5) rfl rfl rfl)⟩, (cZ.dec (p := PySem.W.findIn K (.ref 525) "__class__" = some (some (.builtin "object.__class__"))) (i := 9) (j := 19) rfl rfl rfl), (cZ.dec (p := PySem.W.specialIn K (.builtin "object.__class__") "__get__" = some (some (.builtin "getset_descriptor.__get__"))) (i := 6) (j := 10) rfl rfl rfl), (cZ.dec (p := PySem.W.takesIn K (.builtin "object.__class__") = some true) (i := 6) (j := 11) rfl rfl rfl), (cZ.dec (p := PySem.W.mroIn K 525 (.type "object") = some true) (i := 9) (j := 20) rfl rfl rfl)⟩
      · cases h),
    ik_tuple := (fun ty b h => by
      unfold i_tuple at h
      split at h
      · cases h; exact kit_ty (by decide +kernel)
      · cases h; exact kit_ty (by decide +kernel)
      · cases h; exact kit_ty (by decide +kernel)
      · cases h; exact kit_ty (by decide +kernel)
      · cases h; exact kit_ty (by decide +kernel)
      · cases h; exact kit_ty (by decide +kernel)
      · cases h; exact (cZ.dec (p := PySem.W.kitOne K (.ref 341) (.type "tuple") = some false) (i := 10) (j := 2) rfl rfl rfl)
      · cases h; exact (cZ.dec (p := PySem.W.kitOne K (.ref 525) (.type "tuple") = some false) (i := 10) (j := 3) rfl rfl rfl)
      · cases h),
    ic_tuple := (fun c b h => by
      unfold i_tuple at h
      split at h
      · rename_i e; cases e
      · rename_i e; cases e
      · rename_i e; cases e
      · rename_i e; cases e
      · rename_i e; cases e
      · rename_i e; cases e
      · rename_i e; cases e; exact ⟨⟨(cZ.fact (i := 2) (j := 16) rfl rfl : PySem.W.plainGet K 341 Str.empty = true), (cZ.fact (i := 2) (j := 17) rfl rfl : PySem.W.hasDictIn K 341 = true), (cZ.fact (i := 2) (j := 18) rfl rfl : PySem.W.plainOver K 341 = true), (cZ.dec (p := PySem.W.findIn K (.ref 341) "__setattr__" = some (some (.builtin "object.__setattr__"))) (i := 2) (j := 19) rfl rfl rfl)⟩, (cZ.dec (p := PySem.W.findIn K (.ref 341) "__class__" = some (some (.builtin "object.__class__"))) (i := 9) (j := 17) rfl rfl rfl), (cZ.dec (p := PySem.W.specialIn K (.builtin "object.__class__") "__get__" = some (some (.builtin "getset_descriptor.__get__"))) (i := 6) (j := 10) rfl rfl rfl), (cZ.dec (p := PySem.W.takesIn K (.builtin "object.__class__") = some true) (i := 6) (j := 11) rfl rfl rfl), (cZ.dec (p := PySem.W.mroIn K 341 (.type "object") = some true) (i := 9) (j := 18) rfl rfl rfl)⟩
      · rename_i e; cases e; exact ⟨⟨(cZ.fact (i := 3) (j := 2) rfl rfl : PySem.W.plainGet K 525 Str.empty = true), (cZ.fact (i := 3) (j := 3) rfl rfl : PySem.W.hasDictIn K 525 = true), (cZ.fact (i := 3) (j := 4) rfl rfl : PySem.W.plainOver K 525 = true), (cZ.dec (p := PySem.W.findIn K (.ref 525) "__setattr__" = some (some (.builtin "object.__setattr__"))) (i := 3) (j := 5) rfl rfl rfl)⟩, (cZ.dec (p := PySem.W.findIn K (.ref 525) "__class__" = some (some (.builtin "object.__class__"))) (i := 9) (j := 19) rfl rfl rfl), (cZ.dec (p := PySem.W.specialIn K (.builtin "object.__class__") "__get__" = some (some (.builtin "getset_descriptor.__get__"))) (i := 6) (j := 10) rfl rfl rfl), (cZ.dec (p := PySem.W.takesIn K (.builtin "object.__class__") = some true) (i := 6) (j := 11) rfl rfl rfl), (cZ.dec (p := PySem.W.mroIn K 525 (.type "object") = some true) (i := 9) (j := 20) rfl rfl rfl)⟩
      · cases h),
    d_SWAPPED := (let ⟨_, _, k, e⟩ := cZ.tab (i := 0) (t := (353, d_SWAPPED)) rfl; ⟨_, _, _, PySem.W.mg_of X G (cZ.dec (p := PySem.W.nsIn K mainGlobals "SWAPPED" = some (some (.ref 353))) (i := 10) (j := 4) rfl rfl rfl), k, e⟩) }
open PySem PySem.Spec PyProof.Rows L2 ZH
theorem all_mk {w : World} {K : PySem.W.Frag} {h : Heap} {mg : Str → Option Value} {fa : Addr} (X : K.In h) (G : h.Ns mainGlobals mg) (hfa : mg "law" = some (.ref fa)) (cZ : SaysZ fbs fnl tbs w K) :
    ∃ fd : FuncData, (∀ (s : Shared) (v : Value), BindsTo s fd ⟨[v], []⟩ [("_law_script", v)]) ∧ ∀ base : Heap, K.In base → base.Ns mainGlobals mg → FnOk PySem.Challenge.pw_siltmeet_k37_picture w K mg base (L2N.CX PySem.Challenge.pw_siltmeet_k37_picture w) 7 fa fd ["_law_script"] (spLaw K) := by
  have e := hfa.symm.trans (PySem.W.mg_of X G (cZ.dec (p := PySem.W.nsIn K mainGlobals "law" = some (some (.ref 661))) (i := 2) (j := 14) rfl rfl rfl))
  cases e
  have T := tx_mk X G cZ
  obtain ⟨fd, F⟩ := fun_z (cZ.fns (i := 40) (d := dz_40) rfl) rfl rfl
  refine ⟨fd, ?_, fun base _ _ => ?_⟩
  · exact law_binds F fun _ _ _ _ _ _ s v => .of_eq rfl
  · exact (okF_law T F).imp fun vs H Q E h => sp_law h
theorem run_f (w : World) : HandSHeadRun.RunEq RR qq hkk obk 30000 nm_all (w.withFollow "special-get-raises" false) := fun os => map_trip (ra_f w os) (rb_f_0 w os)
theorem run_t (w : World) : HandSHeadRun.RunEq RR qq hkk obk 30000 nm_all (w.withFollow "special-get-raises" true) := fun os => map_trip (ra_t w os) (rb_t_0 w os)
end ZZ
set_option Elab.async false
set_option linter.all false
set_option maxRecDepth 100000
set_option maxHeartbeats 4000000
open PySem PySem.W PyProof.Rows in
set_option maxRecDepth 100000 in
set_option maxHeartbeats 0 in
theorem PySem.Challenge.cw_siltmeet_k37_picture_holds : PySem.Challenge.rw_siltmeet_k37_picture.Holds := by
  w_on; o_law
  refine HandSHeadRun.head_any (r := OpenLaw.row PySem.Challenge.rw_siltmeet_k37_picture) (q := view (OpenLaw.row PySem.Challenge.rw_siltmeet_k37_picture).prog [52]) (H := ZZ.hkk) (ob := ZZ.obk) (M := 30000) (loose := ZZ.nm_all) (d := HandSHeadRun.topDef (OpenLaw.row PySem.Challenge.rw_siltmeet_k37_picture).prog 52) (kwd := []) ZZ.obk_eq
    (by kernel_rfl) (fun s => by kernel_rfl) (PySem.W.byRow2 "special-get-raises" (P := fun w => HandSHeadRun.RunEq ZZ.RR (PySem.W.view ZZ.RR.prog [52]) ZZ.hkk ZZ.obk 30000 ZZ.nm_all w) ZZ.run_f ZZ.run_t) (by kernel_rfl) (by kernel_rfl) (by kernel_rfl) (by rfl) (by first | assumption | decide +kernel) (by decide +kernel) ⟨rfl, rfl, rfl, rfl, rfl, by decide +kernel⟩ ?hw ?hc
  case hw => w_witness2
  case hc =>
    refine ZH.walk_ofZ (l := PySem.Challenge.rw_siltmeet_k37_picture) (n := 63) (k := 7) (x := "_law_script") (CX := fun w => L2N.CX PySem.Challenge.pw_siltmeet_k37_picture w) rfl (by decide) (by kernel_rfl) ⟨rfl, by decide, by decide⟩ ?F ?E
    case F =>
      intro w mg fa h Y G hmg0
      obtain ⟨K, KX, c⟩ := Y
      have hmg : mg ("law" : PySem.Str) = some (.ref fa) := by
        have e : (HandSHeadRun.topDef (OpenLaw.row PySem.Challenge.rw_siltmeet_k37_picture).prog 52).name = ("law" : PySem.Str) := by kernel_rfl
        rw [← e]
        exact hmg0
      obtain ⟨fd, hb, hF⟩ := ZZ.all_mk KX G hmg c
      exact ⟨K, fd, ZZ.spLaw K, KX, hb, fun H a ns hl _ hS => ⟨a, ns, rfl, hS, hl, fun _ => rfl⟩, hF⟩
    case E =>
      intro _ _ _ _ _ h
      obtain ⟨_, _, _, _, _, _, _, _, _, _, _, _, z⟩ := h
      exact z
