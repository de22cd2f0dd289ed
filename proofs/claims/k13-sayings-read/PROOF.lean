import PyProof.Rows.All
import Wide.All
import OpenK.AllK
import Wide.FinOn
import KE.KeyNested
import KE.KDictWalk
import PyProof.DictRoadsH
import PyProof.DictDisplay
import PyProof.DictTable
import HandS.ForMost
import HandS.Exc
import HandS.ExcOwn
import HandS.TryOnly
import HandS.WordsExc
import HandS.Head2
import HandS.HeadHook1
import HandS.Words
import HandS.Wide
import HandS.Style
import HandS.Flow
import HandS.ExcCtx
import PyProof.P3Eq
import HandS.RevRange
import HandS.Rev
import HandS.CallSlots
import HandS.Property
import HandS.IsInst
import HandS.ExcInit
import HandS.ExcField
import HandS.ExcIs
import HandS.HotCalls
import KE.KExcIs
import KE.KDictZip
import HandS.OwnIter
import PyProof.StrBlock2
import HandS.SlotsOwn
import KE.KOpsOwn
import HandS.Replace
import HandS.ExcInitHot
import HandS.IterNext
import HandS.IterVal
import KE.KOwnIter
import KE.KCallOwn
import KE.KRevSl
import KE.KSuper
import HandS.NestedK
import HandS.ClsMeth
import HandS.MakeKwOnly
import HandS.Star
import HandS.HeadEnd
import HandS.Steps
import HandS.Zip
import KE.GoesMore
import KE.KStar
import KE.DataCmp
import HandS.Conv
import HandS.TupLen
import HandS.SortInts
import HandS.Finally
import HandS.Deep
import HandS.OwnEq
import HandS.Defaults
import HandS.GenList
import HandS.SetFor
import HandS.FStr
import HandS.Text
import PyProof.StrLawsIn
import PySem.Challenge.RW_siltmeet_k13_sayings_written_and_read
set_option Elab.async false
set_option linter.all false
set_option maxRecDepth 100000
namespace PySem
open Sem (wp)
open SeqAt
def notText : NestedKey → Bool
  | .text _ => false
  | _ => true
/-- the value is the key -/
def KeyIs (h : Heap) (k : NestedKey) (v : Value) : Prop := NestedIs h k v ∧ k.depth ≤ 8 ∧ notText k = true
def entV (w : World) (x : NestedKey × Value × Value) : DictEntry := ⟨x.1.hash w, x.2.1, x.2.2⟩
theorem KeyIs.at {h h' : Heap} {k : NestedKey} {v : Value} (hk : ∀ a o vs n, h.get? a = some o → o.data = .seq vs n → h'.get? a = some o) (x : KeyIs h k v) : KeyIs h' k v := ⟨NestedIs.at hk _ _ x.1, x.2⟩
section
variable {prog : Program} {w : World} {A : Around} {E : Value → Shared → Prop} {s : Shared} {d : Addr} {o : Obj} {es : Array DictEntry} {ep : Nat} {xs : List (NestedKey × Value × Value)} {k : NestedKey} {key : Value}
def DictV (w : World) (h : Heap) (d : Addr) (xs : List (NestedKey × Value × Value)) : Prop :=
  ∃ o es ep, h.get? d = some o ∧ o.ExactDict ∧ o.data = .dict es ep ∧ es.toList = xs.map (entV w) ∧ (∀ x ∈ xs, KeyIs h x.1 x.2.1) ∧ (xs.map (·.1)).Nodup
theorem DictV.keep {h h' : Heap} (hm : DictV w h d xs) (hk : ∀ b o, h.get? b = some o → h'.get? b = some o) : DictV w h' d xs := by
  obtain ⟨o, es, ep, ho, hc, hd, he, his, hn⟩ := hm
  exact ⟨o, es, ep, hk _ _ ho, hc, hd, he, fun x hx => (his x hx).at (fun a o _ _ e _ => hk a o e), hn⟩
theorem KeyIs.keeps {h h' : Heap} {k : NestedKey} {v : Value} (x : KeyIs h k v) (ho : h.get? d = some o) (hd : o.data = .dict es ep) (hs : Heap.SameBut d h h') : KeyIs h' k v :=
  x.at (fun b ob vs n hb hc => by
    refine (hs.2 b fun e => ?_).trans hb
    subst e
    rw [ho] at hb
    cases hb
    rw [hd] at hc
    cases hc)
theorem DictV.new (h : Heap) : DictV w (h.push { cls := .type "dict", data := .dict #[] }) h.objs.size [] :=
  ⟨_, #[], 0, Heap.get?_push_size _ rfl, ⟨rfl, rfl, rfl⟩, rfl, rfl, fun _ hx => by simp at hx, List.nodup_nil⟩
end
end PySem
set_option Elab.async false
set_option linter.all false
set_option maxRecDepth 100000
namespace ZZ
open PySem PySem.Spec L2
inductive D where
  | non | bl (b : Bool) | int (i : Int) | str (s : Str)
  | tup (xs : List D) | lst (xs : List D)
  | ins (c : Nat) (xs : List D)
  | wl (xs : List D)
  | dct (ks vs : List D)
mutual
/-- a tree as a dict's key -/
def nk : D → Option NestedKey
  | .non => some .none
  | .bl b => some (.num (if b = true then 1 else 0))
  | .int i => some (.num i)
  | .str s => some (.text s)
  | .tup ds => (nks ds).map .tup
  | .lst _ => none
  | .ins _ _ => none
  | .wl _ => none
  | .dct _ _ => none
def nks : List D → Option (List NestedKey)
  | [] => some []
  | d :: ds => match nk d, nks ds with
    | some k, some ks => some (k :: ks)
    | _, _ => none
end
/-- a class's address; the exception that a suite holds -/
structure Zx where
  K : PySem.W.Frag
  cl : Nat → Addr
  fl : Nat → List Str
  wd : World
/-- the dict at a has these entries -/
def rawV (w : World) (a : Addr) (xs : List (NestedKey × Value × Value)) (ep : Nat) (h : Heap) : Prop := ∃ o es, h.get? a = some o ∧ o.ExactDict ∧ o.data = .dict es ep ∧ es.toList = xs.map (entV w)
/-- keys, values, entries -/
def Ent3 : List D → List V → List V → List (NestedKey × Value × Value) → Prop
  | [], [], [], [] => True
  | k :: ks, x :: kvs, y :: vvs, e :: xs => nk k = some e.1 ∧ e.1.depth ≤ 8 ∧ notText e.1 = true ∧ RelV x e.2.1 ∧ RelV y e.2.2 ∧ Ent3 ks kvs vvs xs
  | _, _, _, _ => False
/-- a dict's shape -/
def DShape (w : World) (ks : List D) (kvs vvs : List V) (a : Addr) (o : HO) : Prop := (a == sysModules) = false ∧ ks.length ≤ 16777216 ∧ ∃ xs ep, o = .ext (rawV w a xs ep) ∧ Ent3 ks kvs vvs xs ∧ (xs.map (·.1)).Nodup
structure Zy extends Zx where
  hd : Option (Addr × Nat × Option Addr)
mutual
def Rep (Z : Zx) (F : Hp) : D → V → Prop
  | .non, v => v = .non
  | .bl b, v => v = .bl b
  | .int i, v => v = .int i
  | .str s, v => v = .str s
  | .tup ds, v => ∃ a vs, v = .ref a ∧ SqT Z.K F a vs ∧ Reps Z F ds vs
  | .lst ds, v => ∃ a vs, v = .ref a ∧ F a = some (.lst vs) ∧ Reps Z F ds vs
  | .ins c ds, v => ∃ a dx fs, v = .ref a ∧ F a = some (.ins (Z.cl c) dx fs) ∧ fs.map (·.1) = Z.fl c ∧ Reps Z F ds (fs.map (·.2))
  | .wl ds, v => ∃ a vs, v = .ref a ∧ SqL Z.K F a vs ∧ Reps Z F ds vs
  | .dct ks vs, v => ∃ a o kvs vvs, v = .ref a ∧ F a = some o ∧ DShape Z.wd ks kvs vvs a o ∧ Reps Z F ks kvs ∧ Reps Z F vs vvs
def Reps (Z : Zx) (F : Hp) : List D → List V → Prop
  | [], vs => vs = []
  | d :: ds, vs => ∃ v r, vs = v :: r ∧ Rep Z F d v ∧ Reps Z F ds r
end
theorem same_seqT {K : PySem.W.Frag} {H H' : Hp} {a : Addr} {xs : List V} (e : Same H H') (h : SqT K H a xs) : SqT K H' a xs := by
  rcases h with (h | ⟨o, h⟩) | h
  · exact .inl (.inl (e _ _ h))
  · exact .inl (.inr ⟨o, e _ _ h⟩)
  · exact .inr h
section
variable {Z : Zx} {F F' : Hp}
mutual
theorem Rep.mono (e : Same F F') : ∀ {d : D} {v : V}, Rep Z F d v → Rep Z F' d v
  | .non, _, h => h
  | .bl _, _, h => h
  | .int _, _, h => h
  | .str _, _, h => h
  | .tup ds, v, h => by
    unfold Rep at h ⊢
    obtain ⟨a, vs, h1, h2, h3⟩ := h
    exact ⟨a, vs, h1, same_seqT e h2, Reps.mono e h3⟩
  | .lst ds, v, h => by
    unfold Rep at h ⊢
    obtain ⟨a, vs, h1, h2, h3⟩ := h
    exact ⟨a, vs, h1, e _ _ h2, Reps.mono e h3⟩
  | .ins c ds, v, h => by
    unfold Rep at h ⊢
    obtain ⟨a, dx, fs, h1, h2, h3, h4⟩ := h
    exact ⟨a, dx, fs, h1, e _ _ h2, h3, Reps.mono e h4⟩
  | .wl ds, v, h => by
    unfold Rep at h ⊢
    obtain ⟨a, vs, h1, h2, h3⟩ := h
    exact ⟨a, vs, h1, e.seq h2, Reps.mono e h3⟩
  | .dct ks vs, v, h => by
    unfold Rep at h ⊢
    obtain ⟨a, o, kvs, vvs, h1, h2, h3, h4, h5⟩ := h
    exact ⟨a, o, kvs, vvs, h1, e _ _ h2, h3, Reps.mono e h4, Reps.mono e h5⟩
theorem Reps.mono (e : Same F F') : ∀ {ds : List D} {vs : List V}, Reps Z F ds vs → Reps Z F' ds vs
  | [], _, h => h
  | d :: ds, vs, h => by
    unfold Reps at h ⊢
    obtain ⟨v, r, h1, h2, h3⟩ := h
    exact ⟨v, r, h1, Rep.mono e h2, Reps.mono e h3⟩
end
theorem reps_nil : Reps Z F [] [] := by unfold Reps; rfl
theorem reps_cons {d : D} {v : V} {ds : List D} {vs : List V} (h : Rep Z F d v) (h' : Reps Z F ds vs) : Reps Z F (d :: ds) (v :: vs) := by
  unfold Reps
  exact ⟨v, vs, rfl, h, h'⟩
theorem reps_cons_inv {d : D} {ds : List D} {vs : List V} (h : Reps Z F (d :: ds) vs) : ∃ v r, vs = v :: r ∧ Rep Z F d v ∧ Reps Z F ds r := by
  unfold Reps at h
  exact h
theorem reps_nil_inv {vs : List V} (h : Reps Z F [] vs) : vs = [] := by
  unfold Reps at h
  exact h
theorem Reps.length : ∀ {ds : List D} {vs : List V}, Reps Z F ds vs → ds.length = vs.length
  | [], _, h => by
    rw [reps_nil_inv h]
    rfl
  | d :: ds, vs, h => by
    obtain ⟨v, r, rfl, _, h3⟩ := reps_cons_inv h
    simp [Reps.length h3]
theorem Reps.get' : ∀ {ds : List D} {vs : List V} {i : Nat} {d : D}, Reps Z F ds vs → ds[i]? = some d → ∃ v, vs[i]? = some v ∧ Rep Z F d v
  | [], _, i, v, h, e => by simp at e
  | d :: ds, vs, 0, v, h, e => by
    obtain ⟨w, r, rfl, h2, h3⟩ := reps_cons_inv h
    simp at e
    subst e
    exact ⟨w, rfl, h2⟩
  | d :: ds, vs, i + 1, v, h, e => by
    obtain ⟨w, r, rfl, h2, h3⟩ := reps_cons_inv h
    obtain ⟨d', e1, e2⟩ := Reps.get' (i := i) h3 (by simpa using e)
    exact ⟨d', by simpa using e1, e2⟩
theorem Reps.append : ∀ {ds es : List D} {vs ws : List V}, Reps Z F ds vs → Reps Z F es ws → Reps Z F (ds ++ es) (vs ++ ws)
  | [], es, vs, ws, h, h' => by
    rw [reps_nil_inv h]
    exact h'
  | d :: ds, es, vs, ws, h, h' => by
    obtain ⟨v, r, rfl, h2, h3⟩ := reps_cons_inv h
    exact reps_cons h2 (Reps.append h3 h')
theorem Reps.take : ∀ {ds : List D} {vs : List V} (n : Nat), Reps Z F ds vs → Reps Z F (ds.take n) (vs.take n)
  | _, _, 0, _ => by simp [reps_nil]
  | [], vs, n + 1, h => by
    rw [reps_nil_inv h]
    simp [reps_nil]
  | d :: ds, vs, n + 1, h => by
    obtain ⟨v, r, rfl, h2, h3⟩ := reps_cons_inv h
    exact reps_cons h2 (Reps.take n h3)
theorem Reps.drop : ∀ {ds : List D} {vs : List V} (n : Nat), Reps Z F ds vs → Reps Z F (ds.drop n) (vs.drop n)
  | _, _, 0, h => by simpa using h
  | [], vs, n + 1, h => by
    rw [reps_nil_inv h]
    simp [reps_nil]
  | d :: ds, vs, n + 1, h => by
    obtain ⟨v, r, rfl, h2, h3⟩ := reps_cons_inv h
    simpa using Reps.drop n h3
theorem Reps.reverse : ∀ {ds : List D} {vs : List V}, Reps Z F ds vs → Reps Z F ds.reverse vs.reverse
  | [], vs, h => by
    rw [reps_nil_inv h]
    simp [reps_nil]
  | d :: ds, vs, h => by
    obtain ⟨v, r, rfl, h2, h3⟩ := reps_cons_inv h
    rw [List.reverse_cons, List.reverse_cons]
    exact Reps.append (Reps.reverse h3) (reps_cons h2 reps_nil)
theorem Reps.set : ∀ {ds : List D} {vs : List V} {d : D} {v : V} (i : Nat), Reps Z F ds vs → Rep Z F d v → Reps Z F (ds.set i d) (vs.set i v)
  | [], vs, _, _, i, h, _ => by
    rw [reps_nil_inv h]
    simp [reps_nil]
  | d :: ds, vs, _, _, 0, h, h' => by
    obtain ⟨v, r, rfl, h2, h3⟩ := reps_cons_inv h
    exact reps_cons h' h3
  | d :: ds, vs, _, _, i + 1, h, h' => by
    obtain ⟨v, r, rfl, h2, h3⟩ := reps_cons_inv h
    exact reps_cons h2 (Reps.set i h3 h')
theorem Reps.eraseIdx : ∀ {ds : List D} {vs : List V} (i : Nat), Reps Z F ds vs → Reps Z F (ds.eraseIdx i) (vs.eraseIdx i)
  | [], vs, i, h => by
    rw [reps_nil_inv h]
    simp [reps_nil]
  | d :: ds, vs, 0, h => by
    obtain ⟨v, r, rfl, h2, h3⟩ := reps_cons_inv h
    simpa using h3
  | d :: ds, vs, i + 1, h => by
    obtain ⟨v, r, rfl, h2, h3⟩ := reps_cons_inv h
    simpa using reps_cons h2 (Reps.eraseIdx i h3)
end
inductive Val where
  | im (d : D) | cell (k : Nat) | exn (c : Nat) (ds : List D)
inductive Cell where
  | dead | lst (ds : List D) | ins (c : Nat) (ds : List D) | ptr (ks : List Nat) | dct (ks vs : List D)
def ExcOk (Z : Zx) (F : Hp) (c : Nat) (ds : List D) (dx : Option Addr) : Prop :=
  (ds = [] ∧ dx = none) ∨ ∃ d fs, dx = some d ∧ F d = some (.xd fs) ∧ fs.map (·.1) = Z.fl c ∧ Reps Z F ds (fs.map (·.2))
def VRep (Z : Zy) (A : List Addr) (F : Hp) : Val → V → Prop
  | .im d, v => Rep Z.toZx F d v
  | .cell k, v => ∃ a, A[k]? = some a ∧ v = .ref a
  | .exn c ds, v => ∃ a dx, Z.hd = some (a, c, dx) ∧ v = .ref a ∧ ExcOk Z.toZx F c ds dx
/-- the cells ks stand at bs, all below k -/
def PtrL (A : List Addr) (k : Nat) : List Nat → List Addr → Prop
  | [], bs => bs = []
  | j :: js, bs => ∃ b t, bs = b :: t ∧ j < k ∧ A[j]? = some b ∧ PtrL A k js t
def CellOk (Z : Zx) (A : List Addr) (F H : Hp) (a : Addr) : Cell → Prop
  | .dead => ∃ o, H a = some o
  | .lst ds => F a = none ∧ ∃ vs, H a = some (.lst vs) ∧ Reps Z F ds vs
  | .ins c ds => F a = none ∧ ∃ dx fs, H a = some (.ins (Z.cl c) dx fs) ∧ fs.map (·.1) = (Z.fl c).take ds.length ∧ Reps Z F ds (fs.map (·.2))
  | .ptr ks => F a = none ∧ ∃ k bs, A[k]? = some a ∧ H a = some (.lst (bs.map V.ref)) ∧ PtrL A k ks bs
  | .dct ks vs => F a = none ∧ ∃ o kvs vvs, H a = some o ∧ DShape Z.wd ks kvs vvs a o ∧ Reps Z F ks kvs ∧ Reps Z F vs vvs
/-- the store: F what never changes any more, A the cells' addresses -/
structure SO (Z : Zx) (A : List Addr) (F : Hp) (ce : List Cell) (H : Hp) : Prop where
  sub : Same F H
  len : A.length = ce.length
  nd : A.Nodup
  ok : ∀ (k : Nat) (a : Addr) (c : Cell), A[k]? = some a → ce[k]? = some c → CellOk Z A F H a c
abbrev Sl : Type := List (Option Val)
structure SL (Z : Zy) (A : List Addr) (F : Hp) (sl : Sl) (σ : St) : Prop where
  len : sl.length = σ.length
  is : ∀ (i : Nat) (v : Val), sl[i]? = some (some v) → ∃ x, σ[i]? = some (some x) ∧ VRep Z A F v x
section
variable {Z : Zx} {A A' : List Addr} {F F' H : Hp} {ce : List Cell} {sl : Sl} {σ : St}
theorem ExcOk.mono {c ds dx} (e : Same F F') (h : ExcOk Z F c ds dx) : ExcOk Z F' c ds dx := by
  rcases h with h | ⟨d, fs, h1, h2, h3, h4⟩
  · exact .inl h
  · exact .inr ⟨d, fs, h1, e _ _ h2, h3, h4.mono e⟩
theorem pre_get {k : Nat} {a : Addr} (p : A <+: A') (h : A[k]? = some a) : A'[k]? = some a := by
  obtain ⟨t, rfl⟩ := p
  have := (List.getElem?_eq_some_iff.mp h).1
  rw [List.getElem?_append_left this]
  exact h
theorem VRep.mono {Z : Zy} {v : Val} {x : V} (p : A <+: A') (e : Same F F') (h : VRep Z A F v x) : VRep Z A' F' v x := by
  cases v with
  | im d => exact Rep.mono e h
  | cell k =>
    obtain ⟨a, h1, h2⟩ := h
    exact ⟨a, pre_get p h1, h2⟩
  | exn c ds =>
    obtain ⟨a, dx, h1, h2, h3⟩ := h
    exact ⟨a, dx, h1, h2, h3.mono e⟩
theorem SL.mono {Z : Zy} (p : A <+: A') (e : Same F F') (h : SL Z A F sl σ) : SL Z A' F' sl σ :=
  ⟨h.len, fun i v q => let ⟨x, h1, h2⟩ := h.is i v q; ⟨x, h1, h2.mono p e⟩⟩
theorem SL.set {Z : Zy} {i : Nat} {v : Val} {x : V} (h : SL Z A F sl σ) (hv : VRep Z A F v x) : SL Z A F (sl.set i (some v)) (σ.set i (some x)) := by
  refine ⟨by simp [h.len], fun j w q => ?_⟩
  by_cases hj : i = j
  · subst hj
    by_cases hl : i < sl.length
    · rw [List.getElem?_set_self hl] at q
      cases q
      refine ⟨x, ?_, hv⟩
      rw [List.getElem?_set_self (by rw [← h.len]; exact hl)]
    · rw [List.getElem?_eq_none (by simpa using hl)] at q
      cases q
  · rw [List.getElem?_set_ne hj] at q
    obtain ⟨y, h1, h2⟩ := h.is j w q
    exact ⟨y, by rw [List.getElem?_set_ne hj]; exact h1, h2⟩
theorem SL.gone {Z : Zy} {i : Nat} (h : SL Z A F sl σ) : SL Z A F (sl.set i none) (σ.set i none) := by
  refine ⟨by simp [h.len], fun j w q => ?_⟩
  by_cases hj : i = j
  · subst hj
    by_cases hl : i < sl.length
    · rw [List.getElem?_set_self hl] at q
      cases q
    · rw [List.getElem?_eq_none (by simpa using hl)] at q
      cases q
  · rw [List.getElem?_set_ne hj] at q
    rw [List.getElem?_set_ne hj]
    exact h.is j w q
theorem SO.tracked (s : SO Z A F ce H) {k : Nat} {a : Addr} (h : A[k]? = some a) : ∃ o, H a = some o := by
  have hl : k < ce.length := by rw [← s.len]; exact (List.getElem?_eq_some_iff.mp h).1
  have := s.ok k a ce[k] h (List.getElem?_eq_getElem hl)
  cases hc : ce[k] with
  | dead => rw [hc] at this; exact this
  | lst ds => rw [hc] at this; obtain ⟨_, vs, h1, _⟩ := this; exact ⟨_, h1⟩
  | ins c ds => rw [hc] at this; obtain ⟨_, dx, fs, h1, _⟩ := this; exact ⟨_, h1⟩
  | ptr ks => rw [hc] at this; obtain ⟨_, k, bs, _, h1, _⟩ := this; exact ⟨_, h1⟩
  | dct ks vs => rw [hc] at this; obtain ⟨_, o, kvs, vvs, h1, _⟩ := this; exact ⟨_, h1⟩
theorem PtrL.mono {k : Nat} (p : A <+: A') : ∀ {ks : List Nat} {bs : List Addr}, PtrL A k ks bs → PtrL A' k ks bs
  | [], bs, h => h
  | j :: js, bs, ⟨b, t, e, h1, h2, h3⟩ => ⟨b, t, e, h1, pre_get p h2, PtrL.mono p h3⟩
theorem SO.fnone (s : SO Z A F ce H) {p : Addr} (hp : H p = none) : F p = none := by
  cases e : F p with
  | none => rfl
  | some o => rw [s.sub _ _ e] at hp; cases hp
theorem same_up {p : Addr} {o : HO} (h : F p = none) : Same F (upd F p o) := fun b x e => by
  rw [upd_ne (ne_of_none e h)]
  exact e
theorem CellOk.mono {a : Addr} {c : Cell} {H' : Hp} (p : A <+: A') (e : Same F F') (h : CellOk Z A F H a c) (hH : H' a = H a) (hF : F a = none → F' a = none) : CellOk Z A' F' H' a c := by
  cases c with
  | dead => obtain ⟨o, h⟩ := h; exact ⟨o, by rw [hH]; exact h⟩
  | lst ds => obtain ⟨h0, vs, h1, h2⟩ := h; exact ⟨hF h0, vs, by rw [hH]; exact h1, h2.mono e⟩
  | ins c ds => obtain ⟨h0, dx, fs, h1, h2, h3⟩ := h; exact ⟨hF h0, dx, fs, by rw [hH]; exact h1, h2, h3.mono e⟩
  | ptr ks => obtain ⟨h0, k, bs, h1, h2, h3⟩ := h; exact ⟨hF h0, k, bs, pre_get p h1, by rw [hH]; exact h2, h3.mono p⟩
  | dct ks vs => obtain ⟨h0, o, kvs, vvs, h1, h2, h3, h4⟩ := h; exact ⟨hF h0, o, kvs, vvs, by rw [hH]; exact h1, h2, h3.mono e, h4.mono e⟩
theorem SO.new (s : SO Z A F ce H) {p : Addr} {o : HO} (hp : H p = none) : SO Z A (upd F p o) ce (upd H p o) := by
  have fp := s.fnone hp
  refine ⟨fun b x e => ?_, s.len, s.nd, fun k a c h1 h2 => ?_⟩
  · by_cases hb : b = p
    · subst hb
      rw [upd_same] at e ⊢
      exact e
    · rw [upd_ne hb] at e ⊢
      exact s.sub _ _ e
  · obtain ⟨u, hu⟩ := s.tracked h1
    have hne : a ≠ p := ne_of_none hu hp
    exact (s.ok k a c h1 h2).mono (List.prefix_refl _) (same_up fp) (upd_ne hne) (fun h => by rw [upd_ne hne]; exact h)
theorem SO.newCell (s : SO Z A F ce H) {p : Addr} {o : HO} {c : Cell} (hp : H p = none) (hc : CellOk Z (A ++ [p]) F (upd H p o) p c) : SO Z (A ++ [p]) F (ce ++ [c]) (upd H p o) := by
  refine ⟨fun b x e => ?_, by simp [s.len], ?_, fun k a d h1 h2 => ?_⟩
  · rw [upd_ne (ne_of_none (s.sub _ _ e) hp)]
    exact s.sub _ _ e
  · refine List.nodup_append.mpr ⟨s.nd, by simp, fun a ha b hb e => ?_⟩
    simp at hb
    subst hb
    subst e
    obtain ⟨k, hk⟩ := List.getElem?_of_mem ha
    obtain ⟨u, hu⟩ := s.tracked hk
    rw [hp] at hu
    cases hu
  · by_cases hk : k < A.length
    · rw [List.getElem?_append_left hk] at h1
      rw [List.getElem?_append_left (by rw [← s.len]; exact hk)] at h2
      obtain ⟨u, hu⟩ := s.tracked h1
      exact (s.ok k a d h1 h2).mono (List.prefix_append _ _) (Same.refl _) (upd_ne (ne_of_none hu hp)) id
    · rw [List.getElem?_append_right (by omega)] at h1
      rw [List.getElem?_append_right (by rw [← s.len]; omega), ← s.len] at h2
      have : k - A.length = 0 := by
        have := (List.getElem?_eq_some_iff.mp h1).1
        simp at this
        omega
      rw [this] at h1 h2
      simp at h1 h2
      subst h1 h2
      exact hc
theorem SO.write (s : SO Z A F ce H) {k : Nat} {a : Addr} {o : HO} {c : Cell} (hk : A[k]? = some a) (hf : F a = none) (hc : CellOk Z A F (upd H a o) a c) : SO Z A F (ce.set k c) (upd H a o) := by
  refine ⟨fun b x e => ?_, by simp [s.len], s.nd, fun j b d h1 h2 => ?_⟩
  · rw [upd_ne (ne_of_none e hf)]
    exact s.sub _ _ e
  · by_cases hj : k = j
    · subst hj
      rw [hk] at h1
      cases h1
      have hl : k < ce.length := by rw [← s.len]; exact (List.getElem?_eq_some_iff.mp hk).1
      rw [List.getElem?_set_self hl] at h2
      cases h2
      exact hc
    · rw [List.getElem?_set_ne hj] at h2
      have hne : b ≠ a := fun e => by
        subst e
        exact hj ((List.getElem?_inj (List.getElem?_eq_some_iff.mp hk).1 s.nd).mp (hk.trans h1.symm))
      exact (s.ok j b d h1 h2).mono (List.prefix_refl _) (Same.refl _) (upd_ne hne) id
theorem SO.freeze (s : SO Z A F ce H) {k : Nat} {a : Addr} {o : HO} (hk : A[k]? = some a) (hf : F a = none) (ho : H a = some o) : SO Z A (upd F a o) (ce.set k .dead) H := by
  refine ⟨fun b x e => ?_, by simp [s.len], s.nd, fun j b d h1 h2 => ?_⟩
  · by_cases hb : b = a
    · subst hb
      rw [upd_same] at e
      cases e
      exact ho
    · rw [upd_ne hb] at e
      exact s.sub _ _ e
  · by_cases hj : k = j
    · subst hj
      rw [hk] at h1
      cases h1
      have hl : k < ce.length := by rw [← s.len]; exact (List.getElem?_eq_some_iff.mp hk).1
      rw [List.getElem?_set_self hl] at h2
      cases h2
      exact ⟨o, ho⟩
    · rw [List.getElem?_set_ne hj] at h2
      have hne : b ≠ a := fun e => by
        subst e
        exact hj ((List.getElem?_inj (List.getElem?_eq_some_iff.mp hk).1 s.nd).mp (hk.trans h1.symm))
      exact (s.ok j b d h1 h2).mono (List.prefix_refl _) (same_up hf) rfl (fun h => by rw [upd_ne hne]; exact h)
end
inductive EOut where
  | ok (v : Val) (ce : List Cell) | exc (c : Nat) (ds : List D) (ce : List Cell) | stuck
abbrev DE := Sl → List Cell → EOut
def PostE (Z : Zy) (A : List Addr) (F : Hp) (W : WX) (σ : St) (Q : VK) : EOut → Prop
  | .ok v ce => ∀ A' F' H' x, A <+: A' → Same F F' → SO Z.toZx A' F' ce H' → VRep Z A' F' v x → Q x H'
  | .exc c ds ce => ∀ A' F' H' dx, A <+: A' → Same F F' → SO Z.toZx A' F' ce H' → ExcOk Z.toZx F' c ds dx → W (.ref (Z.cl c)) dx σ H'
  | .stuck => False
def tE (Z : Zy) (W : WX) (f : DE) : TE := fun σ H Q => ∃ A F sl ce, SO Z.toZx A F ce H ∧ SL Z A F sl σ ∧ PostE Z A F W σ Q (f sl ce)
def eBind (f : DE) (k : Val → DE) : DE := fun sl ce => match f sl ce with
  | .ok v ce' => k v sl ce'
  | .exc c ds ce' => .exc c ds ce'
  | .stuck => .stuck
section
variable {Z : Zy} {A A' : List Addr} {F F' H : Hp} {ce : List Cell} {sl : Sl} {σ : St} {W : WX} {Q Q' : VK}
theorem PostE.mono {r : EOut} (p : A <+: A') (e : Same F F') (h : PostE Z A F W σ Q r) : PostE Z A' F' W σ Q r := by
  cases r with
  | ok v ce => exact fun A2 F2 H2 x p2 e2 => h A2 F2 H2 x (p.trans p2) (e.trans e2)
  | exc c ds ce => exact fun A2 F2 H2 x p2 e2 => h A2 F2 H2 x (p.trans p2) (e.trans e2)
  | stuck => exact h
theorem PostE.imp {r : EOut} (hq : ∀ x H, Q x H → Q' x H) (h : PostE Z A F W σ Q r) : PostE Z A F W σ Q' r := by
  cases r with
  | ok v ce => exact fun A2 F2 H2 x p2 e2 s r => hq _ _ (h A2 F2 H2 x p2 e2 s r)
  | exc c ds ce => exact h
  | stuck => exact h
/-- the state behind: grown, with the store -/
theorem PostE.bind {f : DE} {k : Val → DE} (so : SO Z.toZx A F ce H) (hs : SL Z A F sl σ) (h : PostE Z A F W σ Q (eBind f k sl ce)) :
    PostE Z A F W σ (fun x H1 => ∃ A1 F1 ce1 v, A <+: A1 ∧ Same F F1 ∧ SO Z.toZx A1 F1 ce1 H1 ∧ VRep Z A1 F1 v x ∧ PostE Z A1 F1 W σ Q (k v sl ce1)) (f sl ce) := by
  unfold eBind at h
  cases e : f sl ce with
  | ok v ce1 =>
    rw [e] at h
    exact fun A1 F1 H1 x p1 e1 s1 r1 => ⟨A1, F1, ce1, v, p1, e1, s1, r1, PostE.mono p1 e1 h⟩
  | exc c ds ce1 =>
    rw [e] at h
    exact h
  | stuck =>
    rw [e] at h
    exact h.elim
theorem tE_imp {f : DE} (hq : ∀ x H, Q x H → Q' x H) (h : tE Z W f σ H Q) : tE Z W f σ H Q' := by
  obtain ⟨A, F, sl, ce, so, hs, p⟩ := h
  exact ⟨A, F, sl, ce, so, hs, p.imp hq⟩
/-- one operand -/
theorem tE1 {f : DE} {k : Val → DE} (h : tE Z W (eBind f k) σ H Q) :
    tE Z W f σ H fun x H1 => ∃ A F sl ce v, SO Z.toZx A F ce H1 ∧ SL Z A F sl σ ∧ VRep Z A F v x ∧ PostE Z A F W σ Q (k v sl ce) := by
  obtain ⟨A, F, sl, ce, so, hs, p⟩ := h
  refine ⟨A, F, sl, ce, so, hs, (PostE.bind so hs p).imp fun x H1 ⟨A1, F1, ce1, v, p1, e1, s1, r1, q1⟩ => ⟨A1, F1, sl, ce1, v, s1, hs.mono p1 e1, r1, q1⟩⟩
/-- two operands -/
theorem tE2 {f g : DE} {k : Val → Val → DE} (h : tE Z W (eBind f fun v => eBind g (k v)) σ H Q) :
    tE Z W f σ H fun x H1 => tE Z W g σ H1 fun y H2 => ∃ A F sl ce v u, SO Z.toZx A F ce H2 ∧ SL Z A F sl σ ∧ VRep Z A F v x ∧ VRep Z A F u y ∧ PostE Z A F W σ Q (k v u sl ce) := by
  refine tE_imp (fun x H1 ⟨A, F, sl, ce, v, so, hs, r, p⟩ => ?_) (tE1 h)
  refine ⟨A, F, sl, ce, so, hs, (PostE.bind so hs p).imp fun y H2 ⟨A1, F1, ce1, u, p1, e1, s1, r1, q1⟩ => ⟨A1, F1, sl, ce1, v, u, s1, hs.mono p1 e1, r.mono p1 e1, r1, q1⟩⟩
end
theorem _root_.L2.PE.weak {X : Cx} {e : Expr} {t t' : TE} (h : PE X e t) (hw : ∀ σ H Q, t' σ H Q → t σ H Q) : PE X e t' :=
  ⟨fun pins s σ H Q I q => h.run pins s σ H Q I (hw σ H Q q)⟩
theorem _root_.L2.PT.weak {X : Cx} {e : Expr} {t t' : TT} (h : PT X e t) (hw : ∀ σ H Q, t' σ H Q → t σ H Q) : PT X e t' :=
  ⟨fun pins s σ H Q I q => h.run pins s σ H Q I (hw σ H Q q)⟩
theorem _root_.L2.PA.weak {X : Cx} {e : List Expr} {t t' : TA} (h : PA X e t) (hw : ∀ σ H Q, t' σ H Q → t σ H Q) : PA X e t' :=
  ⟨fun pos pins s σ H Q I q => h.run pos pins s σ H Q I (hw σ H Q q)⟩
theorem _root_.L2.PS.weak {X : Cx} {e : Stmt} {t t' : TS} (h : PS X e t) (hw : ∀ D σ H, t' D σ H → t D σ H) : PS X e t' :=
  ⟨fun pins s σ H D I q => h.run pins s σ H D I (hw D σ H q)⟩
theorem _root_.L2.PSs.weak {X : Cx} {e : List Stmt} {t t' : TS} (h : PSs X e t) (hw : ∀ D σ H, t' D σ H → t D σ H) : PSs X e t' :=
  ⟨fun pins s σ H D I q => h.run pins s σ H D I (hw D σ H q)⟩
end ZZ
set_option Elab.async false
set_option linter.all false
set_option maxRecDepth 100000
namespace ZH
open PySem PySem.Spec PyProof.Rows L2 ZZ
abbrev Fr : Type := PySem.W.Frag
theorem ba {a b : Bool} (h : (a && b) = true) : a = true ∧ b = true := Bool.and_eq_true_iff.mp h
abbrev FnO : Type := Option (Str × Str × Arguments × FuncBody × Scope × Addr × List (Str × Addr) × Addr)
def fnO (K : Fr) (a : Addr) : FnO := match K.lookup a with
  | some ⟨_, _, .func fd, _⟩ => some (fd.name, fd.qualname, fd.params, fd.body, fd.scope, fd.globals, fd.closure, fd.builtins)
  | _ => none
structure DefZ where
  a : Addr
  name : Str
  qual : Str
  st : Stmt
  cda : Addr
  clo : List (Str × Addr) := []
  dfl : Option Addr := none
  kwd : Option Addr := none
def DefZ.val (d : DefZ) : FnO := some (d.name, d.qual, defArgs d.st, .stmts (defBody d.st), defScope d.st, mainGlobals, d.clo, builtinsNs)
def vO : Option Addr → Value
  | none => .none
  | some a => .ref a
def DefZ.ok (K : Fr) (d : DefZ) : Bool := PySem.W.keepIn K (.ref d.a) && (match K.lookup d.a with
  | some ⟨_, _, .func fd, _⟩ => PySem.W.codeIn K (.ref d.cda) d.qual && (decide (fd.code = .ref d.cda) && (decide (fd.defaults = vO d.dfl) && decide (fd.kwdefaults = vO d.kwd)))
  | _ => false)
/-- what a def's place holds -/
def FnAt (K : Fr) (d : DefZ) : Prop := ∃ oc od doc pm an ct osl, K.lookup d.a = some ⟨oc, od, .func { name := d.name, qualname := d.qual, params := defArgs d.st, body := .stmts (defBody d.st), scope := defScope d.st, globals := mainGlobals, closure := d.clo, defaults := vO d.dfl, kwdefaults := vO d.kwd, doc, pyModule := pm, annotations := an, code := .ref d.cda, closureTuple := ct, builtins := builtinsNs }, osl⟩ ∧ PySem.W.codeIn K (.ref d.cda) d.qual = true ∧ PySem.W.keepIn K (.ref d.a) = true
theorem fn_at {K : Fr} {d : DefZ} (e : fnO K d.a = d.val) (c : d.ok K = true) : FnAt K d := by
  obtain ⟨kp, c2⟩ := ba c
  unfold fnO at e
  cases q : K.lookup d.a with
  | none =>
    rw [q] at c2
    cases c2
  | some o =>
    obtain ⟨oc, od, dt, osl⟩ := o
    rw [q] at c2 e
    cases dt with
    | func fd =>
      obtain ⟨n1, n2, n3, n4, n5, n6, n7, n8, n9, n10, n11, n12, n13, n14, n15⟩ := fd
      have e2 : (some (n1, n2, n3, n4, n5, n6, n7, n15) : FnO) = some (d.name, d.qual, defArgs d.st, .stmts (defBody d.st), defScope d.st, mainGlobals, d.clo, builtinsNs) := e
      simp only [Option.some.injEq, Prod.mk.injEq] at e2
      obtain ⟨h1, h2, h3, h4, h5, h6, h7, h8⟩ := e2
      subst h1 h2 h3 h4 h5 h6 h7 h8
      obtain ⟨c3, c4⟩ := ba (show (PySem.W.codeIn K (.ref d.cda) d.qual && (decide (n13 = .ref d.cda) && (decide (n8 = vO d.dfl) && decide (n9 = vO d.kwd)))) = true from c2)
      obtain ⟨c5, c6⟩ := ba c4
      obtain ⟨c7, c8⟩ := ba c6
      have e5 := of_decide_eq_true c5
      have e7 := of_decide_eq_true c7
      have e8 := of_decide_eq_true c8
      subst e5 e7 e8
      exact ⟨oc, od, n10, n11, n12, n14, osl, q, c3, kp⟩
    | _ => cases c2
def valD : Value → Option D
  | .str s _ => some (.str s)
  | .int i _ => some (.int i)
  | .none => some .non
  | _ => none
abbrev EnO : Type := Option (Str × Int × Option D)
def enO (e : DictEntry) : EnO := match e.key with
  | .str x _ => some (x, e.hash, valD e.val)
  | _ => none
def enV (P : Params) (q : Str × D) : EnO := some (q.1, PyData.keyHash P q.1, some q.2)
def tbO (K : Fr) (a : Addr) : Option (List EnO) := match K.lookup a with
  | some ⟨.type c, none, .dict es _, sl⟩ => (match decide (c = "dict") && (sl.isEmpty && !(a == sysModules)) with
    | true => some (es.toList.map enO)
    | false => none)
  | _ => none
abbrev Tab : Type := Addr × List (Str × D)
abbrev AlZ : Type := Bool × List FnO × List (Option (List EnO))
abbrev Bs : Type := List (List (Fr → Bool))
def obsZ (bs : Bs) (fn : List DefZ) (tb : List Tab) (K : Fr) : AlZ := ((bs.all fun l => l.all fun f => f K) && fn.all fun d => d.ok K, fn.map (fun d => fnO K d.a), tb.map fun t => tbO K t.1)
def valZ (fn : List DefZ) (tb : List Tab) (w : World) : AlZ := (true, fn.map DefZ.val, tb.map fun t => some (t.2.map (enV w.params)))
def SaysZ (bs : Bs) (fn : List DefZ) (tb : List Tab) (w : World) (K : Fr) : Prop := obsZ bs fn tb K = valZ fn tb w
def obsZG (as : List Addr) (bs : Bs) (fn : List DefZ) (tb : List Tab) (g : Addr → Option Obj) : AlZ := obsZ bs fn tb (He.frG g as)
def hookZ (as : List Addr) (bs : Bs) (fn : List DefZ) (tb : List Tab) : PySem.W.Hook where
  α := AlZ
  obs := fun s => obsZG as bs fn tb s.heap.get?
  val := fun w => valZ fn tb w
  says := fun w h => ∃ K : Fr, K.In h ∧ SaysZ bs fn tb w K
  of := fun _ _ e => ⟨_, He.frG_in, e⟩
  keeps := fun _ _ _ ⟨K, hK, c⟩ k => ⟨K, PySem.W.Frag.In.keeps hK k, c⟩
theorem obsZG_eq {as : List Addr} {bs : Bs} {fn : List DefZ} {tb : List Tab} {g : Addr → Option Obj} {s : Shared} (h : ∀ a, g a = s.heap.get? a) : obsZG as bs fn tb g = (hookZ as bs fn tb).obs s := by
  have e : g = s.heap.get? := funext h
  rw [e] <;> rfl
section
variable {bs : Bs} {fn : List DefZ} {tb : List Tab} {w : World} {K : Fr}
theorem SaysZ.fact (c : SaysZ bs fn tb w K) {i j : Nat} {l : List (Fr → Bool)} {f : Fr → Bool} (h1 : bs[i]? = some l) (h2 : l[j]? = some f) : f K = true := by
  have c1 := (ba (show ((bs.all fun l => l.all fun f => f K) && fn.all fun d => d.ok K) = true from congrArg (fun z : AlZ => z.1) c)).1
  exact List.all_eq_true.mp (List.all_eq_true.mp c1 l (List.mem_of_getElem? h1)) f (List.mem_of_getElem? h2)
theorem SaysZ.dec (c : SaysZ bs fn tb w K) {i j : Nat} {l : List (Fr → Bool)} {p : Prop} [Decidable p] {f : Fr → Bool} (h1 : bs[i]? = some l) (h2 : l[j]? = some f) (e : f K = decide p) : p := of_decide_eq_true (e.symm.trans (c.fact h1 h2))
theorem SaysZ.fns (c : SaysZ bs fn tb w K) {i : Nat} {d : DefZ} (h : fn[i]? = some d) : FnAt K d := by
  have c2 := (ba (show ((bs.all fun l => l.all fun f => f K) && fn.all fun d => d.ok K) = true from congrArg (fun z : AlZ => z.1) c)).2
  have e : fn.map (fun d => fnO K d.a) = fn.map DefZ.val := congrArg (fun z : AlZ => z.2.1) c
  have e2 : (fn.map fun d => fnO K d.a)[i]? = (fn.map DefZ.val)[i]? := by rw [e]
  rw [List.getElem?_map, List.getElem?_map, h] at e2
  exact fn_at (Option.some.inj e2) (List.all_eq_true.mp c2 d (List.mem_of_getElem? h))
end
/-- defaults: a tuple of these -/
def relFB : D → Value → Bool
  | .int i, .int j _ => decide (i = j)
  | .str s, .str t _ => decide (s = t)
  | .non, .none => true
  | .bl b, .bool c => b == c
  | _, _ => false
/-- in a class's body, with the cell of super -/
def cellB (K : Fr) (cc D : Addr) : Bool := match K.lookup cc with
  | some ⟨_, _, .cell (some (.ref d)), _⟩ => decide (d = D)
  | _ => false
def fileB (K : Fr) (cda : Addr) (file : Str) : Bool := match K.lookup cda with
  | some ⟨_, _, .fields vs, _⟩ => (match vs[2]? with
    | some (Value.str f _) => decide (f = file)
    | _ => false)
  | _ => false
def supB (K : Fr) (d : DefZ) (cc D : Addr) (file : Str) : Bool := cellB K cc D && (fileB K d.cda file && (PySem.W.clsIn K D).isSome)
def excB (K : Fr) (C : Addr) : Bool := match K.lookup C with
  | some ⟨.type t, _, .cls cd, sl⟩ => decide (t = "type") && (cd.hasDict && (!cd.hasDel && ((match cd.mro with
    | .ref c :: bm => decide (c = C) && PySem.HandSPX.refsVE bm
    | _ => false) && (match sl.toList with
    | [_, _, _, _, some (.builtin id), _] => decide (id = "ValueError.__new__")
    | _ => false))))
  | _ => false
def strB (K : Fr) (x s : Str) : Bool := match PySem.W.nsIn K mainGlobals x with
  | some (some (.str y _)) => decide (y = s)
  | _ => false
/-- a class's constant text, read off an instance -/
def conB (K : Fr) (C : Addr) (a s : Str) : Bool := match PySem.W.findIn K (.ref C) a with
  | some (some (.str y t)) => decide (y = s) && decide (PySem.W.specialIn K (.str y t) "__get__" = some none)
  | _ => false
/-- a class's constant, read off the class -/
def cvB (K : Fr) (C : Addr) (a : Str) (d : D) : Bool := match PySem.W.findCls K (.ref C) (.type "type") a with
  | some (.val u) => relFB d u
  | _ => false
theorem map_trip {α β δ γ : Type} {e : Option γ} {f : γ → α} {g : γ → β} {k : γ → δ} {a : α} {b : β} {c : δ} (h1 : e.map (fun s => (f s, g s)) = some (a, b)) (h2 : e.map k = some c) : e.map (fun s => (f s, g s, k s)) = some (a, b, c) := by
  cases e with
  | none => cases h1
  | some s => cases h1; cases h2; rfl
end ZH
set_option Elab.async false
set_option linter.all false
set_option maxRecDepth 100000
set_option maxHeartbeats 4000000
namespace ZZ
open PySem PySem.Spec L2
def top (i : Nat) : Stmt := PySem.Challenge.pw_siltmeet_k13_sayings_written_and_read.main.body.getD i (.Pass ⟨0, 0, 0, 0⟩)
abbrev s_BadText___init__ : Stmt := inClass (top 2) 0
abbrev s_BadRecord___init__ : Stmt := inClass (top 3) 0
abbrev s_parse_number : Stmt := top 7
abbrev n_parse_number : List Str := ["word", "char"]
abbrev s_Saying___init___at_Older : Stmt := inClass (top 9) 1
abbrev n_Saying___init___at_Older : List Str := ["self", "left", "right"]
abbrev s_Saying___init___at_Younger : Stmt := inClass (top 9) 1
abbrev n_Saying___init___at_Younger : List Str := ["self", "left", "right"]
abbrev s_Saying___init___at_One : Stmt := inClass (top 9) 1
abbrev n_Saying___init___at_One : List Str := ["self", "left", "right"]
abbrev s_Saying___init___at_NotOlder : Stmt := inClass (top 9) 1
abbrev n_Saying___init___at_NotOlder : List Str := ["self", "left", "right"]
abbrev s_Saying___init___at_NotYounger : Stmt := inClass (top 9) 1
abbrev n_Saying___init___at_NotYounger : List Str := ["self", "left", "right"]
abbrev s_Saying_lets : Stmt := inClass (top 9) 4
abbrev s_NotOlder_lets : Stmt := inClass (top 11) 1
abbrev s_NotYounger_lets : Stmt := inClass (top 10) 1
abbrev s_Older_lets : Stmt := inClass (top 12) 1
abbrev s_Younger_lets : Stmt := inClass (top 13) 1
abbrev s_One_lets : Stmt := inClass (top 14) 1
abbrev s_Saying___eq__ : Stmt := inClass (top 9) 3
abbrev n_Saying___eq__ : List Str := ["self", "other"]
abbrev s_Saying_written : Stmt := inClass (top 9) 5
abbrev n_Saying_written : List Str := ["self"]
abbrev s_made_saying : Stmt := top 15
abbrev n_made_saying : List Str := ["word", "left", "right"]
abbrev s_read_saying : Stmt := top 16
abbrev n_read_saying : List Str := ["text", "words", "numbers", "index", "word", "number"]
abbrev s__law_mix : Stmt := top 18
abbrev n__law_mix : List Str := ["_law_cell", "_law_turn", "_law_number_here"]
abbrev s__law_pool : Stmt := top 19
abbrev n__law_pool : List Str := ["_law_script", "_law_many", "_law_pool_here", "_law_seed", "_law_k", "_law_rest", "_law_great", "_law_turn"]
abbrev s__law_draw : Stmt := top 20
abbrev n__law_draw : List Str := ["_law_pool_here", "_law_bound"]
abbrev s__law_number : Stmt := top 21
abbrev n__law_number : List Str := ["_law_pool_here", "_law_shape", "_law_number_here", "_law_turn"]
abbrev s__law_whole : Stmt := top 22
abbrev n__law_whole : List Str := ["_law_number_here"]
abbrev s__law_saying : Stmt := top 24
abbrev n__law_saying : List Str := ["_law_item"]
abbrev s__law_is : Stmt := top 23
abbrev n__law_is : List Str := ["_law_value_here", "_law_due_here"]
abbrev s__law_class : Stmt := top 25
abbrev n__law_class : List Str := ["_law_saying_here", "_law_flags"]
abbrev s__law_said : Stmt := top 26
abbrev n__law_said : List Str := ["_law_saying_here", "_law_item"]
abbrev s__law_char : Stmt := top 27
abbrev n__law_char : List Str := ["_law_number_here", "_law_chars"]
abbrev s__law_value : Stmt := top 28
abbrev n__law_value : List Str := ["_law_word", "_law_char_here"]
abbrev s__law_odd : Stmt := top 29
abbrev n__law_odd : List Str := ["_law_number_here", "_law_words"]
abbrev s__law_spoiled : Stmt := top 30
abbrev n__law_spoiled : List Str := ["_law_pool_here", "_law_words", "_law_at", "_law_shape", "_law_old", "_law_place", "_law_odd_here", "_law_char_here"]
abbrev s__law_due : Stmt := top 31
abbrev n__law_due : List Str := ["_law_parts", "_law_words"]
abbrev s__law_base : Stmt := top 32
abbrev n__law_base : List Str := ["_law_text", "e"]
abbrev s__law_right : Stmt := top 33
abbrev n__law_right : List Str := ["_law_text", "_law_parts", "_law_due_here", "_law_told", "_law_saying_here", "e"]
abbrev s_law : Stmt := top 34
abbrev n_law : List Str := ["_law_script", "_law_pool_here", "_law_words", "_law_item", "_law_text", "_law_saying_here", "_law_again", "_law_parts", "_law_turn", "_law_shape", "_law_great"]
end ZZ
set_option Elab.async false
set_option linter.all false
set_option maxRecDepth 100000
set_option maxHeartbeats 4000000
namespace ZZ
open PySem PySem.Spec L2
open ZH PyProof.Rows
abbrev dz_0 : DefZ := { a := 82, name := "parse_number", qual := "parse_number", st := s_parse_number, cda := 81, clo := [], dfl := none, kwd := none }
abbrev dz_1 : DefZ := { a := 96, name := "__init__", qual := "Saying.__init__", st := s_Saying___init___at_Older, cda := 95, clo := [], dfl := none, kwd := none }
abbrev dz_2 : DefZ := { a := 96, name := "__init__", qual := "Saying.__init__", st := s_Saying___init___at_Younger, cda := 95, clo := [], dfl := none, kwd := none }
abbrev dz_3 : DefZ := { a := 96, name := "__init__", qual := "Saying.__init__", st := s_Saying___init___at_One, cda := 95, clo := [], dfl := none, kwd := none }
abbrev dz_4 : DefZ := { a := 96, name := "__init__", qual := "Saying.__init__", st := s_Saying___init___at_NotOlder, cda := 95, clo := [], dfl := none, kwd := none }
abbrev dz_5 : DefZ := { a := 96, name := "__init__", qual := "Saying.__init__", st := s_Saying___init___at_NotYounger, cda := 95, clo := [], dfl := none, kwd := none }
abbrev dz_6 : DefZ := { a := 117, name := "lets", qual := "Saying.lets", st := s_Saying_lets, cda := 116, clo := [], dfl := none, kwd := none }
abbrev dz_7 : DefZ := { a := 182, name := "lets", qual := "NotOlder.lets", st := s_NotOlder_lets, cda := 181, clo := [(("__class__" : Str), 170)], dfl := none, kwd := none }
abbrev dz_8 : DefZ := { a := 147, name := "lets", qual := "NotYounger.lets", st := s_NotYounger_lets, cda := 146, clo := [(("__class__" : Str), 135)], dfl := none, kwd := none }
abbrev dz_9 : DefZ := { a := 217, name := "lets", qual := "Older.lets", st := s_Older_lets, cda := 216, clo := [(("__class__" : Str), 205)], dfl := none, kwd := none }
abbrev dz_10 : DefZ := { a := 252, name := "lets", qual := "Younger.lets", st := s_Younger_lets, cda := 251, clo := [(("__class__" : Str), 240)], dfl := none, kwd := none }
abbrev dz_11 : DefZ := { a := 287, name := "lets", qual := "One.lets", st := s_One_lets, cda := 286, clo := [(("__class__" : Str), 275)], dfl := none, kwd := none }
abbrev dz_12 : DefZ := { a := 110, name := "__eq__", qual := "Saying.__eq__", st := s_Saying___eq__, cda := 109, clo := [], dfl := none, kwd := none }
abbrev dz_13 : DefZ := { a := 124, name := "written", qual := "Saying.written", st := s_Saying_written, cda := 123, clo := [], dfl := none, kwd := none }
abbrev dz_14 : DefZ := { a := 313, name := "made_saying", qual := "made_saying", st := s_made_saying, cda := 312, clo := [], dfl := none, kwd := none }
abbrev dz_15 : DefZ := { a := 320, name := "read_saying", qual := "read_saying", st := s_read_saying, cda := 319, clo := [], dfl := none, kwd := none }
abbrev dz_16 : DefZ := { a := 327, name := "_law_mix", qual := "_law_mix", st := s__law_mix, cda := 326, clo := [], dfl := none, kwd := none }
abbrev dz_17 : DefZ := { a := 334, name := "_law_pool", qual := "_law_pool", st := s__law_pool, cda := 333, clo := [], dfl := none, kwd := none }
abbrev dz_18 : DefZ := { a := 341, name := "_law_draw", qual := "_law_draw", st := s__law_draw, cda := 340, clo := [], dfl := none, kwd := none }
abbrev dz_19 : DefZ := { a := 348, name := "_law_number", qual := "_law_number", st := s__law_number, cda := 347, clo := [], dfl := none, kwd := none }
abbrev dz_20 : DefZ := { a := 355, name := "_law_whole", qual := "_law_whole", st := s__law_whole, cda := 354, clo := [], dfl := none, kwd := none }
abbrev dz_21 : DefZ := { a := 369, name := "_law_saying", qual := "_law_saying", st := s__law_saying, cda := 368, clo := [], dfl := none, kwd := none }
abbrev dz_22 : DefZ := { a := 362, name := "_law_is", qual := "_law_is", st := s__law_is, cda := 361, clo := [], dfl := none, kwd := none }
abbrev dz_23 : DefZ := { a := 376, name := "_law_class", qual := "_law_class", st := s__law_class, cda := 375, clo := [], dfl := none, kwd := none }
abbrev dz_24 : DefZ := { a := 383, name := "_law_said", qual := "_law_said", st := s__law_said, cda := 382, clo := [], dfl := none, kwd := none }
abbrev dz_25 : DefZ := { a := 390, name := "_law_char", qual := "_law_char", st := s__law_char, cda := 389, clo := [], dfl := none, kwd := none }
abbrev dz_26 : DefZ := { a := 397, name := "_law_value", qual := "_law_value", st := s__law_value, cda := 396, clo := [], dfl := none, kwd := none }
abbrev dz_27 : DefZ := { a := 404, name := "_law_odd", qual := "_law_odd", st := s__law_odd, cda := 403, clo := [], dfl := none, kwd := none }
abbrev dz_28 : DefZ := { a := 411, name := "_law_spoiled", qual := "_law_spoiled", st := s__law_spoiled, cda := 410, clo := [], dfl := none, kwd := none }
abbrev dz_29 : DefZ := { a := 418, name := "_law_due", qual := "_law_due", st := s__law_due, cda := 417, clo := [], dfl := none, kwd := none }
abbrev dz_30 : DefZ := { a := 425, name := "_law_base", qual := "_law_base", st := s__law_base, cda := 424, clo := [], dfl := none, kwd := none }
abbrev dz_31 : DefZ := { a := 432, name := "_law_right", qual := "_law_right", st := s__law_right, cda := 431, clo := [], dfl := none, kwd := none }
abbrev dz_32 : DefZ := { a := 439, name := "law", qual := "law", st := s_law, cda := 438, clo := [], dfl := none, kwd := none }
abbrev dz_33 : DefZ := { a := 41, name := "__init__", qual := "BadText.__init__", st := s_BadText___init__, cda := 40, clo := [], dfl := none, kwd := none }
abbrev dz_34 : DefZ := { a := 60, name := "__init__", qual := "BadRecord.__init__", st := s_BadRecord___init__, cda := 59, clo := [], dfl := none, kwd := none }
abbrev dz_35 : DefZ := { a := 439, name := "law", qual := "law", st := s_law, cda := 438, clo := [], dfl := none, kwd := none }
abbrev fnl : List DefZ := [dz_0, dz_1, dz_2, dz_3, dz_4, dz_5, dz_6, dz_7, dz_8, dz_9, dz_10, dz_11, dz_12, dz_13, dz_14, dz_15, dz_16, dz_17, dz_18, dz_19, dz_20, dz_21, dz_22, dz_23, dz_24, dz_25, dz_26, dz_27, dz_28, dz_29, dz_30, dz_31, dz_32, dz_33, dz_34, dz_35]
def fb_0 : List (Fr → Bool) := [fun K => decide (PySem.W.nsIn K mainGlobals "ValueError" = some none),
  fun K => decide (PySem.W.nsIn K mainGlobals "abs" = some none),
  fun K => decide (PySem.W.nsIn K mainGlobals "all" = some none),
  fun K => decide (PySem.W.nsIn K mainGlobals "bool" = some none),
  fun K => decide (PySem.W.nsIn K mainGlobals "enumerate" = some none),
  fun K => decide (PySem.W.nsIn K mainGlobals "int" = some none),
  fun K => decide (PySem.W.nsIn K mainGlobals "isinstance" = some none),
  fun K => decide (PySem.W.nsIn K mainGlobals "len" = some none),
  fun K => decide (PySem.W.nsIn K mainGlobals "list" = some none),
  fun K => decide (PySem.W.nsIn K mainGlobals "min" = some none),
  fun K => decide (PySem.W.nsIn K mainGlobals "range" = some none),
  fun K => decide (PySem.W.nsIn K mainGlobals "str" = some none),
  fun K => decide (PySem.W.nsIn K mainGlobals "super" = some none),
  fun K => decide (PySem.W.nsIn K mainGlobals "parse_number" = some (some (.ref 82))),
  fun K => supB K dz_7 170 199 PySem.Challenge.pw_siltmeet_k13_sayings_written_and_read.main.file,
  fun K => supB K dz_8 135 164 PySem.Challenge.pw_siltmeet_k13_sayings_written_and_read.main.file,
  fun K => supB K dz_9 205 234 PySem.Challenge.pw_siltmeet_k13_sayings_written_and_read.main.file,
  fun K => supB K dz_10 240 269 PySem.Challenge.pw_siltmeet_k13_sayings_written_and_read.main.file,
  fun K => supB K dz_11 275 304 PySem.Challenge.pw_siltmeet_k13_sayings_written_and_read.main.file,
  fun K => decide (PySem.W.nsIn K mainGlobals "made_saying" = some (some (.ref 313))),
  fun K => decide (PySem.W.nsIn K mainGlobals "read_saying" = some (some (.ref 320))),
  fun K => decide (PySem.W.nsIn K mainGlobals "_law_mix" = some (some (.ref 327))),
  fun K => decide (PySem.W.nsIn K mainGlobals "_law_pool" = some (some (.ref 334))),
  fun K => decide (PySem.W.nsIn K mainGlobals "_law_draw" = some (some (.ref 341))),
  fun K => decide (PySem.W.nsIn K mainGlobals "_law_number" = some (some (.ref 348)))]
def fb_1 : List (Fr → Bool) := [fun K => decide (PySem.W.nsIn K mainGlobals "_law_whole" = some (some (.ref 355))),
  fun K => decide (PySem.W.nsIn K mainGlobals "_law_saying" = some (some (.ref 369))),
  fun K => decide (PySem.W.nsIn K mainGlobals "_law_is" = some (some (.ref 362))),
  fun K => decide (PySem.W.nsIn K mainGlobals "_law_class" = some (some (.ref 376))),
  fun K => decide (PySem.W.nsIn K mainGlobals "_law_said" = some (some (.ref 383))),
  fun K => decide (PySem.W.nsIn K mainGlobals "_law_char" = some (some (.ref 390))),
  fun K => decide (PySem.W.nsIn K mainGlobals "_law_value" = some (some (.ref 397))),
  fun K => decide (PySem.W.nsIn K mainGlobals "_law_odd" = some (some (.ref 404))),
  fun K => decide (PySem.W.nsIn K mainGlobals "_law_spoiled" = some (some (.ref 411))),
  fun K => decide (PySem.W.nsIn K mainGlobals "_law_due" = some (some (.ref 418))),
  fun K => decide (PySem.W.nsIn K mainGlobals "_law_base" = some (some (.ref 425))),
  fun K => decide (PySem.W.nsIn K mainGlobals "_law_right" = some (some (.ref 432))),
  fun K => decide (PySem.W.nsIn K mainGlobals "law" = some (some (.ref 439))),
  fun K => decide (PySem.W.nsIn K mainGlobals "Older" = some (some (.ref 234))),
  fun K => PySem.W.plainGet K 234 Str.empty,
  fun K => PySem.W.hasDictIn K 234,
  fun K => PySem.W.plainOver K 234,
  fun K => decide (PySem.W.findIn K (.ref 234) "__setattr__" = some (some (.builtin "object.__setattr__"))),
  fun K => decide (PySem.W.findIn K (.ref 234) "left" = some none),
  fun K => decide (PySem.W.findIn K (.ref 234) "right" = some none),
  fun K => PySem.W.makesIn K 234,
  fun K => decide (PySem.W.findIn K (.ref 234) "__init__" = some (some (.ref 96))),
  fun K => PySem.W.isFn K (.ref 96),
  fun K => PySem.W.keepIn K (.ref 234),
  fun K => decide (PySem.W.nsIn K mainGlobals "Younger" = some (some (.ref 269)))]
def fb_2 : List (Fr → Bool) := [fun K => PySem.W.plainGet K 269 Str.empty,
  fun K => PySem.W.hasDictIn K 269,
  fun K => PySem.W.plainOver K 269,
  fun K => decide (PySem.W.findIn K (.ref 269) "__setattr__" = some (some (.builtin "object.__setattr__"))),
  fun K => decide (PySem.W.findIn K (.ref 269) "left" = some none),
  fun K => decide (PySem.W.findIn K (.ref 269) "right" = some none),
  fun K => PySem.W.makesIn K 269,
  fun K => decide (PySem.W.findIn K (.ref 269) "__init__" = some (some (.ref 96))),
  fun K => PySem.W.isFn K (.ref 96),
  fun K => PySem.W.keepIn K (.ref 269),
  fun K => decide (PySem.W.nsIn K mainGlobals "One" = some (some (.ref 304))),
  fun K => PySem.W.plainGet K 304 Str.empty,
  fun K => PySem.W.hasDictIn K 304,
  fun K => PySem.W.plainOver K 304,
  fun K => decide (PySem.W.findIn K (.ref 304) "__setattr__" = some (some (.builtin "object.__setattr__"))),
  fun K => decide (PySem.W.findIn K (.ref 304) "left" = some none),
  fun K => decide (PySem.W.findIn K (.ref 304) "right" = some none),
  fun K => PySem.W.makesIn K 304,
  fun K => decide (PySem.W.findIn K (.ref 304) "__init__" = some (some (.ref 96))),
  fun K => PySem.W.isFn K (.ref 96),
  fun K => PySem.W.keepIn K (.ref 304),
  fun K => decide (PySem.W.nsIn K mainGlobals "NotOlder" = some (some (.ref 199))),
  fun K => PySem.W.plainGet K 199 Str.empty,
  fun K => PySem.W.hasDictIn K 199,
  fun K => PySem.W.plainOver K 199]
def fb_3 : List (Fr → Bool) := [fun K => decide (PySem.W.findIn K (.ref 199) "__setattr__" = some (some (.builtin "object.__setattr__"))),
  fun K => decide (PySem.W.findIn K (.ref 199) "left" = some none),
  fun K => decide (PySem.W.findIn K (.ref 199) "right" = some none),
  fun K => PySem.W.makesIn K 199,
  fun K => decide (PySem.W.findIn K (.ref 199) "__init__" = some (some (.ref 96))),
  fun K => PySem.W.isFn K (.ref 96),
  fun K => PySem.W.keepIn K (.ref 199),
  fun K => decide (PySem.W.nsIn K mainGlobals "NotYounger" = some (some (.ref 164))),
  fun K => PySem.W.plainGet K 164 Str.empty,
  fun K => PySem.W.hasDictIn K 164,
  fun K => PySem.W.plainOver K 164,
  fun K => decide (PySem.W.findIn K (.ref 164) "__setattr__" = some (some (.builtin "object.__setattr__"))),
  fun K => decide (PySem.W.findIn K (.ref 164) "left" = some none),
  fun K => decide (PySem.W.findIn K (.ref 164) "right" = some none),
  fun K => PySem.W.makesIn K 164,
  fun K => decide (PySem.W.findIn K (.ref 164) "__init__" = some (some (.ref 96))),
  fun K => PySem.W.isFn K (.ref 96),
  fun K => PySem.W.keepIn K (.ref 164),
  fun K => decide (PySem.W.nsIn K mainGlobals "SiltError" = some (some (.ref 24))),
  fun K => decide (PySem.W.nsIn K mainGlobals "Saying" = some (some (.ref 127))),
  fun K => decide (PySem.W.findIn K (.ref 127) "lets" = some (some (.ref 117))),
  fun K => decide (PySem.W.ks_superIn K 199 199 "lets" = some (some (.ref 117))),
  fun K => decide (PySem.W.typeIn K (.ref 117) = some (.type "function")),
  fun K => decide (PySem.W.mroIn K 199 (.ref 199) = some true),
  fun K => PySem.W.fnIn K 117]
def fb_4 : List (Fr → Bool) := [fun K => decide (PySem.W.ks_superIn K 269 199 "lets" = some (some (.ref 117))),
  fun K => decide (PySem.W.mroIn K 269 (.ref 199) = some true),
  fun K => decide (PySem.W.ks_superIn K 304 199 "lets" = some (some (.ref 117))),
  fun K => decide (PySem.W.mroIn K 304 (.ref 199) = some true),
  fun K => decide (PySem.W.ks_superIn K 164 164 "lets" = some (some (.ref 117))),
  fun K => decide (PySem.W.mroIn K 164 (.ref 164) = some true),
  fun K => decide (PySem.W.ks_superIn K 234 164 "lets" = some (some (.ref 117))),
  fun K => decide (PySem.W.mroIn K 234 (.ref 164) = some true),
  fun K => decide (PySem.W.findIn K (.ref 199) "lets" = some (some (.ref 182))),
  fun K => decide (PySem.W.ks_superIn K 304 164 "lets" = some (some (.ref 182))),
  fun K => decide (PySem.W.typeIn K (.ref 182) = some (.type "function")),
  fun K => decide (PySem.W.mroIn K 304 (.ref 164) = some true),
  fun K => PySem.W.fnIn K 182,
  fun K => decide (PySem.W.findIn K (.ref 164) "lets" = some (some (.ref 147))),
  fun K => decide (PySem.W.ks_superIn K 234 234 "lets" = some (some (.ref 147))),
  fun K => decide (PySem.W.typeIn K (.ref 147) = some (.type "function")),
  fun K => decide (PySem.W.mroIn K 234 (.ref 234) = some true),
  fun K => PySem.W.fnIn K 147,
  fun K => decide (PySem.W.ks_superIn K 269 269 "lets" = some (some (.ref 182))),
  fun K => decide (PySem.W.mroIn K 269 (.ref 269) = some true),
  fun K => decide (PySem.W.ks_superIn K 304 304 "lets" = some (some (.ref 147))),
  fun K => decide (PySem.W.mroIn K 304 (.ref 304) = some true),
  fun K => decide (PySem.W.findIn K (.ref 234) "written" = some (some (.ref 124))),
  fun K => PySem.W.isFn K (.ref 124),
  fun K => PySem.W.keepIn K (.ref 124)]
def fb_5 : List (Fr → Bool) := [fun K => decide (PySem.W.findIn K (.ref 269) "written" = some (some (.ref 124))),
  fun K => decide (PySem.W.findIn K (.ref 304) "written" = some (some (.ref 124))),
  fun K => decide (PySem.W.findIn K (.ref 199) "written" = some (some (.ref 124))),
  fun K => decide (PySem.W.findIn K (.ref 164) "written" = some (some (.ref 124))),
  fun K => decide (PySem.W.findIn K (.ref 234) "__eq__" = some (some (.ref 110))),
  fun K => decide (PySem.W.findIn K (.ref 269) "__eq__" = some (some (.ref 110))),
  fun K => decide (PySem.W.findIn K (.ref 304) "__eq__" = some (some (.ref 110))),
  fun K => decide (PySem.W.findIn K (.ref 199) "__eq__" = some (some (.ref 110))),
  fun K => decide (PySem.W.findIn K (.ref 164) "__eq__" = some (some (.ref 110))),
  fun K => PySem.W.isFn K (.ref 110),
  fun K => decide (PySem.W.mroIn K 269 (.ref 234) = some false),
  fun K => decide (PySem.W.mroIn K 304 (.ref 234) = some false),
  fun K => decide (PySem.W.mroIn K 199 (.ref 234) = some false),
  fun K => decide (PySem.W.mroIn K 164 (.ref 234) = some false),
  fun K => decide (PySem.W.mroIn K 234 (.ref 269) = some false),
  fun K => decide (PySem.W.mroIn K 304 (.ref 269) = some false),
  fun K => decide (PySem.W.mroIn K 199 (.ref 269) = some false),
  fun K => decide (PySem.W.mroIn K 164 (.ref 269) = some false),
  fun K => decide (PySem.W.mroIn K 234 (.ref 304) = some false),
  fun K => decide (PySem.W.mroIn K 269 (.ref 304) = some false),
  fun K => decide (PySem.W.mroIn K 199 (.ref 304) = some false),
  fun K => decide (PySem.W.mroIn K 164 (.ref 304) = some false),
  fun K => decide (PySem.W.mroIn K 234 (.ref 199) = some false),
  fun K => decide (PySem.W.mroIn K 164 (.ref 199) = some false),
  fun K => decide (PySem.W.mroIn K 269 (.ref 164) = some false)]
def fb_6 : List (Fr → Bool) := [fun K => decide (PySem.W.mroIn K 199 (.ref 164) = some false),
  fun K => conB K 234 "WORD" "older",
  fun K => conB K 269 "WORD" "younger",
  fun K => conB K 304 "WORD" "one",
  fun K => conB K 199 "WORD" "not-older",
  fun K => conB K 164 "WORD" "not-younger",
  fun K => strB K "DIGITS" "0123456789",
  fun K => PySem.W.readsIn K 199 (.type "type"),
  fun K => decide (PySem.W.specialIn K (.ref 199) "__getattribute__" = some (some (.builtin "type.__getattribute__"))),
  fun K => cvB K 199 "WORD" (.str "not-older"),
  fun K => PySem.W.readsIn K 164 (.type "type"),
  fun K => decide (PySem.W.specialIn K (.ref 164) "__getattribute__" = some (some (.builtin "type.__getattribute__"))),
  fun K => cvB K 164 "WORD" (.str "not-younger"),
  fun K => PySem.W.readsIn K 234 (.type "type"),
  fun K => decide (PySem.W.specialIn K (.ref 234) "__getattribute__" = some (some (.builtin "type.__getattribute__"))),
  fun K => cvB K 234 "WORD" (.str "older"),
  fun K => PySem.W.readsIn K 304 (.type "type"),
  fun K => decide (PySem.W.specialIn K (.ref 304) "__getattribute__" = some (some (.builtin "type.__getattribute__"))),
  fun K => cvB K 304 "WORD" (.str "one"),
  fun K => PySem.W.readsIn K 269 (.type "type"),
  fun K => decide (PySem.W.specialIn K (.ref 269) "__getattribute__" = some (some (.builtin "type.__getattribute__"))),
  fun K => cvB K 269 "WORD" (.str "younger"),
  fun K => decide (PySem.W.nsIn K cStatics "thirdparty.any" = some none),
  fun K => decide (PySem.W.nsIn K mainGlobals "BadText" = some (some (.ref 44))),
  fun K => PySem.W.keepIn K (.ref 44)]
def fb_7 : List (Fr → Bool) := [fun K => decide (PySem.W.subIn K (.ref 44) (.type "BaseException") = some true),
  fun K => decide (PySem.W.typeIn K (.ref 44) = some (.type "type")),
  fun K => decide (PySem.W.findIn K (.ref 44) "__setattr__" = some (some (.builtin "object.__setattr__"))),
  fun K => excB K 44,
  fun K => decide (PySem.W.findIn K (.ref 44) "__init__" = some (some (.ref 41))),
  fun K => decide (PySem.W.typeIn K (.ref 41) = some (.type "function")),
  fun K => decide (PySem.W.findIn K (.ref 44) "word" = some none),
  fun K => decide (PySem.W.nsIn K mainGlobals "BadRecord" = some (some (.ref 63))),
  fun K => PySem.W.keepIn K (.ref 63),
  fun K => decide (PySem.W.subIn K (.ref 63) (.type "BaseException") = some true),
  fun K => decide (PySem.W.typeIn K (.ref 63) = some (.type "type")),
  fun K => decide (PySem.W.findIn K (.ref 63) "__setattr__" = some (some (.builtin "object.__setattr__"))),
  fun K => excB K 63,
  fun K => decide (PySem.W.findIn K (.ref 63) "__init__" = some (some (.ref 60))),
  fun K => decide (PySem.W.typeIn K (.ref 60) = some (.type "function")),
  fun K => decide (PySem.W.findIn K (.ref 63) "index" = some none),
  fun K => decide (PySem.W.nsIn K mainGlobals "NoContrary" = some (some (.ref 75))),
  fun K => PySem.W.keepIn K (.ref 75),
  fun K => decide (PySem.W.subIn K (.ref 75) (.type "BaseException") = some true),
  fun K => decide (PySem.W.typeIn K (.ref 75) = some (.type "type")),
  fun K => PySem.W.excIn K 75 [.type "ValueError", .type "Exception", .type "BaseException", .type "object"] "ValueError.__new__",
  fun K => decide (PySem.W.specialIn K (.builtin "object.__class__") "__get__" = some (some (.builtin "getset_descriptor.__get__"))),
  fun K => decide (PySem.W.takesIn K (.builtin "object.__class__") = some true),
  fun K => decide (PySem.W.findIn K (.ref 44) "__getattribute__" = some (some (.builtin "BaseException.__getattribute__"))),
  fun K => decide (PySem.W.findIn K (.ref 44) "__getattr__" = some none)]
def fb_8 : List (Fr → Bool) := [fun K => PySem.W.hasDictIn K 44,
  fun K => decide (PySem.W.findIn K (.ref 44) "__class__" = some (some (.builtin "object.__class__"))),
  fun K => decide (PySem.W.mroIn K 44 (.type "object") = some true),
  fun K => decide (PySem.W.findIn K (.ref 63) "__getattribute__" = some (some (.builtin "BaseException.__getattribute__"))),
  fun K => decide (PySem.W.findIn K (.ref 63) "__getattr__" = some none),
  fun K => PySem.W.hasDictIn K 63,
  fun K => decide (PySem.W.findIn K (.ref 63) "__class__" = some (some (.builtin "object.__class__"))),
  fun K => decide (PySem.W.mroIn K 63 (.type "object") = some true),
  fun K => decide (PySem.W.findIn K (.ref 75) "__getattribute__" = some (some (.builtin "BaseException.__getattribute__"))),
  fun K => decide (PySem.W.findIn K (.ref 75) "__getattr__" = some none),
  fun K => PySem.W.hasDictIn K 75,
  fun K => decide (PySem.W.findIn K (.ref 75) "__class__" = some (some (.builtin "object.__class__"))),
  fun K => decide (PySem.W.mroIn K 75 (.type "object") = some true),
  fun K => decide (PySem.W.exmOne K (.ref 44) (.ref 44) = some true),
  fun K => decide (PySem.W.exmOne K (.ref 63) (.ref 44) = some false),
  fun K => decide (PySem.W.exmOne K (.ref 75) (.ref 44) = some false),
  fun K => decide (PySem.W.exmOne K (.ref 44) (.ref 24) = some true),
  fun K => decide (PySem.W.exmOne K (.ref 63) (.ref 24) = some true),
  fun K => decide (PySem.W.exmOne K (.ref 75) (.ref 24) = some true),
  fun K => decide (PySem.W.kitOne K (.ref 44) (.ref 63) = some false),
  fun K => decide (PySem.W.kitOne K (.ref 63) (.ref 63) = some true),
  fun K => decide (PySem.W.kitOne K (.ref 75) (.ref 63) = some false),
  fun K => decide (PySem.W.kitOne K (.ref 44) (.ref 44) = some true),
  fun K => decide (PySem.W.kitOne K (.ref 63) (.ref 44) = some false),
  fun K => decide (PySem.W.kitOne K (.ref 75) (.ref 44) = some false)]
def fb_9 : List (Fr → Bool) := [fun K => decide (PySem.W.kitOne K (.ref 44) (.type "ValueError") = some true),
  fun K => decide (PySem.W.kitOne K (.ref 63) (.type "ValueError") = some true),
  fun K => decide (PySem.W.kitOne K (.ref 75) (.type "ValueError") = some true),
  fun K => decide (PySem.W.kitOne K (.type "NoneType") (.ref 199) = some false),
  fun K => decide (PySem.W.kitOne K (.type "bool") (.ref 199) = some false),
  fun K => decide (PySem.W.kitOne K (.type "int") (.ref 199) = some false),
  fun K => decide (PySem.W.kitOne K (.type "str") (.ref 199) = some false),
  fun K => decide (PySem.W.kitOne K (.type "tuple") (.ref 199) = some false),
  fun K => decide (PySem.W.kitOne K (.type "list") (.ref 199) = some false),
  fun K => decide (PySem.W.kitOne K (.ref 234) (.ref 199) = some false),
  fun K => decide (PySem.W.kitOne K (.ref 269) (.ref 199) = some true),
  fun K => decide (PySem.W.kitOne K (.ref 304) (.ref 199) = some true),
  fun K => decide (PySem.W.kitOne K (.ref 199) (.ref 199) = some true),
  fun K => decide (PySem.W.kitOne K (.ref 164) (.ref 199) = some false),
  fun K => decide (PySem.W.findIn K (.ref 234) "__class__" = some (some (.builtin "object.__class__"))),
  fun K => decide (PySem.W.mroIn K 234 (.type "object") = some true),
  fun K => decide (PySem.W.findIn K (.ref 269) "__class__" = some (some (.builtin "object.__class__"))),
  fun K => decide (PySem.W.mroIn K 269 (.type "object") = some true),
  fun K => decide (PySem.W.findIn K (.ref 304) "__class__" = some (some (.builtin "object.__class__"))),
  fun K => decide (PySem.W.mroIn K 304 (.type "object") = some true),
  fun K => decide (PySem.W.findIn K (.ref 199) "__class__" = some (some (.builtin "object.__class__"))),
  fun K => decide (PySem.W.mroIn K 199 (.type "object") = some true),
  fun K => decide (PySem.W.findIn K (.ref 164) "__class__" = some (some (.builtin "object.__class__"))),
  fun K => decide (PySem.W.mroIn K 164 (.type "object") = some true),
  fun K => decide (PySem.W.kitOne K (.type "NoneType") (.ref 164) = some false)]
def fb_10 : List (Fr → Bool) := [fun K => decide (PySem.W.kitOne K (.type "bool") (.ref 164) = some false),
  fun K => decide (PySem.W.kitOne K (.type "int") (.ref 164) = some false),
  fun K => decide (PySem.W.kitOne K (.type "str") (.ref 164) = some false),
  fun K => decide (PySem.W.kitOne K (.type "tuple") (.ref 164) = some false),
  fun K => decide (PySem.W.kitOne K (.type "list") (.ref 164) = some false),
  fun K => decide (PySem.W.kitOne K (.ref 234) (.ref 164) = some true),
  fun K => decide (PySem.W.kitOne K (.ref 269) (.ref 164) = some false),
  fun K => decide (PySem.W.kitOne K (.ref 304) (.ref 164) = some true),
  fun K => decide (PySem.W.kitOne K (.ref 199) (.ref 164) = some false),
  fun K => decide (PySem.W.kitOne K (.ref 164) (.ref 164) = some true),
  fun K => decide (PySem.W.kitOne K (.type "NoneType") (.ref 234) = some false),
  fun K => decide (PySem.W.kitOne K (.type "bool") (.ref 234) = some false),
  fun K => decide (PySem.W.kitOne K (.type "int") (.ref 234) = some false),
  fun K => decide (PySem.W.kitOne K (.type "str") (.ref 234) = some false),
  fun K => decide (PySem.W.kitOne K (.type "tuple") (.ref 234) = some false),
  fun K => decide (PySem.W.kitOne K (.type "list") (.ref 234) = some false),
  fun K => decide (PySem.W.kitOne K (.ref 234) (.ref 234) = some true),
  fun K => decide (PySem.W.kitOne K (.ref 269) (.ref 234) = some false),
  fun K => decide (PySem.W.kitOne K (.ref 304) (.ref 234) = some false),
  fun K => decide (PySem.W.kitOne K (.ref 199) (.ref 234) = some false),
  fun K => decide (PySem.W.kitOne K (.ref 164) (.ref 234) = some false),
  fun K => decide (PySem.W.kitOne K (.type "NoneType") (.ref 304) = some false),
  fun K => decide (PySem.W.kitOne K (.type "bool") (.ref 304) = some false),
  fun K => decide (PySem.W.kitOne K (.type "int") (.ref 304) = some false),
  fun K => decide (PySem.W.kitOne K (.type "str") (.ref 304) = some false)]
def fb_11 : List (Fr → Bool) := [fun K => decide (PySem.W.kitOne K (.type "tuple") (.ref 304) = some false),
  fun K => decide (PySem.W.kitOne K (.type "list") (.ref 304) = some false),
  fun K => decide (PySem.W.kitOne K (.ref 234) (.ref 304) = some false),
  fun K => decide (PySem.W.kitOne K (.ref 269) (.ref 304) = some false),
  fun K => decide (PySem.W.kitOne K (.ref 304) (.ref 304) = some true),
  fun K => decide (PySem.W.kitOne K (.ref 199) (.ref 304) = some false),
  fun K => decide (PySem.W.kitOne K (.ref 164) (.ref 304) = some false),
  fun K => decide (PySem.W.kitOne K (.type "NoneType") (.ref 127) = some false),
  fun K => decide (PySem.W.kitOne K (.type "bool") (.ref 127) = some false),
  fun K => decide (PySem.W.kitOne K (.type "int") (.ref 127) = some false),
  fun K => decide (PySem.W.kitOne K (.type "str") (.ref 127) = some false),
  fun K => decide (PySem.W.kitOne K (.type "tuple") (.ref 127) = some false),
  fun K => decide (PySem.W.kitOne K (.type "list") (.ref 127) = some false),
  fun K => decide (PySem.W.kitOne K (.ref 234) (.ref 127) = some true),
  fun K => decide (PySem.W.kitOne K (.ref 269) (.ref 127) = some true),
  fun K => decide (PySem.W.kitOne K (.ref 304) (.ref 127) = some true),
  fun K => decide (PySem.W.kitOne K (.ref 199) (.ref 127) = some true),
  fun K => decide (PySem.W.kitOne K (.ref 164) (.ref 127) = some true),
  fun K => decide (PySem.W.kitOne K (.type "NoneType") (.ref 269) = some false),
  fun K => decide (PySem.W.kitOne K (.type "bool") (.ref 269) = some false),
  fun K => decide (PySem.W.kitOne K (.type "int") (.ref 269) = some false),
  fun K => decide (PySem.W.kitOne K (.type "str") (.ref 269) = some false),
  fun K => decide (PySem.W.kitOne K (.type "tuple") (.ref 269) = some false),
  fun K => decide (PySem.W.kitOne K (.type "list") (.ref 269) = some false),
  fun K => decide (PySem.W.kitOne K (.ref 234) (.ref 269) = some false)]
def fb_12 : List (Fr → Bool) := [fun K => decide (PySem.W.kitOne K (.ref 269) (.ref 269) = some true),
  fun K => decide (PySem.W.kitOne K (.ref 304) (.ref 269) = some false),
  fun K => decide (PySem.W.kitOne K (.ref 199) (.ref 269) = some false),
  fun K => decide (PySem.W.kitOne K (.ref 164) (.ref 269) = some false),
  fun K => decide (PySem.W.kitOne K (.ref 234) (.type "bool") = some false),
  fun K => decide (PySem.W.kitOne K (.ref 269) (.type "bool") = some false),
  fun K => decide (PySem.W.kitOne K (.ref 304) (.type "bool") = some false),
  fun K => decide (PySem.W.kitOne K (.ref 199) (.type "bool") = some false),
  fun K => decide (PySem.W.kitOne K (.ref 164) (.type "bool") = some false),
  fun K => decide (PySem.W.kitOne K (.ref 234) (.type "int") = some false),
  fun K => decide (PySem.W.kitOne K (.ref 269) (.type "int") = some false),
  fun K => decide (PySem.W.kitOne K (.ref 304) (.type "int") = some false),
  fun K => decide (PySem.W.kitOne K (.ref 199) (.type "int") = some false),
  fun K => decide (PySem.W.kitOne K (.ref 164) (.type "int") = some false),
  fun K => decide (PySem.W.kitOne K (.ref 234) (.type "str") = some false),
  fun K => decide (PySem.W.kitOne K (.ref 269) (.type "str") = some false),
  fun K => decide (PySem.W.kitOne K (.ref 304) (.type "str") = some false),
  fun K => decide (PySem.W.kitOne K (.ref 199) (.type "str") = some false),
  fun K => decide (PySem.W.kitOne K (.ref 164) (.type "str") = some false)]
abbrev fbp_0 : Bs := [fb_0, fb_1, fb_2, fb_3, fb_4, fb_5, fb_6, fb_7, fb_8, fb_9, fb_10, fb_11, fb_12]
abbrev fbs : Bs := fbp_0
abbrev tbs : List ZH.Tab := []
def as_0 : List Addr := [3, 2, 24, 44, 63, 75, 127, 164, 199, 234, 269, 304, 0, 1, 6, 17, 23, 30, 43, 49, 62, 68, 74, 85, 126, 134, 163, 169, 198, 204, 233, 239, 268, 274, 303, 135, 170, 205, 240, 275]
def as_1 : List Addr := [9, 13, 16, 20, 25, 26, 27, 29, 33, 40, 41, 45, 46, 48, 52, 59, 60, 64, 65, 67, 71, 76, 77, 81, 82, 84, 88, 95, 96, 102, 103, 109, 110, 116, 117, 123, 124, 128, 129, 130]
def as_2 : List Addr := [131, 133, 138, 146, 147, 153, 154, 160, 161, 165, 166, 168, 173, 181, 182, 188, 189, 195, 196, 200, 201, 203, 208, 216, 217, 223, 224, 230, 231, 235, 236, 238, 243, 251, 252, 258, 259, 265, 266, 270]
def as_3 : List Addr := [271, 273, 278, 286, 287, 293, 294, 300, 301, 305, 306, 312, 313, 319, 320, 326, 327, 333, 334, 340, 341, 347, 348, 354, 355, 361, 362, 368, 369, 375, 376, 382, 383, 389, 390, 396, 397, 403, 404, 410]
def as_4 : List Addr := [411, 417, 418, 424, 425, 431, 432, 438, 439, 7, 11, 15, 18, 22, 28, 31, 35, 37, 38, 42, 47, 50, 54, 56, 57, 61, 66, 69, 73, 78, 83, 86, 90, 92, 93, 97, 99, 100, 104, 106]
def as_5 : List Addr := [107, 111, 113, 114, 118, 120, 121, 125, 132, 136, 140, 141, 143, 144, 148, 150, 151, 155, 157, 158, 162, 167, 171, 175, 176, 178, 179, 183, 185, 186, 190, 192, 193, 197, 202, 206, 210, 211, 213, 214]
def as_6 : List Addr := [218, 220, 221, 225, 227, 228, 232, 237, 241, 245, 246, 248, 249, 253, 255, 256, 260, 262, 263, 267, 272, 276, 280, 281, 283, 284, 288, 290, 291, 295, 297, 298, 302, 307, 309, 310, 314, 316, 317, 321]
def as_7 : List Addr := [323, 324, 328, 330, 331, 335, 337, 338, 342, 344, 345, 349, 351, 352, 356, 358, 359, 363, 365, 366, 370, 372, 373, 377, 379, 380, 384, 386, 387, 391, 393, 394, 398, 400, 401, 405, 407, 408, 412, 414]
def as_8 : List Addr := [415, 419, 421, 422, 426, 428, 429, 433, 435, 436]
def as_all : List Addr := as_0 ++ (as_1 ++ (as_2 ++ (as_3 ++ (as_4 ++ (as_5 ++ (as_6 ++ (as_7 ++ (as_8))))))))
def nm_0 : List PySem.Str := ["SiltError", "BadText", "BadRecord", "NoContrary", "DIGITS", "parse_number", "Saying", "NotYounger", "NotOlder", "Older", "Younger", "One", "made_saying", "read_saying", "_law_mix", "_law_pool", "_law_draw", "_law_number", "_law_whole", "_law_is", "_law_saying", "_law_class", "_law_said", "_law_char", "_law_value", "_law_odd", "_law_spoiled", "_law_due", "_law_base", "_law_right"]
def nm_all : List PySem.Str := nm_0
abbrev RR : PySem.W.OpenRow := PySem.W.OpenLaw.row PySem.Challenge.rw_siltmeet_k13_sayings_written_and_read
abbrev qq : Program := PySem.W.view RR.prog [34]
abbrev hkk : PySem.W.Hook := hookZ as_all fbs fnl tbs
noncomputable def obk (s : PySem.W.SharedT) : ZH.AlZ := obsZG as_all fbs fnl tbs (HandSHeadRun.getT s)
theorem obk_eq (s : PySem.W.SharedT) : obk s = hkk.obs s.abs := obsZG_eq (HandSHeadRun.getT_eq s)
/-- the run at a world -/
noncomputable abbrev rn (w : World) (os : OsState) : Option PySem.W.SharedT := HandSHeadRun.endF (HandSHeadRun.stepQ (HandSHeadRun.denQ HandSHeadRun.tabQ) RR.prog w) 30000 RR.prog w os
end ZZ
set_option Elab.async false
set_option linter.all false
set_option maxRecDepth 100000
set_option maxHeartbeats 4000000
namespace ZZ
open PySem PySem.Spec L2
open ZH
theorem ra_f (w : World) (os : OsState) : (rn (w.withFollow "special-get-raises" false) os).map (fun s => (HandSHeadRun.looksF RR.prog (PySem.W.boot_heap (w.withFollow "special-get-raises" false).params) s.abs, HandSHeadRun.seenQ qq nm_all (PySem.importedModules RR.prog.main.body) (fun s => PySem.W.xlAt qq [] s && PySem.W.recOk RR.toRowW.records s) s.abs)) = some (true, PySem.W.openGood qq nm_all) := by
  kernel_rfl
end ZZ
set_option Elab.async false
set_option linter.all false
set_option maxRecDepth 100000
set_option maxHeartbeats 4000000
namespace ZZ
open PySem PySem.Spec L2
open ZH
theorem rb_f_0 (w : World) (os : OsState) : (rn (w.withFollow "special-get-raises" false) os).map (fun s => obsZ fbp_0 fnl tbs (He.frG (HandSHeadRun.getT s) as_all)) = some (true, (valZ fnl tbs (w.withFollow "special-get-raises" false)).2) := by
  kernel_rfl
end ZZ
set_option Elab.async false
set_option linter.all false
set_option maxRecDepth 100000
set_option maxHeartbeats 4000000
namespace ZZ
open PySem PySem.Spec L2
open ZH
theorem ra_t (w : World) (os : OsState) : (rn (w.withFollow "special-get-raises" true) os).map (fun s => (HandSHeadRun.looksF RR.prog (PySem.W.boot_heap (w.withFollow "special-get-raises" true).params) s.abs, HandSHeadRun.seenQ qq nm_all (PySem.importedModules RR.prog.main.body) (fun s => PySem.W.xlAt qq [] s && PySem.W.recOk RR.toRowW.records s) s.abs)) = some (true, PySem.W.openGood qq nm_all) := by
  kernel_rfl
end ZZ
set_option Elab.async false
set_option linter.all false
set_option maxRecDepth 100000
set_option maxHeartbeats 4000000
namespace ZZ
open PySem PySem.Spec L2
open ZH
theorem rb_t_0 (w : World) (os : OsState) : (rn (w.withFollow "special-get-raises" true) os).map (fun s => obsZ fbp_0 fnl tbs (He.frG (HandSHeadRun.getT s) as_all)) = some (true, (valZ fnl tbs (w.withFollow "special-get-raises" true)).2) := by
  kernel_rfl
end ZZ
set_option Elab.async false
set_option linter.all false
set_option maxRecDepth 100000
namespace ZZ
open PySem PySem.Spec L2
/-- what a call lets out is wished for -/
def TW (X : Cx) (W : WX) : Prop := ∀ σ, PassesAt (L2N.CX X.prog X.w) X σ (WE W σ)
theorem tw_of {X : Cx} {W : WX} (t : L2N.Takes X W) : TW X W := fun σ => L2N.passAt t σ
abbrev WF : WX := fun _ _ _ _ => False
def eC (d : D) : DE := fun _ ce => .ok (.im d) ce
def eV (i : Nat) : DE := fun sl ce => match sl[i]? with
  | some (some v) => .ok v ce
  | _ => .stuck
def kStuck : DE := fun _ _ => .stuck
def asL (ce : List Cell) : Val → Option (List D)
  | .im (.lst ds) => some ds
  | .cell k => match ce[k]? with
    | some (.lst ds) => some ds
    | _ => none
  | _ => none
/-- a list or tuple that is only read -/
def asSq (ce : List Cell) : Val → Option (List D)
  | .im (.lst ds) => some ds
  | .im (.wl ds) => some ds
  | .im (.tup ds) => some ds
  | .cell k => match ce[k]? with
    | some (.lst ds) => some ds
    | _ => none
  | _ => none
abbrev LINE : Nat := 16777216
def kAdd (v u : Val) : DE := fun sl ce => match v, u with
  | .im (.int i), .im (.int j) => .ok (.im (.int (i + j))) ce
  | .im (.str a), .im (.str b) => if a.length + b.length ≤ LINE then .ok (.im (.str (a ++ b))) ce else .stuck
  | v, u => match asL ce v, asL ce u with
    | some xs, some ys => if xs.length + ys.length ≤ LINE then .ok (.im (.lst (xs ++ ys))) ce else .stuck
    | _, _ => .stuck
def kSub (v u : Val) : DE := fun _ ce => match v, u with
  | .im (.int i), .im (.int j) => .ok (.im (.int (i - j))) ce
  | _, _ => .stuck
/-- bits of a product -/
def mulOK (i j : Int) : Bool := decide (i.natAbs < 2 ^ 400000) && decide (j.natAbs < 2 ^ 400000) || (decide (i.natAbs < 2 ^ 64) || decide (j.natAbs < 2 ^ 64))
def kMul (v u : Val) : DE := fun _ ce => match v, u with
  | .im (.int i), .im (.int j) => if mulOK i j then .ok (.im (.int (i * j))) ce else .stuck
  | _, _ => .stuck
def kDiv (v u : Val) : DE := fun _ ce => match v, u with
  | .im (.int i), .im (.int j) => if 0 < j ∧ j < 1073741824 then .ok (.im (.int (i / j))) ce else .stuck
  | _, _ => .stuck
def kMod (v u : Val) : DE := fun _ ce => match v, u with
  | .im (.int i), .im (.int j) => if 0 < j then .ok (.im (.int (i % j))) ce else .stuck
  | _, _ => .stuck
def kPow (v u : Val) : DE := fun _ ce => match v, u with
  | .im (.int i), .im (.int j) => if 0 ≤ j ∧ j ≤ 1000000 ∧ i.natAbs < 2 ^ 64 then .ok (.im (.int (i ^ j.toNat))) ce else .stuck
  | _, _ => .stuck
def kCmp (g : Int → Int → Bool) (v u : Val) : DE := fun _ ce => match v, u with
  | .im (.int i), .im (.int j) => .ok (.im (.bl (g i j))) ce
  | _, _ => .stuck
abbrev kLt := kCmp fun i j => decide (i < j)
abbrev kLe := kCmp fun i j => decide (i ≤ j)
abbrev kGt := kCmp fun i j => decide (j < i)
abbrev kGe := kCmp fun i j => decide (j ≤ i)
mutual
def toPy : D → Option PyData
  | .non => some .none
  | .bl b => some (.bool b)
  | .int i => some (.int i)
  | .str s => some (.str s)
  | .tup ds => (toPys ds).map .tuple
  | .lst ds => (toPys ds).map .list
  | .wl ds => (toPys ds).map .list
  | .ins _ _ => none
  | .dct _ _ => none
def toPys : List D → Option (List PyData)
  | [] => some []
  | d :: ds => match toPy d, toPys ds with
    | some p, some ps => some (p :: ps)
    | _, _ => none
end
def asIm (ce : List Cell) : Val → Option D
  | .im d => some d
  | .cell k => match ce[k]? with
    | some (.lst ds) => some (.lst ds)
    | _ => none
  | _ => none
def pyEq (d e : D) : Option Bool := match toPy d, toPy e with
  | some p, some q => if SeqAt.shaped p = true ∧ SeqAt.shaped q = true then some (PyData.eqv p q) else none
  | _, _ => none
def kEqG (neg : Bool) (v u : Val) : DE := fun _ ce => match asIm ce v, asIm ce u with
  | some d, some e => match pyEq d e with
    | some b => .ok (.im (.bl (if neg then !b else b))) ce
    | none => .stuck
  | _, _ => .stuck
abbrev kEq := kEqG false
abbrev kNe := kEqG true
def D.isNon : D → Bool
  | .non => true
  | _ => false
def kIsN (neg : Bool) (v u : Val) : DE := fun _ ce => match v, u with
  | .im d, .im .non => .ok (.im (.bl (if neg then !d.isNon else d.isNon))) ce
  | _, _ => .stuck
def kIsB (neg : Bool) (v u : Val) : DE := fun _ ce => match v, u with
  | .im (.bl a), .im (.bl b) => .ok (.im (.bl (if neg then !decide (a = b) else decide (a = b)))) ce
  | _, _ => .stuck
def kIx (v u : Val) : DE := fun _ ce => match u with
  | .im (.int i) => match v with
    | .im (.str z) => if z.length ≤ LINE then (match atI z.cps.toList i with
      | some c => .ok (.im (.str ⟨#[c]⟩)) ce
      | none => .stuck) else .stuck
    | v => match asSq ce v with
      | some ds => match atI ds i with
        | some d => .ok (.im d) ce
        | none => .stuck
      | none => .stuck
  | _ => .stuck
/-- one sign in a text -/
def kInS (neg : Bool) (v u : Val) : DE := fun _ ce => match v, u with
  | .im (.str a), .im (.str z) => match a.cps.toList with
    | [c] => .ok (.im (.bl (if neg then !decide (c ∈ z.cps.toList) else decide (c ∈ z.cps.toList)))) ce
    | _ => .stuck
  | _, _ => .stuck
def eBin (k : Val → Val → DE) (f g : DE) : DE := eBind f fun v => eBind g (k v)
def eUn (k : Val → DE) (f : DE) : DE := eBind f k
def kBool (k : Bool → DE) (v : Val) : DE := match v with
  | .im (.bl b) => k b
  | _ => kStuck
def eAnd (f g : DE) : DE := eBind f (kBool fun b => if b then g else eC (.bl false))
def eOr (f g : DE) : DE := eBind f (kBool fun b => if b then eC (.bl true) else g)
def eNot (f : DE) : DE := eBind f (kBool fun b => eC (.bl (!b)))
def eIf (c f g : DE) : DE := eBind c (kBool fun b => if b then f else g)
/-- a value as a test -/
def truV (ce : List Cell) : Val → Option Bool
  | .im .non => some false
  | .im (.bl b) => some b
  | .im (.int i) => some (i != 0)
  | .im (.str y) => if y.length ≤ LINE then some ((y.length : Int) != 0) else none
  | v => (asSq ce v).map fun ds => !ds.isEmpty
def kTru (v : Val) : DE := fun _ ce => match truV ce v with
  | some b => .ok (.im (.bl b)) ce
  | none => .stuck
def eTru (f : DE) : DE := eBind f kTru
section
variable {Z : Zy} {A A' : List Addr} {F F' H : Hp} {ce : List Cell} {sl : Sl} {σ : L2.St} {W : WX} {Q Q' : VK}
theorem asL_rd {v : Val} {x : V} {ds : List D} (so : SO Z.toZx A F ce H) (r : VRep Z A F v x) (e : asL ce v = some ds) : ∃ l vs, x = .ref l ∧ H l = some (.lst vs) ∧ Reps Z.toZx F ds vs := by
  unfold asL at e
  split at e
  · cases e
    unfold VRep Rep at r
    obtain ⟨a, vs, rfl, h1, h2⟩ := r
    exact ⟨a, vs, rfl, so.sub _ _ h1, h2⟩
  · rename_i k
    split at e
    · rename_i ds' hk
      cases e
      obtain ⟨a, h1, rfl⟩ := r
      obtain ⟨_, vs, h2, h3⟩ := so.ok k a _ h1 hk
      exact ⟨a, vs, rfl, h2, h3⟩
    · cases e
  · cases e
theorem asSq_rd {v : Val} {x : V} {ds : List D} (so : SO Z.toZx A F ce H) (r : VRep Z A F v x) (e : asSq ce v = some ds) : ∃ l vs, x = .ref l ∧ (SqL Z.K H l vs ∨ SqT Z.K H l vs) ∧ Reps Z.toZx F ds vs := by
  unfold asSq at e
  split at e
  · cases e
    unfold VRep Rep at r
    obtain ⟨a, vs, rfl, h1, h2⟩ := r
    exact ⟨a, vs, rfl, .inl (SqL.of (so.sub _ _ h1)), h2⟩
  · cases e
    unfold VRep Rep at r
    obtain ⟨a, vs, rfl, h1, h2⟩ := r
    exact ⟨a, vs, rfl, .inl (so.sub.seq h1), h2⟩
  · cases e
    unfold VRep Rep at r
    obtain ⟨a, vs, rfl, h1, h2⟩ := r
    exact ⟨a, vs, rfl, .inr (same_seqT so.sub h1), h2⟩
  · rename_i k
    split at e
    · rename_i ds' hk
      cases e
      obtain ⟨a, h1, rfl⟩ := r
      obtain ⟨_, vs, h2, h3⟩ := so.ok k a _ h1 hk
      exact ⟨a, vs, rfl, .inl (SqL.of h2), h3⟩
    · cases e
  · cases e
mutual
theorem dp_of (e : Same F H) : ∀ {d : D} {v : V} {p : PyData}, Rep Z.toZx F d v → toPy d = some p → Dp Z.K H v p
  | .non, v, p, r, t => by
    unfold Rep at r; unfold toPy at t; cases t; subst r; exact .non
  | .bl b, v, p, r, t => by
    unfold Rep at r; unfold toPy at t; cases t; subst r; exact .bl b
  | .int b, v, p, r, t => by
    unfold Rep at r; unfold toPy at t; cases t; subst r; exact .int b
  | .str b, v, p, r, t => by
    unfold Rep at r; unfold toPy at t; cases t; subst r; exact .str b
  | .tup ds, v, p, r, t => by
    unfold Rep at r; unfold toPy at t
    obtain ⟨a, vs, rfl, h1, h2⟩ := r
    cases q : toPys ds with
    | none => rw [q] at t; cases t
    | some ps => rw [q] at t; cases t; exact .tup (same_seqT e h1) (dps_of e h2 q)
  | .lst ds, v, p, r, t => by
    unfold Rep at r; unfold toPy at t
    obtain ⟨a, vs, rfl, h1, h2⟩ := r
    cases q : toPys ds with
    | none => rw [q] at t; cases t
    | some ps => rw [q] at t; cases t; exact .lst (SqL.of (e _ _ h1)) (dps_of e h2 q)
  | .wl ds, v, p, r, t => by
    unfold Rep at r; unfold toPy at t
    obtain ⟨a, vs, rfl, h1, h2⟩ := r
    cases q : toPys ds with
    | none => rw [q] at t; cases t
    | some ps => rw [q] at t; cases t; exact .lst (e.seq h1) (dps_of e h2 q)
  | .ins _ _, v, p, r, t => by
    unfold toPy at t; cases t
  | .dct _ _, v, p, r, t => by
    unfold toPy at t; cases t
theorem dps_of (e : Same F H) : ∀ {ds : List D} {vs : List V} {ps : List PyData}, Reps Z.toZx F ds vs → toPys ds = some ps → DpAll Z.K H vs ps
  | [], vs, ps, r, t => by
    rw [reps_nil_inv r]; unfold toPys at t; cases t; exact .nil
  | d :: ds, vs, ps, r, t => by
    obtain ⟨v, r', rfl, h1, h2⟩ := reps_cons_inv r
    unfold toPys at t
    split at t
    · rename_i p ps' q1 q2
      cases t
      exact .cons (dp_of e h1 q1) (dps_of e h2 q2)
    · cases t
end
theorem asIm_dp {v : Val} {x : V} {d : D} {p : PyData} (so : SO Z.toZx A F ce H) (r : VRep Z A F v x) (e : asIm ce v = some d) (t : toPy d = some p) : Dp Z.K H x p := by
  unfold asIm at e
  split at e
  · cases e
    exact dp_of so.sub r t
  · rename_i k
    split at e
    · rename_i ds' hk
      cases e
      obtain ⟨a, h1, rfl⟩ := r
      obtain ⟨_, vs, h2, h3⟩ := so.ok k a _ h1 hk
      unfold toPy at t
      cases q : toPys ds' with
      | none => rw [q] at t; cases t
      | some ps => rw [q] at t; cases t; exact .lst (SqL.of h2) (dps_of so.sub h3 q)
    · cases e
  · cases e
theorem truV_ok {v : Val} {x : V} {b : Bool} (so : SO Z.toZx A F ce H) (r : VRep Z A F v x) (e : truV ce v = some b) : TruV Z.K x H b := by
  unfold truV at e
  split at e
  · cases e; unfold VRep Rep at r; subst r; rfl
  · cases e; unfold VRep Rep at r; subst r; rfl
  · cases e; unfold VRep Rep at r; subst r; rfl
  · split at e
    · rename_i h
      cases e; unfold VRep Rep at r; subst r
      exact ⟨by rw [sizeLine_eq]; exact h, rfl⟩
    · cases e
  · cases q : asSq ce v with
    | none => rw [q] at e; cases e
    | some ds =>
      rw [q] at e
      cases e
      obtain ⟨l, vs, rfl, h1, h2⟩ := asSq_rd so r q
      have hv : (!ds.isEmpty) = !vs.isEmpty := by
        have := h2.length
        cases ds <;> cases vs <;> simp_all
      rcases h1 with h1 | h1
      · exact .inl ⟨vs, h1, by simpa using hv⟩
      · exact .inr (.inl ⟨vs, h1, by simpa using hv⟩)
theorem fin_flat {d : D} {x : V} (so : SO Z.toZx A F ce H) (h : PostE Z A F W σ Q (.ok (.im d) ce)) (r : Rep Z.toZx F d x) : Q x H :=
  h A F H x (List.prefix_refl _) (Same.refl _) so r
theorem fin_newL {ds : List D} {vs : List V} (so : SO Z.toZx A F ce H) (h : PostE Z A F W σ Q (.ok (.im (.lst ds)) ce)) (r : Reps Z.toZx F ds vs) {p : Addr} (hp : H p = none) : Q (.ref p) (upd H p (.lst vs)) := by
  refine h A (upd F p (.lst vs)) _ _ (List.prefix_refl _) (same_up (so.fnone hp)) (so.new hp) ?_
  unfold VRep Rep
  exact ⟨p, vs, rfl, upd_same, r.mono (same_up (so.fnone hp))⟩
theorem fin_newT {ds : List D} {vs : List V} (so : SO Z.toZx A F ce H) (h : PostE Z A F W σ Q (.ok (.im (.tup ds)) ce)) (r : Reps Z.toZx F ds vs) {p : Addr} (hp : H p = none) : Q (.ref p) (upd H p (.tup vs)) := by
  refine h A (upd F p (.tup vs)) _ _ (List.prefix_refl _) (same_up (so.fnone hp)) (so.new hp) ?_
  unfold VRep Rep
  exact ⟨p, vs, rfl, SqT.of upd_same, r.mono (same_up (so.fnone hp))⟩
theorem fin_newC {ds : List D} {vs : List V} (so : SO Z.toZx A F ce H) (h : PostE Z A F W σ Q (.ok (.cell ce.length) (ce ++ [.lst ds]))) (r : Reps Z.toZx F ds vs) {p : Addr} (hp : H p = none) : Q (.ref p) (upd H p (.lst vs)) := by
  refine h (A ++ [p]) F _ _ (List.prefix_append _ _) (Same.refl _) (so.newCell hp ⟨so.fnone hp, vs, upd_same, r⟩) ?_
  exact ⟨p, by rw [← so.len]; simp, rfl⟩
/-- what a rule on two values asks -/
def Ok2 (Z : Zy) (W : WX) (k : Val → Val → DE) (r : R2) : Prop := ∀ A F sl ce v u x y H σ Q, SO Z.toZx A F ce H → SL Z A F sl σ → VRep Z A F v x → VRep Z A F u y → PostE Z A F W σ Q (k v u sl ce) → r x y H Q
theorem rep_int {i : Int} {x : V} (r : VRep Z A F (.im (.int i)) x) : x = .int i := by unfold VRep Rep at r; exact r
theorem rep_bl {i : Bool} {x : V} (r : VRep Z A F (.im (.bl i)) x) : x = .bl i := by unfold VRep Rep at r; exact r
theorem rep_str {i : Str} {x : V} (r : VRep Z A F (.im (.str i)) x) : x = .str i := by unfold VRep Rep at r; exact r
theorem rep_non {x : V} (r : VRep Z A F (.im .non) x) : x = .non := by unfold VRep Rep at r; exact r
theorem repI {i : Int} : Rep Z.toZx F (.int i) (.int i) := by unfold Rep; rfl
theorem repB {i : Bool} : Rep Z.toZx F (.bl i) (.bl i) := by unfold Rep; rfl
theorem repS {i : Str} : Rep Z.toZx F (.str i) (.str i) := by unfold Rep; rfl
theorem repN : Rep Z.toZx F .non .non := by unfold Rep; rfl
end
section
variable {X : Cx} {Z : Zy} {W : WX} {a b c : Expr} {f g h : DE} {pos : Pos}
def rAddA : R2 := fun x y H Q => (∃ i j, x = .int i ∧ y = .int j ∧ Q (.int (i + j)) H) ∨ (∃ i j, x = .str i ∧ y = .str j ∧ i.length + j.length ≤ sizeLine ∧ Q (.str (i ++ j)) H) ∨ rCat x y H Q
theorem op_or2 {f : Value → Value → Sem Value} {r r' : R2} (h : OpR X f r) (h' : OpR X f r') : OpR X f (fun x y H Q => r x y H Q ∨ r' x y H Q) := by
  intro pins s σ H x y v u Q I rx ry q
  rcases q with q | q
  · exact h pins s σ H x y v u Q I rx ry q
  · exact h' pins s σ H x y v u Q I rx ry q
theorem op_addA : OpR X (binaryOp .Add) rAddA := op_or2 op_add (op_or2 op_add_str op_cat)
theorem ok_add : Ok2 Z W kAdd rAddA := by
  intro A F sl ce v u x y H σ Q so hs rv ru p
  unfold kAdd at p
  split at p
  · exact .inl ⟨_, _, rep_int rv, rep_int ru, fin_flat so p repI⟩
  · split at p
    · rename_i hl
      exact .inr (.inl ⟨_, _, rep_str rv, rep_str ru, by rw [sizeLine_eq]; exact hl, fin_flat so p repS⟩)
    · exact p.elim
  · split at p
    · rename_i xs ys e1 e2
      split at p
      · rename_i hl
        obtain ⟨l, vs, rfl, h1, h2⟩ := asL_rd so rv e1
        obtain ⟨l', vs', rfl, h1', h2'⟩ := asL_rd so ru e2
        exact .inr (.inr ⟨l, l', vs, vs', rfl, rfl, h1, h1', by rw [sizeLine_eq, ← h2.length, ← h2'.length]; exact hl, fun p' hp => fin_newL so p (h2.append h2') hp⟩)
      · exact p.elim
    · exact p.elim
theorem ok_int {k : Val → Val → DE} {C : Int → Int → Prop} {g : Int → Int → D} {gv : Int → Int → V} (hk : ∀ v u sl ce, (∃ i j, v = .im (.int i) ∧ u = .im (.int j) ∧ C i j ∧ k v u sl ce = .ok (.im (g i j)) ce) ∨ k v u sl ce = .stuck)
    (hg : ∀ F i j, Rep Z.toZx F (g i j) (gv i j)) : Ok2 Z W k (rI C gv) := by
  intro A F sl ce v u x y H σ Q so hs rv ru p
  rcases hk v u sl ce with ⟨i, j, rfl, rfl, hc, e⟩ | e
  · rw [e] at p
    exact ⟨i, j, rep_int rv, rep_int ru, hc, fin_flat so p (hg _ _ _)⟩
  · rw [e] at p
    exact p.elim
theorem op_rI0 {f : Value → Value → Sem Value} {g : Int → Int → V} (h : OpR X f (rI0 g)) : OpR X f (rI (fun _ _ => True) g) := by
  intro pins s σ H x y v u Q I rx ry ⟨i, j, e1, e2, _, q⟩
  exact h pins s σ H x y v u Q I rx ry ⟨i, j, e1, e2, q⟩
theorem ok_sub : Ok2 Z W kSub (rI (fun _ _ => True) fun i j => .int (i - j)) := ok_int (g := fun i j => .int (i - j)) (fun v u sl ce => by
  unfold kSub; split
  · exact .inl ⟨_, _, rfl, rfl, trivial, rfl⟩
  · exact .inr rfl) fun _ _ _ => repI
theorem ok_cmp {g : Int → Int → Bool} : Ok2 Z W (kCmp g) (rI (fun _ _ => True) fun i j => .bl (g i j)) := ok_int (g := fun i j => .bl (g i j)) (fun v u sl ce => by
  unfold kCmp; split
  · exact .inl ⟨_, _, rfl, rfl, trivial, rfl⟩
  · exact .inr rfl) fun _ _ _ => repB
def CMulA (i j : Int) : Prop := CMul i j ∨ CMulW i j
theorem op_mulA : OpR X (binaryOp .Mult) (rI CMulA fun i j => .int (i * j)) := by
  intro pins s σ H x y v u Q I rx ry ⟨i, j, e1, e2, hc, q⟩
  rcases hc with hc | hc
  · exact op_mul pins s σ H x y v u Q I rx ry ⟨i, j, e1, e2, hc, q⟩
  · exact op_mulW pins s σ H x y v u Q I rx ry ⟨i, j, e1, e2, hc, q⟩
theorem mulOK_ok {i j : Int} (h : mulOK i j = true) : CMulA i j := by
  unfold mulOK at h
  simp only [Bool.or_eq_true, Bool.and_eq_true, decide_eq_true_eq] at h
  rcases h with ⟨h1, h2⟩ | h | h
  · exact .inr (wide_mul h1 h2 (by decide) (by decide) (by decide))
  · exact .inl (.inl (by constructor <;> omega))
  · exact .inl (.inr (by constructor <;> omega))
theorem ok_mul : Ok2 Z W kMul (rI CMulA fun i j => .int (i * j)) := ok_int (g := fun i j => .int (i * j)) (fun v u sl ce => by
  unfold kMul; split
  · split
    · rename_i h
      exact .inl ⟨_, _, rfl, rfl, mulOK_ok h, rfl⟩
    · exact .inr rfl
  · exact .inr rfl) fun _ _ _ => repI
theorem ok_div : Ok2 Z W kDiv (rI CDiv fun i j => .int (i / j)) := ok_int (g := fun i j => .int (i / j)) (fun v u sl ce => by
  unfold kDiv; split
  · split
    · rename_i h
      exact .inl ⟨_, _, rfl, rfl, h, rfl⟩
    · exact .inr rfl
  · exact .inr rfl) fun _ _ _ => repI
theorem ok_mod : Ok2 Z W kMod (rI (fun _ j => 0 < j) fun i j => .int (i % j)) := ok_int (g := fun i j => .int (i % j)) (fun v u sl ce => by
  unfold kMod; split
  · split
    · rename_i h
      exact .inl ⟨_, _, rfl, rfl, h, rfl⟩
    · exact .inr rfl
  · exact .inr rfl) fun _ _ _ => repI
theorem ok_pow : Ok2 Z W kPow (rI CPow fun i j => .int (i ^ j.toNat)) := ok_int (g := fun i j => .int (i ^ j.toNat)) (fun v u sl ce => by
  unfold kPow; split
  · split
    · rename_i h
      exact .inl ⟨_, _, rfl, rfl, h, rfl⟩
    · exact .inr rfl
  · exact .inr rfl) fun _ _ _ => repI
theorem ok_eqG (neg : Bool) : Ok2 Z W (kEqG neg) (fun x y H Q => ∃ d e, Dp Z.K H x d ∧ Dp Z.K H y e ∧ SeqAt.shaped d = true ∧ SeqAt.shaped e = true ∧ Q (.bl (if neg then !PyData.eqv d e else PyData.eqv d e)) H) := by
  intro A F sl ce v u x y H σ Q so hs rv ru p
  unfold kEqG at p
  split at p
  · rename_i d e e1 e2
    unfold pyEq at p
    cases t1 : toPy d with
    | none => simp only [t1] at p; exact p.elim
    | some p1 =>
      cases t2 : toPy e with
      | none => simp only [t1, t2] at p; exact p.elim
      | some p2 =>
        simp only [t1, t2] at p
        by_cases hs : SeqAt.shaped p1 = true ∧ SeqAt.shaped p2 = true
        · rw [if_pos hs] at p
          exact ⟨p1, p2, asIm_dp so rv e1 t1, asIm_dp so ru e2 t2, hs.1, hs.2, fin_flat so p repB⟩
        · rw [if_neg hs] at p
          exact p.elim
  · exact p.elim
theorem ok_eq : Ok2 Z W kEq (rEqD Z.K) := ok_eqG false
theorem ok_ne : Ok2 Z W kNe (rNeD Z.K) := ok_eqG true
theorem rep_isNon {F : Hp} {d : D} {x : V} (r : Rep Z.toZx F d x) : decide (x = .non) = d.isNon := by
  cases d <;> unfold Rep at r <;> first | (subst r; rfl) | (obtain ⟨a, o, k, v, rfl, _⟩ := r; rfl) | (obtain ⟨a, vs, rfl, _⟩ := r; rfl) | (obtain ⟨a, dx, fs, rfl, _⟩ := r; rfl)
theorem ok_isN (neg : Bool) : Ok2 Z W (kIsN neg) (fun x y H Q => y = .non ∧ Q (.bl (if neg then !decide (x = .non) else decide (x = .non))) H) := by
  intro A F sl ce v u x y H σ Q so hs rv ru p
  unfold kIsN at p
  split at p
  · refine ⟨rep_non ru, ?_⟩
    rw [rep_isNon rv]
    exact fin_flat so p repB
  · exact p.elim
theorem ok_isB (neg : Bool) : Ok2 Z W (kIsB neg) (fun x y H Q => ∃ a b : Bool, x = .bl a ∧ y = .bl b ∧ Q (.bl (if neg then !decide (a = b) else decide (a = b))) H) := by
  intro A F sl ce v u x y H σ Q so hs rv ru p
  unfold kIsB at p
  split at p
  · exact ⟨_, _, rep_bl rv, rep_bl ru, fin_flat so p repB⟩
  · exact p.elim
theorem atI_reps {F : Hp} {ds : List D} {vs : List V} {i : Int} {d : D} (r : Reps Z.toZx F ds vs) (e : atI ds i = some d) : ∃ x, atI vs i = some x ∧ Rep Z.toZx F d x := by
  unfold atI at e ⊢
  rw [← r.length]
  cases q : ixN ds.length i with
  | none => rw [q] at e; cases e
  | some j =>
    rw [q] at e
    exact r.get' e
theorem ok_ix : Ok2 Z W kIx (rIx Z.K) := by
  intro A F sl ce v u x y H σ Q so hs rv ru p
  unfold kIx at p
  split at p
  · split at p
    · split at p
      · rename_i hl
        split at p
        · rename_i c hc
          exact .inr (.inr ⟨_, _, c, rep_str rv, rep_int ru, by rw [sizeLine_eq]; exact hl, hc, fin_flat so p repS⟩)
        · exact p.elim
      · exact p.elim
    · split at p
      · rename_i ds e1
        split at p
        · rename_i d e2
          obtain ⟨l, vs, rfl, h1, h2⟩ := asSq_rd so rv e1
          obtain ⟨x, e3, r3⟩ := atI_reps h2 e2
          rcases h1 with h1 | h1
          · exact .inl ⟨l, vs, _, x, rfl, rep_int ru, h1, e3, fin_flat so p r3⟩
          · exact .inr (.inl ⟨l, vs, _, x, rfl, rep_int ru, h1, e3, fin_flat so p r3⟩)
        · exact p.elim
      · exact p.elim
  · exact p.elim
theorem ok_inS (neg : Bool) : Ok2 Z W (kInS neg) (fun x y H Q => ∃ (c : Nat) (z : Str), x = .str ⟨#[c]⟩ ∧ y = .str z ∧ Q (.bl (if neg then !decide (c ∈ z.cps.toList) else decide (c ∈ z.cps.toList))) H) := by
  intro A F sl ce v u x y H σ Q so hs rv ru p
  unfold kInS at p
  split at p
  · rename_i a z
    split at p
    · rename_i c hc
      have ea : a = ⟨#[c]⟩ := by
        cases a with
        | mk cps =>
          congr 1
          have h2 : cps.toList = [c] := hc
          rw [← Array.toArray_toList (xs := cps), h2]
      exact ⟨c, z, by rw [rep_str rv, ea], rep_str ru, fin_flat so p repB⟩
    · exact p.elim
  · exact p.elim
theorem de_c {d : D} {v : V} {e : Expr} (h : PE X e (tC v)) (r : ∀ F, Rep Z.toZx F d v) : PE X e (tE Z W (eC d)) := h.weak fun σ H Q ⟨A, F, sl, ce, so, hs, p⟩ => fin_flat so p (r F)
theorem de_int {i j} : PE X (.Constant (.int i) j pos) (tE Z W (eC (.int i))) := de_c pe_int fun _ => repI
theorem de_str {i j} : PE X (.Constant (.str i) j pos) (tE Z W (eC (.str i))) := de_c pe_str fun _ => repS
theorem de_bl {i j} : PE X (.Constant (.bool i) j pos) (tE Z W (eC (.bl i))) := de_c pe_bl fun _ => repB
theorem de_non {j} : PE X (.Constant .none j pos) (tE Z W (eC .non)) := de_c pe_non fun _ => repN
theorem de_var {e : Expr} {i : Nat} (h : PE X e (tVar i)) : PE X e (tE Z W (eV i)) := h.weak fun σ H Q ⟨A, F, sl, ce, so, hs, p⟩ => by
  unfold eV at p
  split at p
  · rename_i v e
    obtain ⟨x, h1, h2⟩ := hs.is i v e
    exact ⟨x, h1, p A F H x (List.prefix_refl _) (Same.refl _) so h2⟩
  · exact p.elim
theorem dv (i : Nat) {x : Str} {pos : Pos} (hN : X.N[i]? = some x := by rfl) (hv : Vis X.env.scope x := by first | exact Or.inl rfl | exact Or.inr (Or.inl rfl) | exact Or.inr (Or.inr rfl)) (hd : (x == ("__debug__" : Str)) = false := by decide)
    (hcd : (x == ("__classdict__" : Str)) = false := by decide) : PE X (.Name x pos) (tE Z W (eV i)) := de_var (pe_var hN hv hd hcd)
theorem t2 {k : Val → Val → DE} {r : R2} (hk : Ok2 Z W k r) {σ : L2.St} {H : Hp} {Q : VK} (h : tE Z W (eBin k f g) σ H Q) : tE Z W f σ H fun x H1 => tE Z W g σ H1 fun y H2 => r x y H2 Q :=
  tE_imp (fun x H1 h1 => tE_imp (fun y H2 ⟨A, F, sl, ce, v, u, so, hs, rv, ru, p⟩ => hk A F sl ce v u x y H2 σ Q so hs rv ru p) h1) (tE2 h)
theorem de_op {op : Operator} {k : Val → Val → DE} {r : R2} (ho : OpR X (binaryOp op) r) (hk : Ok2 Z W k r) (ha : PE X a (tE Z W f)) (hb : PE X b (tE Z W g)) : PE X (.BinOp a op b pos) (tE Z W (eBin k f g)) :=
  (pe_op ho ha hb).weak fun σ H Q h => t2 hk h
theorem de_add (ha : PE X a (tE Z W f)) (hb : PE X b (tE Z W g)) : PE X (.BinOp a .Add b pos) (tE Z W (eBin kAdd f g)) := de_op op_addA ok_add ha hb
theorem de_sub (ha : PE X a (tE Z W f)) (hb : PE X b (tE Z W g)) : PE X (.BinOp a .Sub b pos) (tE Z W (eBin kSub f g)) := de_op (op_rI0 op_sub) ok_sub ha hb
theorem de_mul (ha : PE X a (tE Z W f)) (hb : PE X b (tE Z W g)) : PE X (.BinOp a .Mult b pos) (tE Z W (eBin kMul f g)) := de_op op_mulA ok_mul ha hb
theorem de_div (ha : PE X a (tE Z W f)) (hb : PE X b (tE Z W g)) : PE X (.BinOp a .FloorDiv b pos) (tE Z W (eBin kDiv f g)) := de_op op_fdiv ok_div ha hb
theorem de_mod (ha : PE X a (tE Z W f)) (hb : PE X b (tE Z W g)) : PE X (.BinOp a .Mod b pos) (tE Z W (eBin kMod f g)) := de_op op_mod ok_mod ha hb
theorem de_pow (ha : PE X a (tE Z W f)) (hb : PE X b (tE Z W g)) : PE X (.BinOp a .Pow b pos) (tE Z W (eBin kPow f g)) := de_op op_pow ok_pow ha hb
theorem de_cmp {op : CmpOp} {k : Val → Val → DE} {r : R2} (ho : OpR X (compareOp op) r) (hk : Ok2 Z W k r) (ha : PE X a (tE Z W f)) (hb : PE X b (tE Z W g)) (hm : behindInMarks op b = false) : PE X (.Compare a [op] [b] pos) (tE Z W (eBin k f g)) :=
  (pe_cmpR ho ha hb hm).weak fun σ H Q h => t2 hk h
/-- a comparison's rule: what it is on values -/
structure CmpK (X : Cx) (Z : Zy) (W : WX) (op : CmpOp) (k : Val → Val → DE) : Prop where
  ex : ∃ r, OpR X (compareOp op) r ∧ Ok2 Z W k r
theorem c_lt : CmpK X Z W .Lt kLt := ⟨_, op_rI0 op_lt, ok_cmp⟩
theorem c_gt : CmpK X Z W .Gt kGt := ⟨_, op_rI0 op_gt, ok_cmp⟩
theorem c_ge : CmpK X Z W .GtE kGe := ⟨_, op_rI0 op_ge, ok_cmp⟩
theorem c_eq {k : Nat} (hK : X.K = Z.K) (hr : Room k X.A) : CmpK X Z W .Eq kEq := ⟨rEqD Z.K, by rw [← hK]; exact op_eqD hr.units, ok_eq⟩
theorem c_ne {k : Nat} (hK : X.K = Z.K) (hr : Room k X.A) : CmpK X Z W .NotEq kNe := ⟨rNeD Z.K, by rw [← hK]; exact op_neD hr.units, ok_ne⟩
theorem c_isN : CmpK X Z W .Is (kIsN false) := ⟨_, op_isN, ok_isN false⟩
theorem c_isB : CmpK X Z W .Is (kIsB false) := ⟨_, op_isBl, ok_isB false⟩
theorem c_inS : CmpK X Z W .In (kInS false) := ⟨_, op_in_sign, ok_inS false⟩
theorem c_notInS : CmpK X Z W .NotIn (kInS true) := ⟨_, op_notIn_sign, ok_inS true⟩
theorem de_cmpK {op : CmpOp} {k : Val → Val → DE} (c : CmpK X Z W op k) (ha : PE X a (tE Z W f)) (hb : PE X b (tE Z W g)) (hm : behindInMarks op b = false := by first | exact nomark _ (by decide) (by decide) | rfl) : PE X (.Compare a [op] [b] pos) (tE Z W (eBin k f g)) := by
  obtain ⟨r, ho, hk⟩ := c.ex
  exact de_cmp ho hk ha hb hm
theorem de_ix (hK : X.K = Z.K) (ha : PE X a (tE Z W f)) (hb : PE X b (tE Z W g)) (hs : PlainIx b := by exact fun _ _ => rfl) : PE X (.Subscript a b pos) (tE Z W (eBin kIx f g)) :=
  (pe_ix (r := rIx Z.K) (by rw [← hK]; exact ix_seq) ha hb hs).weak fun σ H Q h => t2 ok_ix h
/-- and, or, not, if: values that are bools -/
theorem PostE.bool {A F σ Q} {k : Bool → DE} {v : Val} {x : V} {sl ce} (r : VRep Z A F v x) (p : PostE Z A F W σ Q (kBool k v sl ce)) : ∃ b, x = .bl b ∧ PostE Z A F W σ Q (k b sl ce) := by
  unfold kBool at p
  split at p
  · exact ⟨_, rep_bl r, p⟩
  · exact p.elim
theorem de_and {rest} (ha : PE X a (tE Z W f)) (hb : PE X (.BoolOp .And (b :: rest) pos) (tE Z W g)) : PE X (.BoolOp .And (a :: b :: rest) pos) (tE Z W (eAnd f g)) :=
  (pe_and ha hb).weak fun σ H Q h => tE_imp (fun x H1 ⟨A, F, sl, ce, v, so, hs, r, p⟩ => by
    obtain ⟨b, rfl, p⟩ := p.bool r
    refine ⟨b, rfl, ?_⟩
    cases b with
    | true => exact iteT ⟨A, F, sl, ce, so, hs, p⟩
    | false => exact iteF (fin_flat so p repB)) (tE1 h)
theorem de_one {op} (h : PE X a (tE Z W f)) : PE X (.BoolOp op [a] pos) (tE Z W f) := pe_one h
theorem de_not (ha : PE X a (tE Z W f)) : PE X (.UnaryOp .Not a pos) (tE Z W (eNot f)) :=
  (pe_not ha).weak fun σ H Q h => tE_imp (fun x H1 ⟨A, F, sl, ce, v, so, hs, r, p⟩ => by
    obtain ⟨b, rfl, p⟩ := p.bool r
    exact ⟨b, rfl, fin_flat so p repB⟩) (tE1 h)
/-- a test -/
def tT (Z : Zy) (W : WX) (f : DE) : TT := fun σ H Q => tE Z W f σ H fun x H' => ∃ b, x = .bl b ∧ Q b H'
theorem dt_val {e : Expr} (h : PE X e (tE Z W f)) (he : ∀ whole, isTrue e X.env whole = (do let v ← whole; standAt e.pos; holding [v] (truthy v)) := by intro _; rfl) : PT X e (tT Z W f) := pt_val h he
theorem dt_cmp {op : CmpOp} {k : Val → Val → DE} (c : CmpK X Z W op k) (ha : PE X a (tE Z W f)) (hb : PE X b (tE Z W g)) (hm : behindInMarks op b = false := by first | exact nomark _ (by decide) (by decide) | rfl) : PT X (.Compare a [op] [b] pos) (tT Z W (eBin k f g)) := by
  obtain ⟨r, ho, hk⟩ := c.ex
  exact (pt_cmpR ho ha hb hm).weak fun σ H Q h => t2 hk h
theorem dt_tru {e : Expr} (hK : X.K = Z.K) (h : PE X e (tE Z W f)) (he : ∀ whole, isTrue e X.env whole = (do let v ← whole; standAt e.pos; holding [v] (truthy v)) := by intro _; rfl) : PT X e (tT Z W (eTru f)) :=
  (pt_truth h he).weak fun σ H Q q => tE_imp (fun x H1 ⟨A, F, sl, ce, v, so, hs, r, p⟩ => by
    unfold kTru at p
    split at p
    · rename_i b e
      obtain ⟨k, e2, q⟩ := fin_flat so p repB
      cases e2
      exact ⟨b, by rw [hK]; exact truV_ok so r e, q⟩
    · exact p.elim) (tE1 (f := f) (k := kTru) q)
theorem tT_and {σ H Q} (h : tT Z W (eAnd f g) σ H Q) : tAnd (tT Z W f) (tT Z W g) σ H Q := tE_imp (fun x H1 ⟨A, F, sl, ce, v, so, hs, r, p⟩ => by
  obtain ⟨b, rfl, p⟩ := p.bool r
  refine ⟨b, rfl, ?_⟩
  cases b with
  | true => exact iteT ⟨A, F, sl, ce, so, hs, p⟩
  | false =>
    obtain ⟨c, e, q⟩ := fin_flat so p repB
    cases e
    exact iteF q) (tE1 h)
theorem tT_or {σ H Q} (h : tT Z W (eOr f g) σ H Q) : tOr (tT Z W f) (tT Z W g) σ H Q := tE_imp (fun x H1 ⟨A, F, sl, ce, v, so, hs, r, p⟩ => by
  obtain ⟨b, rfl, p⟩ := p.bool r
  refine ⟨b, rfl, ?_⟩
  cases b with
  | true =>
    obtain ⟨c, e, q⟩ := fin_flat so p repB
    cases e
    exact iteT q
  | false => exact iteF ⟨A, F, sl, ce, so, hs, p⟩) (tE1 h)
theorem _root_.L2.PW.weak {e : Expr} {t t' : TT} (h : PW X e t) (hw : ∀ σ H Q, t' σ H Q → t σ H Q) : PW X e t' :=
  ⟨fun w pins s σ H Q I q => h.run w pins s σ H Q I (hw σ H Q q)⟩
theorem dw_and1 (ha : PT X a (tT Z W f)) : PW X (.BoolOp .And [a] pos) (tT Z W f) := pw_and1 ha
theorem dw_or1 (ha : PT X a (tT Z W f)) : PW X (.BoolOp .Or [a] pos) (tT Z W f) := pw_or1 ha
theorem dw_and {rest} (ha : PT X a (tT Z W f)) (hb : PW X (.BoolOp .And (b :: rest) pos) (tT Z W g)) : PW X (.BoolOp .And (a :: b :: rest) pos) (tT Z W (eAnd f g)) := (pw_and ha hb).weak fun _ _ _ h => tT_and h
theorem dw_or {rest} (ha : PT X a (tT Z W f)) (hb : PW X (.BoolOp .Or (b :: rest) pos) (tT Z W g)) : PW X (.BoolOp .Or (a :: b :: rest) pos) (tT Z W (eOr f g)) := (pw_or ha hb).weak fun _ _ _ h => tT_or h
theorem dt_not (ha : PT X a (tT Z W f)) : PT X (.UnaryOp .Not a pos) (tT Z W (eNot f)) := (pt_not ha).weak fun σ H Q h => tE_imp (fun x H1 ⟨A, F, sl, ce, v, so, hs, r, p⟩ => by
  obtain ⟨b, rfl, p⟩ := p.bool r
  obtain ⟨c, e, q⟩ := fin_flat so p repB
  cases e
  exact ⟨b, rfl, q⟩) (tE1 (f := f) (k := kBool fun b => eC (.bl (!b))) h)
end
end ZZ
set_option Elab.async false
set_option linter.all false
set_option maxRecDepth 100000
namespace ZZ
open PySem PySem.Spec L2
def eArgs : List DE → (List Val → DE) → DE
  | [], k => k []
  | f :: fs, k => eBind f fun v => eArgs fs fun vs => k (v :: vs)
def tArgs (Z : Zy) (W : WX) : List DE → TA
  | [] => tNil
  | f :: fs => tCons (tE Z W f) (tArgs Z W fs)
def VReps (Z : Zy) (A : List Addr) (F : Hp) : List Val → List V → Prop
  | [], xs => xs = []
  | v :: vs, xs => ∃ x r, xs = x :: r ∧ VRep Z A F v x ∧ VReps Z A F vs r
section
variable {Z : Zy} {A A' : List Addr} {F F' H : Hp} {ce : List Cell} {sl : Sl} {σ : L2.St} {W : WX} {Q Q' : VK}
theorem VReps.length : ∀ {vs : List Val} {xs : List V}, VReps Z A F vs xs → vs.length = xs.length
  | [], xs, h => by unfold VReps at h; subst h; rfl
  | v :: vs, xs, h => by
    obtain ⟨x, r, rfl, _, h2⟩ := h
    simp [VReps.length h2]
theorem VReps.mono (p : A <+: A') (e : Same F F') : ∀ {vs : List Val} {xs : List V}, VReps Z A F vs xs → VReps Z A' F' vs xs
  | [], xs, h => h
  | v :: vs, xs, h => by
    obtain ⟨x, r, rfl, h1, h2⟩ := h
    exact ⟨x, r, rfl, h1.mono p e, VReps.mono p e h2⟩
theorem vreps1 {v : Val} {xs : List V} (h : VReps Z A F [v] xs) : ∃ x, xs = [x] ∧ VRep Z A F v x := by
  obtain ⟨x, r, rfl, h1, h2⟩ := h
  unfold VReps at h2
  subst h2
  exact ⟨x, rfl, h1⟩
theorem vreps2 {v u : Val} {xs : List V} (h : VReps Z A F [v, u] xs) : ∃ x y, xs = [x, y] ∧ VRep Z A F v x ∧ VRep Z A F u y := by
  obtain ⟨x, r, rfl, h1, h2⟩ := h
  replace h2 := vreps1 h2; obtain ⟨y, rfl, h2⟩ := h2
  exact ⟨x, y, rfl, h1, h2⟩
theorem tArgs_imp : ∀ {fs : List DE} {σ : L2.St} {H : Hp} {Q Q' : List V → Hp → Prop}, (∀ x H, Q x H → Q' x H) → tArgs Z W fs σ H Q → tArgs Z W fs σ H Q'
  | [], _, _, _, _, h, q => h _ _ q
  | f :: fs, _, _, _, _, h, q => tE_imp (fun x H1 q1 => tArgs_imp (fun xs H2 q2 => h _ _ q2) q1) q
theorem tArgs_ok : ∀ {fs : List DE} {k : List Val → DE} {A : List Addr} {F H : Hp} {ce : List Cell}, SO Z.toZx A F ce H → SL Z A F sl σ → PostE Z A F W σ Q (eArgs fs k sl ce) →
    tArgs Z W fs σ H fun xs H1 => ∃ A1 F1 ce1 vs, A <+: A1 ∧ Same F F1 ∧ SO Z.toZx A1 F1 ce1 H1 ∧ VReps Z A1 F1 vs xs ∧ vs.length = fs.length ∧ PostE Z A1 F1 W σ Q (k vs sl ce1)
  | [], k, A, F, H, ce, so, hs, p => ⟨A, F, ce, [], List.prefix_refl _, Same.refl _, so, rfl, rfl, p⟩
  | f :: fs, k, A, F, H, ce, so, hs, p => ⟨A, F, sl, ce, so, hs, (PostE.bind so hs p).imp fun x H1 ⟨A1, F1, ce1, v, p1, e1, s1, r1, q1⟩ =>
      tArgs_imp (fun xs H2 ⟨A2, F2, ce2, vs, p2, e2, s2, r2, l2, q2⟩ => ⟨A2, F2, ce2, v :: vs, p1.trans p2, e1.trans e2, s2, ⟨x, xs, rfl, r1.mono p2 e2, r2⟩, by simp [l2], q2⟩) (tArgs_ok s1 (hs.mono p1 e1) q1)⟩
theorem tN {fs : List DE} {k : List Val → DE} (h : tE Z W (eArgs fs k) σ H Q) :
    tArgs Z W fs σ H fun xs H1 => ∃ A F sl ce vs, SO Z.toZx A F ce H1 ∧ SL Z A F sl σ ∧ VReps Z A F vs xs ∧ vs.length = fs.length ∧ PostE Z A F W σ Q (k vs sl ce) := by
  obtain ⟨A, F, sl, ce, so, hs, p⟩ := h
  exact tArgs_imp (fun xs H2 ⟨A2, F2, ce2, vs, p2, e2, s2, r2, l2, q2⟩ => ⟨A2, F2, sl, ce2, vs, s2, hs.mono p2 e2, r2, l2, q2⟩) (tArgs_ok so hs p)
def ims : List Val → Option (List D)
  | [] => some []
  | .im d :: vs => (ims vs).map (d :: ·)
  | _ :: _ => none
theorem ims_rd : ∀ {vs : List Val} {xs : List V} {ds : List D}, VReps Z A F vs xs → ims vs = some ds → Reps Z.toZx F ds xs
  | [], xs, ds, r, e => by
    unfold VReps at r; subst r; cases e; exact reps_nil
  | .im d :: vs, xs, ds, r, e => by
    obtain ⟨x, r', rfl, h1, h2⟩ := r
    unfold ims at e
    cases q : ims vs with
    | none => rw [q] at e; cases e
    | some es => rw [q] at e; cases e; exact reps_cons h1 (ims_rd h2 q)
  | .cell _ :: _, xs, ds, r, e => by cases e
  | .exn _ _ :: _, xs, ds, r, e => by cases e
end
def kTup (vs : List Val) : DE := fun _ ce => match ims vs with
  | some ds => if ds.length ≤ LINE then .ok (.im (.tup ds)) ce else .stuck
  | none => .stuck
def kLst (vs : List Val) : DE := fun _ ce => match ims vs with
  | some ds => if ds.length ≤ LINE then .ok (.im (.lst ds)) ce else .stuck
  | none => .stuck
def kLstC (vs : List Val) : DE := fun _ ce => match ims vs with
  | some ds => if ds.length ≤ LINE then .ok (.cell ce.length) (ce ++ [.lst ds]) else .stuck
  | none => .stuck
def OkN (Z : Zy) (W : WX) (k : List Val → DE) (r : List V → Hp → VK → Prop) : Prop := ∀ A F sl ce vs xs H σ Q, SO Z.toZx A F ce H → SL Z A F sl σ → VReps Z A F vs xs → PostE Z A F W σ Q (k vs sl ce) → r xs H Q
section
variable {X : Cx} {Z : Zy} {W : WX} {a b c : Expr} {es : List Expr} {f g h : DE} {fs : List DE} {pos : Pos}
theorem da_nil : PA X [] (tArgs Z W []) := pa_nil
theorem da_cons {e : Expr} (ha : PE X e (tE Z W f)) (hr : PA X es (tArgs Z W fs)) (hs : starEach (e :: es) X.env = (false, eval e X.env) :: starEach es X.env := by rfl) : PA X (e :: es) (tArgs Z W (f :: fs)) := pa_cons ha hr hs
theorem de_tup {n} (ha : PA X es (tArgs Z W fs)) : PE X (.Tuple es n pos) (tE Z W (eArgs fs kTup)) := (pe_tup ha).weak fun σ H Q h => tArgs_imp (fun xs H1 ⟨A, F, sl, ce, vs, so, hs, r, _, p⟩ => by
  unfold kTup at p
  split at p
  · rename_i ds e
    have rr := ims_rd (Z := Z) r e
    split at p
    · rename_i hl
      exact ⟨by rw [sizeLine_eq, ← rr.length]; exact hl, fun q hq => fin_newT so p rr hq⟩
    · exact p.elim
  · exact p.elim) (tN h)
theorem de_lst (ha : PA X es (tArgs Z W fs)) : PE X (.List es pos) (tE Z W (eArgs fs kLst)) := (pe_lst ha).weak fun σ H Q h => tArgs_imp (fun xs H1 ⟨A, F, sl, ce, vs, so, hs, r, _, p⟩ => by
  unfold kLst at p
  split at p
  · rename_i ds e
    have rr := ims_rd (Z := Z) r e
    split at p
    · rename_i hl
      exact ⟨by rw [sizeLine_eq, ← rr.length]; exact hl, fun q hq => fin_newL so p rr hq⟩
    · exact p.elim
  · exact p.elim) (tN h)
theorem de_lstC (ha : PA X es (tArgs Z W fs)) : PE X (.List es pos) (tE Z W (eArgs fs kLstC)) := (pe_lst ha).weak fun σ H Q h => tArgs_imp (fun xs H1 ⟨A, F, sl, ce, vs, so, hs, r, _, p⟩ => by
  unfold kLstC at p
  split at p
  · rename_i ds e
    have rr := ims_rd (Z := Z) r e
    split at p
    · rename_i hl
      exact ⟨by rw [sizeLine_eq, ← rr.length]; exact hl, fun q hq => fin_newC so p rr hq⟩
    · exact p.elim
  · exact p.elim) (tN h)
theorem de_callB {id : String} {x : Str} {p : Pos} {e : Expr} {k : List Val → DE} {r : List V → Hp → VK → Prop} (hc : CallR X (.builtin id) r) (hk : OkN Z W k r) (hm : X.mg x = none) (hv : bootBuiltins x = some (.builtin id)) (ha : PA X (e :: es) (tArgs Z W fs))
    (hg : Gl X x := by rfl) (hn : x ≠ "__name__" := by decide) (hdb : (x == ("__debug__" : Str)) = false := by decide)
    (he : starEach (e :: es) X.env = (false, eval e X.env) :: starEach es X.env := by rfl) (hpl : (backTo pos (starEach es X.env)).any (·.1) = false := by rfl) : PE X (.Call (.Name x p) (e :: es) [] pos) (tE Z W (eArgs fs k)) :=
  (pe_callB hc hg hm hv ha hn hdb he hpl).weak fun σ H Q h => tArgs_imp (fun xs H1 ⟨A, F, sl, ce, vs, so, hs, r, _, p⟩ => hk A F sl ce vs xs H1 σ Q so hs r p) (tN h)
theorem de_callTy {T : String} {x : Str} {p : Pos} {e : Expr} {k : List Val → DE} {r : List V → Hp → VK → Prop} (hc : CallR X (.type T) r) (hk : OkN Z W k r) (hm : X.mg x = none) (hv : bootBuiltins x = some (.type T)) (ha : PA X (e :: es) (tArgs Z W fs))
    (hg : Gl X x := by rfl) (hn : x ≠ "__name__" := by decide) (hdb : (x == ("__debug__" : Str)) = false := by decide)
    (he : starEach (e :: es) X.env = (false, eval e X.env) :: starEach es X.env := by rfl) (hpl : (backTo pos (starEach es X.env)).any (·.1) = false := by rfl) : PE X (.Call (.Name x p) (e :: es) [] pos) (tE Z W (eArgs fs k)) :=
  (pe_callTy hc hg hm hv ha hn hdb he hpl).weak fun σ H Q h => tArgs_imp (fun xs H1 ⟨A, F, sl, ce, vs, so, hs, r, _, p⟩ => hk A F sl ce vs xs H1 σ Q so hs r p) (tN h)
end
def kLen : List Val → DE
  | [v] => fun _ ce => match v with
    | .im (.str s) => if s.length ≤ LINE then .ok (.im (.int s.length)) ce else .stuck
    | v => match asSq ce v with
      | some ds => .ok (.im (.int ds.length)) ce
      | none => .stuck
  | _ => kStuck
def kAbs : List Val → DE
  | [.im (.int i)] => eC (.int (if i < 0 then -i else i))
  | _ => kStuck
def kMin : List Val → DE
  | [.im (.int i), .im (.int j)] => eC (.int (if j < i then j else i))
  | _ => kStuck
def kMax : List Val → DE
  | [.im (.int i), .im (.int j)] => eC (.int (if j > i then j else i))
  | _ => kStuck
def kInt : List Val → DE
  | [.im (.int i)] => eC (.int i)
  | [.im (.bl k)] => eC (.int (if k then 1 else 0))
  | _ => kStuck
/-- list(x), a new one that may change -/
def kListC : List Val → DE
  | [v] => fun _ ce => match asSq ce v with
    | some ds => .ok (.cell ce.length) (ce ++ [.lst ds])
    | none => .stuck
  | _ => kStuck
def asBls : List D → Option (List Bool)
  | [] => some []
  | .bl i :: ds => (asBls ds).map (i :: ·)
  | _ :: _ => none
def kAll : List Val → DE
  | [v] => fun _ ce => match asL ce v with
    | some ds => match asBls ds with
      | some bs => .ok (.im (.bl (bs.all id))) ce
      | none => .stuck
    | none => .stuck
  | _ => kStuck
section
variable {X : Cx} {Z : Zy} {W : WX} {A : List Addr} {F H : Hp} {ce : List Cell} {sl : Sl} {σ : L2.St} {Q : VK}
theorem reps_bls : ∀ {ds : List D} {vs : List V} {ns : List Bool}, Reps Z.toZx F ds vs → asBls ds = some ns → vs = ns.map V.bl
  | [], vs, ns, r, e => by rw [reps_nil_inv r]; cases e; rfl
  | d :: ds, vs, ns, r, e => by
    obtain ⟨v, r', rfl, h1, h2⟩ := reps_cons_inv r
    cases d with
    | bl i =>
      unfold asBls at e
      cases q : asBls ds with
      | none => rw [q] at e; cases e
      | some ms =>
        rw [q] at e; cases e
        unfold Rep at h1
        rw [h1, reps_bls h2 q]; rfl
    | _ => cases e
theorem ok_len (hK : X.K = Z.K) : OkN Z W kLen (fun xs H Q => ∃ x n, xs = [x] ∧ LenV X.K x H n ∧ Q (.int n) H) := by
  intro A F sl ce vs xs H σ Q so hs r p
  rw [hK]
  unfold kLen at p
  split at p
  · replace r := vreps1 r; obtain ⟨x, rfl, r⟩ := r
    split at p
    · split at p
      · rename_i s hl
        rw [rep_str r]
        exact ⟨_, s.length, rfl, ⟨by rw [sizeLine_eq]; exact hl, rfl⟩, fin_flat so p repI⟩
      · exact p.elim
    · split at p
      · rename_i ds e
        obtain ⟨l, ws, rfl, h1, h2⟩ := asSq_rd so r e
        refine ⟨_, ds.length, rfl, ?_, fin_flat so p repI⟩
        rcases h1 with h1 | h1
        · exact .inl ⟨ws, h1, h2.length⟩
        · exact .inr ⟨ws, h1, h2.length⟩
      · exact p.elim
  · exact p.elim
theorem ok_abs : OkN Z W kAbs (fun xs H Q => ∃ i, xs = [.int i] ∧ Q (.int (if i < 0 then -i else i)) H) := by
  intro A F sl ce vs xs H σ Q so hs r p
  unfold kAbs at p
  split at p
  · replace r := vreps1 r; obtain ⟨x, rfl, r⟩ := r
    rw [rep_int r]
    exact ⟨_, rfl, fin_flat so p repI⟩
  · exact p.elim
theorem ok_min : OkN Z W kMin (fun xs H Q => ∃ i j, xs = [.int i, .int j] ∧ Q (.int (if j < i then j else i)) H) := by
  intro A F sl ce vs xs H σ Q so hs r p
  unfold kMin at p
  split at p
  · replace r := vreps2 r; obtain ⟨x, y, rfl, r, r'⟩ := r
    rw [rep_int r, rep_int r']
    exact ⟨_, _, rfl, fin_flat so p repI⟩
  · exact p.elim
theorem ok_int1 : OkN Z W kInt (fun xs H Q => (∃ i, xs = [.int i] ∧ Q (.int i) H) ∨ ∃ k, xs = [.bl k] ∧ Q (.int (if k then 1 else 0)) H) := by
  intro A F sl ce vs xs H σ Q so hs r p
  unfold kInt at p
  split at p
  · replace r := vreps1 r; obtain ⟨x, rfl, r⟩ := r
    rw [rep_int r]
    exact .inl ⟨_, rfl, fin_flat so p repI⟩
  · replace r := vreps1 r; obtain ⟨x, rfl, r⟩ := r
    rw [rep_bl r]
    exact .inr ⟨_, rfl, fin_flat so p repI⟩
  · exact p.elim
theorem ok_listC (hK : X.K = Z.K) : OkN Z W kListC (fun xs H Q => ∃ p ys, xs = [.ref p] ∧ (SqL X.K H p ys ∨ SqT X.K H p ys) ∧ ∀ l, H l = none → Q (.ref l) (upd H l (.lst ys))) := by
  intro A F sl ce vs xs H σ Q so hs r p
  rw [hK]
  unfold kListC at p
  split at p
  · replace r := vreps1 r; obtain ⟨x, rfl, r⟩ := r
    split at p
    · rename_i ds e
      obtain ⟨l, ws, rfl, h1, h2⟩ := asSq_rd so r e
      exact ⟨l, ws, rfl, h1, fun q hq => fin_newC so p h2 hq⟩
    · exact p.elim
  · exact p.elim
theorem ok_all (hK : X.K = Z.K) : OkN Z W kAll (rAll X.K) := by
  intro A F sl ce vs xs H σ Q so hs r p
  rw [hK]
  unfold kAll at p
  split at p
  · replace r := vreps1 r; obtain ⟨x, rfl, r⟩ := r
    split at p
    · rename_i ds e
      split at p
      · rename_i ns e2
        obtain ⟨l, ws, rfl, h1, h2⟩ := asL_rd so r e
        have := reps_bls h2 e2
        subst this
        exact ⟨l, ns, rfl, SqL.of h1, fin_flat so p repB⟩
      · exact p.elim
    · exact p.elim
  · exact p.elim
end
def eOpt : Option DE → (Option Int → DE) → DE
  | none, k => k none
  | some f, k => eBind f fun v => match v with
    | .im (.int i) => k (some i)
    | _ => kStuck
def cutD (xs : List D) (lo hi : Option Int) : List D := (xs.drop (HT.sIx xs.length 0 lo)).take (HT.sIx xs.length xs.length hi - HT.sIx xs.length 0 lo)
def kSlL (v : Val) (lo hi : Option Int) : DE := fun _ ce => match v with
  | .im (.str z) => if z.length ≤ LINE then .ok (.im (.str (cutS z lo hi))) ce else .stuck
  | v => match asL ce v with
    | some ds => .ok (.im (.lst (cutD ds lo hi))) ce
    | none => .stuck
def eSlice (f : DE) (lo hi : Option DE) : DE := eBind f fun v => eOpt lo fun l => eOpt hi fun h => kSlL v l h
def rSlA (K : PySem.W.Frag) : V → Option Int → Option Int → Hp → VK → Prop := fun x lo hi H Q => rSlL K x lo hi H Q ∨ rSlS x lo hi H Q
section
variable {X : Cx} {Z : Zy} {W : WX} {a b c : Expr} {f g h : DE} {pos : Pos}
theorem sl_any : SlR X (rSlA X.K) := sl_list.or sl_str
def tOpt (Z : Zy) (W : WX) : Option DE → TO
  | none => tNoPart
  | some f => tPart (tE Z W f)
theorem dp_none : PO X none (tOpt Z W none) := po_none
theorem dp_some {e : Expr} (h : PE X e (tE Z W f)) : PO X (some e) (tOpt Z W (some f)) := po_some h
theorem opt_ok {fo : Option DE} {k : Option Int → DE} {A F sl ce H σ Q} {R : Option Int → Hp → Prop} (so : SO Z.toZx A F ce H) (hs : SL Z A F sl σ) (p : PostE Z A F W σ Q (eOpt fo k sl ce))
    (hR : ∀ A1 F1 ce1 i H1, A <+: A1 → Same F F1 → SO Z.toZx A1 F1 ce1 H1 → PostE Z A1 F1 W σ Q (k i sl ce1) → R i H1) : tOpt Z W fo σ H R := by
  cases fo with
  | none => exact hR A F ce none H (List.prefix_refl _) (Same.refl _) so p
  | some f =>
    refine ⟨A, F, sl, ce, so, hs, (PostE.bind so hs p).imp fun x H1 ⟨A1, F1, ce1, v, p1, e1, s1, r1, q1⟩ => ?_⟩
    split at q1
    · exact ⟨_, rep_int r1, hR A1 F1 ce1 _ H1 p1 e1 s1 q1⟩
    · exact q1.elim
theorem reps_cut {F : Hp} {ds : List D} {vs : List V} (lo hi : Option Int) (r : Reps Z.toZx F ds vs) : Reps Z.toZx F (cutD ds lo hi) (cutV vs lo hi) := by
  unfold cutD cutV
  rw [r.length]
  exact (r.drop _).take _
theorem de_slice {e : Expr} {lo hi : Option Expr} {fl fh : Option DE} {p2 : Pos} (hK : X.K = Z.K) (he : PE X e (tE Z W f)) (hl : PO X lo (tOpt Z W fl)) (hu : PO X hi (tOpt Z W fh)) : PE X (.Subscript e (.Slice lo hi none p2) pos) (tE Z W (eSlice f fl fh)) :=
  (pe_slice (r := rSlA Z.K) (by rw [← hK]; exact sl_any) he hl hu).weak fun σ H Q q => tE_imp (fun x H1 ⟨A, F, sl, ce, v, so, hs, r, p⟩ => by
    refine opt_ok so hs p fun A1 F1 ce1 i H2 p1 e1 so1 q1 => opt_ok so1 (hs.mono p1 e1) q1 fun A2 F2 ce2 j H3 p2 e2 so2 q2 => ?_
    have r2 := (r.mono p1 e1).mono p2 e2
    unfold kSlL at q2
    split at q2
    · split at q2
      · rename_i z hz
        exact .inr ⟨z, rep_str r2, by rw [sizeLine_eq]; exact hz, fin_flat so2 q2 repS⟩
      · exact q2.elim
    · split at q2
      · rename_i ds e
        obtain ⟨l, ws, rfl, h1, h2⟩ := asL_rd so2 r2 e
        exact .inl ⟨l, ws, rfl, SqL.of h1, fun q hq => fin_newL so2 q2 (reps_cut i j h2) hq⟩
      · exact q2.elim) (tE1 q)
end
def OkM (Z : Zy) (W : WX) (K : PySem.W.Frag) (T : String) (ty : List Cell → Val → Bool) (k : Val → List Val → DE) (r : V → List V → Hp → VK → Prop) : Prop :=
  (∀ A F ce v x H, SO Z.toZx A F ce H → VRep Z A F v x → ty ce v = true → tyV K T x H) ∧
  ∀ A F sl ce v x vs xs H σ Q, SO Z.toZx A F ce H → SL Z A F sl σ → VRep Z A F v x → VReps Z A F vs xs → PostE Z A F W σ Q (k v vs sl ce) → r x xs H Q
/-- the value's type is looked at, then the arguments -/
def eMth (ty : List Cell → Val → Bool) (k : Val → List Val → DE) (f : DE) (fs : List DE) : DE := eBind f fun v sl ce => if ty ce v then eArgs fs (k v) sl ce else .stuck
def tyL (ce : List Cell) (v : Val) : Bool := (asL ce v).isSome
def tyS (_ : List Cell) : Val → Bool
  | .im (.str _) => true
  | _ => false
section
variable {X : Cx} {Z : Zy} {W : WX} {o e : Expr} {es : List Expr} {f g h : DE} {fs : List DE} {pos apos cpos : Pos} {T id : String} {name : Str} {ty : List Cell → Val → Bool} {k : Val → List Val → DE} {r : V → List V → Hp → VK → Prop}
theorem de_bm (pa : PlainAttrs T) (slot : Slot T name id) (hty : typeOf (.builtin id) = pure (.type "method_descriptor")) (hm : MtR X id r) (hk : OkM Z W X.K T ty k r) (ho : PE X o (tE Z W f)) (ha : PA X (e :: es) (tArgs Z W fs))
    (hb : attributeBase o name X.env (eval o X.env) = eval o X.env := by rfl) (hl : (apos.endLine == cpos.line) = true := by rfl) (hs : starEach (e :: es) X.env = (false, eval e X.env) :: starEach es X.env := by rfl) (hpl : (backTo cpos (starEach es X.env)).any (·.1) = false := by rfl) (hfew : ((backTo cpos (starEach (e :: es) X.env)).all (fun x => !x.1) && (backToKw cpos (keywordEach [] X.env)).all (fun x => x.1.isSome)
      && decide ((e :: es).length + ([] : List Keyword).length + (if ([] : List Keyword).isEmpty then 0 else 1) < 30)) = true := by rfl) :
    PE X (.Call (.Attribute o name apos) (e :: es) [] cpos) (tE Z W (eMth ty k f fs)) := by
  refine (pe_bm pa slot hty hm ho ha hb hfew hl hs hpl).weak fun σ H Q q => tE_imp (fun x H1 ⟨A, F, sl, ce, v, so, hs, r, p⟩ => ?_) (tE1 q)
  by_cases ht : ty ce v = true
  · rw [if_pos ht] at p
    exact ⟨hk.1 A F ce v x H1 so r ht, tArgs_imp (fun xs H2 ⟨A2, F2, ce2, vs, p2, e2, s2, r2, l2, q2⟩ => hk.2 A2 F2 sl ce2 v x vs xs H2 σ Q s2 (hs.mono p2 e2) (r.mono p2 e2) r2 q2) (tArgs_ok so hs p)⟩
  · rw [if_neg ht] at p
    exact p.elim
end
section
variable {X : Cx} {Z : Zy} {W : WX}
theorem tyL_ok (hK : X.K = Z.K) : ∀ (A : List Addr) (F : Hp) (ce : List Cell) (v : Val) (x : V) (H : Hp), SO Z.toZx A F ce H → VRep Z A F v x → tyL ce v = true → tyV X.K "list" x H := by
  intro A F ce v x H so r t
  unfold tyL at t
  cases e : asL ce v with
  | none => rw [e] at t; cases t
  | some ds =>
    obtain ⟨l, ws, rfl, h1, h2⟩ := asL_rd so r e
    exact .inl ⟨rfl, ws, SqL.of h1⟩
theorem tyS_ok : ∀ (A : List Addr) (F : Hp) (ce : List Cell) (v : Val) (x : V) (H : Hp), SO Z.toZx A F ce H → VRep Z A F v x → tyS ce v = true → tyV X.K "str" x H := by
  intro A F ce v x H so r t
  unfold tyS at t
  split at t
  · rw [rep_str r]; rfl
  · cases t
end
def kAppend (v : Val) (vs : List Val) : DE := fun _ ce => match v, vs with
  | .cell n, [.im d] => match ce[n]? with
    | some (.lst ds) => if ds.length < LINE then .ok (.im .non) (ce.set n (.lst (ds ++ [d]))) else .stuck
    | _ => .stuck
  | _, _ => .stuck
/-- xs.pop(i) -/
def kPopAt (v : Val) (vs : List Val) : DE := fun _ ce => match v, vs with
  | .cell n, [.im (.int i)] => match ce[n]? with
    | some (.lst ds) => if -(2 ^ 63) ≤ i ∧ i < 2 ^ 63 then (match seqIndex? i ds.length with
      | some j => match ds[j]? with
        | some d => .ok (.im d) (ce.set n (.lst (ds.eraseIdx j)))
        | none => .stuck
      | none => .stuck) else .stuck
    | _ => .stuck
  | _, _ => .stuck
section
variable {X : Cx} {Z : Zy} {W : WX}
theorem cell_rd {A F ce H n x ds} (so : SO Z.toZx A F ce H) (r : VRep Z A F (.cell n) x) (hk : ce[n]? = some (.lst ds)) : ∃ l vs, A[n]? = some l ∧ x = .ref l ∧ F l = none ∧ H l = some (.lst vs) ∧ Reps Z.toZx F ds vs := by
  obtain ⟨a, h1, rfl⟩ := r
  obtain ⟨h0, vs, h2, h3⟩ := so.ok n a _ h1 hk
  exact ⟨a, vs, h1, rfl, h0, h2, h3⟩
theorem fin_write {A F ce H n l ds vs d x σ Q} (so : SO Z.toZx A F ce H) (hA : A[n]? = some l) (hF : F l = none) (r : Reps Z.toZx F ds vs) (rd : Rep Z.toZx F d x) (p : PostE Z A F W σ Q (.ok (.im d) (ce.set n (.lst ds)))) : Q x (upd H l (.lst vs)) :=
  p A F _ _ (List.prefix_refl _) (Same.refl _) (so.write hA hF ⟨hF, vs, upd_same, r⟩) rd
theorem okm_append (hK : X.K = Z.K) : OkM Z W X.K "list" tyL kAppend rAppend := by
  refine ⟨tyL_ok hK, fun A F sl ce v x vs xs H σ Q so hs rv rs p => ?_⟩
  unfold kAppend at p
  split at p
  · split at p
    · rename_i n d ds hk
      split at p
      · rename_i hl
        obtain ⟨l, ws, hA, rfl, hF, h2, h3⟩ := cell_rd so rv hk
        obtain ⟨y, rfl, ry⟩ := vreps1 rs
        exact ⟨l, ws, y, rfl, rfl, h2, by rw [sizeLine_eq, ← h3.length]; exact hl, fin_write so hA hF (h3.append (reps_cons ry reps_nil)) repN p⟩
      · exact p.elim
    · exact p.elim
  · exact p.elim
theorem okm_popAt (hK : X.K = Z.K) : OkM Z W X.K "list" tyL kPopAt rPopAt := by
  refine ⟨tyL_ok hK, fun A F sl ce v x vs xs H σ Q so hs rv rs p => ?_⟩
  unfold kPopAt at p
  split at p
  · split at p
    · rename_i n i _ ds hk
      split at p
      · rename_i hb
        split at p
        · rename_i j hj
          split at p
          · rename_i d hd
            obtain ⟨l, ws, hA, rfl, hF, h2, h3⟩ := cell_rd so rv hk
            obtain ⟨y, rfl, ry⟩ := vreps1 rs
            obtain ⟨y, hy, rd⟩ := h3.get' hd
            rw [rep_int ry]
            exact ⟨l, ws, i, j, y, rfl, rfl, h2, hb.1, hb.2, by rw [← h3.length]; exact hj, hy, fin_write so hA hF (h3.eraseIdx j) rd p⟩
          · exact p.elim
        · exact p.elim
      · exact p.elim
    · exact p.elim
  · exact p.elim
theorem de_append {o e : Expr} {f g : DE} {apos cpos : Pos} (hK : X.K = Z.K) (ho : PE X o (tE Z W f)) (ha : PE X e (tE Z W g))
    (hb : attributeBase o "append" X.env (eval o X.env) = eval o X.env := by rfl) (hl : (apos.endLine == cpos.line) = true := by rfl) (hs : starEach [e] X.env = (false, eval e X.env) :: starEach [] X.env := by rfl) (hfew : ((backTo cpos (starEach [e] X.env)).all (fun x => !x.1) && (backToKw cpos (keywordEach [] X.env)).all (fun x => x.1.isSome)
      && decide ([e].length + ([] : List Keyword).length + (if ([] : List Keyword).isEmpty then 0 else 1) < 30)) = true := by rfl) :
    PE X (.Call (.Attribute o "append" apos) [e] [] cpos) (tE Z W (eMth tyL kAppend f [g])) :=
  de_bm PySem.F.plainAttrs_list PySem.F.slot_list_append PySem.F.type_list_append mt_append (okm_append hK) ho (da_cons ha da_nil hs) hb hl hs rfl hfew
theorem de_popAt {o e : Expr} {f g : DE} {apos cpos : Pos} (hK : X.K = Z.K) (ho : PE X o (tE Z W f)) (ha : PE X e (tE Z W g))
    (hb : attributeBase o "pop" X.env (eval o X.env) = eval o X.env := by rfl) (hl : (apos.endLine == cpos.line) = true := by rfl) (hs : starEach [e] X.env = (false, eval e X.env) :: starEach [] X.env := by rfl) (hfew : ((backTo cpos (starEach [e] X.env)).all (fun x => !x.1) && (backToKw cpos (keywordEach [] X.env)).all (fun x => x.1.isSome)
      && decide ([e].length + ([] : List Keyword).length + (if ([] : List Keyword).isEmpty then 0 else 1) < 30)) = true := by rfl) :
    PE X (.Call (.Attribute o "pop" apos) [e] [] cpos) (tE Z W (eMth tyL kPopAt f [g])) :=
  de_bm PySem.F.plainAttrs_list PySem.F.slot_list_pop PySem.F.type_list_pop mt_popAt (okm_popAt hK) ho (da_cons ha da_nil hs) hb hl hs rfl hfew
end
end ZZ
set_option Elab.async false
set_option linter.all false
set_option maxRecDepth 100000
namespace ZZ
open PySem PySem.Spec L2
inductive Out where
  | nx (sl : Sl) (ce : List Cell) | rt (v : Val) (ce : List Cell) | bk (sl : Sl) (ce : List Cell) | ct (sl : Sl) (ce : List Cell)
  | exc (c : Nat) (ds : List D) (sl : Sl) (ce : List Cell) | stuck
abbrev DSt := Sl → List Cell → Out
def PostS (Z : Zy) (A : List Addr) (F : Hp) (W : WX) (D : Ends) : Out → Prop
  | .nx sl ce => ∀ A' F' H' σ', A <+: A' → Same F F' → SO Z.toZx A' F' ce H' → SL Z A' F' sl σ' → D.nx σ' H'
  | .bk sl ce => ∀ A' F' H' σ', A <+: A' → Same F F' → SO Z.toZx A' F' ce H' → SL Z A' F' sl σ' → D.bk σ' H'
  | .ct sl ce => ∀ A' F' H' σ', A <+: A' → Same F F' → SO Z.toZx A' F' ce H' → SL Z A' F' sl σ' → D.ct σ' H'
  | .rt v ce => ∀ A' F' H' x, A <+: A' → Same F F' → SO Z.toZx A' F' ce H' → VRep Z A' F' v x → D.rt x H'
  | .exc c ds sl ce => ∀ A' F' H' σ' dx, A <+: A' → Same F F' → SO Z.toZx A' F' ce H' → SL Z A' F' sl σ' → ExcOk Z.toZx F' c ds dx → W (.ref (Z.cl c)) dx σ' H'
  | .stuck => False
def tS (Z : Zy) (W : WX) (f : DSt) : TS := fun D σ H => ∃ A F sl ce, SO Z.toZx A F ce H ∧ SL Z A F sl σ ∧ PostS Z A F W D (f sl ce)
def sSeq (f g : DSt) : DSt := fun sl ce => match f sl ce with
  | .nx sl' ce' => g sl' ce'
  | o => o
def sNil : DSt := fun sl ce => .nx sl ce
def sExp (f : DE) (k : Val → DSt) : DSt := fun sl ce => match f sl ce with
  | .ok v ce' => k v sl ce'
  | .exc c ds ce' => .exc c ds sl ce'
  | .stuck => .stuck
def sSet (i : Nat) (f : DE) : DSt := sExp f fun v sl ce => .nx (sl.set i (some v)) ce
def sRet (f : DE) : DSt := sExp f fun v _ ce => .rt v ce
def sDrop (f : DE) : DSt := sExp f fun _ sl ce => .nx sl ce
def sStuck : DSt := fun _ _ => .stuck
def sIf (c : DE) (f g : DSt) : DSt := sExp c fun v => match v with
  | .im (.bl b) => if b then f else g
  | _ => sStuck
/-- a ghost step: the cell at slot i is settled -/
def frz (i : Nat) (f : DSt) : DSt := fun sl ce => match sl[i]? with
  | some (some (.cell k)) => match ce[k]? with
    | some (.lst ds) => f (sl.set i (some (.im (.lst ds)))) (ce.set k .dead)
    | some (.dct ks vs) => f (sl.set i (some (.im (.dct ks vs)))) (ce.set k .dead)
    | _ => .stuck
  | _ => .stuck
section
variable {Z : Zy} {A A' : List Addr} {F F' H : Hp} {ce : List Cell} {sl : Sl} {σ : L2.St} {W : WX} {Q Q' : VK} {D D' : Ends}
theorem PostS.mono {r : Out} (p : A <+: A') (e : Same F F') (h : PostS Z A F W D r) : PostS Z A' F' W D r := by
  cases r with
  | stuck => exact h
  | exc c ds sl ce => exact fun A2 F2 H2 x dx p2 e2 => h A2 F2 H2 x dx (p.trans p2) (e.trans e2)
  | nx sl ce => exact fun A2 F2 H2 x p2 e2 => h A2 F2 H2 x (p.trans p2) (e.trans e2)
  | rt sl ce => exact fun A2 F2 H2 x p2 e2 => h A2 F2 H2 x (p.trans p2) (e.trans e2)
  | bk sl ce => exact fun A2 F2 H2 x p2 e2 => h A2 F2 H2 x (p.trans p2) (e.trans e2)
  | ct sl ce => exact fun A2 F2 H2 x p2 e2 => h A2 F2 H2 x (p.trans p2) (e.trans e2)
theorem PostS.imp {r : Out} (h1 : ∀ σ H, D.nx σ H → D'.nx σ H) (h2 : ∀ x H, D.rt x H → D'.rt x H) (h3 : ∀ σ H, D.bk σ H → D'.bk σ H) (h4 : ∀ σ H, D.ct σ H → D'.ct σ H) (h : PostS Z A F W D r) : PostS Z A F W D' r := by
  cases r with
  | nx sl ce => exact fun A2 F2 H2 x p2 e2 s l => h1 _ _ (h A2 F2 H2 x p2 e2 s l)
  | rt v ce => exact fun A2 F2 H2 x p2 e2 s l => h2 _ _ (h A2 F2 H2 x p2 e2 s l)
  | bk sl ce => exact fun A2 F2 H2 x p2 e2 s l => h3 _ _ (h A2 F2 H2 x p2 e2 s l)
  | ct sl ce => exact fun A2 F2 H2 x p2 e2 s l => h4 _ _ (h A2 F2 H2 x p2 e2 s l)
  | exc c ds sl ce => exact h
  | stuck => exact h
theorem PostS.exp {f : DE} {k : Val → DSt} (so : SO Z.toZx A F ce H) (hs : SL Z A F sl σ) (h : PostS Z A F W D (sExp f k sl ce)) :
    PostE Z A F W σ (fun x H1 => ∃ A1 F1 ce1 v, A <+: A1 ∧ Same F F1 ∧ SO Z.toZx A1 F1 ce1 H1 ∧ VRep Z A1 F1 v x ∧ PostS Z A1 F1 W D (k v sl ce1)) (f sl ce) := by
  unfold sExp at h
  cases e : f sl ce with
  | ok v ce1 =>
    rw [e] at h
    exact fun A1 F1 H1 x p1 e1 s1 r1 => ⟨A1, F1, ce1, v, p1, e1, s1, r1, h.mono p1 e1⟩
  | exc c ds ce1 =>
    rw [e] at h
    exact fun A1 F1 H1 dx p1 e1 s1 x1 => h A1 F1 H1 σ dx p1 e1 s1 (hs.mono p1 e1) x1
  | stuck =>
    rw [e] at h
    exact h.elim
theorem tS1 {f : DE} {k : Val → DSt} (h : tS Z W (sExp f k) D σ H) :
    tE Z W f σ H fun x H1 => ∃ A F sl ce v, SO Z.toZx A F ce H1 ∧ SL Z A F sl σ ∧ VRep Z A F v x ∧ PostS Z A F W D (k v sl ce) := by
  obtain ⟨A, F, sl, ce, so, hs, p⟩ := h
  exact ⟨A, F, sl, ce, so, hs, (PostS.exp so hs p).imp fun x H1 ⟨A1, F1, ce1, v, p1, e1, s1, r1, q1⟩ => ⟨A1, F1, sl, ce1, v, s1, hs.mono p1 e1, r1, q1⟩⟩
theorem nxS (so : SO Z.toZx A F ce H) (hs : SL Z A F sl σ) (p : PostS Z A F W D (.nx sl ce)) : D.nx σ H := p A F H σ (List.prefix_refl _) (Same.refl _) so hs
end
section
variable {X : Cx} {Z : Zy} {W : WX} {st : Stmt} {sts : List Stmt} {f g : DSt} {e : Expr} {fe : DE} {pos : Pos}
theorem ds_nil : PSs X [] (tS Z W sNil) := pss_nil.weak fun D σ H ⟨A, F, sl, ce, so, hs, p⟩ => nxS so hs p
theorem ds_cons (h1 : PS X st (tS Z W f)) (h2 : PSs X sts (tS Z W g)) : PSs X (st :: sts) (tS Z W (sSeq f g)) := (pss_cons h1 h2).weak fun D σ H ⟨A, F, sl, ce, so, hs, p⟩ => by
  refine ⟨A, F, sl, ce, so, hs, ?_⟩
  unfold sSeq at p
  cases e : f sl ce with
  | nx sl1 ce1 =>
    rw [e] at p
    exact fun A1 F1 H1 σ1 p1 e1 s1 l1 => ⟨A1, F1, sl1, ce1, s1, l1, p.mono p1 e1⟩
  | rt v ce => rw [e] at p; exact p
  | bk v ce => rw [e] at p; exact p
  | ct v ce => rw [e] at p; exact p
  | exc c ds sl ce => rw [e] at p; exact p
  | stuck => rw [e] at p; exact p
theorem ds_one (h1 : PS X st (tS Z W f)) : PSs X [st] (tS Z W f) := pss_one h1
theorem ds_set {i : Nat} {x : Str} {pos' : Pos} (hN : X.N.Nodup) (he : PE X e (tE Z W fe)) (hi : X.N[i]? = some x := by rfl) (hx : Loc X.env.scope x := by first | exact Or.inl rfl | exact Or.inr rfl) (hs : swapsWith e (some (.Name x pos')) pos.line X.env = pure false := by rfl)
    (hf : X.fn x = true ∨ X.env.scope.names.lookup x = some .local := by first | exact .inl rfl | exact .inr rfl) : PS X (.Assign [.Name x pos'] e pos) (tS Z W (sSet i fe)) :=
  (ps_set hN hi hx he hs hf).weak fun D σ H h => tE_imp (fun x H1 ⟨A, F, sl, ce, v, so, hs, r, p⟩ => nxS so (hs.set r) p) (tS1 h)
theorem ds_ret (he : PE X e (tE Z W fe)) : PS X (.Return (some e) pos) (tS Z W (sRet fe)) :=
  (ps_ret he).weak fun D σ H h => tE_imp (fun x H1 ⟨A, F, sl, ce, v, so, hs, r, p⟩ => p A F H1 x (List.prefix_refl _) (Same.refl _) so r) (tS1 h)
theorem ds_expr (he : PE X e (tE Z W fe)) (hs : swapsWith e none pos.line X.env = pure false := by rfl) : PS X (.Expr e pos) (tS Z W (sDrop fe)) :=
  (ps_expr he hs).weak fun D σ H h => tE_imp (fun x H1 ⟨A, F, sl, ce, v, so, hs, r, p⟩ => nxS so hs p) (tS1 h)
theorem ds_if {c : Expr} {a b : List Stmt} (hc : PT X c (tT Z W fe)) (ha : PSs X a (tS Z W f)) (hb : PSs X b (tS Z W g)) : PS X (.If c a b pos) (tS Z W (sIf fe f g)) :=
  (ps_if hc ha hb).weak fun D σ H h => tE_imp (fun x H1 ⟨A, F, sl, ce, v, so, hs, r, p⟩ => by
    split at p
    · rename_i b
      refine ⟨b, rep_bl r, ?_⟩
      cases b with
      | true => exact iteT ⟨A, F, sl, ce, so, hs, p⟩
      | false => exact iteF ⟨A, F, sl, ce, so, hs, p⟩
    · exact p.elim) (tS1 h)
end
abbrev GD : Type := D → Sl → Option Sl
def gN (i : Nat) : GD := fun d sl => some (sl.set i (some (.im d)))
def gL : List GD → List D → Sl → Option Sl
  | [], [], sl => some sl
  | g :: gs, d :: ds, sl => (g d sl).bind fun sl' => gL gs ds sl'
  | _, _, _ => none
def gT (gs : List GD) : GD := fun d sl => match d with
  | .tup ds => gL gs ds sl
  | _ => none
/-- the slots but those at ix are as they were -/
def Agree (ix : List Nat) (σ σ' : L2.St) : Prop := σ'.length = σ.length ∧ ∀ j : Nat, j ∉ ix → σ'[j]? = σ[j]?
def tG (Z : Zy) (ix : List Nat) (g : GD) : TG := fun v σ H Q => ∃ A F sl ce d, SO Z.toZx A F ce H ∧ SL Z A F sl σ ∧ Rep Z.toZx F d v ∧ ∃ sl', g d sl = some sl' ∧ ∀ σ', SL Z A F sl' σ' → Agree ix σ σ' → Q σ' H
def tGs (Z : Zy) (ix : List Nat) (gs : List GD) : TGs := fun vs σ H Q => ∃ A F sl ce ds, SO Z.toZx A F ce H ∧ SL Z A F sl σ ∧ Reps Z.toZx F ds vs ∧ ∃ sl', gL gs ds sl = some sl' ∧ ∀ σ', SL Z A F sl' σ' → Agree ix σ σ' → Q σ' H
section
variable {X : Cx} {Z : Zy} {W : WX} {e : Expr} {es : List Expr} {g : GD} {gs : List GD} {ix ix' : List Nat} {pos : Pos}
theorem pg_weak {t t' : TG} (h : PG X e t) (hw : ∀ v σ H Q, t' v σ H Q → t v σ H Q) : PG X e t' := ⟨fun pins s σ H v u Q I r q => h.run pins s σ H v u Q I r (hw _ _ _ _ q)⟩
theorem pgs_weak {t t' : TGs} (h : PGs X es t) (hw : ∀ v σ H Q, t' v σ H Q → t v σ H Q) : PGs X es t' := ⟨fun pins s σ H v u Q I r q => h.run pins s σ H v u Q I r (hw _ _ _ _ q)⟩
theorem dg_name {i : Nat} {x : Str} (hN : X.N.Nodup) (hi : X.N[i]? = some x := by rfl) (hx : Loc X.env.scope x := by first | exact Or.inl rfl | exact Or.inr rfl)
    (hf : X.fn x = true ∨ X.env.scope.names.lookup x = some .local := by first | exact .inl rfl | exact .inr rfl) : PG X (.Name x pos) (tG Z [i] (gN i)) :=
  pg_weak (pg_name hN hi hx hf) fun v σ H Q ⟨A, F, sl, ce, d, so, hs, r, sl', e, q⟩ => by
    cases e
    refine q _ (hs.set r) ⟨by simp, fun j hj => ?_⟩
    have : i ≠ j := fun z => hj (by simp [z])
    rw [List.getElem?_set_ne this]
theorem dgs_nil : PGs X [] (tGs Z [] []) := pgs_weak pgs_nil fun v σ H Q ⟨A, F, sl, ce, ds, so, hs, r, sl', e, q⟩ => by
  cases ds with
  | nil =>
    cases e
    exact ⟨reps_nil_inv r, q σ hs ⟨rfl, fun _ _ => rfl⟩⟩
  | cons d ds => cases e
theorem dgs_cons (h1 : PG X e (tG Z ix g)) (h2 : PGs X es (tGs Z ix' gs)) (hs : (assignEach (e :: es) X.env).map (·.2) = assign e X.env :: (assignEach es X.env).map (·.2) := by rfl) : PGs X (e :: es) (tGs Z (ix ++ ix') (g :: gs)) := pgs_weak (pgs_cons h1 h2 hs) fun vs σ H Q ⟨A, F, sl, ce, ds, so, hs, r, sl', e, q⟩ => by
  cases ds with
  | nil => cases e
  | cons d ds =>
    obtain ⟨v, r', rfl, h1, h2⟩ := reps_cons_inv r
    refine ⟨v, r', rfl, A, F, sl, ce, d, so, hs, h1, ?_⟩
    unfold gL at e
    cases e1 : g d sl with
    | none => rw [e1] at e; cases e
    | some sl1 =>
      rw [e1] at e
      exact ⟨sl1, rfl, fun σ1 l1 a1 => ⟨A, F, sl1, ce, ds, so, l1, h2, sl', e, fun σ2 l2 a2 => q σ2 l2 ⟨a2.1.trans a1.1, fun j hj => (a2.2 j fun z => hj (by simp [z])).trans (a1.2 j fun z => hj (by simp [z]))⟩⟩⟩
theorem gL_len : ∀ {gs : List GD} {ds : List D} {sl sl' : Sl}, gL gs ds sl = some sl' → ds.length = gs.length
  | [], [], _, _, _ => rfl
  | [], _ :: _, _, _, h => by cases h
  | _ :: _, [], _, _, h => by cases h
  | g :: gs, d :: ds, sl, sl', h => by
    unfold gL at h
    cases e1 : g d sl with
    | none => rw [e1] at h; cases h
    | some sl1 => rw [e1] at h; simp [gL_len (show gL gs ds sl1 = some sl' from h)]
theorem dg_tup {k : Nat} (hK : X.K = Z.K) (hc : X.calm = true) (h : PGs X es (tGs Z ix gs)) (hl : (assignEach es X.env).length = gs.length := by rfl) (hst : (assignEach es X.env).findIdx? (·.1) = none := by rfl) : PG X (.Tuple es k pos) (tG Z ix (gT gs)) := pg_weak (pg_tup hc h hl hst) fun v σ H Q ⟨A, F, sl, ce, d, so, hs, r, sl', e, q⟩ => by
  unfold gT at e
  split at e
  · rename_i ds
    unfold Rep at r
    obtain ⟨a, vs, rfl, h1, h2⟩ := r
    exact ⟨a, vs, rfl, by rw [hK]; exact same_seqT so.sub h1, by rw [← h2.length, gL_len e], A, F, sl, ce, ds, so, hs, h2, sl', e, q⟩
  · cases e
end
inductive IOut where
  | ok (ds : List D) (ce : List Cell) | exc (c : Nat) (ds : List D) (ce : List Cell) | stuck
abbrev DI := Sl → List Cell → IOut
def JOk (Z : Zx) (F : Hp) (J : It) (ds : List D) : Prop := ∀ F1 H i, Same F F1 → Same F1 H → (i = ds.length → J.stop i H) ∧
  ∀ d, ds[i]? = some d → J.go i H ∧ ∀ x H', J.yld i H x H' → (Rep Z F1 d x ∧ H' = H) ∨ ∃ p o, H p = none ∧ H' = upd H p o ∧ Rep Z (upd F1 p o) d x
def tI (Z : Zy) (W : WX) (f : DI) : TI := fun σ H R => ∃ A F sl ce, SO Z.toZx A F ce H ∧ SL Z A F sl σ ∧ match f sl ce with
  | .ok ds ce' => ∀ A' F' H' J, A <+: A' → Same F F' → SO Z.toZx A' F' ce' H' → JOk Z.toZx F' J ds → R J H'
  | .exc c ds ce' => ∀ A' F' H' dx, A <+: A' → Same F F' → SO Z.toZx A' F' ce' H' → ExcOk Z.toZx F' c ds dx → W (.ref (Z.cl c)) dx σ H'
  | .stuck => False
def iExp (f : DE) (k : Val → Option (List D)) : DI := fun sl ce => match f sl ce with
  | .ok v ce' => match k v with
    | some ds => .ok ds ce'
    | none => .stuck
  | .exc c ds ce' => .exc c ds ce'
  | .stuck => .stuck
def itL : Val → Option (List D)
  | .im (.lst ds) => some ds
  | .im (.wl ds) => some ds
  | _ => none
def itT : Val → Option (List D)
  | .im (.tup ds) => some ds
  | _ => none
def signs (z : Str) : List D := z.cps.toList.map fun c => .str ⟨#[c]⟩
def itS : Val → Option (List D)
  | .im (.str z) => some (signs z)
  | _ => none
section
variable {X : Cx} {Z : Zy} {W : WX} {tg e : Expr} {f : DE} {k : Val → Option (List D)} {pos : Pos}
theorem tI1 {σ H R} (h : tI Z W (iExp f k) σ H R) : tE Z W f σ H fun x H1 => ∃ A F ce v ds, SO Z.toZx A F ce H1 ∧ VRep Z A F v x ∧ k v = some ds ∧ ∀ J, JOk Z.toZx F J ds → R J H1 := by
  obtain ⟨A, F, sl, ce, so, hs, p⟩ := h
  refine ⟨A, F, sl, ce, so, hs, ?_⟩
  unfold iExp at p
  cases e : f sl ce with
  | ok v ce1 =>
    simp only [e] at p
    cases e2 : k v with
    | none => simp only [e2] at p
    | some ds =>
      simp only [e2] at p
      exact fun A1 F1 H1 x p1 e1 s1 r1 => ⟨A1, F1, ce1, v, ds, s1, r1, e2, fun J hJ => p A1 F1 H1 J p1 e1 s1 hJ⟩
  | exc c ds ce1 => simp only [e] at p; exact p
  | stuck => simp only [e] at p
theorem _root_.L2.PI.weak {t t' : TI} (h : PI X tg e t) (hw : ∀ σ H R, t' σ H R → t σ H R) : PI X tg e t' := ⟨fun pins s σ H R I q => h.run pins s σ H R I (hw _ _ _ q)⟩
theorem jok_s {F : Hp} (z : Str) : JOk Z.toZx F (Its z) (signs z) := by
  intro F1 H i e1 e2
  have hsz : (signs z).length = z.cps.size := by simp [signs]
  refine ⟨fun h => by show z.cps.size ≤ i; omega, fun d hd => ?_⟩
  have hi : i < z.cps.size := by rw [← hsz]; exact (List.getElem?_eq_some_iff.mp hd).1
  refine ⟨hi, fun x H' ⟨eH, c, hc, ex⟩ => .inl ⟨?_, eH⟩⟩
  have : d = .str ⟨#[c]⟩ := by
    unfold signs at hd
    rw [List.getElem?_map, Array.getElem?_toList, hc] at hd
    cases hd
    rfl
  rw [this, ex]
  exact repS
theorem di_str (he : PE X e (tE Z W f)) : PI X tg e (tI Z W (iExp f itS)) := (pi_str he).weak fun σ H R h => tE_imp (fun x H1 ⟨A, F, ce, v, ds, so, r, e, q⟩ => by
  unfold itS at e
  split at e
  · rename_i z
    cases e
    exact ⟨z, rep_str r, q _ (jok_s z)⟩
  · cases e) (tI1 h)
end
def forD (g : GD) (body : DSt) : List D → DSt
  | [], sl, ce => .nx sl ce
  | d :: ds, sl, ce => match g d sl with
    | none => .stuck
    | some sl1 => match body sl1 ce with
      | .nx sl2 ce2 => forD g body ds sl2 ce2
      | .ct sl2 ce2 => forD g body ds sl2 ce2
      | .bk sl2 ce2 => .nx sl2 ce2
      | o => o
def sFor (fi : DI) (g : GD) (body : DSt) : DSt := fun sl ce => match fi sl ce with
  | .ok ds ce' => forD g body ds sl ce'
  | .exc c ds ce' => .exc c ds sl ce'
  | .stuck => .stuck
section
variable {X : Cx} {Z : Zy} {W : WX} {tg iter : Expr} {fi : DI} {ix : List Nat} {g : GD} {fb : DSt} {body : List Stmt} {pos : Pos}
theorem ds_for (hp : PassesOwn (model X.prog X.w) X.A X.env X.xe) (hi : PI X tg iter (tI Z W fi)) (hg : PG X tg (tG Z ix g)) (hb : PSs X body (tS Z W fb)) (hc : X.calm = true := by rfl)
    (hs : ∀ x, foldedSetIterable iter X.env x = pure x := by intro _; rfl) : PS X (.For tg iter body [] pos) (tS Z W (sFor fi g fb)) := by
  refine (ps_for hp hc hi hg hb hs).weak fun D σ H ⟨A, F, sl, ce, so, hs, p⟩ => ⟨A, F, sl, ce, so, hs, ?_⟩
  unfold sFor at p
  cases e : fi sl ce with
  | stuck => rw [e] at p; exact p.elim
  | exc c ds ce1 =>
    rw [e] at p
    exact fun A1 F1 H1 dx p1 e1 s1 x1 => p A1 F1 H1 σ dx p1 e1 s1 (hs.mono p1 e1) x1
  | ok ds ce1 =>
    rw [e] at p
    intro A1 F1 H1 J p1 e1 so1 hJ
    refine ⟨fun i m σ H => m = ds.length - i ∧ i ≤ ds.length ∧ ∃ A F sl ce, Same F1 F ∧ SO Z.toZx A F ce H ∧ SL Z A F sl σ ∧ PostS Z A F W D (forD g fb (ds.drop i) sl ce),
      ⟨ds.length, rfl, Nat.zero_le _, A1, F1, sl, ce1, Same.refl _, so1, hs.mono p1 e1, p.mono p1 e1⟩, ?_⟩
    rintro i m σ H ⟨rfl, hi, A, F, sl, ce, eF, so, hs, p⟩
    obtain ⟨j1, j2⟩ := hJ F H i eF so.sub
    by_cases hlt : i < ds.length
    · have hd : ds[i]? = some ds[i] := List.getElem?_eq_getElem hlt
      obtain ⟨go, yl⟩ := j2 _ hd
      refine .inr ⟨go, fun σ H => i + 1 ≤ ds.length ∧ ∃ A F sl ce, Same F1 F ∧ SO Z.toZx A F ce H ∧ SL Z A F sl σ ∧ PostS Z A F W D (forD g fb (ds.drop (i + 1)) sl ce), fun σ' H' q => ⟨ds.length - (i + 1), by omega, rfl, q⟩, fun x H' hy => ?_⟩
      rw [List.drop_eq_getElem_cons hlt] at p
      have fin : ∀ F2 H2, Same F F2 → SO Z.toZx A F2 ce H2 → Rep Z.toZx F2 ds[i] x → tG Z ix g x σ H2 fun σ2 H3 => tS Z W fb { D with nx := fun σ H => i + 1 ≤ ds.length ∧ ∃ A F sl ce, Same F1 F ∧ SO Z.toZx A F ce H ∧ SL Z A F sl σ ∧ PostS Z A F W D (forD g fb (ds.drop (i + 1)) sl ce), ct := fun σ H => i + 1 ≤ ds.length ∧ ∃ A F sl ce, Same F1 F ∧ SO Z.toZx A F ce H ∧ SL Z A F sl σ ∧ PostS Z A F W D (forD g fb (ds.drop (i + 1)) sl ce), bk := D.nx } σ2 H3 := by
        intro F2 H2 e2 so2 r2
        refine ⟨A, F2, sl, ce, ds[i], so2, hs.mono (List.prefix_refl _) e2, r2, ?_⟩
        unfold forD at p
        cases eg : g ds[i] sl with
        | none => rw [eg] at p; exact p.elim
        | some sl1 =>
          rw [eg] at p
          refine ⟨sl1, rfl, fun σ' hs' _ => ⟨A, F2, sl1, ce, so2, hs', ?_⟩⟩
          simp only at p
          cases eb : fb sl1 ce with
          | nx sl2 ce2 => rw [eb] at p; exact fun A3 F3 H3 σ3 p3 e3 so3 hs3 => ⟨hlt, A3, F3, sl2, ce2, (eF.trans e2).trans e3, so3, hs3, p.mono p3 (e2.trans e3)⟩
          | ct sl2 ce2 => rw [eb] at p; exact fun A3 F3 H3 σ3 p3 e3 so3 hs3 => ⟨hlt, A3, F3, sl2, ce2, (eF.trans e2).trans e3, so3, hs3, p.mono p3 (e2.trans e3)⟩
          | bk sl2 ce2 => rw [eb] at p; exact fun A3 F3 H3 σ3 p3 e3 so3 hs3 => p A3 F3 H3 σ3 p3 (e2.trans e3) so3 hs3
          | rt v ce2 => rw [eb] at p; exact fun A3 F3 H3 x3 p3 e3 so3 hs3 => p A3 F3 H3 x3 p3 (e2.trans e3) so3 hs3
          | exc c es sl2 ce2 => rw [eb] at p; exact fun A3 F3 H3 σ3 dx p3 e3 so3 hs3 => p A3 F3 H3 σ3 dx p3 (e2.trans e3) so3 hs3
          | stuck => rw [eb] at p; exact p.elim
      rcases yl x H' hy with ⟨rx, rfl⟩ | ⟨q, o, hq, rfl, rx⟩
      · exact fin F _ (Same.refl _) so rx
      · exact fin _ _ (same_up (so.fnone hq)) (so.new hq) rx
    · have ei : i = ds.length := by omega
      refine .inl ⟨j1 ei, ?_⟩
      rw [ei, List.drop_length] at p
      exact nxS so hs p
end
end ZZ
set_option Elab.async false
set_option linter.all false
set_option maxRecDepth 100000
namespace L2
open PySem PySem.Spec PyProof.Rows
end L2
namespace ZZ
open PySem PySem.Spec L2
def rangeD (lo c : Int) (n : Nat) : List D := (List.range n).map fun (i : Nat) => D.int (lo + (i : Int) * c)
def enumD (ds : List D) : List D := (List.range ds.length).filterMap fun (i : Nat) => ds[i]?.map fun d => D.tup [.int (i : Int), d]
/-- the walk of a call with arguments -/
def iArgs (fs : List DE) (k : List Val → Option (List D)) : DI := iExp (eArgs fs fun vs _ ce => match k vs with
  | some ds => .ok (.im (.lst ds)) ce
  | none => .stuck) itL
def isz (i : Int) : Bool := Nat.ble i.natAbs 4611686018427387903
theorem isz_of {i : Int} (h : -(2 ^ 62) < i ∧ i < 2 ^ 62) : isz i = true := by
  unfold isz
  rw [Nat.ble_eq]
  omega
def kRng1 : List Val → Option (List D)
  | [.im (.int j)] => if isz j then some (rangeD 0 1 j.toNat) else none
  | _ => none
def kEnum : List Val → Option (List D)
  | [.im (.lst ds)] => some (enumD ds)
  | [.im (.wl ds)] => some (enumD ds)
  | _ => none
def wlst : Val → Option (List D)
  | .im (.lst ds) => some ds
  | .im (.wl ds) => some ds
  | _ => none
section
variable {X : Cx} {Z : Zy} {W : WX} {tg e : Expr} {fs : List DE} {k : List Val → Option (List D)} {pos : Pos}
/-- the arguments' end, without an object of its own -/
theorem tIN {σ H R} (h : tI Z W (iArgs fs k) σ H R) : tArgs Z W fs σ H fun xs H1 => ∃ A F ce vs ds, SO Z.toZx A F ce H1 ∧ VReps Z A F vs xs ∧ k vs = some ds ∧ ∀ J, JOk Z.toZx F J ds → R J H1 := by
  obtain ⟨A, F, sl, ce, so, hs, p⟩ := h
  unfold iArgs iExp at p
  have key : PostE Z A F W σ (fun _ _ => True) (eArgs fs (fun vs _ ce => match k vs with
      | some ds => .ok (.im (.lst ds)) ce
      | none => .stuck) sl ce) → True := fun _ => trivial
  -- the walk's wish as a wish on the arguments
  let kk : List Val → DE := fun vs _ ce => match k vs with
    | some ds => .ok (.im (.lst ds)) ce
    | none => .stuck
  have go : ∀ (fs : List DE) (kv : List Val → DE) (A : List Addr) (F H : Hp) (ce : List Cell) (pre : List Val), SO Z.toZx A F ce H → SL Z A F sl σ → (∀ vs, kv vs = kk (pre ++ vs)) →
      (match (match eArgs fs kv sl ce with
        | .ok v ce' => (match itL v with
          | some ds => IOut.ok ds ce'
          | none => IOut.stuck)
        | .exc c ds ce' => IOut.exc c ds ce'
        | .stuck => IOut.stuck) with
      | .ok ds ce' => ∀ A' F' H' J, A <+: A' → Same F F' → SO Z.toZx A' F' ce' H' → JOk Z.toZx F' J ds → R J H'
      | .exc c ds ce' => ∀ A' F' H' dx, A <+: A' → Same F F' → SO Z.toZx A' F' ce' H' → ExcOk Z.toZx F' c ds dx → W (.ref (Z.cl c)) dx σ H'
      | .stuck => False) →
      tArgs Z W fs σ H fun xs H1 => ∃ A1 F1 ce1 vs ds, A <+: A1 ∧ Same F F1 ∧ SO Z.toZx A1 F1 ce1 H1 ∧ VReps Z A1 F1 vs xs ∧ k (pre ++ vs) = some ds ∧ ∀ J, JOk Z.toZx F1 J ds → R J H1 := by
    intro fs
    induction fs with
    | nil =>
      intro kv A F H ce pre so hs hkv p
      unfold eArgs at p
      rw [hkv] at p
      simp only [kk] at p
      cases e : k (pre ++ []) with
      | none => simp only [e] at p
      | some ds =>
        simp only [e, itL] at p
        exact ⟨A, F, ce, [], ds, List.prefix_refl _, Same.refl _, so, rfl, e, fun J hJ => p A F H J (List.prefix_refl _) (Same.refl _) so hJ⟩
    | cons f fs ih =>
      intro kv A F H ce pre so hs hkv p
      unfold eArgs eBind at p
      refine ⟨A, F, sl, ce, so, hs, ?_⟩
      cases e : f sl ce with
      | stuck => simp only [e] at p
      | exc c ds ce1 => simp only [e] at p; exact p
      | ok v ce1 =>
        simp only [e] at p
        intro A1 F1 H1 x p1 e1 so1 r1
        refine tArgs_imp (fun xs H2 ⟨A2, F2, ce2, vs, ds, p2, e2, so2, r2, hk, q⟩ => ⟨A2, F2, ce2, v :: vs, ds, p1.trans p2, e1.trans e2, so2, ⟨x, xs, rfl, r1.mono p2 e2, r2⟩, by simpa using hk, q⟩)
          (ih (fun vs => kv (v :: vs)) A1 F1 H1 ce1 (pre ++ [v]) so1 (hs.mono p1 e1) (fun vs => by simp [hkv]) ?_)
        revert p
        cases eArgs fs (fun vs => kv (v :: vs)) sl ce1 with
        | stuck => exact id
        | exc c ds ce2 => exact fun p A' F' H' dx pp ee => p A' F' H' dx (p1.trans pp) (e1.trans ee)
        | ok u ce2 =>
          dsimp only
          cases itL u with
          | none => exact id
          | some ds => exact fun p A' F' H' J pp ee => p A' F' H' J (p1.trans pp) (e1.trans ee)
  exact tArgs_imp (fun xs H2 ⟨A2, F2, ce2, vs, ds, p2, e2, so2, r2, hk, q⟩ => ⟨A2, F2, ce2, vs, ds, so2, r2, by simpa using hk, q⟩) (go fs kk A F H ce [] so hs (fun vs => rfl) p)
theorem repIx {Z : Zx} {F : Hp} {i : Int} : Rep Z F (.int i) (.int i) := by unfold Rep; rfl
theorem isz_ok {i : Int} (h : isz i = true) : -(2 ^ 62) ≤ i ∧ i < 2 ^ 62 := by
  unfold isz at h
  rw [Nat.ble_eq] at h
  omega
theorem jok_r {Z : Zx} {F : Hp} (lo : Int) (n : Nat) : JOk Z F (Itr lo n) (rangeD lo 1 n) := by
  intro F1 H i e1 e2
  refine ⟨fun h => by show n ≤ i; rw [h]; simp [rangeD], fun d hd => ?_⟩
  have hi : i < n := by
    have := (List.getElem?_eq_some_iff.mp hd).1
    simpa [rangeD] using this
  refine ⟨hi, fun x H' ⟨eH, ex⟩ => .inl ⟨?_, eH⟩⟩
  have : d = .int (lo + (i : Int) * 1) := by
    unfold rangeD at hd
    rw [List.getElem?_map, List.getElem?_range hi] at hd
    cases hd
    rfl
  rw [this, ex, Int.mul_one]
  exact repIx
theorem di_range1 {a : Expr} {p : Pos} {f : DE} (hm : X.mg "range" = none) (ha : PA X [a] (tArgs Z W [f])) (hg : Gl X "range" := by rfl) (hs : starEach [a] X.env = [(false, eval a X.env)] := by rfl) : PI X tg (.Call (.Name "range" p) [a] [] pos) (tI Z W (iArgs [f] kRng1)) :=
  (pi_range1 hg hm ha hs).weak fun σ H R h => tArgs_imp (fun xs H1 ⟨A, F, ce, vs, ds, so, r, hk, q⟩ => by
    unfold kRng1 at hk
    split at hk
    · split at hk
      · rename_i j hj
        cases hk
        replace r := vreps1 r
        obtain ⟨x, rfl, r⟩ := r
        rw [rep_int r]
        exact ⟨j, rfl, (isz_ok hj).1, (isz_ok hj).2, q _ (jok_r 0 _)⟩
      · cases hk
    · cases hk) (tIN h)
theorem enum_get {ds : List D} {i : Nat} {d : D} (h : (enumD ds)[i]? = some d) : ∃ e, ds[i]? = some e ∧ d = .tup [.int (i : Int), e] := by
  have e : enumD ds = (List.range ds.length).map fun (i : Nat) => D.tup [.int (i : Int), (ds[i]?).getD .non] := by
    unfold enumD
    have : ∀ l : List Nat, (∀ i ∈ l, i < ds.length) → l.filterMap (fun (i : Nat) => ds[i]?.map fun d => D.tup [.int (i : Int), d]) = l.map fun (i : Nat) => D.tup [.int (i : Int), (ds[i]?).getD .non] := by
      intro l hl
      induction l with
      | nil => rfl
      | cons a l ih =>
        have ha : a < ds.length := hl a (by simp)
        rw [List.map_cons, ← ih fun i hi => hl i (by simp [hi])]
        simp [List.getElem?_eq_getElem ha]
    exact this _ fun i hi => by simpa using hi
  rw [e, List.getElem?_map] at h
  cases q : (List.range ds.length)[i]? with
  | none => rw [q] at h; cases h
  | some j =>
    rw [q] at h
    have hi : i < ds.length := by
      have := (List.getElem?_eq_some_iff.mp q).1
      simpa using this
    rw [List.getElem?_range hi] at q
    cases q
    cases h
    exact ⟨ds[i], List.getElem?_eq_getElem hi, by simp [List.getElem?_eq_getElem hi]⟩
theorem enum_len {ds : List D} : (enumD ds).length = ds.length := by
  unfold enumD
  have : ∀ l : List Nat, (∀ i ∈ l, i < ds.length) → (l.filterMap (fun (i : Nat) => ds[i]?.map fun d => D.tup [.int (i : Int), d])).length = l.length := by
    intro l hl
    induction l with
    | nil => rfl
    | cons a l ih =>
      have ha : a < ds.length := hl a (by simp)
      simp [List.getElem?_eq_getElem ha, ih fun i hi => hl i (by simp [hi])]
  rw [this _ fun i hi => by simpa using hi, List.length_range]
theorem rep_pair {Z : Zx} {F : Hp} {p : Addr} {d e : D} {x y : V} (hp : F p = none) (r1 : Rep Z F d x) (r2 : Rep Z F e y) : Rep Z (upd F p (.tup [x, y])) (.tup [d, e]) (.ref p) := by
  unfold Rep
  exact ⟨p, _, rfl, SqT.of upd_same, reps_cons (r1.mono (same_up hp)) (reps_cons (r2.mono (same_up hp)) reps_nil)⟩
theorem same_none {F H : Hp} (e : Same F H) {p : Addr} (h : H p = none) : F p = none := e.free h
theorem jok_e {Z : Zx} {F : Hp} {a : Addr} {vs : List V} {ds : List D} (hl : SqL Z.K F a vs) (rr : Reps Z F ds vs) : JOk Z F (Ite Z.K a) (enumD ds) := by
  intro F1 H i e1 e2
  have hl' := e2.seq (e1.seq hl)
  refine ⟨fun h => ⟨vs, hl', by rw [h, enum_len, rr.length]; exact Nat.le_refl _⟩, fun d hd => ?_⟩
  obtain ⟨e, he, rfl⟩ := enum_get hd
  obtain ⟨v, hv, rv⟩ := rr.get' he
  refine ⟨⟨vs, v, hl', hv⟩, fun x H' ⟨T, y, ex, hT, eH, hy⟩ => .inr ⟨T, _, hT, eH, ?_⟩⟩
  have := hy vs hl'
  rw [hv] at this
  cases this
  rw [ex]
  exact rep_pair (same_none e2 hT) repIx (rv.mono e1)
theorem wlst_rd {A F ce H} {v : Val} {x : V} {ds : List D} (so : SO Z.toZx A F ce H) (r : VRep Z A F v x) (e : wlst v = some ds) : ∃ a vs, x = .ref a ∧ SqL Z.K F a vs ∧ Reps Z.toZx F ds vs := by
  unfold wlst at e
  split at e
  · cases e
    unfold VRep Rep at r
    obtain ⟨a, vs, ex, h1, h2⟩ := r
    exact ⟨a, vs, ex, SqL.of h1, h2⟩
  · cases e
    unfold VRep Rep at r
    exact r
  · cases e
theorem di_enum {e : Expr} {p tpos : Pos} {elts : List Expr} {kk : Nat} {f : DE} (hK : X.K = Z.K) (hm : X.mg "enumerate" = none) (ha : PA X [e] (tArgs Z W [f])) (hg : Gl X "enumerate" := by rfl) (hs : starEach [e] X.env = [(false, eval e X.env)] := by rfl) :
    PI X (.Tuple elts kk tpos) (.Call (.Name "enumerate" p) [e] [] pos) (tI Z W (iArgs [f] kEnum)) :=
  (pi_enum hg hm ha hs).weak fun σ H R h => tArgs_imp (fun xs H1 ⟨A, F, ce, vs, ds, so, r, hk, q⟩ => by
    rw [hK]
    unfold kEnum at hk
    split at hk
    · cases hk
      replace r := vreps1 r
      obtain ⟨x, rfl, r⟩ := r
      obtain ⟨a, ws, rfl, h1, h2⟩ := wlst_rd so r rfl
      exact ⟨a, ws, rfl, so.sub.seq h1, q _ (jok_e h1 h2)⟩
    · cases hk
      replace r := vreps1 r
      obtain ⟨x, rfl, r⟩ := r
      obtain ⟨a, ws, rfl, h1, h2⟩ := wlst_rd so r rfl
      exact ⟨a, ws, rfl, so.sub.seq h1, q _ (jok_e h1 h2)⟩
    · cases hk) (tIN h)
end
end ZZ
set_option Elab.async false
set_option linter.all false
set_option maxRecDepth 100000
namespace ZZ
open PySem PySem.Spec L2
def wipeD (sl : Sl) : List Nat → Sl
  | [] => sl
  | v :: vs => (wipeD sl vs).set v none
def lcD (own : List Nat) (g : GD) (t f : DE) (n : Nat) : List D → Sl → List Cell → EOut
  | [], sl, ce => .ok (.cell n) ce
  | d :: ds, sl, ce => match g d (wipeD sl own) with
    | none => .stuck
    | some sl1 => match t sl1 ce with
      | .ok (.im (.bl b)) ce1 => if b then (match f sl1 ce1 with
        | .ok (.im y) ce2 => match ce2[n]? with
          | some (.lst acc) => if acc.length < LINE then lcD own g t f n ds sl (ce2.set n (.lst (acc ++ [y]))) else .stuck
          | _ => .stuck
        | _ => .stuck) else lcD own g t f n ds sl ce1
      | _ => .stuck
/-- a comprehension's list, as an own list -/
def eLcC (own : List Nat) (fi : DI) (g : GD) (t f : DE) : DE := fun sl ce => match fi sl ce with
  | .ok ds ce' => lcD own g t f ce'.length ds sl (ce' ++ [.lst []])
  | .exc c ds ce' => .exc c ds ce'
  | .stuck => .stuck
/-- an own list that an expression gives, settled -/
def eSettle (f : DE) : DE := fun sl ce => match f sl ce with
  | .ok (.cell n) ce2 => match ce2[n]? with
    | some (.lst ds) => .ok (.im (.lst ds)) ((ce2.set n .dead).take ce.length)
    | some (.dct ks vs) => .ok (.im (.dct ks vs)) ((ce2.set n .dead).take ce.length)
    | _ => .stuck
  | r => r
section
variable {Z : Zy} {A A' : List Addr} {F F' H : Hp} {ce : List Cell} {sl : Sl} {σ : L2.St} {W : WX} {Q Q' : VK}
theorem PtrL.cut {A : List Addr} {n k : Nat} (hk : k < n) : ∀ {ks : List Nat} {bs : List Addr}, PtrL A k ks bs → PtrL (A.take n) k ks bs
  | [], bs, h => h
  | j :: js, bs, ⟨b, t, e, h1, h2, h3⟩ => ⟨b, t, e, h1, by rw [List.getElem?_take_of_lt (by omega)]; exact h2, PtrL.cut hk h3⟩
theorem CellOk.cut {Z : Zx} {a : Addr} {c : Cell} {k n : Nat} (nd : A.Nodup) (hk : A[k]? = some a) (hn : k < n) (h : CellOk Z A F H a c) : CellOk Z (A.take n) F H a c := by
  cases c with
  | dead => exact h
  | lst ds => exact h
  | ins c ds => exact h
  | dct ks vs => exact h
  | ptr ks =>
    obtain ⟨h0, k0, bs, h1, h2, h3⟩ := h
    have e : k0 = k := (List.getElem?_inj (List.getElem?_eq_some_iff.mp h1).1 nd).mp (h1.trans hk.symm)
    subst e
    exact ⟨h0, k0, bs, by rw [List.getElem?_take_of_lt hn]; exact h1, h2, h3.cut hn⟩
theorem SO.take (n : Nat) (so : SO Z.toZx A F ce H) : SO Z.toZx (A.take n) F (ce.take n) H := by
  refine ⟨so.sub, by simp [so.len], ?_, fun k a c h1 h2 => ?_⟩
  · exact List.Nodup.sublist (List.take_sublist _ _) so.nd
  · have hk : k < n := by
      have := (List.getElem?_eq_some_iff.mp h1).1
      simp at this
      omega
    rw [List.getElem?_take_of_lt hk] at h1 h2
    exact (so.ok k a c h1 h2).cut so.nd h1 hk
theorem SL.wipe (hs : SL Z A F sl σ) : ∀ vs : List Nat, SL Z A F (wipeD sl vs) (L2.wipe σ vs)
  | [] => hs
  | v :: vs => (SL.wipe hs vs).gone
theorem wipe_get (σ : L2.St) : ∀ (vs : List Nat) (j : Nat), (L2.wipe σ vs)[j]? = if j ∈ vs then (if j < σ.length then some none else none) else σ[j]?
  | [], j => by simp [L2.wipe]
  | v :: vs, j => by
    unfold L2.wipe
    by_cases hj : v = j
    · subst hj
      by_cases hl : v < σ.length
      · rw [List.getElem?_set_self (by rw [wipe_length]; exact hl)]
        simp [hl]
      · rw [List.getElem?_eq_none (by rw [List.length_set, wipe_length]; omega)]
        simp [hl]
    · rw [List.getElem?_set_ne hj, wipe_get σ vs j]
      have : (j ∈ v :: vs) ↔ j ∈ vs := by
        simp only [List.mem_cons]
        exact ⟨fun h => h.resolve_left fun e => hj e.symm, .inr⟩
      simp only [this]
theorem wipe_agree {ix vs : List Nat} {σ2 : L2.St} (h : Agree ix (L2.wipe σ vs) σ2) (hi : ∀ i ∈ ix, i ∈ vs) : L2.wipe σ2 vs = L2.wipe σ vs := by
  refine List.ext_getElem? fun j => ?_
  have hl : σ2.length = σ.length := by rw [h.1, wipe_length]
  rw [wipe_get, wipe_get, hl]
  by_cases hj : j ∈ vs
  · simp [hj]
  · simp only [hj, if_false]
    have := h.2 j fun z => hj (hi j z)
    rw [this, wipe_get]
    simp [hj]
end
section
variable {X : Cx} {Z : Zy} {elt tg iter : Expr} {ifs : List Expr} {scope : Scope} {own : List (Str × Nat)} {ix : List Nat} {fi : DI} {g : GD} {t f : DE} {pos : Pos} {W : WX}
theorem dts_nil : PTs X [] (tT Z W (eC (.bl true))) := ⟨fun pins s σ H Q I h => pts_nil.run pins s σ H Q I (by
  obtain ⟨A, F, sl, ce, so, hs, p⟩ := h
  obtain ⟨b, e, q⟩ := fin_flat so p repB
  cases e
  exact q)⟩
/-- the reading of a comprehension: a wish on the cell's end -/
theorem lc_read {σ : L2.St} {H : Hp} {Q : VK} {A F sl ce} (hix : ∀ i ∈ ix, i ∈ own.map (·.2)) (so : SO Z.toZx A F ce H) (hs : SL Z A F sl σ)
    (p : match fi sl ce with
      | .ok ds ce' => PostE Z A F W σ Q (lcD (own.map (·.2)) g t f ce'.length ds sl (ce' ++ [.lst []]))
      | .exc c ds ce' => PostE Z A F W σ Q (.exc c ds ce')
      | .stuck => False) : tLc (tI Z W fi) (tG Z ix g) (tT Z WF t) (tE Z WF f) (own.map (·.2)) σ H Q := by
  refine ⟨A, F, sl, ce, so, hs, ?_⟩
  cases e : fi sl ce with
  | stuck => rw [e] at p; exact p.elim
  | exc c ds ce1 => rw [e] at p; exact p
  | ok ds ce1 =>
    rw [e] at p
    intro A1 F1 H1 J p1 e1 so1 hJ D hD
    have hn : A1.length = ce1.length := so1.len
    have so2 : SO Z.toZx (A1 ++ [D]) F1 (ce1 ++ [.lst []]) (upd H1 D (.lst [])) := so1.newCell hD ⟨so1.fnone hD, [], upd_same, reps_nil⟩
    refine ⟨fun i m H => m = ds.length - i ∧ i ≤ ds.length ∧ ∃ A2 F2 ce2, A1 ++ [D] <+: A2 ∧ Same F1 F2 ∧ SO Z.toZx A2 F2 ce2 H ∧ PostE Z A2 F2 W σ Q (lcD (own.map (·.2)) g t f ce1.length (ds.drop i) sl ce2),
      ⟨ds.length, rfl, Nat.zero_le _, A1 ++ [D], F1, _, List.prefix_refl _, Same.refl _, so2, p.mono (p1.trans (List.prefix_append _ _)) e1⟩, ?_⟩
    rintro i m H ⟨rfl, hi, A2, F2, ce2, pA, eF, so, q⟩
    have hA2 : A2[ce1.length]? = some D := by
      refine pre_get pA ?_
      rw [← hn]
      simp
    obtain ⟨j1, j2⟩ := hJ F2 H i eF so.sub
    by_cases hlt : i < ds.length
    · have hd : ds[i]? = some ds[i] := List.getElem?_eq_getElem hlt
      obtain ⟨go, yl⟩ := j2 _ hd
      refine .inr ⟨go, fun H => i + 1 ≤ ds.length ∧ ∃ A2 F2 ce2, A1 ++ [D] <+: A2 ∧ Same F1 F2 ∧ SO Z.toZx A2 F2 ce2 H ∧ PostE Z A2 F2 W σ Q (lcD (own.map (·.2)) g t f ce1.length (ds.drop (i + 1)) sl ce2), fun H' q => ⟨ds.length - (i + 1), by omega, rfl, q⟩, fun x H' hy => ?_⟩
      rw [List.drop_eq_getElem_cons hlt] at q
      have hsW := (hs.mono (p1.trans ((List.prefix_append _ _).trans pA)) (e1.trans eF)).wipe (own.map (·.2))
      have fin : ∀ F3 H3, Same F2 F3 → SO Z.toZx A2 F3 ce2 H3 → Rep Z.toZx F3 ds[i] x → tG Z ix g x (L2.wipe σ (own.map (·.2))) H3 fun σ2 H2 => L2.wipe σ2 (own.map (·.2)) = L2.wipe σ (own.map (·.2)) ∧ tT Z WF t σ2 H2 fun b H3 =>
          if b = true then tE Z WF f σ2 H3 fun y H4 => ∃ acc, H4 D = some (.lst acc) ∧ acc.length < sizeLine ∧ (fun H => i + 1 ≤ ds.length ∧ ∃ A2 F2 ce2, A1 ++ [D] <+: A2 ∧ Same F1 F2 ∧ SO Z.toZx A2 F2 ce2 H ∧ PostE Z A2 F2 W σ Q (lcD (own.map (·.2)) g t f ce1.length (ds.drop (i + 1)) sl ce2)) (upd H4 D (.lst (acc ++ [y])))
          else (fun H => i + 1 ≤ ds.length ∧ ∃ A2 F2 ce2, A1 ++ [D] <+: A2 ∧ Same F1 F2 ∧ SO Z.toZx A2 F2 ce2 H ∧ PostE Z A2 F2 W σ Q (lcD (own.map (·.2)) g t f ce1.length (ds.drop (i + 1)) sl ce2)) H3 := by
        intro F3 H3 e3 so3 r3
        refine ⟨A2, F3, wipeD sl (own.map (·.2)), ce2, ds[i], so3, hsW.mono (List.prefix_refl _) e3, r3, ?_⟩
        unfold lcD at q
        cases eg : g ds[i] (wipeD sl (own.map (·.2))) with
        | none => rw [eg] at q; exact q.elim
        | some sl1 =>
          simp only [eg] at q
          refine ⟨sl1, rfl, fun σ2 hs2 ag => ⟨wipe_agree ag hix, A2, F3, sl1, ce2, so3, hs2, ?_⟩⟩
          cases et : t sl1 ce2 with
          | stuck => rw [et] at q; exact q.elim
          | exc c ds ce3 => rw [et] at q; exact q.elim
          | ok vt ce3 =>
            rw [et] at q
            intro A4 F4 H4 xb p4 e4 so4 rb
            cases vt with
            | cell n => exact q.elim
            | exn c ds => exact q.elim
            | im d => cases d with
              | bl b =>
                refine ⟨b, rep_bl rb, ?_⟩
                cases b with
                | false =>
                  refine iteF ⟨hlt, A4, F4, ce3, pA.trans p4, (eF.trans e3).trans e4, so4, ?_⟩
                  exact PostE.mono p4 (e3.trans e4) (by simpa using q)
                | true =>
                  simp only [if_true] at q
                  refine iteT ⟨A4, F4, sl1, ce3, so4, hs2.mono p4 e4, ?_⟩
                  cases ef : f sl1 ce3 with
                  | stuck => rw [ef] at q; exact q.elim
                  | exc c ds ce5 => rw [ef] at q; exact q.elim
                  | ok vy ce5 =>
                    rw [ef] at q
                    intro A5 F5 H5 xy p5 e5 so5 ry
                    cases vy with
                    | cell n => exact q.elim
                    | exn c ds => exact q.elim
                    | im y =>
                      dsimp only at q
                      split at q
                      · rename_i acc hacc
                        split at q
                        · rename_i hline
                          have hA5 : A5[ce1.length]? = some D := pre_get p5 (pre_get p4 hA2)
                          obtain ⟨hF5, vs, hH5, r5⟩ := so5.ok _ _ _ hA5 hacc
                          refine ⟨vs, hH5, by rw [sizeLine_eq, ← r5.length]; exact hline, hlt, A5, F5, _, (pA.trans p4).trans p5, ((eF.trans e3).trans e4).trans e5, so5.write (c := .lst (acc ++ [y])) hA5 hF5 ⟨hF5, _, upd_same, r5.append (reps_cons ry reps_nil)⟩, ?_⟩
                          exact PostE.mono (p4.trans p5) ((e3.trans e4).trans e5) q
                        · exact q.elim
                      · exact q.elim
              | _ => exact q.elim
      rcases yl x H' hy with ⟨rx, rfl⟩ | ⟨q', o, hq', rfl, rx⟩
      · exact fin F2 _ (Same.refl _) so rx
      · exact fin _ _ (same_up (so.fnone hq')) (so.new hq') rx
    · have ei : i = ds.length := by omega
      refine .inl ⟨j1 ei, ?_⟩
      rw [ei, List.drop_length] at q
      exact q A2 F2 H (.ref D) (List.prefix_refl _) (Same.refl _) so ⟨D, hA2, rfl⟩
theorem lc_of (hix : ∀ i ∈ ix, i ∈ own.map (·.2)) {σ : L2.St} {H : Hp} {Q : VK} (h : tE Z W (eLcC (own.map (·.2)) fi g t f) σ H Q) : tLc (tI Z W fi) (tG Z ix g) (tT Z WF t) (tE Z WF f) (own.map (·.2)) σ H Q := by
  obtain ⟨A, F, sl, ce, so, hs', p⟩ := h
  refine lc_read hix so hs' ?_
  unfold eLcC at p
  cases e : fi sl ce with
  | stuck => rw [e] at p; exact p
  | exc c ds ce1 => rw [e] at p; exact p
  | ok ds ce1 => rw [e] at p; exact p
theorem de_lcC (hc : X.calm = true) (hN : X.N.Nodup) (ok : BlkOk X.N X.env.scope scope own) (hix : ∀ i ∈ ix, i ∈ own.map (·.2)) (hi : PI X tg iter (tI Z W fi))
    (hg : ∀ (s : Shared) (H : Hp) (C : Addr) (cl : List (Str × Addr)) (fp : List Addr), PG (X.blk s H scope (compEnvC scope cl C X.env) fp) tg (tG Z ix g)) (ht : ∀ (s : Shared) (H : Hp) (C : Addr) (cl : List (Str × Addr)) (fp : List Addr), PTs (X.blk s H scope (compEnvC scope cl C X.env) fp) ifs (tT Z WF t))
    (he : ∀ (s : Shared) (H : Hp) (C : Addr) (cl : List (Str × Addr)) (fp : List Addr), PE (X.blk s H scope (compEnvC scope cl C X.env) fp) elt (tE Z WF f)) (hs : ∀ x, foldedSetIterable iter X.env x = pure x := by intro _; rfl) :
    PE X (.ListComp elt [⟨tg, iter, ifs, 0⟩] scope pos) (tE Z W (eLcC (own.map (·.2)) fi g t f)) :=
  (pe_lc hc hN hi ok hg ht he hs).weak fun σ H Q h => lc_of hix h
theorem tE_settle {f : DE} {σ : L2.St} {H : Hp} {Q : VK} (h : tE Z W (eSettle f) σ H Q) : tE Z W f σ H Q := by
  obtain ⟨A, F, sl, ce, so, hs, p⟩ := h
  refine ⟨A, F, sl, ce, so, hs, ?_⟩
  unfold eSettle at p
  cases e : f sl ce with
  | stuck => rw [e] at p; exact p
  | exc c ds ce1 => rw [e] at p; exact p
  | ok v ce2 =>
    rw [e] at p
    cases v with
    | im d => exact p
    | exn c ds => exact p
    | cell n =>
      intro A' F' H' x pA eF so2 rx
      obtain ⟨a, ha, rfl⟩ := rx
      dsimp only at p
      split at p
      · rename_i acc hacc
        obtain ⟨hF, vs, hH, rr⟩ := so2.ok _ _ _ ha hacc
        have up := same_up (o := .lst vs) hF
        refine p (A'.take ce.length) (upd F' a (.lst vs)) H' (.ref a) ?_ (eF.trans up) ((so2.freeze ha hF hH).take _) ?_
        · obtain ⟨t, rfl⟩ := pA
          rw [← so.len, List.take_left]
          exact List.prefix_refl _
        · unfold VRep Rep
          exact ⟨a, vs, rfl, upd_same, rr.mono up⟩
      · rename_i ks vs hacc
        obtain ⟨hF, o, kvs, vvs, hH, sh, r1, r2⟩ := so2.ok _ _ _ ha hacc
        have up := same_up (o := o) hF
        refine p (A'.take ce.length) (upd F' a o) H' (.ref a) ?_ (eF.trans up) ((so2.freeze ha hF hH).take _) ?_
        · obtain ⟨t, rfl⟩ := pA
          rw [← so.len, List.take_left]
          exact List.prefix_refl _
        · unfold VRep Rep
          exact ⟨a, o, kvs, vvs, rfl, upd_same, sh, r1.mono up, r2.mono up⟩
      · exact p.elim
theorem de_settle {e : Expr} {f : DE} (h : PE X e (tE Z W f)) : PE X e (tE Z W (eSettle f)) := h.weak fun σ H Q q => tE_settle q
end
end ZZ
set_option Elab.async false
set_option linter.all false
set_option maxRecDepth 100000
namespace L2
open PySem PySem.Spec
section
variable {X : Cx} {CX : CXT} {k : Nat} {f C : Addr} {fd : FuncData} {ps : List Str} {sp : Sp} {dvs : List V} {ds : List Value} {E : L2.St → XK} {x m : Str} {p pos apos : Pos} {e o : Expr} {es : List Expr} {ta : TE} {t : TA}
def tMakeZS (C : Addr) (sp : Sp) (dvs : List V) (E : L2.St → XK) (t : TA) : TE := fun σ H Q => t σ H fun vs H1 => ∀ x dx, H1 x = none → H1 dx = none → dx ≠ x →
  sp (.ref x :: (vs ++ dvs)) (upd (upd H1 dx (.own x)) x (.ins C dx [])) (fun v H2 => v = .non ∧ Q (.ref x) H2) (E σ)
theorem run_makeZS {pins : List (Addr × Obj)} {σ : L2.St} {H : Hp} {s : Shared} {Q : VK} {us : List Value} {vs : List V} (M : Mk X.K C f) (F : FnOk X.prog X.w X.K X.mg X.base CX k f fd ps sp) (hr : Room (k + 1) X.A) (hb : Binds X.K fd ps ds) (hd : Vals dvs ds)
    (hx : PassesAt CX X σ (E σ)) (I : Inv X pins σ H s) (r : Vals vs us)
    (h : ∀ x dx, H x = none → H dx = none → dx ≠ x → sp (.ref x :: (vs ++ dvs)) (upd (upd H dx (.own x)) x (.ins C dx [])) (fun v H2 => v = .non ∧ Q (.ref x) H2) (E σ)) :
    wpAny (model X.prog X.w) X.A (call (.ref C) us) (EP X pins σ Q) X.xe s := by
  have hq := h (s.heap.objs.size + 1) s.heap.objs.size (I.hok.fresh (Nat.le_succ _)) (I.hok.fresh (Nat.le_refl _)) (Nat.ne_of_lt (Nat.lt_succ_self _))
  have I2 := Inv.made (C := C) I
  have r2 : Vals (V.ref (s.heap.objs.size + 1) :: (vs ++ dvs)) (Value.ref (s.heap.objs.size + 1) :: (us ++ ds)) := .cons rfl (r.append hd)
  have hl : (Value.ref (s.heap.objs.size + 1) :: us ++ ds).length = ps.length := by
    have e := r2.length
    rw [F.len _ _ _ _ hq] at e
    exact e.symm
  refine wpAny_call (make_map (f := f) I.kIn M.makes M.init (beq_iff_eq.mp M.fn) (codeAny_mono (F.run _ X.stack _ _ ⟨Value.ref (s.heap.objs.size + 1) :: us, []⟩ (Value.ref (s.heap.objs.size + 1) :: (us ++ ds)) _ _ (E σ) (hr.make C us [])
    (I2.env0.make C us []) (hb _ (Value.ref (s.heap.objs.size + 1) :: us) I2.kIn hl) r2 hq) fun r s' hq' => ?_))
  cases r with
  | error e => exact hx pins _ _ e s' I2 hq'
  | ok fl =>
    cases fl with
    | ret u =>
      obtain ⟨v, H', I3, rv, ev, q3⟩ := I2.after hq'
      subst ev
      exact ⟨rv, ⟨V.ref (s.heap.objs.size + 1), H', I3, rfl, q3⟩⟩
    | next => exact False.elim hq'
    | brk => exact False.elim hq'
    | cont => exact False.elim hq'
theorem pe_makeZS (M : Mk X.K C f) (F : FnOk X.prog X.w X.K X.mg X.base CX k f fd ps sp) (hr : Room (k + 1) X.A) (hg : Gl X x) (hm : X.mg x = some (.ref C)) (hb : Binds X.K fd ps ds) (hd : Vals dvs ds) (hx : ∀ σ, PassesAt CX X σ (E σ))
    (ha : PA X (e :: es) t) (hdb : (x == ("__debug__" : Str)) = false := by decide) (he : starEach (e :: es) X.env = (false, eval e X.env) :: starEach es X.env := by rfl) (hpl : (backTo pos (starEach es X.env)).any (·.1) = false := by rfl) :
    PE X (.Call (.Name x p) (e :: es) [] pos) (tMakeZS C sp dvs E t) := by
  refine ⟨fun pins s σ H Q I h => ?_⟩
  refine wpAny_Call_Name_kw (ld_glob I hg hm ?_ hdb)
  refine PySem.W.callWith_K (h₀ := X.base) I.ok.mod.kin M.kp (thn (ha.run pos pins s σ H _ I h) fun us s1 ⟨vs, H1, I1, r, q⟩ => ⟨I1.kIn, ?_⟩) he hpl
  exact run_makeZS M F hr hb hd (hx σ) I1 r q
end
end L2
namespace ZZ
open PySem PySem.Spec L2
abbrev Zx.z (Z : Zx) : Zy := ⟨Z, none⟩
abbrev DF : Type := List Val → List Cell → EOut
/-- a def's promise: it computes fh -/
def spD (Z : Zx) (fh : DF) (n : Nat) : Sp := fun vs H Q E => ∃ A F ce ds, SO Z A F ce H ∧ VReps Z.z A F ds vs ∧ ds.length = n ∧ PostE Z.z A F (fun c d _ H => E c d H) [] Q (fh ds ce)
/-- a def's value: its body run, the store cut -/
def finD (n : Nat) (v : Val) (ce : List Cell) : EOut := match v with
  | .im d => .ok (.im d) (ce.take n)
  | .cell k => if k < n then .ok (.cell k) (ce.take n) else (match ce[k]? with
    | some (.ptr _) => .stuck
    | some c => .ok (.cell n) (ce.take n ++ [c])
    | none => .stuck)
  | .exn _ _ => .stuck
def mkD (nsl : Nat) (body : DSt) : DF := fun ds ce => match body (ds.map some ++ List.replicate (nsl - ds.length) none) ce with
  | .nx _ ce' => finD ce.length (.im .non) ce'
  | .rt v ce' => finD ce.length v ce'
  | .exc c es _ ce' => .exc c es (ce'.take ce.length)
  | _ => .stuck
section
variable {Z : Zx} {A A' : List Addr} {F F' H : Hp} {ce : List Cell} {sl : Sl} {σ : L2.St} {W : WX} {Q Q' : VK}
theorem SO.cut {n : Nat} (so : SO Z A' F ce H) (p : A <+: A') (hn : A.length = n) : SO Z A F (ce.take n) H := by
  have := SO.take (Z := Z.z) n so
  obtain ⟨t, rfl⟩ := p
  rw [← hn, List.take_left] at this
  rw [← hn]
  exact this
theorem vrep_z {Y : Zy} (hy : Y.toZx = Z) {v : Val} {x : V} (h1 : VRep Z.z A F v x) : VRep Y A F v x := by
  subst hy
  cases v with
  | im d => exact h1
  | cell k => exact h1
  | exn c ds => obtain ⟨a, dx, h, _⟩ := h1; cases h
/-- values that a callee may take -/
def plainV : Val → Bool
  | .exn _ _ => false
  | _ => true
theorem VReps.nohd {Y : Zy} : ∀ {vs : List Val} {xs : List V}, vs.all plainV = true → VReps Y A F vs xs → VReps (Zx.z Y.toZx) A F vs xs
  | [], _, _, h => h
  | v :: vs, _, hp, ⟨x, r, e, h1, h2⟩ => by
    simp only [List.all_cons, Bool.and_eq_true] at hp
    refine ⟨x, r, e, ?_, VReps.nohd hp.2 h2⟩
    cases v with
    | im d => exact h1
    | cell k => exact h1
    | exn c ds => cases hp.1
theorem vreps_start {N : List Str} {ds : List Val} {vs : List V} (h : VReps Z.z A F ds vs) : SL Z.z A F (ds.map some ++ List.replicate (N.length - ds.length) none) (L2.start N vs) := by
  have hl := h.length
  unfold L2.start
  rw [hl]
  refine ⟨by simp [hl], ?_⟩
  have key : ∀ {ds : List Val} {vs : List V} (m : Nat), VReps Z.z A F ds vs → ∀ (i : Nat) (v : Val), (ds.map some ++ List.replicate m none)[i]? = some (some v) → ∃ x, (vs.map some ++ List.replicate m none)[i]? = some (some x) ∧ VRep Z.z A F v x := by
    intro ds
    induction ds with
    | nil =>
      intro vs m h i v e
      unfold VReps at h
      subst h
      simp [List.getElem?_replicate] at e
    | cons d ds ih =>
      intro vs m h i v e
      obtain ⟨x, r, rfl, h1, h2⟩ := h
      cases i with
      | zero =>
        simp at e
        subst e
        exact ⟨x, by simp, h1⟩
      | succ i =>
        obtain ⟨y, e2, r2⟩ := ih m h2 i v (by simpa using e)
        exact ⟨y, by simpa using e2, r2⟩
  exact key _ h
theorem fin_ok {n : Nat} {v : Val} {ce' : List Cell} {H' : Hp} {x : V} (hn : A.length = n) (p : A <+: A') (e : Same F F') (so : SO Z A' F' ce' H') (r : VRep Z.z A' F' v x) (q : PostE Z.z A F W σ Q (finD n v ce')) : Q x H' := by
  cases v with
  | im d => exact q A F' H' x (List.prefix_refl _) e (so.cut p hn) r
  | exn c ds => exact q.elim
  | cell k =>
    unfold finD at q
    obtain ⟨a, ha, rfl⟩ := r
    dsimp only at q
    by_cases hk : k < n
    · rw [if_pos hk] at q
      refine q A F' H' _ (List.prefix_refl _) e (so.cut p hn) ⟨a, ?_, rfl⟩
      obtain ⟨t, rfl⟩ := p
      rw [List.getElem?_append_left (by omega)] at ha
      exact ha
    · rw [if_neg hk] at q
      have hlen : k < ce'.length := by rw [← so.len]; exact (List.getElem?_eq_some_iff.mp ha).1
      rw [List.getElem?_eq_getElem hlen] at q
      have s2 := so.cut p hn
      have hc2 := so.ok k a _ ha (List.getElem?_eq_getElem hlen)
      have hnp : ∀ ks, ce'[k] ≠ .ptr ks := fun ks e => by
        rw [e] at q
        exact q.elim
      have q2 : PostE Z.z A F W σ Q (.ok (.cell n) (ce'.take n ++ [ce'[k]])) := by
        cases hc : ce'[k] with
        | ptr ks => exact absurd hc (hnp ks)
        | dead => rw [hc] at q; exact q
        | lst ds => rw [hc] at q; exact q
        | ins c ds => rw [hc] at q; exact q
        | dct ks vs => rw [hc] at q; exact q
      refine q2 (A ++ [a]) F' H' _ (List.prefix_append _ _) e ⟨s2.sub, by simp [s2.len], ?_, fun j b c h1 h2 => ?_⟩ ⟨a, by simp [← hn], rfl⟩
      · refine List.nodup_append.mpr ⟨s2.nd, by simp, fun b hb c hc ebc => ?_⟩
        simp at hc
        subst hc
        subst ebc
        obtain ⟨t, rfl⟩ := p
        obtain ⟨j, hj⟩ := List.getElem?_of_mem hb
        have hjl := (List.getElem?_eq_some_iff.mp hj).1
        have hj' : (A ++ t)[j]? = some b := by rw [List.getElem?_append_left hjl]; exact hj
        have := (List.getElem?_inj (List.getElem?_eq_some_iff.mp hj').1 so.nd).mp (hj'.trans ha.symm)
        omega
      · by_cases hj : j < A.length
        · rw [List.getElem?_append_left hj] at h1
          rw [List.getElem?_append_left (by rw [← s2.len]; exact hj)] at h2
          exact (s2.ok j b c h1 h2).mono (List.prefix_append _ _) (Same.refl _) rfl id
        · rw [List.getElem?_append_right (by omega)] at h1
          rw [List.getElem?_append_right (by rw [← s2.len]; omega), ← s2.len] at h2
          have hj0 : j - A.length = 0 := by
            have := (List.getElem?_eq_some_iff.mp h1).1
            simp at this
            omega
          rw [hj0] at h1 h2
          simp at h1 h2
          subst h1 h2
          cases hc : ce'[k] with
          | ptr ks => exact absurd hc (hnp ks)
          | dead => rw [hc] at hc2; exact hc2
          | lst ds => rw [hc] at hc2; exact hc2
          | ins c ds => rw [hc] at hc2; exact hc2
          | dct ks vs => rw [hc] at hc2; exact hc2
end
section
variable {P : Program} {w : World} {K : PySem.W.Frag} {mg : Str → Option Value} {base : Heap}
/-- a def keeps its promise: its body's rule -/
theorem fnD {Z : Zx} {x qual : Str} {st : Stmt} {f : Addr} {fd : FuncData} {N ps : List Str} {k nsl n : Nat} {body : DSt} (Fn : Fun K x qual st f fd) (S : FnScope N ps (defScope st)) (hN : N.length = nsl) (hn : ps.length = n)
    (hbody : ∀ (cdv : Value) (A : Around) (outer : List Env) (s : Shared) (H : Hp) (E : XK), Room k (A.deeper (PyProof.Rows.envOfC qual (defScope st) s.heap.objs.size f cdv)) →
      PSs (cxOf (L2N.CX P w) P w K mg base N qual (defScope st) f cdv A outer s H E) (defBody st) (tS Z.z (fun cls d _ H => E cls d H) body)) : FnOk P w K mg base (L2N.CX P w) (k + 1) f fd ps (spD Z (mkD nsl body) n) := by
  subst hN hn
  obtain ⟨oc, od, kV, doc, pm, an, cdv, ct, osl, rfl, lk, hcd⟩ := Fn.ex
  refine fn_of lk hcd S (fun vs H Q E ⟨A, F, ce, ds, so, r, l, p⟩ => by rw [← r.length]; exact l) fun A outer s H vs Q E hr ⟨A0, F0, ce, ds, so, r, l, p⟩ => ⟨_, hbody cdv A outer s H E hr, A0, F0, _, ce, so, vreps_start r, ?_⟩
  unfold mkD at p
  have hn := so.len
  cases e : body (ds.map some ++ List.replicate (N.length - ds.length) none) ce with
  | nx sl ce' => rw [e] at p; exact fun A' F' H' σ' pA eF so' hs' => fin_ok hn pA eF so' (show VRep Z.z A' F' (.im .non) .non by unfold VRep Rep; rfl) p
  | rt v ce' => rw [e] at p; exact fun A' F' H' x pA eF so' r' => fin_ok hn pA eF so' r' p
  | exc c es sl ce' => rw [e] at p; exact fun A' F' H' σ' dx pA eF so' hs' xo => p A0 F' H' dx (List.prefix_refl _) eF (so'.cut pA hn) xo
  | bk sl ce' => rw [e] at p; exact p.elim
  | ct sl ce' => rw [e] at p; exact p.elim
  | stuck => rw [e] at p; exact p.elim
end
def kCall (fh : DF) (vs : List Val) : DE := fun _ ce => if vs.all plainV then fh vs ce else .stuck
/-- o.m(..): o is an instance of the class c -/
def isC (c : Nat) (ce : List Cell) : Val → Bool
  | .im (.ins d _) => d == c
  | .cell k => match ce[k]? with
    | some (.ins d _) => d == c
    | _ => false
  | _ => false
def kMeth (fh : DF) (v : Val) (vs : List Val) : DE := fun _ ce => if (v :: vs).all plainV then fh (v :: vs) ce else .stuck
/-- C(..), settled -/
def kMake (c nf : Nat) (fh : DF) (vs : List Val) : DE := fun _ ce => if vs.all plainV then (match fh (.cell ce.length :: vs) (ce ++ [.ins c []]) with
  | .ok (.im .non) ce' => match ce'[ce.length]? with
    | some (.ins d ds) => if d = c ∧ ds.length = nf then .ok (.im (.ins c ds)) (ce'.take ce.length) else .stuck
    | _ => .stuck
  | .exc d ds ce' => .exc d ds (ce'.take ce.length)
  | _ => .stuck) else .stuck
section
variable {X : Cx} {Z : Zy} {W : WX} {k : Nat} {fa C : Addr} {fd : FuncData} {ps : List Str} {fh : DF} {x m : Str} {p pos apos : Pos} {e o : Expr} {es : List Expr} {f : DE} {fs : List DE} {n : Nat}
theorem spD_call {A : List Addr} {F : Hp} {sl : Sl} {ce : List Cell} {σ : L2.St} {Q : VK} {vs : List Val} {xs : List V} {H : Hp} (so : SO Z.toZx A F ce H) (r : VReps Z A F vs xs) (hl : vs.length = n) (pl : vs.all plainV = true) (q : PostE Z A F W σ Q (fh vs ce)) : spD Z.toZx fh n xs H Q (WE W σ) := by
  refine ⟨A, F, ce, vs, so, r.nohd pl, hl, ?_⟩
  cases e : fh vs ce with
  | ok v ce' => rw [e] at q; exact fun A' F' H' x pA eF so' r' => q A' F' H' x pA eF so' (vrep_z rfl r')
  | exc c ds ce' => rw [e] at q; exact q
  | stuck => rw [e] at q; exact q
theorem de_call (F : FnOk X.prog X.w X.K X.mg X.base (L2N.CX X.prog X.w) k fa fd ps (spD Z.toZx fh n)) (hr : Room k X.A) (hm : X.mg x = some (.ref fa)) (hk : PySem.W.keepIn X.K (.ref fa) = true) (hb : Binds X.K fd ps []) (tw : TW X W) (ha : PA X (e :: es) (tArgs Z W fs))
    (hg : Gl X x := by rfl) (hl : fs.length = n := by rfl) (hdb : (x == ("__debug__" : Str)) = false := by decide) (he : starEach (e :: es) X.env = (false, eval e X.env) :: starEach es X.env := by rfl) (hpl : (backTo pos (starEach es X.env)).any (·.1) = false := by rfl) :
    PE X (.Call (.Name x p) (e :: es) [] pos) (tE Z W (eArgs fs (kCall fh))) :=
  (pe_callS F hr hg hm hk hb tw ha hdb he hpl).weak fun σ H Q h => tArgs_imp (fun xs H1 ⟨A, F, sl, ce, vs, so, hs, r, l, q⟩ => by
    unfold kCall at q
    by_cases hp : vs.all plainV = true
    · rw [if_pos hp] at q
      exact spD_call (sl := sl) so r (by rw [l, hl]) hp q
    · rw [if_neg hp] at q
      exact q.elim) (tN h)
/-- a class's plain facts -/
structure ClsOk (K : PySem.W.Frag) (Z : Zx) (c : Nat) : Prop where
  cls : Cls K (Z.cl c)
  nd : (Z.fl c).Nodup
theorem take_lookup {m : Str} {fs : List (Str × V)} {l : List Str} {n : Nat} (e : fs.map (·.1) = l.take n) (h : m ∉ l) : fs.lookup m = none := by
  have : m ∉ fs.map (·.1) := by rw [e]; exact fun z => h (List.mem_of_mem_take z)
  rw [List.lookup_eq_none_iff]
  intro p hp
  refine bne_iff_ne.mpr fun z => this ?_
  rw [z]
  exact List.mem_map_of_mem hp
theorem isC_rd {A F ce H c v y} (so : SO Z.toZx A F ce H) (r : VRep Z A F v y) (h : isC c ce v = true) : ∃ a dx fs n, y = .ref a ∧ H a = some (.ins (Z.cl c) dx fs) ∧ fs.map (·.1) = (Z.fl c).take n := by
  unfold isC at h
  split at h
  · rename_i d ds
    unfold VRep Rep at r
    obtain ⟨a, dx, fs, rfl, h1, h2, h3⟩ := r
    have := beq_iff_eq.mp h
    subst this
    exact ⟨a, dx, fs, (Z.fl d).length, rfl, so.sub _ _ h1, by rw [h2, List.take_length]⟩
  · split at h
    · rename_i k d ds hk
      have := beq_iff_eq.mp h
      subst this
      obtain ⟨a, ha, rfl⟩ := r
      obtain ⟨_, dx, fs, h1, h2, h3⟩ := so.ok _ _ _ ha hk
      exact ⟨a, dx, fs, _, rfl, h1, h2⟩
    · cases h
  · cases h
theorem isC_plain {ce c v} (h : isC c ce v = true) : plainV v = true := by
  unfold isC at h
  split at h <;> first | rfl | cases h
theorem de_make {c nf : Nat} (M : Mk X.K (Z.cl c) fa) (F : FnOk X.prog X.w X.K X.mg X.base (L2N.CX X.prog X.w) k fa fd ps (spD Z.toZx fh (n + 1))) (hr : Room (k + 1) X.A) (hm : X.mg x = some (.ref (Z.cl c))) (hb : Binds X.K fd ps []) (tw : TW X W) (ha : PA X (e :: es) (tArgs Z W fs)) (hfl : (Z.fl c).length = nf)
    (hg : Gl X x := by rfl) (hl : fs.length = n := by rfl) (hdb : (x == ("__debug__" : Str)) = false := by decide) (he : starEach (e :: es) X.env = (false, eval e X.env) :: starEach es X.env := by rfl) (hpl : (backTo pos (starEach es X.env)).any (·.1) = false := by rfl) :
    PE X (.Call (.Name x p) (e :: es) [] pos) (tE Z W (eArgs fs (kMake c nf fh))) :=
  (pe_makeZS M F hr hg hm hb .nil tw ha hdb he hpl).weak fun σ H Q h => tArgs_imp (fun xs H1 ⟨A, F, sl, ce, vs, so, hs, r, l, q⟩ => by
    intro a dx ha' hdx hne
    rw [List.append_nil]
    unfold kMake at q
    by_cases hp : vs.all plainV = true
    · rw [if_pos hp] at q
      -- the new instance's dict, then the instance as a cell
      have so1 := so.new (o := .own a) hdx
      have fa1 : (upd F dx (.own a)) a = none := by rw [upd_ne (Ne.symm hne)]; exact so.fnone ha'
      have ha1 : (upd H1 dx (.own a)) a = none := by rw [upd_ne (Ne.symm hne)]; exact ha'
      have so2 := so1.newCell (o := .ins (Z.cl c) dx []) (c := .ins c []) ha1 ⟨so1.fnone ha1, dx, [], upd_same, rfl, reps_nil⟩
      have up1 : Same F (upd F dx (.own a)) := same_up (so.fnone hdx)
      refine ⟨A ++ [a], upd F dx (.own a), ce ++ [.ins c []], .cell ce.length :: vs, so2, ⟨.ref a, xs, rfl, ⟨a, by rw [← so.len]; simp, rfl⟩, (r.mono (List.prefix_append _ _) up1).nohd hp⟩, by simp [l, hl], ?_⟩
      cases e : fh (.cell ce.length :: vs) (ce ++ [.ins c []]) with
      | stuck => rw [e] at q; exact q.elim
      | exc d ds ce' =>
        rw [e] at q
        exact fun A' F' H' dx' pA eF so' xo => q A F' H' dx' (List.prefix_refl _) (up1.trans eF) (so'.cut ((List.prefix_append _ _).trans pA) so.len) xo
      | ok v ce' =>
        rw [e] at q
        cases v with
        | cell n => exact q.elim
        | exn c ds => exact q.elim
        | im d => cases d with
          | non =>
            intro A' F' H' y pA eF so' ry
            refine ⟨rep_non (Z := Z.toZx.z) ry, ?_⟩
            have hAa : A'[ce.length]? = some a := pre_get pA (by rw [← so.len]; simp)
            dsimp only at q
            split at q
            · rename_i d ds hds
              by_cases hdc : d = c ∧ ds.length = nf
              · rw [if_pos hdc] at q
                obtain ⟨rfl, hll⟩ := hdc
                obtain ⟨hF, dx', fs', hH, hfs, rr⟩ := so'.ok _ _ _ hAa hds
                have up := same_up (o := .ins (Z.cl d) dx' fs') hF
                have s2 := (so'.freeze hAa hF hH).cut (A := A) ((List.prefix_append _ _).trans pA) so.len
                have e3 : (ce'.set ce.length .dead).take ce.length = ce'.take ce.length := by
                  refine List.ext_getElem? fun j => ?_
                  by_cases hj : j < ce.length
                  · rw [List.getElem?_take_of_lt hj, List.getElem?_take_of_lt hj, List.getElem?_set_ne (by omega)]
                  · rw [List.getElem?_eq_none (by simp; omega), List.getElem?_eq_none (by simp; omega)]
                rw [e3] at s2
                refine q A _ H' (.ref a) (List.prefix_refl _) ((up1.trans eF).trans up) s2 ?_
                unfold VRep Rep
                exact ⟨a, dx', fs', rfl, upd_same, by rw [hfs, hll, ← hfl, List.take_length], rr.mono up⟩
              · rw [if_neg hdc] at q
                exact q.elim
            · exact q.elim
          | _ => exact q.elim
    · rw [if_neg hp] at q
      exact q.elim) (tN h)
end
end ZZ
set_option Elab.async false
set_option linter.all false
set_option maxRecDepth 100000
namespace ZZ
open PySem PySem.Spec L2
theorem lookup_ix {Z : Zx} {F : Hp} : ∀ {l : List Str} {fs : List (Str × V)} {ds : List D} {i : Nat} {f : Str} {x : D} {n : Nat}, l.Nodup → fs.map (·.1) = l.take n → Reps Z F ds (fs.map (·.2)) → l[i]? = some f → ds[i]? = some x → ∃ v, fs.lookup f = some v ∧ Rep Z F x v
  | l, [], ds, i, f, x, n, nd, e, r, h1, h2 => by
    rw [List.map_nil] at r
    have := r.length
    have : ds = [] := List.eq_nil_of_length_eq_zero (by simpa using this)
    subst this
    simp at h2
  | [], p :: fs, ds, i, f, x, n, nd, e, r, h1, h2 => by simp at h1
  | g :: l, (a, b) :: fs, ds, i, f, x, 0, nd, e, r, h1, h2 => by simp at e
  | g :: l, (a, b) :: fs, [], i, f, x, n + 1, nd, e, r, h1, h2 => by simp at h2
  | g :: l, (a, b) :: fs, d :: ds, 0, f, x, n + 1, nd, e, r, h1, h2 => by
    simp at e h1 h2
    subst h1 h2
    obtain ⟨v, r', e2, h3, h4⟩ := reps_cons_inv r
    simp at e2
    refine ⟨b, ?_, by rw [e2.1]; exact h3⟩
    simp [List.lookup, e.1]
  | g :: l, (a, b) :: fs, d :: ds, i + 1, f, x, n + 1, nd, e, r, h1, h2 => by
    simp at e h1 h2
    obtain ⟨v, r', e2, h3, h4⟩ := reps_cons_inv r
    simp at e2
    have nd' := List.nodup_cons.mp nd
    obtain ⟨v', h5, h6⟩ := lookup_ix (fs := fs) (n := n) nd'.2 e.2 (by rw [e2.2]; exact h4) h1 h2
    refine ⟨v', ?_, h6⟩
    have hne : f ≠ a := fun z => nd'.1 (by
      rw [← e.1, ← z]
      exact List.mem_of_getElem? h1)
    have : (f == a) = false := by simpa using hne
    simp [List.lookup, this, h5]
section
variable {X : Cx} {Z : Zy} {W : WX} {e o : Expr} {f g : DE} {pos : Pos} {c i : Nat} {nm : Str}
/-- self.f = e: f is the i-th field -/
def sFldSet (c i : Nat) (f g : DE) : DSt := sExp g fun u => sExp f fun v sl ce => match v, u with
  | .cell k, .im d => match ce[k]? with
    | some (.ins c' ds) => if c' = c then (if i < ds.length then .nx sl (ce.set k (.ins c (ds.set i d))) else if i = ds.length then .nx sl (ce.set k (.ins c (ds ++ [d]))) else .stuck) else .stuck
    | _ => .stuck
  | _, _ => .stuck
theorem putF_old {Z : Zx} {F : Hp} : ∀ {l : List Str} {fs : List (Str × V)} {ds : List D} {i : Nat} {nm : Str} {x : D} {v : V} {n : Nat}, l.Nodup → fs.map (·.1) = l.take n → Reps Z F ds (fs.map (·.2)) → l[i]? = some nm → i < ds.length → Rep Z F x v →
    (putF nm v fs).map (·.1) = l.take n ∧ Reps Z F (ds.set i x) ((putF nm v fs).map (·.2))
  | l, [], ds, i, nm, x, v, n, nd, e, r, h1, h2, rx => by
    have := r.length
    simp at this
    subst this
    simp at h2
  | [], p :: fs, ds, i, nm, x, v, n, nd, e, r, h1, h2, rx => by simp at h1
  | g :: l, (a, b) :: fs, ds, i, nm, x, v, 0, nd, e, r, h1, h2, rx => by simp at e
  | g :: l, (a, b) :: fs, [], i, nm, x, v, n + 1, nd, e, r, h1, h2, rx => by simp at h2
  | g :: l, (a, b) :: fs, d :: ds, 0, nm, x, v, n + 1, nd, e, r, h1, h2, rx => by
    simp at e h1
    subst h1
    obtain ⟨w, r', e2, h3, h4⟩ := reps_cons_inv r
    simp at e2
    unfold putF
    rw [if_pos e.1]
    refine ⟨by simp [e], ?_⟩
    simp only [List.map_cons, List.set_cons_zero]
    exact reps_cons rx (by rw [e2.2]; exact h4)
  | g :: l, (a, b) :: fs, d :: ds, i + 1, nm, x, v, n + 1, nd, e, r, h1, h2, rx => by
    simp at e h1 h2
    obtain ⟨w, r', e2, h3, h4⟩ := reps_cons_inv r
    simp at e2
    have nd' := List.nodup_cons.mp nd
    have hne : ¬ a = nm := fun z => nd'.1 (by
      rw [← e.1, z]
      exact List.mem_of_getElem? h1)
    obtain ⟨h5, h6⟩ := putF_old (fs := fs) (n := n) nd'.2 e.2 (by rw [e2.2]; exact h4) h1 (by omega) rx
    unfold putF
    rw [if_neg hne]
    refine ⟨by simp [e.1, h5], ?_⟩
    simp only [List.map_cons, List.set_cons_succ]
    exact reps_cons (by rw [e2.1]; exact h3) h6
theorem putF_new : ∀ {fs : List (Str × V)} {nm : Str} {v : V}, nm ∉ fs.map (·.1) → putF nm v fs = fs ++ [(nm, v)]
  | [], nm, v, h => rfl
  | (a, b) :: fs, nm, v, h => by
    simp at h
    unfold putF
    rw [if_neg fun z => h.1 z.symm, putF_new (by simpa using h.2)]
    rfl
theorem ds_fld {pos' : Pos} (ho : PE X o (tE Z W f)) (he : PE X e (tE Z W g)) (hK : X.K = Z.K) (hc : ClsOk X.K Z.toZx c) (hn : NoAttr X.K (Z.cl c) nm) (hi : (Z.fl c)[i]? = some nm) (hfew : (Z.fl c).length < 1000) (hs : swapsWith e (some (.Attribute o nm pos')) pos.line X.env = pure false := by rfl) : PS X (.Assign [.Attribute o nm pos'] e pos) (tS Z W (sFldSet c i f g)) :=
  (ps_fld ho he hs).weak fun D σ H q => tE_imp (fun y H1 ⟨A, F, sl, ce, u, so, hs, ru, p⟩ => by
    refine ⟨A, F, sl, ce, so, hs, (PostS.exp so hs p).imp fun x H2 ⟨A1, F1, ce1, v, p1, e1, s1, r1, q1⟩ => ?_⟩
    have ru1 := ru.mono p1 e1
    split at q1
    · split at q1
      · rename_i k d _ _ c' ds hk
        by_cases hcc : c' = c
        · rw [if_pos hcc] at q1
          subst hcc
          obtain ⟨a, ha, rfl⟩ := r1
          obtain ⟨hF, dx, fs, h1, h2, h3⟩ := s1.ok _ _ _ ha hk
          have hlen : fs.length = ds.length := by rw [h3.length, List.length_map]
          have hfs : fs.length < 1000 := by
            have : (fs.map (·.1)).length ≤ (Z.fl c').length := by rw [h2]; simp; omega
            simp at this
            omega
          refine ⟨a, _, dx, fs, rfl, h1, hc.cls, hn, hfs, ?_⟩
          by_cases hl : i < ds.length
          · rw [if_pos hl] at q1
            obtain ⟨h5, h6⟩ := putF_old hc.nd h2 h3 hi hl ru1
            exact nxS (s1.write (c := .ins c' (ds.set i d)) ha hF ⟨hF, dx, _, upd_same, by simpa using h5, h6⟩) (hs.mono p1 e1) q1
          · rw [if_neg hl] at q1
            by_cases hl2 : i = ds.length
            · rw [if_pos hl2] at q1
              have hil : i < (Z.fl c').length := (List.getElem?_eq_some_iff.mp hi).1
              have hno : nm ∉ fs.map (·.1) := by
                rw [h2]
                intro z
                obtain ⟨j, hj⟩ := List.getElem?_of_mem z
                have hjl : j < ds.length := by
                  have := (List.getElem?_eq_some_iff.mp hj).1
                  simp at this
                  omega
                rw [List.getElem?_take_of_lt hjl] at hj
                have := (List.getElem?_inj (List.getElem?_eq_some_iff.mp hi).1 hc.nd).mp (hi.trans hj.symm)
                omega
              refine nxS (s1.write (c := .ins c' (ds ++ [d])) ha hF ⟨hF, dx, _, upd_same, ?_, ?_⟩) (hs.mono p1 e1) q1
              · rw [putF_new hno, List.map_append, h2]
                simp only [List.map_cons, List.map_nil, List.length_append, List.length_cons, List.length_nil]
                rw [List.take_add_one, ← hl2, hi]
                rfl
              · rw [putF_new hno, List.map_append]
                exact h3.append (reps_cons ru1 reps_nil)
            · rw [if_neg hl2] at q1
              exact q1.elim
        · rw [if_neg hcc] at q1
          exact q1.elim
      · exact q1.elim
    · exact q1.elim) (tS1 q)
end
inductive Ty where
  | t (n : String) | c (n : Nat)
  deriving DecidableEq
def D.ty : D → Ty
  | .non => .t "NoneType" | .bl _ => .t "bool" | .int _ => .t "int" | .str _ => .t "str" | .tup _ => .t "tuple" | .lst _ => .t "list" | .wl _ => .t "list" | .ins c _ => .c c | .dct _ _ => .t "dict"
def tyVal (Z : Zx) : Ty → Value
  | .t n => .type n
  | .c n => .ref (Z.cl n)
/-- isinstance(e, T): tst tells for which types -/
def kIsi (tst : Ty → Option Bool) (v : Val) : DE := fun _ ce => match v with
  | .im (.wl _) => .stuck
  | .im (.dct _ _) => .stuck
  | .im d => match tst d.ty with
    | some b => .ok (.im (.bl b)) ce
    | none => .stuck
  | _ => .stuck
section
variable {X : Cx} {Z : Zy} {W : WX} {p p2 pos : Pos} {e : Expr} {f : DE} {x : Str} {cv : V} {u : Value} {tst : Ty → Option Bool}
/-- what isinstance asks of an own class -/
structure IsiC (K : PySem.W.Frag) (C : Addr) : Prop where
  cl : Cls K C
  ha : PySem.W.findIn K (.ref C) "__class__" = some (some (.builtin "object.__class__"))
  hn : PySem.W.specialIn K (.builtin "object.__class__") "__get__" = some (some (.builtin "getset_descriptor.__get__"))
  ht : PySem.W.takesIn K (.builtin "object.__class__") = some true
  hm : PySem.W.mroIn K C (.type "object") = some true
theorem d_tyx {F H : Hp} {d : D} {y : V} (so : Same F H) (r : Rep Z.toZx F d y) (hcl : ∀ c ds, d = .ins c ds → IsiC Z.K (Z.cl c)) (hnd : ∀ ks vs, d ≠ .dct ks vs) : TyX Z.K H y (tyVal Z.toZx d.ty) := by
  cases d with
  | non => unfold Rep at r; subst r; exact .base .non
  | bl b => unfold Rep at r; subst r; exact .base (.bl b)
  | int b => unfold Rep at r; subst r; exact .base (.int b)
  | str b => unfold Rep at r; subst r; exact .base (.str b)
  | tup ds =>
    unfold Rep at r
    obtain ⟨a, vs, rfl, h1, h2⟩ := r
    rcases same_seqT so h1 with (h | ⟨o, h⟩) | ⟨o, its, n, h3, h4, _⟩
    · exact .base (.tup h)
    · exact .fTuple h
    · exact .kTuple h3 h4
  | lst ds =>
    unfold Rep at r
    obtain ⟨a, vs, rfl, h1, h2⟩ := r
    exact .base (.lst (so _ _ h1))
  | dct ks vs => exact absurd rfl (hnd ks vs)
  | ins c ds =>
    unfold Rep at r
    obtain ⟨a, dx, fs, rfl, h1, h2⟩ := r
    have q := hcl c ds rfl
    exact .base (.ins (so _ _ h1) q.cl q.ha q.hn q.ht q.hm)
  | wl ds =>
    unfold Rep at r
    obtain ⟨a, vs, rfl, h1, h2⟩ := r
    rcases so.seq h1 with (h | ⟨o, h⟩) | ⟨o, its, n, h3, h4, _⟩
    · exact .base (.lst h)
    · exact .base (.frz h)
    · exact .kList h3 h4
theorem de_isi {T : Expr} (hT : PE X T (tC cv)) (hcv : ClsV cv u) (hK : X.K = Z.K) (hk : ∀ ty b, tst ty = some b → PySem.W.kitOne X.K (tyVal Z.toZx ty) u = some b) (hcl : ∀ c b, tst (.c c) = some b → IsiC X.K (Z.cl c)) (he : PE X e (tE Z W f)) (hm : X.mg "isinstance" = none)
    (hg : Gl X "isinstance" := by rfl) (hs : starEach [e, T] X.env = (false, eval e X.env) :: starEach [T] X.env := by rfl) (hs2 : starEach [T] X.env = (false, eval T X.env) :: starEach [] X.env := by rfl) (hpl : (backTo pos (starEach [T] X.env)).any (·.1) = false := by rfl) :
    PE X (.Call (.Name "isinstance" p) [e, T] [] pos) (tE Z W (eUn (kIsi tst) f)) :=
  (pe_callB call_isi hg hm (by decide +kernel) (pa_cons he (pa_cons hT pa_nil hs2) hs) (by decide) (by decide) hs hpl).weak fun σ H Q q => tE_imp (fun x H1 ⟨A, F, sl, ce, v, so, hs, r, p⟩ => by
    unfold kIsi at p
    show rIsi X.K [x, cv] H1 Q
    split at p
    · exact p.elim
    · exact p.elim
    · rename_i d _ hnd
      split at p
      · rename_i b hb
        exact ⟨x, cv, _, u, b, rfl, hcv, by rw [hK]; exact d_tyx so.sub r (fun c ds e => by subst e; rw [← hK]; exact hcl c b hb) (fun ks vs e => hnd ks vs (by rw [e])), hk _ b hb, fin_flat so p repB⟩
      · exact p.elim
    · exact p.elim) (tE1 q)
end
end ZZ
set_option Elab.async false
set_option linter.all false
set_option maxRecDepth 100000
namespace L2N
open PySem PySem.Spec PyProof.Rows L2
theorem pmk_oex {X : Cx} {CX : CXT} {x : Str} {e : Expr} {es : List Expr} {ta : TA} {p pos : Pos} {C fI : Addr} {k : Nat} {fd : FuncData} {ps : List Str} {sp : Sp} {ds : List Value} {dvs : List V} (T : OexC X.K C) (iC : PySem.W.findIn X.K (.ref C) "__init__" = some (some (.ref fI))) (tI : PySem.W.typeIn X.K (.ref fI) = some (.type "function"))
    (F1 : FnOk X.prog X.w X.K X.mg X.base CX k fI fd ps sp) (hr : Room (k + 1) X.A) (hb : Binds X.K fd ps ds) (hd : Vals dvs ds) (hx : Passes CX X (fun _ _ _ => False)) (hg : Gl X x) (hm : X.mg x = some (.ref C)) (ha : PA X (e :: es) ta)
    (hdb : (x == ("__debug__" : Str)) = false := by decide) (he : starEach (e :: es) X.env = (false, eval e X.env) :: starEach es X.env := by rfl) (hpl : (backTo pos (starEach es X.env)).any (·.1) = false := by rfl) :
    L2N.PMk X (.Call (.Name x p) (e :: es) [] pos) (tMkO C sp dvs ta) := by
  intro pins s σ H Q I h
  obtain ⟨nm, q, N, bs, bm, sn, sub, ab, col, dd, k0, k1, k2, k3, k5, hC, hbm⟩ := T.cls
  refine wpAny_Call_Name_kw (ld_glob I hg hm ?_ hdb)
  refine PySem.W.callWith_K (h₀ := X.base) I.ok.mod.kin T.kC (thn (ha.run pos pins s σ H _ I h) fun us s1 ⟨vs, H1, I1, r1, hz, q1⟩ => ⟨I1.kIn, ?_⟩) he hpl
  show wpAny _ _ (call (.ref C) us) _ _ _
  obtain ⟨hp, g, dr, tk, os⟩ := s1
  have hsz : hp.objs.size ≤ hp.objs.size + 1 := Nat.le_succ _
  have hn : H1 (hp.objs.size + 1) = none := I1.hok.fresh hsz
  have hq := q1 (hp.objs.size + 1) hn
  have kk : ∀ b o, hp.get? b = some o → ((hp.push (PySem.W.kdv_tup us)).push (PySem.HandSPX.excO C hp.objs.size)).get? b = some o := fun b o e => Heap.get?_push_of_some _ (Heap.get?_push_of_some _ e)
  have hget : ((hp.push (PySem.W.kdv_tup us)).push (PySem.HandSPX.excO C hp.objs.size)).get? (hp.objs.size + 1) = some (PySem.HandSPX.excO C hp.objs.size) := by heap_get
  have I2 : Inv X pins σ (upd H1 (hp.objs.size + 1) (exo (hp.objs.size + 1) C none)) ⟨(hp.push (PySem.W.kdv_tup us)).push (PySem.HandSPX.excO C hp.objs.size), g, dr, tk, os⟩ :=
    I1.laid (t' := tk) (a := hp.objs.size + 1) (o := exo (hp.objs.size + 1) C none) (h' := (hp.push (PySem.W.kdv_tup us)).push (PySem.HandSPX.excO C hp.objs.size)) kk hsz (exo_ok hget)
  have r2 : Vals (V.ref (hp.objs.size + 1) :: (vs ++ dvs)) (Value.ref (hp.objs.size + 1) :: (us ++ ds)) := .cons rfl (r1.append hd)
  have hl : (Value.ref (hp.objs.size + 1) :: us ++ ds).length = ps.length := by
    have e := r2.length
    rw [F1.len _ _ _ _ hq] at e
    exact e.symm
  have hus : us.length ≤ sizeLine := by
    rw [← Paired.length r1, sizeLine_eq]
    omega
  refine wpAny_call (PySem.HandSPX.call_own F.excBase_ValueError (fun Y => PySem.HandSPX.refsVE_contains Y bm hbm) (I1.kIn _ _ hC) (PySem.W.looks_findIn I1.kIn iC) (fun self => PySem.W.bind_fn I1.kIn self tI) hus
    (codeAny_mono (F1.run _ X.stack _ _ ⟨Value.ref (hp.objs.size + 1) :: us, []⟩ (Value.ref (hp.objs.size + 1) :: (us ++ ds)) _ _ (fun _ _ _ => False) (hr.make C us []) (I2.env0.make C us []) (hb _ (Value.ref (hp.objs.size + 1) :: us) I2.kIn hl) r2 hq) fun r s' hq' => ?_))
  cases r with
  | error er => exact hx pins σ _ _ er s' I2 hq'
  | ok fl =>
    cases fl with
    | ret u =>
      obtain ⟨v, H2, os2, bare2, un2, hok2, rv, ev, d, fs, ea, ed, hd1, q2⟩ := hq'
      subst ev
      obtain ⟨h2, g2, d2, t2, os'⟩ := s'
      refine ⟨rv, ?_⟩
      obtain ⟨t0, G, J, kG, ge, hoe, na⟩ := mk_end0 (d2 := d2) (t2 := t2) I1 hsz kk un2 hok2 os2 bare2 ea ed hd1
      exact ⟨_, _, _, ⟨G, g2, d2, t2, os'⟩, _, .ref C, some d, rfl, J, kG, ge, hoe, ⟨rfl, rfl, fun vs e => by cases e; rfl⟩, rfl, rfl, na, rfl, bare2, raises_own T.exC T.tyC, q2⟩
    | next => exact False.elim hq'
    | brk => exact False.elim hq'
    | cont => exact False.elim hq'
end L2N
namespace ZZ
open PySem PySem.Spec L2
def spI1 (K : PySem.W.Frag) (f : Str) : Sp := fun vs H Q _ => ∃ a C v, vs = [.ref a, v] ∧ OexC K C ∧ PySem.W.findIn K (.ref C) f = some none ∧ H a = some (exo a C none) ∧
  ∀ dx, H dx = none → dx ≠ a → Q .non (upd (upd H dx (exd dx [(f, v)])) a (exo a C (some dx)))
def sArgs : List DE → (List Val → DSt) → DSt
  | [], k => k []
  | f :: fs, k => sExp f fun v => sArgs fs fun vs => k (v :: vs)
/-- C(e, ..): the last argument's field stands first in the error's dict -/
def sRaise (c : Nat) (fs : List DE) : DSt := sArgs fs fun vs sl ce => match ims vs with
  | some ds => .exc c ds.reverse sl ce
  | none => .stuck
theorem tSN {Z : Zy} {W : WX} {D : Ends} {σ : L2.St} {sl : Sl} : ∀ {fs : List DE} {k : List Val → DSt} {A : List Addr} {F H : Hp} {ce : List Cell}, SO Z.toZx A F ce H → SL Z A F sl σ → PostS Z A F W D (sArgs fs k sl ce) →
    tArgs Z W fs σ H fun xs H1 => ∃ A1 F1 ce1 vs, A <+: A1 ∧ Same F F1 ∧ SO Z.toZx A1 F1 ce1 H1 ∧ VReps Z A1 F1 vs xs ∧ vs.length = fs.length ∧ PostS Z A1 F1 W D (k vs sl ce1)
  | [], k, A, F, H, ce, so, hs, p => ⟨A, F, ce, [], List.prefix_refl _, Same.refl _, so, rfl, rfl, p⟩
  | f :: fs, k, A, F, H, ce, so, hs, p => ⟨A, F, sl, ce, so, hs, (PostS.exp so hs p).imp fun x H1 ⟨A1, F1, ce1, v, p1, e1, s1, r1, q1⟩ =>
      tArgs_imp (fun xs H2 ⟨A2, F2, ce2, vs, p2, e2, s2, r2, l2, q2⟩ => ⟨A2, F2, ce2, v :: vs, p1.trans p2, e1.trans e2, s2, ⟨x, xs, rfl, r1.mono p2 e2, r2⟩, by simp [l2], q2⟩) (tSN s1 (hs.mono p1 e1) q1)⟩
/-- a class whose errors bear a text -/
structure ExT (K : PySem.W.Frag) (C : Addr) : Prop where
  q : PySem.W.excIn K C [.type "ValueError", .type "Exception", .type "BaseException", .type "object"] "ValueError.__new__" = true
  kC : PySem.W.keepIn K (.ref C) = true
  exC : PySem.W.subIn K (.ref C) (.type "BaseException") = some true
  tyC : PySem.W.typeIn K (.ref C) = some (.type "type")
section
variable {X : Cx} {Z : Zy} {W : WX} {p p2 pos pos2 : Pos} {x m : Str} {c j : Nat} {e e2 : Expr} {f g : DE}
theorem upd_swap {H : Hp} {a dx : Addr} {o o1 o2 o3 : HO} (h1 : H a = none) (h2 : dx ≠ a) : upd (del (upd (upd (upd H a o1) dx o2) a o) a) dx o3 = upd H dx o3 := by
  funext b
  unfold upd del
  by_cases hb : b = dx
  · simp [hb]
  · by_cases ha : b = a
    · simp [hb, ha, h1, Ne.symm h2]
    · simp [hb, ha]
theorem ds_raise1 {k : Nat} {fI : Addr} {fd : FuncData} {ps : List Str} {nm : Str} (hK : X.K = Z.K) (hc : X.calm = true) (tk : L2N.Takes X W) (T : OexC X.K (Z.cl c)) (iC : PySem.W.findIn X.K (.ref (Z.cl c)) "__init__" = some (some (.ref fI))) (tI : PySem.W.typeIn X.K (.ref fI) = some (.type "function"))
    (nf : PySem.W.findIn X.K (.ref (Z.cl c)) nm = some none) (hfl : Z.fl c = [nm]) (F1 : FnOk X.prog X.w X.K X.mg X.base CX0 k fI fd ps (spI1 X.K nm)) (hr : Room (k + 1) X.A) (hb : Binds X.K fd ps []) (hm : X.mg x = some (.ref (Z.cl c))) (ha : PA X [e] (tArgs Z W [f]))
    (hg : Gl X x := by rfl) (hdb : (x == ("__debug__" : Str)) = false := by decide) (he : starEach [e] X.env = (false, eval e X.env) :: starEach [] X.env := by rfl) (hpl : (backTo pos (starEach [] X.env)).any (·.1) = false := by rfl) :
    PS X (.Raise (some (.Call (.Name x p) [e] [] pos)) none pos2) (tS Z W (sRaise c [f])) :=
  (L2N.ps_raise hc tk (L2N.pmk_oex T iC tI F1 hr hb .nil pass0 hg hm ha hdb he hpl)).weak fun D σ H ⟨A, F, sl, ce, so, hs, p⟩ => by
    refine tArgs_imp (fun xs H1 ⟨A1, F1, ce1, vs, p1, e1, s1, r1, l1, q1⟩ => ?_) (tSN so hs p)
    have hl := r1.length
    have hx : xs.length = 1 := by rw [← hl, l1]; rfl
    refine ⟨by omega, fun a ha => ?_⟩
    obtain ⟨y, rfl⟩ := List.length_eq_one_iff.mp hx
    cases e2 : ims vs with
    | none => rw [e2] at q1; exact q1.elim
    | some ds =>
      rw [e2] at q1
      have rd := ims_rd r1 e2
      refine ⟨a, Z.cl c, y, rfl, T, nf, upd_same, fun dx h1 h2 => ⟨rfl, dx, [(nm, y)], upd_same, ?_, ?_, ?_⟩⟩
      · rw [upd_ne h2, upd_same]
      · rw [upd_ne h2] at h1
        exact h1
      · rw [upd_ne h2] at h1
        rw [upd_swap ha h2]
        refine q1 A1 (upd F1 dx (.xd [(nm, y)])) _ σ (some dx) (List.prefix_refl _) (same_up (s1.fnone h1)) (s1.new h1) ((hs.mono p1 e1).mono (List.prefix_refl _) (same_up (s1.fnone h1))) (.inr ⟨dx, _, rfl, upd_same, by rw [hfl]; rfl, ?_⟩)
        exact (rd.mono (same_up (s1.fnone h1))).reverse
end
/-- a slot that holds the exception in hand is forgotten -/
def clean (sl : Sl) : Sl := sl.map fun o => match o with
  | some (.exn _ _) => none
  | o => o
abbrev Zy.hdl (Z : Zy) (a : Addr) (c : Nat) (d : Option Addr) : Zy := ⟨Z.toZx, some (a, c, d)⟩
def setO {α : Type} (i : Option Nat) (l : List (Option α)) : List (Option α) := match i with
  | some i => l.set i none
  | none => l
/-- behind a suite -/
def offD (i : Option Nat) : Out → Out
  | .nx sl ce => .nx (clean (setO i sl)) ce
  | .bk sl ce => .bk (clean (setO i sl)) ce
  | .ct sl ce => .ct (clean (setO i sl)) ce
  | .rt v ce => if plainV v then .rt v ce else .stuck
  | _ => .stuck
/-- nE classes of errors; sub: which of them the clause names -/
def sTry (nE : Nat) (sub : Nat → Bool) (i : Option Nat) (fb fs : DSt) : DSt := fun sl ce => match fb sl ce with
  | .exc c ds sl1 ce1 => if c < nE then (if sub c then offD i (fs (match i with
    | some i => sl1.set i (some (.exn c ds))
    | none => sl1) ce1) else .exc c ds sl1 ce1) else .stuck
  | o => o
section
variable {Z : Zy} {A A' : List Addr} {F F' H : Hp} {ce : List Cell} {sl : Sl} {σ : L2.St} {W : WX}
theorem SL.off {a c d} (hs : SL (Z.hdl a c d) A F sl σ) (hz : Z.hd = none) : SL Z A F (clean sl) σ := by
  refine ⟨by unfold clean; rw [List.length_map]; exact hs.len, fun i v q => ?_⟩
  unfold clean at q
  rw [List.getElem?_map] at q
  cases e : sl[i]? with
  | none => rw [e] at q; cases q
  | some o =>
    rw [e] at q
    cases o with
    | none => cases q
    | some u =>
      obtain ⟨x, h1, h2⟩ := hs.is i u e
      cases u with
      | im y => cases q; exact ⟨x, h1, h2⟩
      | cell k => cases q; exact ⟨x, h1, h2⟩
      | exn c ds => cases q
theorem SL.on {a c d} (hs : SL Z A F sl σ) (hz : Z.hd = none) : SL (Z.hdl a c d) A F sl σ := by
  refine ⟨hs.len, fun i v q => ?_⟩
  obtain ⟨x, h1, h2⟩ := hs.is i v q
  refine ⟨x, h1, ?_⟩
  cases v with
  | im y => exact h2
  | cell k => exact h2
  | exn c ds => obtain ⟨a, dx, h, _⟩ := h2; rw [hz] at h; cases h
end
section
variable {X : Cx} {Z : Zy} {Wout : WX} {x n : Str} {cv : Value} {i nE : Nat} {sub : Nat → Bool} {body suite : List Stmt} {b₀ : Stmt} {np pos pos' : Pos} {fb fs : DSt}
theorem suite_ok {D D' : Ends} {a : Addr} {c : Nat} {d : Option Addr} {io : Option Nat} {A F} {o : Out} (hz : Z.hd = none) (p : PostS Z A F Wout D (offD io o))
    (h1 : ∀ σ H, D.nx (setO io σ) H → D'.nx σ H) (h2 : ∀ σ H, D.bk (setO io σ) H → D'.bk σ H) (h3 : ∀ σ H, D.ct (setO io σ) H → D'.ct σ H) (h4 : D'.rt = D.rt) : PostS (Z.hdl a c d) A F WF D' o := by
  have key : ∀ {A' F'} {sl : Sl} {σ : L2.St}, SL (Z.hdl a c d) A' F' sl σ → SL Z A' F' (clean (setO io sl)) (setO io σ) := by
    intro A' F' sl σ hs
    cases io with
    | none => exact hs.off hz
    | some i => exact (SL.gone hs).off hz
  cases o with
  | nx sl ce => exact fun A' F' H' σ' pA eF so hs => h1 _ _ (p A' F' H' _ pA eF so (key hs))
  | bk sl ce => exact fun A' F' H' σ' pA eF so hs => h2 _ _ (p A' F' H' _ pA eF so (key hs))
  | ct sl ce => exact fun A' F' H' σ' pA eF so hs => h3 _ _ (p A' F' H' _ pA eF so (key hs))
  | rt v ce =>
    simp only [offD] at p
    by_cases hp : plainV v = true
    · rw [if_pos hp] at p
      intro A' F' H' x pA eF so r
      rw [h4]
      refine p A' F' H' x pA eF so ?_
      cases v with
      | im y => exact r
      | cell k => exact r
      | exn c ds => cases hp
    · rw [if_neg hp] at p
      exact p.elim
  | exc c ds sl ce => exact p.elim
  | stuck => exact p.elim
theorem ds_try_as (hs : X.stack = X.env :: X.outer) (hf : X.env.frame = some X.env.locals) (hN : X.N.Nodup) (hz : Z.hd = none) (hc : Names X x cv) (tk : L2N.Takes X Wout) (hexm : ∀ c, c < nE → PySem.W.exmOne X.K (.ref (Z.cl c)) cv = some (sub c))
    (hb : ∀ (W : WX) (pn : List (Addr × Obj)) (xe : Value → Shared → Prop), L2N.Takes (X.tr pn xe) W → PassesOwn (model X.prog X.w) X.A X.env xe → PSs (X.tr pn xe) body (tS Z W fb))
    (hsu : ∀ (a : Addr) (oe : Obj) (c : Nat) (d : Option Addr) (pn : List (Addr × Obj)), c < nE → L2N.Zn (.ref (Z.cl c)) d oe → (∃ vs, oe.data = .fields vs) → PSs (X.suite a ((a, oe) :: pn)) (b₀ :: suite) (tS (Z.hdl a c d) WF fs))
    (hi : X.N[i]? = some n := by rfl) (hln : X.env.kindOf n = some .local := by rfl) :
    PS X (.Try body [.ExceptHandler (some (.Name x np)) (some n) (b₀ :: suite) pos'] [] [] pos) (tS Z Wout (sTry nE sub (some i) fb fs)) := by
  refine (L2N.ps_try_as (ts := fun a cls d => fun D σ H => ∃ c, c < nE ∧ cls = .ref (Z.cl c) ∧ tS (Z.hdl a c d) WF fs D σ H) hs hf hN hi hln hc tk hb fun a oe cls d pn hzn hfl => ⟨fun pins s σ H D I h => ?_⟩).weak fun D σ H ⟨A, F, sl, ce, so, hs, p⟩ => ⟨A, F, sl, ce, so, hs, ?_⟩
  · obtain ⟨c, hc, rfl, h⟩ := h
    exact (hsu a oe c d pn hc hzn hfl).run pins s σ H D I h
  · unfold sTry at p
    cases e : fb sl ce with
    | nx sl ce => rw [e] at p; exact p
    | bk sl ce => rw [e] at p; exact p
    | ct sl ce => rw [e] at p; exact p
    | rt v ce => rw [e] at p; exact p
    | stuck => rw [e] at p; exact p
    | exc c ds sl1 ce1 =>
      rw [e] at p
      intro A1 F1 H1 σ1 dx pA eF so1 hs1 xo
      dsimp only at p
      by_cases hcn : c < nE
      · rw [if_pos hcn] at p
        refine ⟨sub c, hexm c hcn, fun hb a ha => ?_, fun hb => ?_⟩
        · rw [if_pos hb] at p
          refine ⟨c, hcn, rfl, A1, F1, _, ce1, so1, ((hs1.on (a := a) (c := c) (d := dx) hz).set (v := .exn c ds) (x := .ref a) ⟨a, dx, rfl, rfl, xo⟩), ?_⟩
          exact suite_ok hz (p.mono pA eF) (fun _ _ h => h) (fun _ _ h => h) (fun _ _ h => h) rfl
        · rw [hb] at p
          exact p A1 F1 H1 σ1 dx pA eF so1 hs1 xo
      · rw [if_neg hcn] at p
        exact p.elim
end
def kXf (cs : List Nat) (i : Nat) (v : Val) : DE := fun _ ce => match v with
  | .exn c ds => if c ∈ cs then (match ds[i]? with
    | some y => .ok (.im y) ce
    | none => .stuck) else .stuck
  | _ => .stuck
def kIsE (tst : Nat → Option Bool) (v : Val) : DE := fun _ ce => match v with
  | .exn c _ => match tst c with
    | some b => .ok (.im (.bl b)) ce
    | none => .stuck
  | _ => .stuck
section
variable {X : Cx} {Z : Zy} {W : WX} {a : Addr} {oe : Obj} {c i : Nat} {d : Option Addr} {pn : List (Addr × Obj)} {e : Expr} {f : DE} {pos p : Pos} {nm : Str} {cs : List Nat}
theorem de_xf (hT : ∀ c ∈ cs, XfC X.K (Z.cl c) ∧ PySem.W.findIn X.K (.ref (Z.cl c)) nm = some none ∧ (Z.fl c)[i]? = some nm ∧ (Z.fl c).Nodup) (hz : L2N.Zn (.ref (Z.cl c)) d oe) (hf : ∃ vs, oe.data = .fields vs) (he : PE (X.suite a ((a, oe) :: pn)) e (tE (Z.hdl a c d) W f)) (hb : attributeBase e nm X.env (eval e X.env) = eval e X.env := by rfl) :
    PE (X.suite a ((a, oe) :: pn)) (.Attribute e nm pos) (tE (Z.hdl a c d) W (eUn (kXf cs i) f)) := by
  by_cases hc : c ∈ cs
  · obtain ⟨T, no, hi, nd⟩ := hT c hc
    refine (pe_xf T no hz.zc hf he hb).weak fun σ H Q q => tE_imp (fun x H1 ⟨A, F, sl, ce, v, so, hs, r, p⟩ => ?_) (tE1 q)
    unfold kXf at p
    split at p
    · rename_i c' ds
      obtain ⟨a', dx, h1, rfl, xo⟩ := r
      cases h1
      rw [if_pos hc] at p
      split at p
      · rename_i y hy
        rcases xo with ⟨rfl, _⟩ | ⟨dd, fs, rfl, h2, h3, h4⟩
        · simp at hy
        · obtain ⟨u, h5, h6⟩ := lookup_ix (n := (Z.fl c).length) nd (by rw [h3, List.take_length]) h4 hi hy
          exact ⟨rfl, rfl, dd, fs, u, rfl, so.sub _ _ h2, h5, fin_flat so p h6⟩
      · exact p.elim
    · exact p.elim
  · refine ⟨fun pins s σ H Q I q => attr_of hb (thn (he.run pins s σ H (fun _ _ => False) I (tE_imp (fun x H1 ⟨A, F, sl, ce, v, so, hs, r, p⟩ => ?_) (tE1 q))) fun u s1 ⟨x, H1, I1, rx, z⟩ => z.elim)⟩
    unfold kXf at p
    split at p
    · rename_i c' ds
      obtain ⟨a', dx, h1, rfl, xo⟩ := r
      cases h1
      rw [if_neg hc] at p
      exact p.elim
    · exact p.elim
/-- isinstance(e, T), e the exception in hand -/
theorem call_isX {C : Addr} (hga : PySem.W.findIn X.K (.ref C) "__getattribute__" = some (some (.builtin "BaseException.__getattribute__"))) (hgt : PySem.W.findIn X.K (.ref C) "__getattr__" = some none) (hsub : PySem.W.subIn X.K (.ref C) (.type "BaseException") = some true) (hd : PySem.W.hasDictIn X.K C = true)
    (ha : PySem.W.findIn X.K (.ref C) "__class__" = some (some (.builtin "object.__class__"))) (hn : PySem.W.specialIn X.K (.builtin "object.__class__") "__get__" = some (some (.builtin "getset_descriptor.__get__")))
    (htk : PySem.W.takesIn X.K (.builtin "object.__class__") = some true) (hm : PySem.W.mroIn X.K C (.type "object") = some true) (hz : L2N.Zn (.ref C) d oe) (hf : ∃ vs, oe.data = .fields vs) :
    CallR (X.suite a ((a, oe) :: pn)) (.builtin "isinstance") (fun xs H Q => ∃ (c : V) (cv : Value) (b : Bool), xs = [.ref a, c] ∧ (∀ u, RelV c u → u = cv) ∧ PySem.W.kitOne X.K (.ref C) cv = some b ∧ (d = none ∨ ∃ dd fs, d = some dd ∧ H dd = some (.xd fs)) ∧ Q (.bl b) H) := by
  intro pins s σ H xs us Q I r h
  obtain ⟨c, cv, b, rfl, hcv, e, hdd, q⟩ := h
  cases r with
  | cons rx rr =>
    cases rr with
    | cons rt rr =>
      cases rr
      cases rx
      have ec := hcv _ rt
      subst ec
      obtain ⟨hget, _⟩ := I.pin (a, oe) (List.mem_append.mpr (.inl List.mem_cons_self))
      obtain ⟨vs, hv⟩ := hf
      have hcl : (PySem.W.clsIn X.K C).isSome = true := by
        obtain ⟨cd, hc, _⟩ := PySem.W.any_some hd
        rw [hc]
        rfl
      have key : ∀ od, PySem.W.InstAt s.heap a oe C od → wpAny (model X.prog X.w) (X.suite a ((a, oe) :: pn)).A (call (.builtin "isinstance") [.ref a, _]) (EP (X.suite a ((a, oe) :: pn)) pins σ Q) (fun _ _ => False) s := fun od J =>
        PySem.W.kia_one (PySem.W.kitx_exc (od := od) hcl hga hgt hsub ha hn htk hm) I.kIn J e (fun z => nomatch z) fun tk => ⟨.bl b, H, I.kept (t' := tk) fun _ _ z => z, rfl, q⟩
      rcases hdd with rfl | ⟨dd, fs, rfl, hH⟩
      · refine key none ?_
        refine ⟨hget, hz.1, by unfold PySem.W.notCls; rw [hv] <;> rfl, by rw [hz.2.1]; trivial⟩
      · obtain ⟨mA, hns, hr⟩ : ObjOk X.prog X.w H s.heap dd (.xd fs) := I.hok dd _ hH
        obtain ⟨od, ho, hl⟩ := lookIn_ns hns
        exact key (some od) ⟨hget, hz.1, by unfold PySem.W.notCls; rw [hv] <;> rfl, by rw [hz.2.1]; exact ho⟩
end
end ZZ
set_option Elab.async false
set_option linter.all false
set_option maxRecDepth 100000
namespace ZZ
open PySem PySem.Spec L2
/-- a def of the text that keeps its promise -/
structure DOk (P : Program) (w : World) (K : PySem.W.Frag) (mg : Str → Option Value) (base : Heap) (k : Nat) (a : Addr) (ps : List Str) (sp : Sp) : Prop where
  ex : ∃ fd, FnOk P w K mg base (L2N.CX P w) k a fd ps sp ∧ Binds K fd ps []
  kp : PySem.W.keepIn K (.ref a) = true
/-- an exception's __init__ -/
structure IOk (P : Program) (w : World) (K : PySem.W.Frag) (mg : Str → Option Value) (base : Heap) (a : Addr) (ps : List Str) (sp : Sp) : Prop where
  ex : ∃ fd, FnOk P w K mg base CX0 1 a fd ps sp ∧ Binds K fd ps []
section
variable {X : Cx} {Z : Zy} {W : WX} {k n : Nat} {fa : Addr} {ps : List Str} {fh : DF} {x m nm : Str} {p pos pos2 apos : Pos} {e o : Expr} {es : List Expr} {f : DE} {fs : List DE} {c nf : Nat}
theorem de_callD (G : DOk X.prog X.w X.K X.mg X.base k fa ps (spD Z.toZx fh n)) (hr : Room k X.A) (hm : X.mg x = some (.ref fa)) (tw : TW X W) (ha : PA X (e :: es) (tArgs Z W fs))
    (hg : Gl X x := by rfl) (hl : fs.length = n := by rfl) (hdb : (x == ("__debug__" : Str)) = false := by decide) (he : starEach (e :: es) X.env = (false, eval e X.env) :: starEach es X.env := by rfl) (hpl : (backTo pos (starEach es X.env)).any (·.1) = false := by rfl) :
    PE X (.Call (.Name x p) (e :: es) [] pos) (tE Z W (eArgs fs (kCall fh))) := by
  obtain ⟨fd, F, b⟩ := G.ex
  exact de_call F hr hm G.kp b tw ha hg hl hdb he hpl
theorem de_makeD (M : Mk X.K (Z.cl c) fa) (G : DOk X.prog X.w X.K X.mg X.base k fa ps (spD Z.toZx fh (n + 1))) (hr : Room (k + 1) X.A) (hm : X.mg x = some (.ref (Z.cl c))) (tw : TW X W) (ha : PA X (e :: es) (tArgs Z W fs)) (hfl : (Z.fl c).length = nf)
    (hg : Gl X x := by rfl) (hl : fs.length = n := by rfl) (hdb : (x == ("__debug__" : Str)) = false := by decide) (he : starEach (e :: es) X.env = (false, eval e X.env) :: starEach es X.env := by rfl) (hpl : (backTo pos (starEach es X.env)).any (·.1) = false := by rfl) :
    PE X (.Call (.Name x p) (e :: es) [] pos) (tE Z W (eArgs fs (kMake c nf fh))) := by
  obtain ⟨fd, F, b⟩ := G.ex
  exact de_make M F hr hm b tw ha hfl hg hl hdb he hpl
/-- an error's class with one field -/
structure Ex1 (P : Program) (w : World) (K : PySem.W.Frag) (mg : Str → Option Value) (base : Heap) (Z : Zx) (c : Nat) (nm : Str) (fI : Addr) (ps : List Str) : Prop where
  o : OexC K (Z.cl c)
  i : PySem.W.findIn K (.ref (Z.cl c)) "__init__" = some (some (.ref fI))
  t : PySem.W.typeIn K (.ref fI) = some (.type "function")
  n : PySem.W.findIn K (.ref (Z.cl c)) nm = some none
  f : Z.fl c = [nm]
  g : IOk P w K mg base fI ps (spI1 K nm)
theorem ds_raise1D {fI : Addr} (hK : X.K = Z.K) (hc : X.calm = true) (tk : L2N.Takes X W) (E1 : Ex1 X.prog X.w X.K X.mg X.base Z.toZx c nm fI ps) (hr : Room 2 X.A) (hm : X.mg x = some (.ref (Z.cl c))) (ha : PA X [e] (tArgs Z W [f]))
    (hg : Gl X x := by rfl) (hdb : (x == ("__debug__" : Str)) = false := by decide) (he : starEach [e] X.env = (false, eval e X.env) :: starEach [] X.env := by rfl) (hpl : (backTo pos (starEach [] X.env)).any (·.1) = false := by rfl) :
    PS X (.Raise (some (.Call (.Name x p) [e] [] pos)) none pos2) (tS Z W (sRaise c [f])) := by
  obtain ⟨fd, F, b⟩ := E1.g.ex
  exact ds_raise1 hK hc tk E1.o E1.i E1.t E1.n E1.f F hr b hm ha hg hdb he hpl
end
def kNeg (v : Val) : DE := fun _ ce => match v with
  | .im (.int i) => .ok (.im (.int (-i))) ce
  | _ => .stuck
def asStrs : List D → Option (List Str)
  | [] => some []
  | .str s :: ds => (asStrs ds).map (s :: ·)
  | _ :: _ => none
section
variable {X : Cx} {Z : Zy} {W : WX} {e o i : Expr} {f g h : DE} {pos apos cpos p1 p2 p3 : Pos}
theorem de_neg (he : PE X e (tE Z W f)) : PE X (.UnaryOp .USub e pos) (tE Z W (eUn kNeg f)) := (pe_un un_neg he).weak fun σ H Q q => tE_imp (fun x H1 ⟨A, F, sl, ce, v, so, hs, r, p⟩ => by
  unfold kNeg at p
  split at p
  · exact ⟨_, rep_int r, fin_flat so p repI⟩
  · exact p.elim) (tE1 q)
end
structure XiC (K : PySem.W.Frag) (C : Addr) : Prop where
  hga : PySem.W.findIn K (.ref C) "__getattribute__" = some (some (.builtin "BaseException.__getattribute__"))
  hgt : PySem.W.findIn K (.ref C) "__getattr__" = some none
  hsub : PySem.W.subIn K (.ref C) (.type "BaseException") = some true
  hd : PySem.W.hasDictIn K C = true
  ha : PySem.W.findIn K (.ref C) "__class__" = some (some (.builtin "object.__class__"))
  hn : PySem.W.specialIn K (.builtin "object.__class__") "__get__" = some (some (.builtin "getset_descriptor.__get__"))
  htk : PySem.W.takesIn K (.builtin "object.__class__") = some true
  hm : PySem.W.mroIn K C (.type "object") = some true
theorem XiC.xf {K : PySem.W.Frag} {C : Addr} (h : XiC K C) : XfC K C := ⟨h.hga, h.hgt, h.hsub, h.hd⟩
section
variable {X : Cx} {Z : Zy} {W : WX} {a : Addr} {oe : Obj} {c : Nat} {d : Option Addr} {pn : List (Addr × Obj)} {e T : Expr} {f : DE} {pos p : Pos} {tst : Nat → Option Bool} {cv : V} {u : Value}
/-- isinstance(e, T) -/
theorem de_isX (xi : XiC X.K (Z.cl c)) (hT : PE (X.suite a ((a, oe) :: pn)) T (tC cv)) (hcv : ∀ u', RelV cv u' → u' = u) (hk : ∀ b, tst c = some b → PySem.W.kitOne X.K (.ref (Z.cl c)) u = some b) (hz : L2N.Zn (.ref (Z.cl c)) d oe) (hf : ∃ vs, oe.data = .fields vs) (he : PE (X.suite a ((a, oe) :: pn)) e (tE (Z.hdl a c d) W f)) (hm : X.mg "isinstance" = none)
    (hg : Gl (X.suite a ((a, oe) :: pn)) "isinstance" := by rfl) (hs : starEach [e, T] X.env = (false, eval e X.env) :: starEach [T] X.env := by rfl) (hs2 : starEach [T] X.env = (false, eval T X.env) :: starEach [] X.env := by rfl) (hpl : (backTo pos (starEach [T] X.env)).any (·.1) = false := by rfl) :
    PE (X.suite a ((a, oe) :: pn)) (.Call (.Name "isinstance" p) [e, T] [] pos) (tE (Z.hdl a c d) W (eUn (kIsE tst) f)) :=
  (pe_callB (call_isX xi.hga xi.hgt xi.hsub xi.hd xi.ha xi.hn xi.htk xi.hm hz hf) hg hm (by decide +kernel) (pa_cons he (pa_cons hT pa_nil hs2) hs) (by decide) (by decide) hs hpl).weak fun σ H Q q => tE_imp (fun x H1 ⟨A, F, sl, ce, v, so, hs, r, p⟩ => by
    unfold kIsE at p
    split at p
    · rename_i c' ds
      obtain ⟨a', dx, h1, rfl, xo⟩ := r
      cases h1
      split at p
      · rename_i b hb
        refine ⟨cv, u, b, rfl, hcv, hk b hb, ?_, fin_flat so p repB⟩
        rcases xo with ⟨_, rfl⟩ | ⟨dd, fs, rfl, h2, _⟩
        · exact .inl rfl
        · exact .inr ⟨dd, fs, rfl, so.sub _ _ h2⟩
      · exact p.elim
    · exact p.elim) (tE1 q)
end
end ZZ
set_option Elab.async false
set_option linter.all false
set_option maxRecDepth 100000
namespace L2
open PySem PySem.Spec PyProof.Rows
/-- a zip's records between two turns of a walk that keeps what it gives out -/
def ZHeld (z TI TO i1 i2 a b : Addr) (i : Nat) (H : Hp) (h : Heap) : Prop :=
  IsPair h TI (.ref i1) (.ref i2) ∧ (∃ x y, IsPair h TO x y) ∧ h.IsListIter i1 a i ∧ h.IsListIter i2 b i ∧ (IsZip h z TI TO .none ∨ ∃ T f xs, IsZipHeld h z TI TO T f ∧ H T = some (.tup xs))
section
variable {X : Cx} {pins : List (Addr × Obj)} {σ : L2.St} {H : Hp} {s : Shared} {z TI TO i1 i2 a b q : Addr} {i : Nat} {xs ys : List V} {x y : V} {A A1 : Around} {E : Value → Shared → Prop}
theorem ZHeld.lt (st : ZHeld z TI TO i1 i2 a b i H s.heap) : ∀ c ∈ [z, TI, TO, i1, i2], c < s.heap.objs.size := by
  obtain ⟨hTI, ⟨x0, y0, hTO⟩, ⟨o1, h1, _⟩, ⟨o2, h2, _⟩, hz⟩ := st
  have hzl : z < s.heap.objs.size := by
    rcases hz with hz | ⟨T, f, vs, hz, _⟩
    · exact Heap.lt_size hz
    · exact Heap.lt_size hz
  intro c hc
  have e' : c = z ∨ c = TI ∨ c = TO ∨ c = i1 ∨ c = i2 := by simpa using hc
  rcases e' with q | q | q | q | q
  · rw [q]; exact hzl
  · rw [q]; exact Heap.lt_size hTI
  · rw [q]; exact Heap.lt_size hTO
  · rw [q]; exact Heap.lt_size h1
  · rw [q]; exact Heap.lt_size h2
end
end L2
set_option Elab.async false
set_option linter.all false
set_option maxRecDepth 100000
namespace L2
open PySem PySem.Spec
end L2
namespace ZZ
open PySem PySem.Spec L2
section
variable {X : Cx} {Z : Zy} {W : WX} {k n : Nat} {fa pa : Addr} {ps : List Str} {fh : DF} {x m nm : Str} {p pos pos2 apos : Pos} {a b e e2 o : Expr} {es : List Expr} {f g : DE} {fs : List DE} {c : Nat}
theorem reps_strs {F : Hp} : ∀ {ds : List D} {vs : List V} {ys : List Str}, Reps Z.toZx F ds vs → asStrs ds = some ys → vs = ys.map V.str
  | [], vs, ys, r, e => by
    cases e
    exact reps_nil_inv r
  | .str s :: ds, vs, ys, r, e => by
    unfold asStrs at e
    obtain ⟨v, r', rfl, h1, h2⟩ := reps_cons_inv r
    cases hh : asStrs ds with
    | none => rw [hh] at e; cases e
    | some zs =>
      rw [hh] at e
      cases e
      unfold Rep at h1
      rw [h1, reps_strs h2 hh]
      rfl
  | .non :: ds, vs, ys, r, e => by cases e
  | .bl _ :: ds, vs, ys, r, e => by cases e
  | .int _ :: ds, vs, ys, r, e => by cases e
  | .tup _ :: ds, vs, ys, r, e => by cases e
  | .lst _ :: ds, vs, ys, r, e => by cases e
  | .wl _ :: ds, vs, ys, r, e => by cases e
  | .ins _ _ :: ds, vs, ys, r, e => by cases e
def kJoin (v : Val) (vs : List Val) : DE := fun _ ce => match v, vs with
  | .im (.str a), [u] => match asL ce u with
    | some ds => match asStrs ds with
      | some ys => if (ys.map (·.length)).sum + ys.length * a.length ≤ 16777216 then .ok (.im (.str (Txt.join a ys))) ce else .stuck
      | none => .stuck
    | none => .stuck
  | _, _ => .stuck
theorem de_join {cpos : Pos} (hK : X.K = Z.K) (ho : PE X o (tE Z W f)) (ha : PE X e (tE Z W g))
    (hb : attributeBase o "join" X.env (eval o X.env) = eval o X.env := by rfl) (hl : (apos.endLine == cpos.line) = true := by rfl) (hs : starEach [e] X.env = (false, eval e X.env) :: starEach [] X.env := by rfl)
    (hfew : ((backTo cpos (starEach [e] X.env)).all (fun x => !x.1) && (backToKw cpos (keywordEach [] X.env)).all (fun x => x.1.isSome)
      && decide ([e].length + ([] : List Keyword).length + (if ([] : List Keyword).isEmpty then 0 else 1) < 30)) = true := by rfl) :
    PE X (.Call (.Attribute o "join" apos) [e] [] cpos) (tE Z W (eMth tyS kJoin f [g])) :=
  de_bm PySem.F.plainAttrs_str PySem.F.slot_str_join PySem.F.type_str_join mt_join ⟨tyS_ok, fun A F sl ce v x vs xs H σ Q so hs rv rs p => by
    unfold kJoin at p
    split at p
    · rename_i u
      split at p
      · rename_i ds e1
        split at p
        · rename_i ys e2
          split at p
          · rename_i hz
            obtain ⟨y, rfl, ry⟩ := vreps1 rs
            obtain ⟨l, ws, rfl, h1, h2⟩ := asL_rd so ry e1
            have := reps_strs h2 e2
            subst this
            rw [rep_str rv]
            exact ⟨_, l, ys, rfl, rfl, .inl (SqL.of h1), hz, fin_flat so p repS⟩
          · exact p.elim
        · exact p.elim
      · exact p.elim
    · exact p.elim⟩ ho (da_cons ha da_nil hs) hb hl hs rfl hfew
end
end ZZ
set_option Elab.async false
set_option linter.all false
set_option maxRecDepth 100000
namespace PySem.W
open PySem PySem.Spec
end PySem.W
namespace PySem.W
open PySem PySem.Calls PyProof.Rows
end PySem.W
namespace L2
open PySem PySem.Spec
end L2
namespace ZZ
open PySem PySem.Spec L2
end ZZ
set_option Elab.async false
set_option linter.all false
set_option maxRecDepth 100000
namespace L2
open PySem PySem.Spec PyProof.Rows
end L2
namespace L2
open PySem PySem.Spec PyProof.Rows
end L2
namespace PySem.W
open PySem PySem.Spec PySem.Calls PyProof.Rows
end PySem.W
namespace ZZ
open PySem PySem.Spec L2
end ZZ
namespace L2
open PySem PySem.Spec PyProof.Rows
end L2
namespace ZZ
open PySem PySem.Spec L2
end ZZ
set_option Elab.async false
set_option linter.all false
set_option maxRecDepth 100000
namespace PySem.W
open PySem PySem.Spec PySem.Calls PyProof.Rows
end PySem.W
namespace L2
open PySem PySem.Spec PyProof.Rows NdefX
/-- a def of a class at D that says super() -/
structure SupDef (K : PySem.W.Frag) (file : Str) (name qual : Str) (st : Stmt) (f : Addr) (fd : FuncData) (D cc cda : Addr) : Prop where
  ex : ∃ oc od kV doc pm an ct osl, fd = PySem.W.ksFn name qual (defArgs st) (defBody st) (defScope st) .none kV doc pm an (.ref cda) ct cc ∧ K.lookup f = some ⟨oc, od, .func (PySem.W.ksFn name qual (defArgs st) (defBody st) (defScope st) .none kV doc pm an (.ref cda) ct cc), osl⟩
  code : PySem.W.codeIn K (.ref cda) qual = true
  file : ∃ ccl cdd vs ccs tf, K.lookup cda = some ⟨ccl, cdd, .fields vs, ccs⟩ ∧ vs[2]? = some (.str file tf)
  cell : ∃ cl cld csl, K.lookup cc = some ⟨cl, cld, .cell (some (.ref D)), csl⟩
  cls : ∃ cd, PySem.W.clsIn K D = some cd
/-- in the body of the function itself -/
structure PEat (X : Cx) (body : List Stmt) (e : Expr) (t : TE) : Prop where
  run : ∀ (pins : List (Addr × Obj)) (s : Shared) (σ : St) (H : Hp) (Q : VK), Inv X pins σ H s → t σ H Q → _root_.PySem.wpAt (model X.prog X.w) X.A (.func body X.env) (eval e X.env) (EP X pins σ Q) X.xe s
structure PSat (X : Cx) (body : List Stmt) (st : List Stmt) (t : TS) : Prop where
  run : ∀ (pins : List (Addr × Obj)) (s : Shared) (σ : St) (H : Hp) (D : Ends), Inv X pins σ H s → t D σ H → _root_.PySem.wpAt (model X.prog X.w) X.A (.func body X.env) (execs st X.env) (SP X pins D) X.xe s
end L2
namespace L2
open PySem PySem.Spec PyProof.Rows NdefX
/-- super() of an instance of C in a def of D finds m at f2 -/
structure SupT (K : PySem.W.Frag) (C D : Addr) (m : Str) (f2 : Addr) : Prop where
  at_ : PySem.W.ks_superIn K C D m = some (some (.ref f2))
  ty : PySem.W.typeIn K (.ref f2) = some (.type "function")
  sub : PySem.W.mroIn K C (.ref D) = some true
  fn : PySem.W.fnIn K f2 = true
end L2
namespace L2
open PySem PySem.Spec PyProof.Rows NdefX
end L2
set_option Elab.async false
set_option linter.all false
set_option maxRecDepth 100000
namespace L2
open PySem PySem.Spec PyProof.Rows NdefX
section
variable {X : Cx} {CX : CXT} {body : List Stmt} {a b e o : Expr} {es rest : List Expr} {ta tb : TE} {t : TA} {u : TS} {st : Stmt} {sts : List Stmt} {ts : TS} {pos apos pn : Pos} {m y : Str} {k : Nat} {E : L2.St → XK}
theorem PSat.weak {t t' : TS} (h : PSat X body sts t) (hw : ∀ D σ H, t' D σ H → t D σ H) : PSat X body sts t' := ⟨fun pins s σ H D I q => h.run pins s σ H D I (hw D σ H q)⟩
theorem PEat.weak {t t' : TE} (h : PEat X body e t) (hw : ∀ σ H Q, t' σ H Q → t σ H Q) : PEat X body e t' := ⟨fun pins s σ H Q I q => h.run pins s σ H Q I (hw σ H Q q)⟩
/-- o.m(e, ..), the def by the class of o -/
def tMethGz (X : Cx) (CX : CXT) (k : Nat) (m : Str) (E : L2.St → XK) (ta : TE) (t : TA) : TE := fun σ H Q => ta σ H fun x H1 => ∃ a C dx fs f fd ps sp, x = V.ref a ∧ H1 a = some (.ins C dx fs) ∧ fs.lookup m = none ∧ Cls X.K C ∧ Meth X.K C m f ∧
  FnOk X.prog X.w X.K X.mg X.base CX k f fd ps sp ∧ Binds X.K fd ps [] ∧ t σ H1 fun vs H2 => sp (x :: vs) H2 Q (E σ)
end
end L2
namespace ZZ
open PySem PySem.Spec L2 NdefX
theorem DOk.mono {P : Program} {w : World} {K : PySem.W.Frag} {mg : Str → Option Value} {base : Heap} {j k : Nat} {a : Addr} {ps : List Str} {sp : Sp} (d : DOk P w K mg base j a ps sp) (h : j ≤ k) : DOk P w K mg base k a ps sp := by
  obtain ⟨fd, F, b⟩ := d.ex
  exact ⟨⟨fd, F.mono h, b⟩, d.kp⟩
/-- an instance's class -/
def clsV (ce : List Cell) : Val → Option Nat
  | .im (.ins c _) => some c
  | .cell k => match ce[k]? with
    | some (.ins c _) => some c
    | _ => none
  | _ => none
theorem clsV_isC {ce : List Cell} {v : Val} {c : Nat} (h : clsV ce v = some c) : isC c ce v = true := by
  unfold clsV at h
  split at h
  · cases h
    simp [isC]
  · split at h
    · rename_i k c' ds hk
      cases h
      unfold isC
      simp only [hk]
      simp
    · cases h
  · cases h
abbrev Tb : Type := List (Nat × DF)
/-- v's def of a table, by v's class -/
def eTab (tb : Tb) (fs : List DE) (v : Val) : DE := fun sl ce => match clsV ce v with
  | some c => match tb.lookup c with
    | some fh => eArgs fs (kMeth fh v) sl ce
    | none => .stuck
  | none => .stuck
def eMthT (tb : Tb) (f : DE) (fs : List DE) : DE := eBind f (eTab tb fs)
/-- super().m(..) in a def whose first slot is the instance: raises nothing -/
def eSup (tb : Tb) (fs : List DE) : DE := fun sl ce => match sl[0]? with
  | some (some v) => match eTab tb fs v sl ce with
    | .ok u ce' => .ok u ce'
    | _ => .stuck
  | _ => .stuck
def kFldG (cs : List Nat) (i : Nat) (v : Val) : DE := fun _ ce => match v with
  | .im (.ins d ds) => if cs.contains d then (match ds[i]? with
    | some x => .ok (.im x) ce
    | none => .stuck) else .stuck
  | _ => .stuck
/-- o.f, a text that o's class holds -/
def kConT (tb : List (Nat × Str)) (v : Val) : DE := fun _ ce => match v with
  | .im (.ins d _) => match tb.lookup d with
    | some s => .ok (.im (.str s)) ce
    | none => .stuck
  | _ => .stuck
/-- a method by the class -/
structure GOk (P : Program) (w : World) (K : PySem.W.Frag) (mg : Str → Option Value) (base : Heap) (Z : Zx) (k : Nat) (m : Str) (n : Nat) (tb : Tb) : Prop where
  ex : ∀ c fh, tb.lookup c = some fh → m ∉ Z.fl c ∧ Cls K (Z.cl c) ∧ ∃ f ps, Meth K (Z.cl c) m f ∧ DOk P w K mg base k f ps (spD Z fh n)
structure FgOk (K : PySem.W.Frag) (Z : Zx) (cs : List Nat) (nm : Str) (i : Nat) : Prop where
  ex : ∀ c, cs.contains c = true → ClsOk K Z c ∧ NoAttr K (Z.cl c) nm ∧ (Z.fl c)[i]? = some nm
structure CoOk (K : PySem.W.Frag) (Z : Zx) (nm : Str) (tb : List (Nat × Str)) : Prop where
  ex : ∀ c s, tb.lookup c = some s → Cls K (Z.cl c) ∧ nm ∉ Z.fl c ∧ ∃ t, Con K (Z.cl c) nm (.str s) (.str s t)
section
variable {X : Cx} {Z : Zy} {W : WX} {k n : Nat} {nm m y : Str} {pos apos pn p0 p1 : Pos} {a e o : Expr} {es : List Expr} {f g : DE} {fs : List DE} {tb : Tb}
theorem tab_rd {A F sl ce H σ Q v x} {E2 : WX} {fs : List DE} {tb : Tb} (so : SO Z.toZx A F ce H) (hs : SL Z A F sl σ) (r : VRep Z A F v x) (p : PostE Z A F E2 σ Q (eTab tb fs v sl ce)) :
    ∃ c fh a dx gs n, clsV ce v = some c ∧ tb.lookup c = some fh ∧ x = .ref a ∧ H a = some (.ins (Z.cl c) dx gs) ∧ gs.map (·.1) = (Z.fl c).take n ∧ PostE Z A F E2 σ Q (eArgs fs (kMeth fh v) sl ce) := by
  unfold eTab at p
  split at p
  · rename_i c hc
    split at p
    · rename_i fh hf
      obtain ⟨a, dx, gs, n, rfl, h1, h2⟩ := isC_rd so r (clsV_isC hc)
      exact ⟨c, fh, a, dx, gs, n, hc, hf, rfl, h1, h2, p⟩
    · exact p.elim
  · exact p.elim
theorem de_fldG {cs : List Nat} {i : Nat} (he : PE X e (tE Z W f)) (G : FgOk X.K Z.toZx cs nm i) (hb : attributeBase e nm X.env (eval e X.env) = eval e X.env := by rfl) : PE X (.Attribute e nm pos) (tE Z W (eUn (kFldG cs i) f)) :=
  (pe_fld he hb).weak fun σ H Q q => tE_imp (fun x H1 ⟨A, F, sl, ce, v, so, hs, r, p⟩ => by
    unfold kFldG at p
    split at p
    · rename_i d ds
      by_cases hd : cs.contains d = true
      · rw [if_pos hd] at p
        split at p
        · rename_i y hy
          obtain ⟨g1, g2, g3⟩ := G.ex d hd
          unfold VRep Rep at r
          obtain ⟨a, dx, gs, rfl, h1, h2, h3⟩ := r
          obtain ⟨v, h4, h5⟩ := lookup_ix (n := (Z.fl d).length) g1.nd (by rw [h2, List.take_length]) h3 g3 hy
          exact ⟨a, _, dx, gs, v, rfl, so.sub _ _ h1, g1.cls, g2, h4, fin_flat so p h5⟩
        · exact p.elim
      · rw [if_neg hd] at p
        exact p.elim
    · exact p.elim) (tE1 q)
theorem de_conT {tb : List (Nat × Str)} (he : PE X e (tE Z W f)) (G : CoOk X.K Z.toZx nm tb) (hb : attributeBase e nm X.env (eval e X.env) = eval e X.env := by rfl) : PE X (.Attribute e nm pos) (tE Z W (eUn (kConT tb) f)) :=
  (pe_con he hb).weak fun σ H Q q => tE_imp (fun x H1 ⟨A, F, sl, ce, v, so, hs, r, p⟩ => by
    unfold kConT at p
    split at p
    · rename_i d ds
      split at p
      · rename_i s hs2
        obtain ⟨g1, g2, t, g3⟩ := G.ex d s hs2
        unfold VRep Rep at r
        obtain ⟨a, dx, gs, rfl, h1, h2, h3⟩ := r
        exact ⟨a, _, dx, gs, .str s, _, rfl, so.sub _ _ h1, g1, g3, take_lookup (n := (Z.fl d).length) (by rw [h2, List.take_length]) g2, fin_flat so p repS⟩
      · exact p.elim
    · exact p.elim) (tE1 q)
/-- C.f, a text -/
theorem de_clsCon {C : Addr} {s : Str} {x : Str} (hm : X.mg x = some (.ref C)) (r : ClX.CRead X.K C (.type "type")) (c : ∃ t, ClX.CVal X.K C (.type "type") nm (.str s) (.str s t)) (hg : Gl X x := by rfl) (hdb : (x == ("__debug__" : Str)) = false := by decide)
    (hb : attributeBase (.Name x pn) nm X.env (eval (.Name x pn) X.env) = eval (.Name x pn) X.env := by rfl) : PE X (.Attribute (.Name x pn) nm pos) (tE Z W (eC (.str s))) :=
  (ClX.pe_cval (pe_glob (v := .ref C) hg hm rfl hdb) hb).weak fun σ H Q ⟨A, F, sl, ce, so, hs, p⟩ => by
    obtain ⟨t, c⟩ := c
    exact ⟨C, _, _, _, rfl, r, c, fin_flat so p repS⟩
end
end ZZ
set_option Elab.async false
set_option linter.all false
set_option maxRecDepth 100000
namespace ZZ
open PySem PySem.Spec L2 NdefX
theorem tb_cons {c c0 : Nat} {fh f0 : DF} {tb : Tb} (h : List.lookup c ((c0, f0) :: tb) = some fh) : (c = c0 ∧ fh = f0) ∨ tb.lookup c = some fh := by
  rw [List.lookup_cons] at h
  split at h
  · rename_i e
    exact .inl ⟨beq_iff_eq.mp e, (Option.some.inj h).symm⟩
  · exact .inr h
theorem tb_nil {c : Nat} {fh : DF} (h : List.lookup c ([] : Tb) = some fh) : False := by cases h
theorem tc_cons {c c0 : Nat} {s s0 : Str} {tb : List (Nat × Str)} (h : List.lookup c ((c0, s0) :: tb) = some s) : (c = c0 ∧ s = s0) ∨ tb.lookup c = some s := by
  rw [List.lookup_cons] at h
  split at h
  · rename_i e
    exact .inl ⟨beq_iff_eq.mp e, (Option.some.inj h).symm⟩
  · exact .inr h
theorem tc_nil {c : Nat} {s : Str} (h : List.lookup c ([] : List (Nat × Str)) = some s) : False := by cases h
theorem cs_cons {c c0 : Nat} {cs : List Nat} (h : (c0 :: cs).contains c = true) : c = c0 ∨ cs.contains c = true := by
  rw [List.contains_cons, Bool.or_eq_true, beq_iff_eq] at h
  exact h
theorem cs_nil {c : Nat} (h : ([] : List Nat).contains c = true) : False := by cases h
end ZZ
set_option Elab.async false
set_option linter.all false
set_option maxRecDepth 100000
namespace L2
open PySem PySem.Spec
section
variable {prog : Program} {w : World} {A : Around} {E : Value → Shared → Prop} {s : Shared} {K : PySem.W.Frag} {x y C D L f : Addr} {h₀ : Heap} {m : Str → Option Value} {ox oy : Obj} {od od' : Option Obj}
theorem cmp_KR {op : CmpOp} {Q : Value → Shared → Prop} (hu : A.units < cLine) (F : PyProof.Rows.Fr h₀ L s.heap m) (X₀ : K.In h₀) (I : PySem.W.InstAt s.heap x ox C od) (J : PySem.W.InstAt s.heap y oy D od') (hne : D ≠ C) (hsub : PySem.W.mroIn K D (.ref C) = some true)
    (hs : PySem.W.findIn K (.ref D) (cmpInfo op).2.2 = some (some (.ref f))) (hf : PySem.W.isFn K (.ref f) = true)
    (h : wpAny (model prog w) A (call (.ref f) [.ref y, .ref x]) (PySem.W.CmpBack Q) E s) : wpAny (model prog w) A (richCompare op (.ref x) (.ref y)) Q E s := by
  have X := X₀.keeps F.keep
  have one : wpAny (model prog w) A (tryCompare (.ref y) (cmpInfo op).2.2 (.ref x)) (fun r s' => ∃ v, r = some v ∧ Q v s') E s := by
    unfold tryCompare
    refine wpAny_bind (PySem.W.ifBound_K X J hs hf (wpAny_mono h (fun v s' hv => ?_) fun _ _ e => e))
    cases v <;> first | exact hv.elim | exact wpAny_pure ⟨_, rfl, hv⟩
  unfold richCompare
  simp only [oneThing_ref]
  refine wpAny_holding (wpAny_bind (wpAny_cRoomFor hu ?_))
  refine wpAny_bind (I.type.here (wpAny_bind (J.type.here ?_)))
  split
  · refine wpAny_bind ((PySem.W.looks_subIn X (t := .ref D) (base := .ref C) hsub).here ?_)
    simp only [if_true]
    refine wpAny_bind (wpAny_mono one (fun r s' z => ?_) fun _ _ e => e)
    obtain ⟨v, rfl, hq⟩ := z
    exact wpAny_bind (wpAny_rule (wpAny_pure hq))
  · rename_i q
    exact absurd (by simpa using q) fun e : C = D => hne e.symm
end
section
variable {X : Cx} {CX : CXT} {k : Nat} {f : Addr} {fd : FuncData} {ps : List Str} {sp : Sp} {E : L2.St → XK} {a b : Expr} {ta tb : TE}
def tOwnE (K : PySem.W.Frag) (f : Addr) (sp : Sp) (E : L2.St → XK) (ta tb : TE) : TE := fun σ H Q => ta σ H fun x H1 => tb σ H1 fun y H2 => ∃ u v C D dx fs dy gs, x = .ref u ∧ y = .ref v ∧ H2 u = some (.ins C dx fs) ∧ H2 v = some (.ins D dy gs) ∧
  PySem.W.findIn K (.ref C) "__eq__" = some (some (.ref f)) ∧ PySem.W.findIn K (.ref D) "__eq__" = some (some (.ref f)) ∧
  ((PySem.W.notFirst K C (.ref D) = true ∧ sp [x, y] H2 Q (E σ)) ∨ (D ≠ C ∧ PySem.W.mroIn K D (.ref C) = some true ∧ sp [y, x] H2 Q (E σ)))
theorem pc_ownE (hf : PySem.W.isFn X.K (.ref f) = true) (ha : PE X a ta) (hb : PE X b tb) (F : FnOk X.prog X.w X.K X.mg X.base CX k f fd ps sp) (hr : Room k X.A) (hbd : Binds X.K fd ps []) (hx : ∀ σ, PassesAt CX X σ (E σ)) :
    PC X .Eq a b (tOwnE X.K f sp E ta tb) := by
  refine ⟨fun pins s σ H Q I h => ?_⟩
  refine binT ha hb I h fun v u s2 x y H2 I2 rx ry q => ?_
  obtain ⟨c, d, C, D, dx, fs, dy, gs, rfl, rfl, hc, hd, hC, hD, q⟩ := q
  cases (show v = Value.ref c from rx)
  cases (show u = Value.ref d from ry)
  obtain ⟨mA, O1, _⟩ := ins_get I2.hok hc
  obtain ⟨mB, O2, _⟩ := ins_get I2.hok hd
  obtain ⟨od, J, _⟩ := O1.look
  obtain ⟨od', J', _⟩ := O2.look
  obtain ⟨m, hF⟩ := I2.fr
  show wpAny _ _ (richCompare .Eq (.ref c) (.ref d)) _ _ _
  rcases q with ⟨hn, q⟩ | ⟨hn, hm, q⟩
  · refine PySem.W.cmp_K (op := .Eq) (tb := .ref D) hr.units0 hF I2.ok.mod.kin J J'.type hn hC hf ?_
    refine wpAny_mono (run_fnSD (us := [.ref c, .ref d]) (vs := [.ref c, .ref d]) (dvs := []) (ds := []) F hr hbd .nil (hx σ) I2 (.cons rfl (.cons rfl .nil)) q) (fun w s' z => ?_) fun _ _ x => x
    obtain ⟨z', H', I', rz, qz⟩ := z
    exact SlX.cmpback rz ⟨z', H', I', rz, qz⟩
  · refine cmp_KR (op := .Eq) hr.units0 hF I2.ok.mod.kin J J' hn hm hD hf ?_
    refine wpAny_mono (run_fnSD (us := [.ref d, .ref c]) (vs := [.ref d, .ref c]) (dvs := []) (ds := []) F hr hbd .nil (hx σ) I2 (.cons rfl (.cons rfl .nil)) q) (fun w s' z => ?_) fun _ _ x => x
    obtain ⟨z', H', I', rz, qz⟩ := z
    exact SlX.cmpback rz ⟨z', H', I', rz, qz⟩
end
end L2
namespace ZZ
open PySem PySem.Spec L2 NdefX
/-- the classes cs share one __eq__; rf c d: d is below c -/
structure EqT (K : PySem.W.Frag) (cl : Nat → Addr) (cs : List Nat) (rf : Nat → Nat → Bool) (f : Addr) : Prop where
  hs : ∀ c ∈ cs, PySem.W.findIn K (.ref (cl c)) "__eq__" = some (some (.ref f))
  fn : PySem.W.isFn K (.ref f) = true
  rl : ∀ c ∈ cs, ∀ d ∈ cs, c = d ∨ PySem.W.mroIn K (cl d) (.ref (cl c)) = some (rf c d)
  as : ∀ c ∈ cs, ∀ d ∈ cs, c = d ∨ rf c d = false ∨ rf d c = false
def kOwnE (cs : List Nat) (rf : Nat → Nat → Bool) (fh : DF) (v u : Val) : DE := fun _ ce => match clsV ce v, clsV ce u with
  | some c, some d => if c ∈ cs ∧ d ∈ cs then (if c ≠ d ∧ rf c d = true then fh [u, v] ce else fh [v, u] ce) else .stuck
  | _, _ => .stuck
section
variable {X : Cx} {Z : Zy} {W : WX} {k n : Nat} {fa : Addr} {ps : List Str} {fh : DF} {p pos : Pos} {a b e : Expr} {es : List Expr} {f g : DE} {cs : List Nat} {rf : Nat → Nat → Bool}
theorem t_ownE {σ : L2.St} {H : Hp} {Q : VK} (T : EqT X.K Z.cl cs rf fa) (h : tE Z W (eBin (kOwnE cs rf fh) f g) σ H Q) : tOwnE X.K fa (spD Z.toZx fh 2) (WE W) (tE Z W f) (tE Z W g) σ H Q :=
  tE_imp (fun x H1 h1 => tE_imp (fun y H2 ⟨A, F, sl, ce, v, u, so, hs, rv, ru, p⟩ => by
    unfold kOwnE at p
    split at p
    · rename_i c d hc hd
      by_cases hi : c ∈ cs ∧ d ∈ cs
      · rw [if_pos hi] at p
        obtain ⟨a, dx, fs, n, rfl, h1, h2⟩ := isC_rd so rv (clsV_isC hc)
        obtain ⟨b, dy, gs, n', rfl, h3, h4⟩ := isC_rd so ru (clsV_isC hd)
        refine ⟨a, b, _, _, dx, fs, dy, gs, rfl, rfl, h1, h3, T.hs c hi.1, T.hs d hi.2, ?_⟩
        by_cases hr : c ≠ d ∧ rf c d = true
        · rw [if_pos hr] at p
          have e1 := (T.rl c hi.1 d hi.2).resolve_left hr.1
          have e2 := (T.rl d hi.2 c hi.1).resolve_left fun e => hr.1 e.symm
          have e3 : rf d c = false := by
            rcases T.as c hi.1 d hi.2 with e | e | e
            · exact absurd e hr.1
            · rw [hr.2] at e
              cases e
            · exact e
          rw [hr.2] at e1
          rw [e3] at e2
          refine .inr ⟨fun e => ?_, e1, spD_call (sl := sl) (vs := [u, v]) so ⟨_, _, rfl, ru, _, _, rfl, rv, rfl⟩ rfl (by simp [isC_plain (clsV_isC hc), isC_plain (clsV_isC hd)]) p⟩
          rw [e] at e1 e2
          rw [e1] at e2
          cases e2
        · rw [if_neg hr] at p
          refine .inl ⟨?_, spD_call (sl := sl) (vs := [v, u]) so ⟨_, _, rfl, rv, _, _, rfl, ru, rfl⟩ rfl (by simp [isC_plain (clsV_isC hc), isC_plain (clsV_isC hd)]) p⟩
          unfold PySem.W.notFirst
          by_cases hcd : c = d
          · subst hcd
            simp
          · have e1 := (T.rl c hi.1 d hi.2).resolve_left hcd
            have e2 : rf c d = false := by
              cases hq : rf c d
              · rfl
              · exact absurd ⟨hcd, hq⟩ hr
            rw [e2] at e1
            simp [PySem.W.subIn, e1]
      · rw [if_neg hi] at p
        exact p.elim
    · exact p.elim) h1) (tE2 h)
theorem de_ownE (T : EqT X.K Z.cl cs rf fa) (G : DOk X.prog X.w X.K X.mg X.base k fa ps (spD Z.toZx fh 2)) (hr : Room k X.A) (tw : TW X W) (ha : PE X a (tE Z W f)) (hb : PE X b (tE Z W g)) (h1 : behindInMarks .Eq b = false := by first | exact nobehind _ (by decide) (by decide) | rfl) :
    PE X (.Compare a [.Eq] [b] pos) (tE Z W (eBin (kOwnE cs rf fh) f g)) := by
  obtain ⟨fd, F, bd⟩ := G.ex
  exact (pe_cmp (pc_ownE T.fn ha hb F hr bd tw) h1).weak fun σ H Q h => t_ownE T h
def kIntS : List Val → DE
  | [.im (.str a)] => match PySem.intText? a with
    | some n => if a.length ≤ 640 then eC (.int n) else kStuck
    | none => kStuck
  | _ => kStuck
theorem ok_intS : OkN Z W kIntS (fun xs H Q => ∃ a n, xs = [.str a] ∧ PySem.intText? a = some n ∧ a.length ≤ 640 ∧ Q (.int n) H) := by
  intro A F sl ce vs xs H σ Q so hs r p
  unfold kIntS at p
  split at p
  · replace r := vreps1 r; obtain ⟨x, rfl, r⟩ := r
    rw [rep_str r]
    rename_i a
    cases hn : PySem.intText? a with
    | some n =>
      rw [hn] at p
      by_cases h : a.length ≤ 640
      · simp only [if_pos h] at p
        exact ⟨_, _, rfl, hn, h, fin_flat so p repI⟩
      · simp only [if_neg h] at p
        exact p.elim
    | none =>
      rw [hn] at p
      exact p.elim
  · exact p.elim
end
end ZZ
set_option Elab.async false
set_option linter.all false
set_option maxRecDepth 100000
namespace L2
open PySem PySem.Spec PyProof.Rows
theorem DpAll.len {K : PySem.W.Frag} {H : Hp} : ∀ {zs : List V} {ps : List PyData}, DpAll K H zs ps → zs.length = ps.length
  | _, _, .nil => rfl
  | _, _, .cons _ t => by rw [List.length_cons, List.length_cons, DpAll.len t]
end L2
namespace ZZ
open PySem PySem.Spec L2
end ZZ
namespace ZZ
open PySem PySem.Spec L2
end ZZ
set_option Elab.async false
set_option linter.all false
set_option maxRecDepth 100000
namespace L2
open PySem PySem.Spec PyProof.Rows
section
variable {X : Cx} {o i lo hi value : Expr} {pos pos' p2 : Pos} {td ty tv tl th : TE}
/-- o[i] = value -/
def tSetIx (tv td ty : TE) : TS := fun D σ H => tv σ H fun v H1 => td σ H1 fun x H2 => ty σ H2 fun y H3 => rSetL x y v H3 fun H4 => D.nx σ H4
theorem ps_setIx (ho : PE X o td) (hi : PE X i ty) (hv : PE X value tv) (hs : swapsWith value (some (.Subscript o i pos')) pos.line X.env = pure false := by rfl) :
    PS X (.Assign [.Subscript o i pos'] value pos) (tSetIx tv td ty) := by
  refine ⟨fun pins s σ H D I h => ?_⟩
  refine wpAny_Assign_Subscript (thn (hv.run pins s σ H _ I h) fun r s1 ⟨v, H1, I1, rv, q1⟩ => thn (ho.run pins s1 σ H1 _ I1 q1) fun u s2 ⟨x, H2, I2, rx, q2⟩ => thn (hi.run pins s2 σ H2 _ I2 q2) fun iv s3 ⟨y, H3, I3, ry, q3⟩ => ?_) hs
  exact wpAny_mono (set_list pins s3 σ H3 x y v u iv r _ I3 rx ry rv q3) (fun _ s' ⟨H', I', q⟩ => ⟨σ, H', I', q⟩) fun _ _ z => z
end
end L2
namespace ZZ
open PySem PySem.Spec L2
def sSetIx (fo fi fv : DE) : DSt := sExp fv fun v => sExp fo fun u => sExp fi fun i sl ce => match u, v, i with
  | .cell n, .im d, .im (.int k) => match ce[n]? with
    | some (.lst ds) => match ixN ds.length k with
      | some j => .nx sl (ce.set n (.lst (ds.set j d)))
      | none => .stuck
    | _ => .stuck
  | _, _, _ => .stuck
section
variable {X : Cx} {Z : Zy} {W : WX} {k : Nat} {fa : Addr} {ps : List Str} {fh : DF} {p pos pos' p2 : Pos} {a b e o i lo hi value : Expr} {f g fo fi fv fl fhi : DE} {c : Nat}
theorem ds_setIx (ho : PE X o (tE Z W fo)) (hi : PE X i (tE Z W fi)) (hv : PE X value (tE Z W fv)) (hs : swapsWith value (some (.Subscript o i pos')) pos.line X.env = pure false := by rfl) : PS X (.Assign [.Subscript o i pos'] value pos) (tS Z W (sSetIx fo fi fv)) :=
  (ps_setIx ho hi hv hs).weak fun D σ H h => tE_imp (fun v H1 ⟨A, F, sl, ce, vv, so, hs, rv, p⟩ => by
    refine ⟨A, F, sl, ce, so, hs, (PostS.exp so hs p).imp fun x H2 ⟨A1, F1, ce1, vx, p1, e1, so1, rx, q1⟩ => ?_⟩
    have rv1 := rv.mono p1 e1
    have hs1 := hs.mono p1 e1
    refine ⟨A1, F1, sl, ce1, so1, hs1, (PostS.exp so1 hs1 q1).imp fun y H3 ⟨A2, F2, ce2, vy, p2, e2, so2, ry, q2⟩ => ?_⟩
    have rv2 := rv1.mono p2 e2
    have rx2 := rx.mono p2 e2
    have hs2 := hs1.mono p2 e2
    split at q2
    · rename_i n d kk _ _
      split at q2
      · rename_i ds hk
        split at q2
        · rename_i j hj
          obtain ⟨l, ws, hA, rfl, hF, h2, h3⟩ := cell_rd so2 rx2 hk
          refine ⟨l, ws, kk, j, rfl, rep_int ry, h2, by rw [← h3.length]; exact hj, ?_⟩
          exact nxS (so2.write (c := .lst (ds.set j d)) hA hF ⟨hF, _, upd_same, h3.set j rv2⟩) hs2 q2
        · exact q2.elim
      · exact q2.elim
    · exact q2.elim) (tS1 h)
end
end ZZ
set_option Elab.async false
set_option linter.all false
set_option maxRecDepth 100000
namespace L2
open PySem PySem.Spec PyProof.Rows
end L2
namespace ZZ
open PySem PySem.Spec L2
section
variable {X : Cx} {Z : Zy} {W : WX} {p pn pos : Pos} {a b : Expr} {f g : DE} {nm x : Str}
theorem de_gstr {s : Str} (hm : ∃ t, X.mg x = some (.str s t)) (hg : Gl X x := by rfl) (hdb : (x == ("__debug__" : Str)) = false := by decide) : PE X (.Name x p) (tE Z W (eC (.str s))) := by
  obtain ⟨t, hm⟩ := hm
  exact (pe_glob (v := .str s) hg hm ⟨t, rfl⟩ hdb).weak fun σ H Q ⟨A, F, sl, ce, so, hs, p⟩ => fin_flat so p repS
end
end ZZ
namespace ZZ
open PySem PySem.Spec L2
end ZZ
set_option Elab.async false
set_option linter.all false
set_option maxRecDepth 100000
namespace ZZ
open PySem PySem.Spec L2
end ZZ
set_option Elab.async false
set_option linter.all false
set_option maxRecDepth 100000
namespace ZZ
open PySem PySem.Spec L2
end ZZ
set_option Elab.async false
set_option linter.all false
set_option maxRecDepth 100000
namespace ZZ
open PySem PySem.Spec L2
section
variable {Z : Zx} {A : List Addr} {F : Hp}
theorem VReps.split {Y : Zy} : ∀ (n : Nat) {ds : List Val} {vs : List V}, VReps Y A F ds vs → VReps Y A F (ds.take n) (vs.take n) ∧ VReps Y A F (ds.drop n) (vs.drop n)
  | 0, ds, vs, h => by
    rw [List.take_zero, List.take_zero]
    exact ⟨by unfold VReps; rfl, by simpa using h⟩
  | n + 1, [], vs, h => by
    unfold VReps at h
    subst h
    exact ⟨by unfold VReps; rfl, by unfold VReps; rfl⟩
  | n + 1, d :: ds, vs, h => by
    obtain ⟨x, r, rfl, h1, h2⟩ := h
    obtain ⟨a, b⟩ := VReps.split n h2
    exact ⟨⟨x, r.take n, rfl, h1, a⟩, b⟩
theorem VReps.append {Y : Zy} : ∀ {ds es : List Val} {vs ws : List V}, VReps Y A F ds vs → VReps Y A F es ws → VReps Y A F (ds ++ es) (vs ++ ws)
  | [], es, vs, ws, h, h' => by
    unfold VReps at h
    subst h
    exact h'
  | d :: ds, es, vs, ws, h, h' => by
    obtain ⟨x, r, rfl, h1, h2⟩ := h
    exact ⟨x, r ++ ws, rfl, h1, VReps.append h2 h'⟩
end
end ZZ
set_option Elab.async false
set_option linter.all false
set_option maxRecDepth 100000
set_option maxHeartbeats 2000000
namespace ZZ
open PySem PySem.Spec L2
/-- clauses: which classes, the name's slot, the suite -/
def hdl (c : Nat) (ds : List D) (sl1 : Sl) (ce1 : List Cell) : List ((Nat → Bool) × Option Nat × DSt) → Out
  | [] => .exc c ds sl1 ce1
  | (sub, io, fs) :: r => if sub c then offD io (fs (match io with
      | some i => sl1.set i (some (.exn c ds))
      | none => sl1) ce1) else hdl c ds sl1 ce1 r
end ZZ
set_option Elab.async false
set_option linter.all false
set_option maxRecDepth 100000
namespace ZZ
open PySem PySem.Spec L2
end ZZ
set_option Elab.async false
set_option linter.all false
set_option maxRecDepth 100000
namespace ZH
open PySem PySem.Spec PyProof.Rows L2 ZZ
section
variable {K : Fr}
theorem fun_z {d : DefZ} (h : FnAt K d) (h1 : d.clo = []) (h2 : d.dfl = none) : ∃ fd, Fun K d.name d.qual d.st d.a fd := by
  obtain ⟨oc, od, doc, pm, an, ct, osl, q, c, kp⟩ := h
  rw [h1, h2] at q
  exact ⟨_, fun_mk (st := d.st) q c kp⟩
/-- a def with positional defaults (a tuple) and keyword-only ones (a dict) -/
def vOf : D → V
  | .non => .non | .bl b => .bl b | .int i => .int i | .str s => .str s | _ => .non
theorem relFB_v {d : D} {u : Value} (h : relFB d u = true) : RelV (vOf d) u := by
  unfold relFB at h
  split at h
  · rw [of_decide_eq_true h]; exact ⟨_, rfl⟩
  · rw [of_decide_eq_true h]; exact ⟨_, rfl⟩
  · rfl
  · rw [eq_of_beq h]; rfl
  · cases h
theorem cellB_ok {cc D : Addr} (h : cellB K cc D = true) : ∃ cl cld csl, K.lookup cc = some ⟨cl, cld, .cell (some (.ref D)), csl⟩ := by
  unfold cellB at h
  split at h
  · rename_i e
    rw [← of_decide_eq_true h]
    exact ⟨_, _, _, e⟩
  · cases h
theorem fileB_ok {cda : Addr} {file : Str} (h : fileB K cda file = true) : ∃ ccl cdd vs ccs tf, K.lookup cda = some ⟨ccl, cdd, .fields vs, ccs⟩ ∧ vs[2]? = some (.str file tf) := by
  unfold fileB at h
  split at h
  · rename_i vs _ e
    split at h
    · rename_i f t e2
      rw [← of_decide_eq_true h]
      exact ⟨_, _, _, _, _, e, e2⟩
    · cases h
  · cases h
theorem sup_z {d : DefZ} {cc D : Addr} {file : Str} {ps : List Str} (h : FnAt K d) (h1 : d.clo = [(("__class__" : Str), cc)]) (h2 : d.dfl = none) (h3 : supB K d cc D file = true)
    (hb : ∀ kV doc pm an ct, ∀ us : List Value, us.length = ps.length → bindArgs (PySem.W.ksFn d.name d.qual (defArgs d.st) (defBody d.st) (defScope d.st) .none kV doc pm an (.ref d.cda) ct cc) ⟨us, []⟩ = pure (ps.zip us)) :
    ∃ fd cc cda, SupDef K file d.name d.qual d.st d.a fd D cc cda ∧ Binds K fd ps [] ∧ PySem.W.keepIn K (.ref d.a) = true := by
  obtain ⟨oc, od, doc, pm, an, ct, osl, q, c, kp⟩ := h
  rw [h1, h2] at q
  obtain ⟨b1, b2⟩ := ba h3
  obtain ⟨b3, b4⟩ := ba b2
  obtain ⟨cd, hcd⟩ := Option.isSome_iff_exists.mp b4
  exact ⟨_, cc, d.cda, ⟨⟨_, _, _, _, _, _, _, _, rfl, q⟩, c, fileB_ok b3, cellB_ok b1, ⟨cd, hcd⟩⟩, .all (hb _ _ _ _ _), kp⟩
theorem excB_ok {C : Addr} (h : excB K C = true) : ∃ nm q N bs bm sn sub ab col dd k0 k1 k2 k3 k5, K.lookup C = some (excClassObj nm q C N bs bm true sn sub ab col dd k0 k1 k2 k3 k5 "ValueError.__new__") ∧ PySem.HandSPX.refsVE bm = true := by
  unfold excB at h
  split at h
  · rename_i t dd cd sl e
    obtain ⟨h1, h⟩ := ba h
    obtain ⟨h2, h⟩ := ba h
    obtain ⟨h3, h⟩ := ba h
    obtain ⟨h4, h5⟩ := ba h
    obtain ⟨nm, bs, mro, N, q, hd, sn, sub, ab, col, hdel⟩ := cd
    have e1 : t = "type" := of_decide_eq_true h1
    have e2 : hd = true := h2
    have e3 : hdel = false := by simpa using h3
    subst e1 e2 e3
    cases mro with
    | nil => cases h4
    | cons m bm =>
      cases m with
      | ref c =>
        obtain ⟨h6, h7⟩ := ba h4
        have e4 : c = C := of_decide_eq_true h6
        subst e4
        split at h5
        · rename_i k0 k1 k2 k3 id k5 e5
          have e6 : id = "ValueError.__new__" := of_decide_eq_true h5
          subst e6
          obtain ⟨l⟩ := sl
          have e7 : l = [k0, k1, k2, k3, some (.builtin "ValueError.__new__"), k5] := e5
          subst e7
          exact ⟨nm, q, N, bs, bm, sn, sub, ab, col, dd, k0, k1, k2, k3, k5, e, h7⟩
        · cases h5
      | _ => cases h4
  · cases h
theorem strB_ok {h : Heap} {mg : Str → Option Value} (X : K.In h) (G : h.Ns mainGlobals mg) {x s : Str} (c : strB K x s = true) : ∃ t, mg x = some (.str s t) := by
  unfold strB at c
  split at c
  · rename_i y t e
    rw [← of_decide_eq_true c]
    exact ⟨t, PySem.W.mg_of X G e⟩
  · cases c
theorem conB_ok {C : Addr} {a s : Str} (h : conB K C a s = true) : ∃ t, PySem.W.findIn K (.ref C) a = some (some (.str s t)) ∧ PySem.W.specialIn K (.str s t) "__get__" = some none := by
  unfold conB at h
  split at h
  · rename_i y t e
    obtain ⟨h1, h2⟩ := ba h
    have := of_decide_eq_true h1
    subst this
    exact ⟨t, e, of_decide_eq_true h2⟩
  · cases h
theorem cvB_ok {C : Addr} {a : Str} {d : D} (h : cvB K C a d = true) : ∃ u, PySem.W.findCls K (.ref C) (.type "type") a = some (.val u) ∧ RelV (vOf d) u := by
  unfold cvB at h
  split at h
  · rename_i u e
    exact ⟨u, e, relFB_v h⟩
  · cases h
theorem law_binds {d : DefZ} {fd : FuncData} {x : Str} (F : Fun K d.name d.qual d.st d.a fd) (hb : ∀ (kV doc pm : Value) (an : Option Addr) (cdv ct : Value) (s : Shared) (v : Value), BindsTo s (PySem.W.fnOf d.name d.qual (defArgs d.st) (defBody d.st) (defScope d.st) .none kV doc pm an cdv ct) ⟨[v], []⟩ [(x, v)]) :
    ∀ (s : Shared) (v : Value), BindsTo s fd ⟨[v], []⟩ [(x, v)] := by
  obtain ⟨oc, od, kV, doc, pm, an, cdv, ct, osl, rfl, lk, hcd⟩ := F.ex
  exact fun s v => hb _ _ _ _ _ _ s v
end
/-- a law's end: the written part is what the hook tells -/
theorem walk_ofZ {l : PySem.W.OpenLaw} {n k : Nat} {q : Program} {loose : List Str} {XP : (Str → Option Value) → Heap → Prop} {YP : World → Heap → Prop} {d : DefRec} {CX : World → CXT} {x : Str}
    (hn : l.most = some n) (hn2 : n ≤ sizeLine) (hdf : d.params.defaults = []) (hr : Room k callerA)
    (F : ∀ (w : World) (mg : Str → Option Value) (fa : Addr) (h : Heap), YP w h → h.Ns mainGlobals mg → mg d.name = some (.ref fa) →
      ∃ (K : Fr) (fd : FuncData) (sp : Sp), K.In h ∧ (∀ (s : Shared) (u : Value), BindsTo s fd ⟨[u], []⟩ [(x, u)]) ∧ (∀ (H : Hp) (a : Addr) (ns : List Int), ns.length ≤ n → Only H → SqL K H a (ns.map V.int) → sp [.ref a] H (fun v _ => v = .bl true) fun _ _ _ => False) ∧
        ∀ base : Heap, K.In base → base.Ns mainGlobals mg → FnOk l.prog w K mg base (CX w) k fa fd [x] sp)
    (E : ∀ (w : World) (H : Hp) (s : Shared) (e : Value) (s' : Shared), CX w [] H s (fun _ _ _ => False) e s' → False) :
    PySem.W.WalkO q loose XP YP l.row.toRowW d [] (fun f vs => PySem.call f vs) := by
  refine Att.attach_call hn hdf fun w s0 s1 mg mb fa o pm cd doc a vs ns G Y h1 h2 h3 hm h4 h5 hl hS => ?_
  obtain ⟨K, fd, sp, KX, hb, hs, hF⟩ := F w mg fa _ Y G.T.g hm
  exact law_call KX G.T.g G.T.b G.T.builtins G.T.nolimit hS h4 h5 (Nat.le_trans hl hn2) hr hF hb (fun H hO hq => hs H a ns hl hO hq) fun H e s' => E w H s1 e s'
end ZH
set_option Elab.async false
set_option linter.all false
set_option maxRecDepth 100000
namespace L2
open PySem PySem.Spec PyProof.Rows ZZ
/-- the dict at a -/
def DcAt (X : Cx) (H : Hp) (a : Addr) (xs : List (NestedKey × Value × Value)) : Prop :=
  (a == sysModules) = false ∧ xs.length ≤ sizeLine ∧ (∃ ep, H a = some (.ext (rawV X.w a xs ep))) ∧ ∀ pins σ s, Inv X pins σ H s → DictV X.w s.heap a xs
section
variable {X : Cx} {pins : List (Addr × Obj)} {σ : L2.St} {H : Hp} {s : Shared} {a : Addr} {xs : List (NestedKey × Value × Value)} {k : NestedKey} {u : Value}
theorem DcAt.none (g : DcAt X H a xs) : ∃ o, H a = some o := let ⟨_, _, ⟨ep, e⟩, _⟩ := g; ⟨_, e⟩
end
end L2
set_option Elab.async false
set_option linter.all false
set_option maxRecDepth 100000
namespace L2
open PySem PySem.Spec PyProof.Rows ZZ
end L2
namespace ZZ
open PySem PySem.Spec L2
end ZZ
set_option Elab.async false
set_option linter.all false
set_option maxRecDepth 100000
namespace ZZ
open PySem PySem.Spec L2
end ZZ
set_option Elab.async false
set_option linter.all false
set_option maxRecDepth 100000
namespace ZZ
open PySem PySem.Spec L2
end ZZ
set_option Elab.async false
set_option linter.all false
set_option maxRecDepth 100000
namespace RZ
open PySem PySem.Spec PyProof.Rows L2
end RZ
namespace ZZ
open PySem PySem.Spec L2
end ZZ
set_option Elab.async false
set_option linter.all false
set_option maxRecDepth 100000
namespace PySem.W
open PySem PySem.Calls PyProof.Rows
end PySem.W
namespace StX
open PySem PySem.Spec PyProof.Rows L2
/-- a def called with positional values and keywords ks -/
def FnRK (P : Program) (w : World) (K : PySem.W.Frag) (mg : Str → Option Value) (base : Heap) (CX : CXT) (k : Nat) (f : Addr) (ks : List Str) (sp : List V → Sp) : Prop :=
  ∀ (A : Around) (outer : List Env) (s : Shared) (H : Hp) (us ws : List Value) (vs zs : List V) (Q : VK) (E : XK), Room k A → Env0 P w K mg base A outer s H → Vals vs us → Vals zs ws → ws.length = ks.length → sp zs vs H Q E →
    codeAny (model P w) A (.call (.ref f) ⟨us, ks.zip ws⟩) (CR CX outer P w H s Q E) s
section
variable {CX : CXT} {P : Program} {w : World} {K : PySem.W.Frag} {mg : Str → Option Value} {base : Heap} {k n : Nat} {f : Addr} {name qual : Str} {params : Arguments} {body : List Stmt} {scope : Scope} {dV kV doc pm cdv ct oc : Value} {an od : Option Addr}
  {osl : Array (Option Value)} {N ps ks : List Str} {sp : Sp}
theorem FnRK.mono {sp : List V → Sp} {j : Nat} (F : FnRK P w K mg base CX j f ks sp) (h : j ≤ k) : FnRK P w K mg base CX k f ks sp := fun A outer s H us ws vs zs Q E hr => F A outer s H us ws vs zs Q E (hr.mono h)
end
end StX
namespace ZZ
open PySem PySem.Spec L2
end ZZ
namespace ZH
open PySem PySem.Spec L2 ZZ
end ZH
set_option Elab.async false
set_option linter.all false
set_option maxRecDepth 100000
namespace PySem
open Sem (wp)
end PySem
namespace L2
open PySem PySem.Spec PyProof.Rows ZZ
end L2
namespace ZZ
open PySem PySem.Spec L2
def flatD : D → Bool
  | .non => true
  | .bl _ => true
  | .int _ => true
  | .str _ => true
  | _ => false
/-- == of flat data -/
def eqF : D → D → Bool
  | .non, .non => true
  | .bl a, .bl b => a == b
  | .bl a, .int b => (if a then 1 else 0) == b
  | .int a, .bl b => a == (if b then 1 else 0)
  | .int a, .int b => a == b
  | .str a, .str b => a == b
  | _, _ => false
/-- in over flat items -/
def kInQ (neg : Bool) (v u : Val) : DE := fun _ ce => match v with
  | .im d => match asSq ce u with
    | some ds => if (flatD d && ds.all flatD) = true then .ok (.im (.bl (if neg then !(ds.any fun y => eqF y d) else ds.any fun y => eqF y d))) ce else .stuck
    | none => .stuck
  | _ => .stuck
section
variable {Z : Zy} {A : List Addr} {F H : Hp} {ce : List Cell} {sl : Sl} {σ : L2.St} {W : WX} {Q : VK} {X : Cx}
theorem flat_rep {d : D} {x : V} (r : Rep Z.toZx F d x) (h : flatD d = true) : flatV x = true := by
  cases d <;> first | (unfold Rep at r; subst r; rfl) | cases h
theorem flat_reps : ∀ {ds : List D} {xs : List V}, Reps Z.toZx F ds xs → ds.all flatD = true → xs.all flatV = true
  | [], xs, r, _ => by
    rw [reps_nil_inv r]
    rfl
  | d :: ds, xs, r, h => by
    obtain ⟨v, t, rfl, h1, h2⟩ := reps_cons_inv r
    rw [List.all_cons, Bool.and_eq_true] at h
    rw [List.all_cons, flat_rep h1 h.1, flat_reps h2 h.2]
    rfl
theorem eq_flat {d e : D} {x y : V} (rx : Rep Z.toZx F d x) (ry : Rep Z.toZx F e y) (h1 : flatD d = true) (h2 : flatD e = true) : eqV y x = eqF e d := by
  cases d <;> cases e <;> first | (unfold Rep at rx ry; subst rx ry; rfl) | (exact absurd h1 (by decide)) | (exact absurd h2 (by decide)) | (exact (Bool.false_ne_true h1).elim) | (exact (Bool.false_ne_true h2).elim)
theorem in_flat {d : D} {x : V} (rx : Rep Z.toZx F d x) (h1 : flatD d = true) : ∀ {ds : List D} {xs : List V}, Reps Z.toZx F ds xs → ds.all flatD = true → inV x xs = ds.any fun y => eqF y d
  | [], xs, r, _ => by
    rw [reps_nil_inv r]
    rfl
  | e :: ds, xs, r, h => by
    obtain ⟨v, t, rfl, h2, h3⟩ := reps_cons_inv r
    rw [List.all_cons, Bool.and_eq_true] at h
    have ih := in_flat rx h1 h3 h.2
    unfold inV at ih ⊢
    rw [List.any_cons, List.any_cons, eq_flat rx h2 h1 h.1, ih]
theorem ok_inQ (neg : Bool) : Ok2 Z W (kInQ neg) (rIn Z.K neg) := by
  intro A F sl ce v u x y H σ Q so hs rv ru p
  unfold kInQ at p
  split at p
  · split at p
    · rename_i ds e
      split at p
      · rename_i h
        rw [Bool.and_eq_true] at h
        obtain ⟨l, vs, rfl, h1, h2⟩ := asSq_rd so ru e
        refine ⟨l, vs, rfl, h1, flat_rep (Z := Z) rv h.1, flat_reps h2 h.2, ?_⟩
        rw [in_flat (Z := Z) rv h.1 h2 h.2]
        exact fin_flat so p repB
      · exact p.elim
    · exact p.elim
  · exact p.elim
theorem c_notInQ (hK : X.K = Z.K) : CmpK X Z W .NotIn (kInQ true) := ⟨rIn Z.K true, by rw [← hK]; exact op_notIn_seq, ok_inQ true⟩
end
end ZZ
set_option Elab.async false
set_option linter.all false
set_option maxRecDepth 100000
namespace RZ
open PySem PySem.Spec PyProof.Rows L2 ZZ
end RZ
namespace ZZ
open PySem PySem.Spec L2 RZ
end ZZ
set_option Elab.async false
set_option linter.all false
set_option maxRecDepth 100000
namespace L2
open PySem PySem.Spec PyProof.Rows L2H
end L2
namespace ZZ
open PySem PySem.Spec L2
end ZZ
set_option Elab.async false
set_option linter.all false
set_option maxRecDepth 100000
namespace L2
open PySem PySem.Spec PyProof.Rows
end L2
namespace ZZ
open PySem PySem.Spec L2
def itLT : Val → Option (List D)
  | .im (.lst ds) => some ds
  | .im (.tup ds) => some ds
  | _ => none
end ZZ
namespace L2
open PySem PySem.Spec PyProof.Rows
end L2
namespace ZZ
open PySem PySem.Spec L2
end ZZ
set_option Elab.async false
set_option linter.all false
set_option maxRecDepth 100000
namespace ZZ
open PySem PySem.Spec L2
end ZZ
set_option Elab.async false
set_option linter.all false
set_option maxRecDepth 100000
namespace ZZ
open PySem PySem.Spec L2
end ZZ
set_option Elab.async false
set_option linter.all false
set_option maxRecDepth 100000
namespace ZZ
open PySem PySem.Spec L2
end ZZ
set_option Elab.async false
set_option linter.all false
set_option maxRecDepth 100000
namespace L2
open PySem PySem.Spec PyProof.Rows
end L2
namespace ZZ
open PySem PySem.Spec L2
end ZZ
set_option Elab.async false
set_option linter.all false
set_option maxRecDepth 100000
namespace StX
open PySem PySem.Spec PyProof.Rows L2
/-- t looks one name up in the dict at D and goes on as t' -/
def KwLook {α : Type} (D : Addr) (nm : Str) (u : Value) (t t' : Sem α) : Prop := ∃ (β γ : Type) (k1 : Option Value → Sem β) (k2 : β → Sem γ) (k3 : γ → Sem α) (a : β), t = ((nsGet D nm >>= k1) >>= k2) >>= k3 ∧ k1 (some u) = pure a ∧ (k2 a >>= k3) = t'
theorem KwLook.run {α : Type} {M : Model} {A : Around} {K : PySem.W.Frag} {s : Shared} {D : Addr} {nm : Str} {u : Value} {t t' : Sem α} {Q : α → Shared → Prop} {E : Value → Shared → Prop} (X : K.In s.heap) (hu : PySem.W.nsIn K D nm = some (some u)) (h : KwLook D nm u t t') (q : wpAny M A t' Q E s) : wpAny M A t Q E s := by
  obtain ⟨β, γ, k1, k2, k3, a, e1, e2, e3⟩ := h
  have l1 : PySem.W.Looks M s.heap (nsGet D nm >>= k1) a := (PySem.W.looks_nsIn X hu).andThen (PySem.W.Looks.of_pure e2)
  rw [e1, bind_assoc]
  exact wpAny_bind (l1.here (e3 ▸ q))
end StX
namespace ZZ
open PySem PySem.Spec L2 ZH
/-- such a def, called without the keyword: dv stands behind the first n -/
structure DOkSD (P : Program) (w : World) (K : PySem.W.Frag) (mg : Str → Option Value) (base : Heap) (Z : Zx) (k : Nat) (f : Addr) (n : Nat) (dv : D) (fh : DF) : Prop where
  F : FnR P w K mg base (L2N.CX P w) k f fun vs H Q E => ∃ A F ce ds, SO Z A F ce H ∧ VReps Z.z A F ds vs ∧ PostE Z.z A F (fun c d _ H => E c d H) [] Q (fh (ds.take n ++ [.im dv] ++ ds.drop n) ce)
  kp : PySem.W.keepIn K (.ref f) = true
theorem DOkSD.mono {P w K mg base Z k j f n dv fh} (G : DOkSD P w K mg base Z k f n dv fh) (h : k ≤ j) : DOkSD P w K mg base Z j f n dv fh := ⟨fun A outer s H us vs Q E hr => G.F A outer s H us vs Q E (hr.mono h), G.kp⟩
end ZZ
namespace ZH
open PySem PySem.Spec L2 ZZ
end ZH
set_option Elab.async false
set_option linter.all false
set_option maxRecDepth 100000
namespace ZZ
open PySem PySem.Spec L2 PyProof.Rows
/-- what is wanted behind it -/
def PostG (Z : Zy) (A : List Addr) (F : Hp) (W : WX) (D : GEnds) (r : List ZZ.D × Out) : Prop := ∀ A0 F0 ys0, A <+: A0 → Same F F0 → Reps Z.toZx F0 r.1 ys0 → match r.2 with
  | .nx sl ce => ∀ A' F' H' σ', A0 <+: A' → Same F0 F' → SO Z.toZx A' F' ce H' → SL Z A' F' sl σ' → D.nx ys0 σ' H'
  | .bk sl ce => ∀ A' F' H' σ', A0 <+: A' → Same F0 F' → SO Z.toZx A' F' ce H' → SL Z A' F' sl σ' → D.bk ys0 σ' H'
  | .ct sl ce => ∀ A' F' H' σ', A0 <+: A' → Same F0 F' → SO Z.toZx A' F' ce H' → SL Z A' F' sl σ' → D.ct ys0 σ' H'
  | .rt v ce => ∀ A' F' H' x, A0 <+: A' → Same F0 F' → SO Z.toZx A' F' ce H' → VRep Z A' F' v x → D.rt ys0 x H'
  | .exc c es sl ce => ∀ A' F' H' σ' dx, A0 <+: A' → Same F0 F' → SO Z.toZx A' F' ce H' → SL Z A' F' sl σ' → ExcOk Z.toZx F' c es dx → W (.ref (Z.cl c)) dx σ' H'
  | .stuck => False
theorem PostG.mono {Z : Zy} {A A' : List Addr} {F F' : Hp} {W : WX} {D : GEnds} {r : List ZZ.D × Out} (p : A <+: A') (e : Same F F') (h : PostG Z A F W D r) : PostG Z A' F' W D r :=
  fun A0 F0 ys0 p0 e0 r0 => h A0 F0 ys0 (p.trans p0) (e.trans e0) r0
/-- a plain outcome, at the rows ys -/
theorem PostG.at {Z : Zy} {A : List Addr} {F : Hp} {W : WX} {D : GEnds} {ds : List ZZ.D} {o : Out} {ys : List V} (h : PostG Z A F W D (ds, o)) (r : Reps Z.toZx F ds ys) : PostS Z A F W (D.at ys) o := by
  have q := h A F ys (List.prefix_refl _) (Same.refl _) r
  cases o <;> exact q
end ZZ
set_option Elab.async false
set_option linter.all false
set_option maxRecDepth 100000
set_option maxHeartbeats 1000000
namespace ZZ
open PySem PySem.Spec L2 PyProof.Rows GenW
end ZZ
set_option Elab.async false
set_option linter.all false
set_option maxRecDepth 100000
namespace ZZ
open PySem PySem.Spec L2
end ZZ
set_option Elab.async false
set_option linter.all false
set_option maxRecDepth 100000
namespace ZZ
open PySem PySem.Spec L2
end ZZ
set_option Elab.async false
set_option linter.all false
set_option maxRecDepth 100000
namespace ZZ
open PySem PySem.Spec L2 PyProof.Rows GenW
/-- a generator that has handed out a value -/
def sleeps : GenState → Prop
  | .suspended .. => True
  | _ => False
/-- all that stands in H stands in H' -/
def UpH (H H' : Hp) : Prop := ∀ b u, H b = some u → H' b = some u
theorem UpH.refl (H : Hp) : UpH H H := fun _ _ h => h
/-- what is wanted; yl: at a value that is handed out -/
structure YEnds where
  nx : List V → L2.St → Hp → Prop
  rt : List V → VK
  bk : List V → L2.St → Hp → Prop := fun _ _ _ => False
  ct : List V → L2.St → Hp → Prop := fun _ _ _ => False
  yl : List V → V → Hp → (Hp → Prop) → Prop
def YEnds.at (D : YEnds) (ys : List V) : Ends where
  nx := D.nx ys
  rt := D.rt ys
  bk := D.bk ys
  ct := D.ct ys
end ZZ
set_option Elab.async false
set_option linter.all false
set_option maxRecDepth 100000
namespace ZZ
open PySem PySem.Spec L2 PyProof.Rows GenW
end ZZ
set_option Elab.async false
set_option linter.all false
set_option maxRecDepth 100000
namespace ZZ
open PySem PySem.Spec L2 PyProof.Rows
/-- at each value: what has gone out is a part of out -/
def AtY (Z : Zy) (A : List Addr) (F : Hp) (c0 : List Cell) (out : List D) (D : YEnds) : Prop :=
  ∀ A' F' ce' H' ds d ys x, A <+: A' → Same F F' → SO Z.toZx A' F' ce' H' → ce'.take c0.length = c0 → Reps Z.toZx F' ds ys → Rep Z.toZx F' d x → ds ++ [d] <+: out → D.yl ys x H' (fun J => ∃ F2, Same F' F2 ∧ SO Z.toZx A' F2 ce' J)
theorem AtY.mono {Z : Zy} {A A' : List Addr} {F F' : Hp} {c0 : List Cell} {out : List D} {D : YEnds} (h : AtY Z A F c0 out D) (p : A <+: A') (e : Same F F') : AtY Z A' F' c0 out D :=
  fun A2 F2 ce2 H2 ds d ys x p2 e2 => h A2 F2 ce2 H2 ds d ys x (p.trans p2) (e.trans e2)
theorem AtY.sub {Z : Zy} {A : List Addr} {F : Hp} {c0 : List Cell} {out o2 : List D} {D : YEnds} (h : AtY Z A F c0 out D) (q : o2 <+: out) : AtY Z A F c0 o2 D :=
  fun A2 F2 ce2 H2 ds d ys x p2 e2 s t r1 r2 l => h A2 F2 ce2 H2 ds d ys x p2 e2 s t r1 r2 (l.trans q)
end ZZ
set_option Elab.async false
set_option linter.all false
set_option maxRecDepth 100000
namespace ZZ
open PySem PySem.Spec L2 PyProof.Rows
end ZZ
set_option Elab.async false
set_option linter.all false
set_option maxRecDepth 100000
namespace ZZ
open PySem PySem.Spec L2 PyProof.Rows GenW
end ZZ
set_option Elab.async false
set_option linter.all false
set_option maxRecDepth 100000
set_option maxHeartbeats 1000000
namespace ZZ
open PySem PySem.Spec L2 PyProof.Rows GenW
end ZZ
set_option Elab.async false
set_option linter.all false
set_option maxRecDepth 100000
set_option maxHeartbeats 1000000
namespace ZZ
open PySem PySem.Spec L2 PyProof.Rows GenW
end ZZ
set_option Elab.async false
set_option linter.all false
set_option maxRecDepth 100000
namespace ZZ
open PySem PySem.Spec L2 PyProof.Rows GenW
end ZZ
set_option Elab.async false
set_option linter.all false
set_option maxRecDepth 100000
set_option maxHeartbeats 1000000
namespace ZZ
open PySem PySem.Spec L2 PyProof.Rows GenW
/-- the twin that cannot be woken -/
def twin : GenState → GenState
  | .suspended _ l c p fs cl => .suspended (fun _ => .unsupported "") l c p fs cl
  | x => x
def flatF : List Frame → Bool
  | [] => true
  | .ret .. :: r => flatF r
  | .gen .. :: _ => false
def flatG : GenState → Bool
  | .suspended _ _ _ _ fs _ => flatF fs
  | _ => true
/-- old: the sleepers; a: with their twins, b: with themselves -/
structure RelG (old : Nat → Option GenState) (a b : Array GenState) : Prop where
  size : b.size = a.size
  oth : ∀ i, old i = none → b[i]? = a[i]? ∧ ∀ x, a[i]? = some x → flatG x = true
  own : ∀ i y, old i = some y → sleeps y ∧ a[i]? = some (twin y) ∧ b[i]? = some y
theorem RelG.set {old : Nat → Option GenState} {a b : Array GenState} {g : Nat} {x : GenState} (r : RelG old a b) (hg : old g = none) (hx : flatG x = true) : RelG old (a.setIfInBounds g x) (b.setIfInBounds g x) := by
  refine ⟨by simp [r.size], fun i hi => ?_, fun i y hy => ?_⟩
  · obtain ⟨e, fl⟩ := r.oth i hi
    by_cases h : g = i
    · subst h
      refine ⟨by rw [Array.getElem?_setIfInBounds_self, Array.getElem?_setIfInBounds_self, r.size], fun z hz => ?_⟩
      rw [Array.getElem?_setIfInBounds_self] at hz
      split at hz
      · cases hz; exact hx
      · cases hz
    · rw [Array.getElem?_setIfInBounds_ne h, Array.getElem?_setIfInBounds_ne h]
      exact ⟨e, fl⟩
  · have h : g ≠ i := fun h => by rw [h] at hg; rw [hg] at hy; cases hy
    rw [Array.getElem?_setIfInBounds_ne h, Array.getElem?_setIfInBounds_ne h]
    exact r.own i y hy
theorem RelG.lt {old : Nat → Option GenState} {a b : Array GenState} {i : Nat} {y : GenState} (r : RelG old a b) (h : old i = some y) : i < a.size := by
  obtain ⟨_, e, _⟩ := r.own i y h
  exact (Array.getElem?_eq_some_iff.mp e).1
theorem RelG.push {old : Nat → Option GenState} {a b : Array GenState} {x : GenState} (r : RelG old a b) (hx : flatG x = true) : RelG old (a.push x) (b.push x) := by
  refine ⟨by simp [r.size], fun i hi => ?_, fun i y hy => ?_⟩
  · obtain ⟨e, fl⟩ := r.oth i hi
    rw [Array.getElem?_push, Array.getElem?_push, r.size, e]
    refine ⟨rfl, fun z hz => ?_⟩
    split at hz
    · cases hz; exact hx
    · exact fl z hz
  · have h := r.lt hy
    obtain ⟨s, e1, e2⟩ := r.own i y hy
    have n1 : ¬ i = a.size := Nat.ne_of_lt h
    rw [Array.getElem?_push, Array.getElem?_push, r.size, if_neg n1, if_neg n1]
    exact ⟨s, e1, e2⟩
/-- asleep: old or its frames are flat -/
theorem RelG.at {old : Nat → Option GenState} {a b : Array GenState} {g : Nat} {x : GenState} (r : RelG old a b) (h : a[g]? = some x) : (old g = none ∧ b[g]? = some x ∧ flatG x = true) ∨ ∃ y, old g = some y ∧ sleeps y ∧ x = twin y ∧ b[g]? = some y := by
  cases e : old g with
  | none =>
    obtain ⟨e1, e2⟩ := r.oth g e
    exact .inl ⟨rfl, e1.trans h, e2 x h⟩
  | some y =>
    obtain ⟨s, e1, e2⟩ := r.own g y e
    rw [h] at e1
    exact .inr ⟨y, rfl, s, by cases e1; rfl, e2⟩
open Sem (wp)
end ZZ
set_option Elab.async false
set_option linter.all false
set_option maxRecDepth 100000
set_option maxHeartbeats 2000000
namespace ZZ
open PySem PySem.Spec L2 PyProof.Rows GenW
end ZZ
set_option Elab.async false
set_option linter.all false
set_option maxRecDepth 100000
set_option maxHeartbeats 1000000
namespace ZZ
open PySem PySem.Spec L2 PyProof.Rows GenW
end ZZ
set_option Elab.async false
set_option linter.all false
set_option maxRecDepth 100000
namespace ZZ
open PySem PySem.Spec L2 PyProof.Rows GenW
end ZZ
set_option Elab.async false
set_option linter.all false
set_option maxRecDepth 100000
namespace ZZ
open PySem PySem.Spec L2 PyProof.Rows
section
variable {X : Cx} {Z : Zy} {W : WX} {o e : Expr} {es : List Expr} {f g : DE} {fs : List DE} {pos apos cpos : Pos}
theorem strs_reps {Y : Zx} {F : Hp} : ∀ ys : List Str, Reps Y F (ys.map D.str) (ys.map V.str)
  | [] => by unfold Reps; rfl
  | y :: ys => by
    rw [List.map_cons, List.map_cons]
    unfold Reps
    exact ⟨_, _, rfl, by unfold Rep; rfl, strs_reps ys⟩
def kSplit (v : Val) (vs : List Val) : DE := fun _ ce => match v, vs with
  | .im (.str a), [.im (.str b)] => if (b.length == 0) = false ∧ a.length ≤ 1000000 then .ok (.im (.lst ((Txt.split a b).map .str))) ce else .stuck
  | _, _ => .stuck
theorem de_split (ho : PE X o (tE Z W f)) (ha : PE X e (tE Z W g))
    (hb : attributeBase o "split" X.env (eval o X.env) = eval o X.env := by rfl) (hl : (apos.endLine == cpos.line) = true := by rfl) (hs : starEach [e] X.env = (false, eval e X.env) :: starEach [] X.env := by rfl)
    (hfew : ((backTo cpos (starEach [e] X.env)).all (fun x => !x.1) && (backToKw cpos (keywordEach [] X.env)).all (fun x => x.1.isSome)
      && decide ([e].length + ([] : List Keyword).length + (if ([] : List Keyword).isEmpty then 0 else 1) < 30)) = true := by rfl) :
    PE X (.Call (.Attribute o "split" apos) [e] [] cpos) (tE Z W (eMth tyS kSplit f [g])) :=
  de_bm PySem.F.plainAttrs_str PySem.F.slot_str_split PySem.F.type_str_split mt_split ⟨tyS_ok, fun A F sl ce v x vs xs H σ Q so hs rv rs p => by
    unfold kSplit at p
    split at p
    · rename_i a b
      split at p
      · rename_i hz
        obtain ⟨y, rfl, ry⟩ := vreps1 rs
        rw [rep_str rv, rep_str ry]
        refine ⟨a, b, rfl, rfl, hz.1, ?_, fun q hq => fin_newL so p (strs_reps _) hq⟩
        have : sizeLine = 16777216 := rfl
        omega
      · exact p.elim
    · exact p.elim⟩ ho (da_cons ha da_nil hs) hb hl hs rfl hfew
def kFmt (v : Val) : DE := fun _ ce => match v with
  | .im (.str y) => if y.length ≤ 1000000 then .ok (.im (.str y)) ce else .stuck
  | .im (.int i) => if i.natAbs.log2 < 1920 then .ok (.im (.str (toString i))) ce else .stuck
  | _ => .stuck
theorem de_fmt (he : PE X e (tE Z W f)) : PE X (.FormattedValue e (-1) none pos) (tE Z W (eUn kFmt f)) :=
  (pe_fmt he).weak fun σ H Q q => tE_imp (fun x H1 ⟨A, F, sl, ce, v, so, hs, r, p⟩ => by
    unfold kFmt at p
    split at p
    · rename_i y
      split at p
      · rename_i hz
        rw [rep_str r]
        refine .inl ⟨y, rfl, ?_, fin_flat so p repS⟩
        have : sizeLine = 16777216 := rfl
        omega
      · exact p.elim
    · rename_i i
      split at p
      · rename_i hz
        rw [rep_int r]
        exact .inr ⟨i, rfl, hz, fin_flat so p repS⟩
      · exact p.elim
    · exact p.elim) (tE1 q)
def kJn : List DE → Str → DE
  | [], acc => eC (.str acc)
  | f :: fs, acc => eBind f fun v => match v with
    | .im (.str y) => if (acc ++ y).length ≤ 1000000 then kJn fs (acc ++ y) else kStuck
    | _ => kStuck
def eFs (fs : List DE) : DE := kJn fs Str.empty
def DJ (X : Cx) (Z : Zy) (W : WX) (es : List Expr) (fs : List DE) : Prop := PJ X es (fs.map (tE Z W))
theorem dj_nil : DJ X Z W [] [] := .nil
theorem dj_cons (h : PE X e (tE Z W f)) (r : DJ X Z W es fs) : DJ X Z W (e :: es) (f :: fs) := .cons h r
theorem kJn_js : ∀ (fs : List DE) (acc : Str) (σ : L2.St) (H : Hp) (Q : VK), tE Z W (kJn fs acc) σ H Q → tJs (fs.map (tE Z W)) acc σ H fun out H1 => Q (.str out) H1
  | [], acc, σ, H, Q, ⟨A, F, sl, ce, so, hs, p⟩ => fin_flat so p repS
  | f :: fs, acc, σ, H, Q, h => tE_imp (fun x H1 ⟨A, F, sl, ce, v, so, hs, r, p⟩ => by
    split at p
    · rename_i y
      split at p
      · rename_i hz
        rw [rep_str r]
        refine ⟨y, rfl, ?_, kJn_js fs (acc ++ y) σ H1 Q ⟨A, F, sl, ce, so, hs, p⟩⟩
        have : sizeLine = 16777216 := rfl
        omega
      · exact p.elim
    · exact p.elim) (tE1 h)
theorem de_joined {v1 v2 : Expr} {rest : List Expr} (h : DJ X Z W (v1 :: v2 :: rest) fs) : PE X (.JoinedStr (v1 :: v2 :: rest) pos) (tE Z W (eFs fs)) :=
  (pe_joined h).weak fun σ H Q q => kJn_js fs Str.empty σ H Q q
def kStrB : List Val → DE
  | [.im (.int i)] => if i.natAbs.log2 < 1920 then eC (.str (toString i)) else kStuck
  | _ => kStuck
theorem ok_strB : OkN Z W kStrB (fun xs H Q => ∃ i, xs = [.int i] ∧ i.natAbs.log2 < 1920 ∧ Q (.str (toString i)) H) := by
  intro A F sl ce vs xs H σ Q so hs r p
  unfold kStrB at p
  split at p
  · replace r := vreps1 r; obtain ⟨x, rfl, r⟩ := r
    rename_i i
    by_cases h : i.natAbs.log2 < 1920
    · rw [if_pos h] at p
      rw [rep_int r]
      exact ⟨_, rfl, h, fin_flat so p repS⟩
    · rw [if_neg h] at p
      exact p.elim
  · exact p.elim
end
section
variable {X : Cx} {CX : CXT} {Z : Zy} {W : WX} {k : Nat} {m : Str} {E : L2.St → XK} {o : Expr} {ta : TE} {f : DE} {tb : Tb} {pos apos : Pos}
theorem pe_methG0 {pl : Sem Bool} (he : PE X o ta) (hr : Room k X.A) (hx : ∀ σ, PassesAt CX X σ (E σ))
    (ht : eval (.Call (.Attribute o m apos) [] [] pos) X.env = (do
      let ov ← eval o X.env
      standAt apos.atName
      let (g, first) ← holding [ov] (getMethod ov m pl)
      callWith pos g first (backTo pos (starEach [] X.env)) (backToKw pos (keywordEach [] X.env))) := by rfl) :
    PE X (.Call (.Attribute o m apos) [] [] pos) (tMethGz X CX k m E ta tNil) := by
  refine ⟨fun pins s σ H Q I h => ?_⟩
  refine PySem.W.methodCall_KW (pl := pl) (thn (he.run pins s σ H _ I h) fun v s1 ⟨x, H1, I1, rx, c, C, dx, fs, f, fd, ps, sp, ex, hc, hl, hcl, hm, F, hb, q⟩ => ?_) ht
  subst ex
  obtain rfl : v = Value.ref c := rx
  refine getmeth_ok I1 hc hcl hm hl ?_
  exact PySem.W.callWith_K0 (first := [.ref c]) I1.kIn hm.kp (run_fnSD (us := [.ref c]) (vs := [.ref c]) (dvs := []) (ds := []) F hr hb .nil (hx σ) I1 (.cons rfl .nil) q)
theorem de_methT0 {pl : Sem Bool} (he : PE X o (tE Z W f)) (G : GOk X.prog X.w X.K X.mg X.base Z.toZx k m 1 tb) (hr : Room k X.A) (tw : TW X W)
    (ht : eval (.Call (.Attribute o m apos) [] [] pos) X.env = (do
      let ov ← eval o X.env
      standAt apos.atName
      let (g, first) ← holding [ov] (getMethod ov m pl)
      callWith pos g first (backTo pos (starEach [] X.env)) (backToKw pos (keywordEach [] X.env))) := by rfl) :
    PE X (.Call (.Attribute o m apos) [] [] pos) (tE Z W (eMthT tb f [])) :=
  (pe_methG0 he hr tw ht).weak fun σ H Q q => tE_imp (fun x H1 ⟨A, F, sl, ce, v, so, hs, r, p⟩ => by
    obtain ⟨c, fh, a, dx, gs, j, hc, hf, rfl, h1, h2, p⟩ := tab_rd so hs r p
    obtain ⟨g1, g2, fa, ps, g3, g4⟩ := G.ex c fh hf
    obtain ⟨fd, F0, bd⟩ := g4.ex
    refine ⟨a, _, dx, gs, fa, fd, ps, _, rfl, h1, take_lookup h2 g1, g2, g3, F0, bd, ?_⟩
    obtain ⟨A2, F2, ce2, vs, p2, e2, s2, r2, l2, q2⟩ := tArgs_ok so hs p
    unfold kMeth at q2
    by_cases hp : (v :: vs).all plainV = true
    · rw [if_pos hp] at q2
      exact spD_call (sl := sl) (vs := v :: vs) s2 ⟨_, _, rfl, r.mono p2 e2, r2⟩ (by simp [l2]) hp q2
    · rw [if_neg hp] at q2
      exact q2.elim) (tE1 q)
end
end ZZ
set_option Elab.async false
set_option linter.all false
set_option maxRecDepth 100000
namespace ZZ
open PySem PySem.Spec L2
def st (l : List Nat) : Str := ⟨l.toArray⟩
theorem eq_int {i j : Int} {neg : Bool} {sl : Sl} {ce : List Cell} : kEqG neg (.im (.int i)) (.im (.int j)) sl ce = .ok (.im (.bl (if neg then !decide (i = j) else decide (i = j)))) ce := by
  unfold kEqG
  simp only [asIm, pyEq, toPy]
  rw [if_pos ⟨rfl, rfl⟩]
  simp only [PyData.eqv]
  have : (i == j) = decide (i = j) := by rw [Bool.eq_iff_iff]; simp
  rw [this]
theorem shaped_str {s : Str} (h : PyData.strOk s = true) : SeqAt.shaped (.str s) = true := by
  unfold SeqAt.shaped
  rw [Bool.and_eq_true]
  exact ⟨h, rfl⟩
theorem eq_str {a b : Str} {neg : Bool} {sl : Sl} {ce : List Cell} (ha : PyData.strOk a = true) (hb : PyData.strOk b = true) : kEqG neg (.im (.str a)) (.im (.str b)) sl ce = .ok (.im (.bl (if neg then !decide (a = b) else decide (a = b)))) ce := by
  unfold kEqG
  simp only [asIm, pyEq, toPy]
  rw [if_pos ⟨shaped_str ha, shaped_str hb⟩]
  simp only [PyData.eqv]
  have : (a == b) = decide (a = b) := by rw [Bool.eq_iff_iff]; simp
  rw [this]
theorem ce_get (ce l : List Cell) (k : Nat) : (ce ++ l)[ce.length + k]? = l[k]? := by
  rw [List.getElem?_append_right (by omega)]
  congr 1
  omega
theorem ce_get0 (ce l : List Cell) : (ce ++ l)[ce.length]? = l[0]? := ce_get ce l 0
theorem ce_set (ce l : List Cell) (k : Nat) (c : Cell) : (ce ++ l).set (ce.length + k) c = ce ++ l.set k c := by
  rw [List.set_append_right _ _ (by omega)]
  congr 2
  omega
theorem ce_set0 (ce l : List Cell) (c : Cell) : (ce ++ l).set ce.length c = ce ++ l.set 0 c := ce_set ce l 0 c
theorem ce_take (ce l : List Cell) : (ce ++ l).take ce.length = ce := by simp
end ZZ
set_option Elab.async false
set_option linter.all false
set_option maxRecDepth 100000
namespace ZZ
open PySem PySem.Spec L2
inductive Sg where
  | l | e | g
  deriving DecidableEq
def Sg.code : Sg → Nat
  | .l => 60 | .e => 61 | .g => 62
def txt (s : List Sg) : Str := st (s.map Sg.code)
theorem txt_l : txt [.l] = ("<" : Str) := by decide +kernel
theorem txt_e : txt [.e] = ("=" : Str) := by decide +kernel
def lefts (s : List Sg) : Nat := s.length - s.count .g
def rights (s : List Sg) : Nat := s.length - s.count .l
theorem cnt_le (s : List Sg) (c : Sg) : s.count c ≤ s.length := List.count_le_length
theorem lefts_cons (c : Sg) (s : List Sg) : lefts (c :: s) = lefts s + (if c = .g then 0 else 1) := by
  have := cnt_le s .g
  unfold lefts
  rw [List.count_cons, List.length_cons]
  cases c <;> simp <;> omega
theorem rights_cons (c : Sg) (s : List Sg) : rights (c :: s) = rights s + (if c = .l then 0 else 1) := by
  have := cnt_le s .l
  unfold rights
  rw [List.count_cons, List.length_cons]
  cases c <;> simp <;> omega
theorem rights_app (a b : List Sg) : rights (a ++ b) = rights a + rights b := by
  have h1 := cnt_le a .l
  have h2 := cnt_le b .l
  unfold rights
  rw [List.count_append, List.length_append]
  omega
def hts : Nat → List Sg → List (Nat × Nat)
  | _, [] => []
  | r, .l :: s => (r, r) :: hts r s
  | r, .e :: s => (r, r + 1) :: hts (r + 1) s
  | r, .g :: s => hts (r + 1) s
def fh : Nat → List (Nat × Nat) → Nat → List Sg
  | r, [], R => List.replicate (R - r) .g
  | r, (a, b) :: ps, R => List.replicate (a - r) .g ++ (if a = b then Sg.l else Sg.e) :: fh b ps R
def Okh : Nat → List (Nat × Nat) → Nat → Prop
  | r, [], R => r ≤ R
  | r, (a, b) :: ps, R => r ≤ a ∧ a ≤ b ∧ b ≤ a + 1 ∧ Okh b ps R
theorem hts_len : ∀ (r : Nat) (s : List Sg), (hts r s).length = lefts s
  | _, [] => rfl
  | r, .l :: s => by rw [hts, List.length_cons, hts_len, lefts_cons]; rfl
  | r, .e :: s => by rw [hts, List.length_cons, hts_len, lefts_cons]; rfl
  | r, .g :: s => by rw [hts, hts_len, lefts_cons]; rfl
theorem okh_mono : ∀ {r r' : Nat} {ps : List (Nat × Nat)} {R : Nat}, r' ≤ r → Okh r ps R → Okh r' ps R
  | r, r', [], R, h, k => Nat.le_trans h k
  | r, r', (a, b) :: ps, R, h, k => ⟨Nat.le_trans h k.1, k.2⟩
theorem hts_ok : ∀ (r : Nat) (s : List Sg), Okh r (hts r s) (r + rights s)
  | r, [] => Nat.le_add_right _ _
  | r, .l :: s => ⟨Nat.le_refl _, Nat.le_refl _, Nat.le_succ _, by rw [rights_cons]; exact hts_ok r s⟩
  | r, .e :: s => ⟨Nat.le_refl _, Nat.le_succ _, Nat.le_refl _, by
      have := hts_ok (r + 1) s
      have e : r + rights (.e :: s) = r + 1 + rights s := by rw [rights_cons]; simp; omega
      rw [e]
      exact this⟩
  | r, .g :: s => by
    rw [rights_cons]
    have := hts_ok (r + 1) s
    rw [show r + 1 + rights s = r + (rights s + 1) by omega] at this
    exact okh_mono (Nat.le_succ _) this
theorem fh_g {r : Nat} {ps : List (Nat × Nat)} {R : Nat} (h : Okh (r + 1) ps R) : fh r ps R = .g :: fh (r + 1) ps R := by
  cases ps with
  | nil =>
    have : r + 1 ≤ R := h
    rw [fh, fh, show R - r = (R - (r + 1)) + 1 by omega, List.replicate_succ]
  | cons p ps =>
    obtain ⟨a, b⟩ := p
    have : r + 1 ≤ a := h.1
    rw [fh, fh, show a - r = (a - (r + 1)) + 1 by omega, List.replicate_succ]
    rfl
theorem fh_hts : ∀ (r : Nat) (s : List Sg), fh r (hts r s) (r + rights s) = s
  | r, [] => by simp [hts, fh, rights]
  | r, .l :: s => by
    rw [hts, fh, rights_cons]
    simp [fh_hts r s]
  | r, .e :: s => by
    rw [hts, fh, rights_cons]
    have := fh_hts (r + 1) s
    rw [show r + 1 + rights s = r + (rights s + 1) by omega] at this
    simp [this]
  | r, .g :: s => by
    have h := hts_ok (r + 1) s
    have := fh_hts (r + 1) s
    rw [hts, rights_cons]
    rw [show r + 1 + rights s = r + (rights s + 1) by omega] at h this
    show fh r (hts (r + 1) s) (r + (rights s + 1)) = _
    rw [fh_g h, this]
theorem hts_rep : ∀ (n r : Nat) (s : List Sg), hts r (List.replicate n .g ++ s) = hts (r + n) s
  | 0, r, s => by simp
  | n + 1, r, s => by
    rw [List.replicate_succ, List.cons_append, hts, hts_rep n (r + 1) s]
    congr 1
    omega
theorem hts_fh : ∀ {r : Nat} {ps : List (Nat × Nat)} {R : Nat}, Okh r ps R → hts r (fh r ps R) = ps
  | r, [], R, h => by
    have := hts_rep (R - r) r []
    rw [List.append_nil] at this
    rw [fh, this]
    rfl
  | r, (a, b) :: ps, R, ⟨h1, h2, h3, h4⟩ => by
    rw [fh, hts_rep]
    have ih := hts_fh h4
    rw [show r + (a - r) = a by omega]
    by_cases hab : a = b
    · subst hab
      simp only [if_true, hts, ih]
    · have : b = a + 1 := by omega
      subst this
      simp only [if_neg hab, hts, ih]
theorem rights_fh : ∀ {r : Nat} {ps : List (Nat × Nat)} {R : Nat}, Okh r ps R → r + rights (fh r ps R) = R
  | r, [], R, h => by
    have : r ≤ R := h
    rw [fh]
    simp [rights, List.count_replicate]
    omega
  | r, (a, b) :: ps, R, ⟨h1, h2, h3, h4⟩ => by
    have ih := rights_fh h4
    rw [fh, rights_app, rights_cons]
    have : rights (List.replicate (a - r) Sg.g) = a - r := by simp [rights, List.count_replicate]
    rw [this]
    by_cases hab : a = b
    · subst hab
      simp
      omega
    · simp [hab]
      omega
theorem lefts_fh {r : Nat} {ps : List (Nat × Nat)} {R : Nat} (h : Okh r ps R) : lefts (fh r ps R) = ps.length := by
  rw [← hts_len r, hts_fh h]
def mxp (p q : Nat × Nat) : Nat × Nat := (max p.1 q.1, max p.2 q.2)
def H (s : List Sg) : List (Nat × Nat) := hts 0 s
def join (s t : List Sg) : List Sg := fh 0 (List.zipWith mxp (H s) (H t)) (rights s)
theorem ok_mx : ∀ {r r' : Nat} {ps qs : List (Nat × Nat)} {R : Nat}, Okh r ps R → Okh r' qs R → ps.length = qs.length → Okh (max r r') (List.zipWith mxp ps qs) R
  | r, r', [], [], R, h, h', _ => by have : r ≤ R := h; have : r' ≤ R := h'; show max r r' ≤ R; omega
  | r, r', (a, b) :: ps, (c, d) :: qs, R, ⟨h1, h2, h3, h4⟩, ⟨k1, k2, k3, k4⟩, hl => by
    refine ⟨?_, ?_, ?_, ok_mx h4 k4 (by simpa using hl)⟩ <;> simp only [mxp] <;> omega
  | _, _, [], _ :: _, _, _, _, hl => by simp at hl
  | _, _, _ :: _, [], _, _, _, hl => by simp at hl
/-- of the shape L, R -/
def In (L R : Nat) (s : List Sg) : Prop := lefts s = L ∧ rights s = R
section
variable {L R : Nat} {a b c : List Sg}
theorem In.ok (h : In L R a) : Okh 0 (H a) R := by
  have := hts_ok 0 a
  rwa [h.2, Nat.zero_add] at this
theorem In.len (h : In L R a) : (H a).length = L := by rw [H, hts_len, h.1]
theorem In.inj (ha : In L R a) (hb : In L R b) (h : H a = H b) : a = b := by
  have h1 := fh_hts 0 a
  have h2 := fh_hts 0 b
  unfold H at h
  rw [← h1, ← h2, h, ha.2, hb.2]
theorem join_H (ha : In L R a) (hb : In L R b) : H (join a b) = List.zipWith mxp (H a) (H b) ∧ In L R (join a b) := by
  have ok : Okh 0 _ R := ok_mx ha.ok hb.ok (by rw [ha.len, hb.len])
  refine ⟨?_, ?_, ?_⟩
  · unfold join
    rw [ha.2]
    exact hts_fh ok
  · unfold join
    rw [ha.2, lefts_fh ok, List.length_zipWith, ha.len, hb.len, Nat.min_self]
  · unfold join
    rw [ha.2]
    have := rights_fh ok
    simpa using this
theorem In.join (ha : In L R a) (hb : In L R b) : In L R (join a b) := (join_H ha hb).2
end
end ZZ
set_option Elab.async false
set_option linter.all false
set_option maxRecDepth 100000
namespace ZZ
open PySem PySem.Spec L2
mutual
/-- strings in order, no instance, at most n deep -/
def okD : Nat → D → Bool
  | _, .non => true
  | _, .bl _ => true
  | _, .int _ => true
  | _, .str s => PyData.strOk s
  | 0, .tup _ => false
  | 0, .lst _ => false
  | 0, .wl _ => false
  | n + 1, .tup ds => okDs n ds
  | n + 1, .lst ds => okDs n ds
  | n + 1, .wl ds => okDs n ds
  | _, .ins _ _ => false
  | _, .dct _ _ => false
def okDs : Nat → List D → Bool
  | _, [] => true
  | n, d :: ds => okD n d && okDs n ds
end
mutual
/-- == on values without instances -/
def eqD : D → D → Bool
  | .non, .non => true
  | .bl a, .bl b => a == b
  | .bl a, .int j => (if a then 1 else 0) == j
  | .int i, .bl b => i == (if b then 1 else 0)
  | .int i, .int j => i == j
  | .str x, .str y => x == y
  | .lst xs, .lst ys => eqDs xs ys
  | .lst xs, .wl ys => eqDs xs ys
  | .wl xs, .lst ys => eqDs xs ys
  | .wl xs, .wl ys => eqDs xs ys
  | .tup xs, .tup ys => eqDs xs ys
  | _, _ => false
def eqDs : List D → List D → Bool
  | [], [] => true
  | x :: xs, y :: ys => eqD x y && eqDs xs ys
  | _, _ => false
end
mutual
theorem okD_py : ∀ (n : Nat) (d : D), okD n d = true → ∃ p, toPy d = some p ∧ p.canLay0 = true ∧ p.depth ≤ n + 1
  | _, .non, _ => ⟨.none, rfl, rfl, by simp [PyData.depth]⟩
  | _, .bl b, _ => ⟨.bool b, rfl, rfl, by simp [PyData.depth]⟩
  | _, .int b, _ => ⟨.int b, rfl, rfl, by simp [PyData.depth]⟩
  | _, .str b, h => ⟨.str b, rfl, by rw [PyData.canLay0]; simpa [okD] using h, by simp [PyData.depth]⟩
  | 0, .tup _, h => by simp [okD] at h
  | 0, .lst _, h => by simp [okD] at h
  | 0, .wl _, h => by simp [okD] at h
  | n + 1, .tup ds, h => by
    obtain ⟨ps, h1, h2, h3⟩ := okDs_py n ds (by simpa [okD] using h)
    exact ⟨.tuple ps, by rw [toPy, h1]; rfl, by rw [PyData.canLay0]; exact h2, by rw [PyData.depth]; omega⟩
  | n + 1, .lst ds, h => by
    obtain ⟨ps, h1, h2, h3⟩ := okDs_py n ds (by simpa [okD] using h)
    exact ⟨.list ps, by rw [toPy, h1]; rfl, by rw [PyData.canLay0]; exact h2, by rw [PyData.depth]; omega⟩
  | n + 1, .wl ds, h => by
    obtain ⟨ps, h1, h2, h3⟩ := okDs_py n ds (by simpa [okD] using h)
    exact ⟨.list ps, by rw [toPy, h1]; rfl, by rw [PyData.canLay0]; exact h2, by rw [PyData.depth]; omega⟩
  | 0, .ins _ _, h => by simp [okD] at h
  | _ + 1, .ins _ _, h => by simp [okD] at h
  | 0, .dct _ _, h => by simp [okD] at h
  | _ + 1, .dct _ _, h => by simp [okD] at h
theorem okDs_py : ∀ (n : Nat) (ds : List D), okDs n ds = true → ∃ ps, toPys ds = some ps ∧ PyData.canLayAll0 ps = true ∧ PyData.depthAll ps ≤ n + 1
  | _, [], _ => ⟨[], rfl, rfl, by simp [PyData.depthAll]⟩
  | n, d :: ds, h => by
    have h' : okD n d = true ∧ okDs n ds = true := by simpa [okDs] using h
    obtain ⟨p, a1, a2, a3⟩ := okD_py n d h'.1
    obtain ⟨ps, b1, b2, b3⟩ := okDs_py n ds h'.2
    refine ⟨p :: ps, by rw [toPys, a1, b1], by rw [PyData.canLayAll0, a2, b2]; rfl, by rw [PyData.depthAll]; omega⟩
end
mutual
theorem eqv_eqD : ∀ (d e : D) (p q : PyData), toPy d = some p → toPy e = some q → PyData.eqv p q = eqD d e
  | .non, e, p, q, hp, hq => by
    cases hp
    cases e <;> simp only [toPy, Option.map_eq_some_iff, Option.some.injEq, reduceCtorEq] at hq <;> first | (cases hq; rfl) | (obtain ⟨_, _, rfl⟩ := hq; rfl) | (subst hq; rfl)
  | .bl b, e, p, q, hp, hq => by
    cases hp
    cases e <;> simp only [toPy, Option.map_eq_some_iff, Option.some.injEq, reduceCtorEq] at hq <;> first | (cases hq; rfl) | (obtain ⟨_, _, rfl⟩ := hq; rfl) | (subst hq; rfl)
  | .int b, e, p, q, hp, hq => by
    cases hp
    cases e <;> simp only [toPy, Option.map_eq_some_iff, Option.some.injEq, reduceCtorEq] at hq <;> first | (cases hq; rfl) | (obtain ⟨_, _, rfl⟩ := hq; rfl) | (subst hq; rfl)
  | .str b, e, p, q, hp, hq => by
    cases hp
    cases e <;> simp only [toPy, Option.map_eq_some_iff, Option.some.injEq, reduceCtorEq] at hq <;> first | (cases hq; rfl) | (obtain ⟨_, _, rfl⟩ := hq; rfl) | (subst hq; rfl)
  | .ins _ _, e, p, q, hp, hq => by simp [toPy] at hp
  | .tup xs, e, p, q, hp, hq => by
    simp only [toPy, Option.map_eq_some_iff] at hp
    obtain ⟨ps, hps, rfl⟩ := hp
    cases e <;> simp only [toPy, Option.map_eq_some_iff, Option.some.injEq, reduceCtorEq] at hq
    case tup ys =>
      obtain ⟨qs, hqs, rfl⟩ := hq
      rw [PyData.eqv, eqD]
      exact eqvs_eqDs xs ys ps qs hps hqs
    all_goals first | (cases hq; rfl) | (obtain ⟨_, _, rfl⟩ := hq; rfl) | (subst hq; rfl)
  | .lst xs, e, p, q, hp, hq => by
    simp only [toPy, Option.map_eq_some_iff] at hp
    obtain ⟨ps, hps, rfl⟩ := hp
    cases e <;> simp only [toPy, Option.map_eq_some_iff, Option.some.injEq, reduceCtorEq] at hq
    case lst ys =>
      obtain ⟨qs, hqs, rfl⟩ := hq
      rw [PyData.eqv, eqD]
      exact eqvs_eqDs xs ys ps qs hps hqs
    case wl ys =>
      obtain ⟨qs, hqs, rfl⟩ := hq
      rw [PyData.eqv, eqD]
      exact eqvs_eqDs xs ys ps qs hps hqs
    all_goals first | (cases hq; rfl) | (obtain ⟨_, _, rfl⟩ := hq; rfl) | (subst hq; rfl)
  | .wl xs, e, p, q, hp, hq => by
    simp only [toPy, Option.map_eq_some_iff] at hp
    obtain ⟨ps, hps, rfl⟩ := hp
    cases e <;> simp only [toPy, Option.map_eq_some_iff, Option.some.injEq, reduceCtorEq] at hq
    case lst ys =>
      obtain ⟨qs, hqs, rfl⟩ := hq
      rw [PyData.eqv, eqD]
      exact eqvs_eqDs xs ys ps qs hps hqs
    case wl ys =>
      obtain ⟨qs, hqs, rfl⟩ := hq
      rw [PyData.eqv, eqD]
      exact eqvs_eqDs xs ys ps qs hps hqs
    all_goals first | (cases hq; rfl) | (obtain ⟨_, _, rfl⟩ := hq; rfl) | (subst hq; rfl)
theorem eqvs_eqDs : ∀ (ds es : List D) (ps qs : List PyData), toPys ds = some ps → toPys es = some qs → PyData.eqvAll ps qs = eqDs ds es
  | [], [], ps, qs, hp, hq => by cases hp; cases hq; rfl
  | [], e :: es, ps, qs, hp, hq => by
    cases hp
    rw [toPys] at hq
    split at hq
    · cases hq; rfl
    · cases hq
  | d :: ds, [], ps, qs, hp, hq => by
    cases hq
    rw [toPys] at hp
    split at hp
    · cases hp; rfl
    · cases hp
  | d :: ds, e :: es, ps, qs, hp, hq => by
    rw [toPys] at hp hq
    split at hp
    · rename_i p ps' h1 h2
      cases hp
      split at hq
      · rename_i q qs' h3 h4
        cases hq
        rw [PyData.eqvAll, eqDs, eqv_eqD d e p q h1 h3, eqvs_eqDs ds es ps' qs' h2 h4]
      · cases hq
    · cases hp
end
theorem pyEq_ok {d e : D} (hd : okD 60 d = true) (he : okD 60 e = true) : pyEq d e = some (eqD d e) := by
  obtain ⟨p, a1, a2, a3⟩ := okD_py 60 d hd
  obtain ⟨q, b1, b2, b3⟩ := okD_py 60 e he
  unfold pyEq
  simp only [a1, b1]
  have sh : ∀ r : PyData, r.canLay0 = true → r.depth ≤ 60 + 1 → SeqAt.shaped r = true := fun r h1 h2 => by
    unfold SeqAt.shaped
    rw [Bool.and_eq_true]
    exact ⟨h1, by rw [decide_eq_true_eq]; omega⟩
  rw [if_pos ⟨sh p a2 a3, sh q b2 b3⟩, eqv_eqD d e p q a1 b1]
theorem eq_gd {d e : D} {neg : Bool} {sl : Sl} {ce : List Cell} (hd : okD 60 d = true) (he : okD 60 e = true) : kEqG neg (.im d) (.im e) sl ce = .ok (.im (.bl (if neg then !eqD d e else eqD d e))) ce := by
  unfold kEqG
  simp only [asIm, pyEq_ok hd he]
theorem eqDs_map {α : Type} [DecidableEq α] (F : α → D) (h : ∀ a b, eqD (F a) (F b) = decide (a = b)) : ∀ xs ys : List α, eqDs (xs.map F) (ys.map F) = decide (xs = ys)
  | [], [] => by simp [eqDs]
  | [], y :: ys => by simp [eqDs]
  | x :: xs, [] => by simp [eqDs]
  | x :: xs, y :: ys => by
    rw [List.map_cons, List.map_cons, eqDs, h, eqDs_map F h xs ys]
    by_cases h1 : x = y <;> by_cases h2 : xs = ys <;> simp [h1, h2]
theorem okDs_map {α : Type} (F : α → D) (n : Nat) (h : ∀ a, okD n (F a) = true) : ∀ xs : List α, okDs n (xs.map F) = true
  | [] => by simp [okDs]
  | x :: xs => by rw [List.map_cons, okDs, h, okDs_map F n h xs]; rfl
theorem rng1 (n : Nat) (h : n < 2 ^ 60) : kRng1 [.im (.int (n : Int))] = some ((List.range n).map fun (i : Nat) => D.int (i : Int)) := by
  have hz : isz (n : Int) = true := isz_of (by omega)
  unfold kRng1
  simp only [hz, if_true, Int.toNat_natCast]
  unfold rangeD
  refine congrArg some (List.map_congr_left fun i _ => ?_)
  rw [Int.zero_add, Int.mul_one]
theorem atI_nat {α : Type} (l : List α) (k : Nat) (v : α) (h : l[k]? = some v) : atI l (k : Int) = some v := by
  have hlt := (List.getElem?_eq_some_iff.mp h).1
  unfold atI ixN
  rw [if_pos (by omega), if_pos (by omega), Int.toNat_natCast, Option.bind_some, h]
theorem ix_lst {l : List D} {k : Nat} {v : D} (h : l[k]? = some v) {sl : Sl} {ce : List Cell} : kIx (.im (.lst l)) (.im (.int k)) sl ce = .ok (.im v) ce := by
  unfold kIx
  simp only [asSq, atI_nat l k v h]
theorem ix_cell {n : Nat} {l : List D} {k : Nat} {v : D} {ce : List Cell} (hc : ce[n]? = some (.lst l)) (h : l[k]? = some v) {sl : Sl} : kIx (.cell n) (.im (.int k)) sl ce = .ok (.im v) ce := by
  unfold kIx
  simp only [asSq, hc, atI_nat l k v h]
theorem set_same {ce : List Cell} {k : Nat} {c : Cell} (h : ce[k]? = some c) : ce.set k c = ce := by
  refine List.ext_getElem? fun j => ?_
  by_cases hj : k = j
  · subst hj
    rw [List.getElem?_set_self (List.getElem?_eq_some_iff.mp h).1, h]
  · rw [List.getElem?_set_ne hj]
theorem set_take {ce : List Cell} {k : Nat} {c : Cell} : (ce.set k c).take ce.length = ce.set k c := List.take_of_length_le (by simp)
/-- a comprehension whose items change nothing -/
theorem lcD_map {β : Type} {own : List Nat} {g : GD} {t f : DE} {sl : Sl} (ce : List Cell) (F φ : β → D) (p : β → Bool) : ∀ (bs : List β) (acc : List D), acc.length + bs.length < 16777216 →
    (∀ b ∈ bs, ∀ acc : List D, ∃ sl1, g (F b) (wipeD sl own) = some sl1 ∧ t sl1 (ce ++ [.lst acc]) = .ok (.im (.bl (p b))) (ce ++ [.lst acc]) ∧ (p b = true → f sl1 (ce ++ [.lst acc]) = .ok (.im (φ b)) (ce ++ [.lst acc]))) →
    lcD own g t f ce.length (bs.map F) sl (ce ++ [.lst acc]) = .ok (.cell ce.length) (ce ++ [.lst (acc ++ (bs.filter p).map φ)])
  | [], acc, hl, h => by rw [List.map_nil, lcD]; simp
  | d :: ds, acc, hl, h => by
    rw [List.length_cons] at hl
    obtain ⟨sl1, h1, h2, h3⟩ := h d (List.mem_cons_self ..) acc
    rw [List.map_cons, lcD]
    simp only [h1, h2]
    cases hp : p d with
    | true =>
      have ih := lcD_map ce F φ p ds (acc ++ [φ d]) (by rw [List.length_append, List.length_singleton]; omega) fun d hd => h d (List.mem_cons_of_mem _ hd)
      rw [if_pos rfl]
      simp only [h3 hp, ce_get0, List.getElem?_cons_zero, ce_set0, List.set_cons_zero]
      rw [if_pos (by show acc.length < 16777216; omega), ih, List.filter_cons_of_pos hp, List.map_cons, List.append_assoc, List.singleton_append]
    | false =>
      have ih := lcD_map ce F φ p ds acc (by omega) fun d hd => h d (List.mem_cons_of_mem _ hd)
      rw [if_neg (by decide), ih, List.filter_cons_of_neg (by simp [hp])]
theorem lc_filter {β : Type} {own : List Nat} {fi : DI} {g : GD} {t f : DE} {sl : Sl} {ce : List Cell} (bs : List β) (F φ : β → D) (p : β → Bool) (hi : fi sl ce = .ok (bs.map F) ce) (hl : bs.length < 16777216)
    (h : ∀ b ∈ bs, ∀ acc : List D, ∃ sl1, g (F b) (wipeD sl own) = some sl1 ∧ t sl1 (ce ++ [.lst acc]) = .ok (.im (.bl (p b))) (ce ++ [.lst acc]) ∧ (p b = true → f sl1 (ce ++ [.lst acc]) = .ok (.im (φ b)) (ce ++ [.lst acc]))) :
    eSettle (eLcC own fi g t f) sl ce = .ok (.im (.lst ((bs.filter p).map φ))) ce := by
  unfold eSettle eLcC
  simp only [hi]
  rw [lcD_map ce F φ p bs [] (by rw [List.length_nil]; omega) h]
  simp only [ce_get0, List.getElem?_cons_zero, List.nil_append, ce_set0, ce_take]
theorem lc_map {β : Type} {own : List Nat} {fi : DI} {g : GD} {f : DE} {sl : Sl} {ce : List Cell} (bs : List β) (F φ : β → D) (hi : fi sl ce = .ok (bs.map F) ce) (hl : bs.length < 16777216)
    (h : ∀ b ∈ bs, ∀ acc : List D, ∃ sl1, g (F b) (wipeD sl own) = some sl1 ∧ f sl1 (ce ++ [.lst acc]) = .ok (.im (φ b)) (ce ++ [.lst acc])) :
    eSettle (eLcC own fi g (eC (.bl true)) f) sl ce = .ok (.im (.lst (bs.map φ))) ce := by
  have := lc_filter (own := own) (fi := fi) (g := g) (t := eC (.bl true)) (f := f) (sl := sl) (ce := ce) bs F φ (fun _ => true) hi hl (fun d hd acc => by
    obtain ⟨sl1, h1, h2⟩ := h d hd acc
    exact ⟨sl1, h1, rfl, fun _ => h2⟩)
  rw [this]
  congr 4
  simp
end ZZ
set_option Elab.async false
set_option linter.all false
set_option maxRecDepth 100000
set_option maxHeartbeats 4000000
namespace ZZ
open PySem PySem.Spec L2
theorem sl1 : ("<" : Str) = txt [.l] := txt_l.symm
theorem sl2 : ("=" : Str) = txt [.e] := txt_e.symm
theorem app_ok {ce : List Cell} {acc : List D} {d : D} {sl : Sl} (h : acc.length < LINE) : kAppend (.cell ce.length) [.im d] sl (ce ++ [.lst acc]) = .ok (.im .non) (ce ++ [.lst (acc ++ [d])]) := by
  unfold kAppend
  simp only [ce_get0, List.getElem?_cons_zero, h, if_true, ce_set0, List.set_cons_zero]
end ZZ
namespace ZZ
open PySem PySem.Spec L2
end ZZ
set_option Elab.async false
set_option linter.all false
set_option maxRecDepth 100000
set_option maxHeartbeats 4000000
namespace ZZ
open PySem PySem.Spec L2
def sh (k : Nat) (p : Nat × Nat) : Nat × Nat := (p.1 + k, p.2 + k)
end ZZ
set_option Elab.async false
set_option linter.all false
set_option maxRecDepth 100000
set_option maxHeartbeats 4000000
namespace ZZ
open PySem PySem.Spec L2
def enF : Nat → List D → List D
  | _, [] => []
  | k, d :: ds => .tup [.int (k : Nat), d] :: enF (k + 1) ds
theorem enF_eq (ds : List D) : enumD ds = enF 0 ds := by
  have key : ∀ (ds pre : List D), (List.range' pre.length ds.length).filterMap (fun (i : Nat) => (pre ++ ds)[i]?.map fun d => D.tup [.int (i : Int), d]) = enF pre.length ds := by
    intro ds
    induction ds with
    | nil => intro pre; rfl
    | cons d ds ih =>
      intro pre
      have h2 := ih (pre ++ [d])
      rw [List.length_cons, List.range'_succ, List.filterMap_cons]
      have e : (pre ++ d :: ds)[pre.length]? = some d := by simp
      rw [e, Option.map_some, enF]
      simp only
      rw [List.length_append, List.length_singleton, List.append_assoc, List.singleton_append] at h2
      rw [h2]
  have := key ds []
  rw [List.nil_append, List.length_nil] at this
  unfold enumD
  rw [List.range_eq_range']
  exact this
end ZZ
set_option Elab.async false
set_option linter.all false
set_option maxRecDepth 100000
set_option maxHeartbeats 4000000
namespace ZZ
open PySem PySem.Spec L2 L2H
noncomputable section
def flds : Nat → List Str
  | 0 => ["word"]
  | 1 => ["index"]
  | 3 => ["left", "right"]
  | 4 => ["left", "right"]
  | 5 => ["left", "right"]
  | 6 => ["left", "right"]
  | 7 => ["left", "right"]
  | _ => []
abbrev Zz (w : World) (K : PySem.W.Frag) (cl : Nat → Addr) : Zx := ⟨K, cl, flds, w⟩
abbrev e_BadText : Nat := 0
abbrev c_Older : Nat := 3
abbrev c_Younger : Nat := 4
abbrev c_One : Nat := 5
abbrev c_NotOlder : Nat := 6
abbrev c_NotYounger : Nat := 7
def cs_S : List Nat := [c_Older, c_Younger, c_One, c_NotOlder, c_NotYounger]
def rf_S (c d : Nat) : Bool := [(c_NotOlder, c_Younger), (c_NotOlder, c_One), (c_NotYounger, c_Older), (c_NotYounger, c_One)].contains (c, d)
def tc_S_WORD : List (Nat × Str) := [(c_Older, "older"), (c_Younger, "younger"), (c_One, "one"), (c_NotOlder, "not-older"), (c_NotYounger, "not-younger")]
def x_BadRecord (c : Nat) : Bool := [false, true, false].getD c false
def x_BadText (c : Nat) : Bool := [true, false, false].getD c false
def x_SiltError (c : Nat) : Bool := [true, true, true].getD c false
def x_ValueError (c : Nat) : Bool := [true, true, true].getD c false
def i_NotOlder : Ty → Option Bool
  | .t "NoneType" => some false
  | .t "bool" => some false
  | .t "int" => some false
  | .t "str" => some false
  | .t "tuple" => some false
  | .t "list" => some false
  | .c 3 => some false
  | .c 4 => some true
  | .c 5 => some true
  | .c 6 => some true
  | .c 7 => some false
  | _ => none
def i_NotYounger : Ty → Option Bool
  | .t "NoneType" => some false
  | .t "bool" => some false
  | .t "int" => some false
  | .t "str" => some false
  | .t "tuple" => some false
  | .t "list" => some false
  | .c 3 => some true
  | .c 4 => some false
  | .c 5 => some true
  | .c 6 => some false
  | .c 7 => some true
  | _ => none
def i_Older : Ty → Option Bool
  | .t "NoneType" => some false
  | .t "bool" => some false
  | .t "int" => some false
  | .t "str" => some false
  | .t "tuple" => some false
  | .t "list" => some false
  | .c 3 => some true
  | .c 4 => some false
  | .c 5 => some false
  | .c 6 => some false
  | .c 7 => some false
  | _ => none
def i_One : Ty → Option Bool
  | .t "NoneType" => some false
  | .t "bool" => some false
  | .t "int" => some false
  | .t "str" => some false
  | .t "tuple" => some false
  | .t "list" => some false
  | .c 3 => some false
  | .c 4 => some false
  | .c 5 => some true
  | .c 6 => some false
  | .c 7 => some false
  | _ => none
def i_Saying : Ty → Option Bool
  | .t "NoneType" => some false
  | .t "bool" => some false
  | .t "int" => some false
  | .t "str" => some false
  | .t "tuple" => some false
  | .t "list" => some false
  | .c 3 => some true
  | .c 4 => some true
  | .c 5 => some true
  | .c 6 => some true
  | .c 7 => some true
  | _ => none
def i_Younger : Ty → Option Bool
  | .t "NoneType" => some false
  | .t "bool" => some false
  | .t "int" => some false
  | .t "str" => some false
  | .t "tuple" => some false
  | .t "list" => some false
  | .c 3 => some false
  | .c 4 => some true
  | .c 5 => some false
  | .c 6 => some false
  | .c 7 => some false
  | _ => none
def i_bool : Ty → Option Bool
  | .t "NoneType" => some false
  | .t "bool" => some true
  | .t "int" => some false
  | .t "str" => some false
  | .t "tuple" => some false
  | .t "list" => some false
  | .c 3 => some false
  | .c 4 => some false
  | .c 5 => some false
  | .c 6 => some false
  | .c 7 => some false
  | _ => none
def i_int : Ty → Option Bool
  | .t "NoneType" => some false
  | .t "bool" => some true
  | .t "int" => some true
  | .t "str" => some false
  | .t "tuple" => some false
  | .t "list" => some false
  | .c 3 => some false
  | .c 4 => some false
  | .c 5 => some false
  | .c 6 => some false
  | .c 7 => some false
  | _ => none
def i_str : Ty → Option Bool
  | .t "NoneType" => some false
  | .t "bool" => some false
  | .t "int" => some false
  | .t "str" => some true
  | .t "tuple" => some false
  | .t "list" => some false
  | .c 3 => some false
  | .c 4 => some false
  | .c 5 => some false
  | .c 6 => some false
  | .c 7 => some false
  | _ => none
def el_parse_number_0 : DE :=
  (eBin (kInS false) (eV 1) (eC (.str "0123456789")))
def b_parse_number : DSt :=
  (sSeq (sIf (eOr (eBin kEq (eV 0) (eC (.str ""))) (eNot (eArgs [(eSettle (eLcC [1] (iExp (eV 0) itS) (gN 1) (eC (.bl true)) el_parse_number_0))] kAll)))
    (sRet (eC .non))
    sNil) (sSeq (sIf (eAnd (eBin kEq (eBin kIx (eV 0) (eC (.int 0))) (eC (.str "0"))) (eBin kNe (eV 0) (eC (.str "0"))))
    (sRet (eC .non))
    sNil) (sRet (eArgs [(eV 0)] kIntS))))
def f_parse_number : DF := mkD 2 b_parse_number
def b_Saying___init___at_Older : DSt :=
  (sSeq (sFldSet c_Older 0 (eV 0) (eV 1)) (sFldSet c_Older 1 (eV 0) (eV 2)))
def f_Saying___init___at_Older : DF := mkD 3 b_Saying___init___at_Older
def b_Saying___init___at_Younger : DSt :=
  (sSeq (sFldSet c_Younger 0 (eV 0) (eV 1)) (sFldSet c_Younger 1 (eV 0) (eV 2)))
def f_Saying___init___at_Younger : DF := mkD 3 b_Saying___init___at_Younger
def b_Saying___init___at_One : DSt :=
  (sSeq (sFldSet c_One 0 (eV 0) (eV 1)) (sFldSet c_One 1 (eV 0) (eV 2)))
def f_Saying___init___at_One : DF := mkD 3 b_Saying___init___at_One
def b_Saying___init___at_NotOlder : DSt :=
  (sSeq (sFldSet c_NotOlder 0 (eV 0) (eV 1)) (sFldSet c_NotOlder 1 (eV 0) (eV 2)))
def f_Saying___init___at_NotOlder : DF := mkD 3 b_Saying___init___at_NotOlder
def b_Saying___init___at_NotYounger : DSt :=
  (sSeq (sFldSet c_NotYounger 0 (eV 0) (eV 1)) (sFldSet c_NotYounger 1 (eV 0) (eV 2)))
def f_Saying___init___at_NotYounger : DF := mkD 3 b_Saying___init___at_NotYounger
def b_Saying_lets : DSt :=
  (sRet (eC (.bl true)))
def f_Saying_lets : DF := mkD 3 b_Saying_lets
def tb_sNO : Tb := [(c_NotOlder, f_Saying_lets), (c_Younger, f_Saying_lets), (c_One, f_Saying_lets)]
def b_NotOlder_lets : DSt :=
  (sRet (eAnd (eBin kGt (eV 2) (eUn (kFldG cs_S 1) (eV 0))) (eSup tb_sNO [(eV 1), (eV 2)])))
def f_NotOlder_lets : DF := mkD 4 b_NotOlder_lets
def tb_sNY : Tb := [(c_NotYounger, f_Saying_lets), (c_Older, f_Saying_lets), (c_One, f_NotOlder_lets)]
def b_NotYounger_lets : DSt :=
  (sRet (eAnd (eBin kLe (eV 1) (eUn (kFldG cs_S 1) (eV 0))) (eSup tb_sNY [(eV 1), (eV 2)])))
def f_NotYounger_lets : DF := mkD 4 b_NotYounger_lets
def tb_sO : Tb := [(c_Older, f_NotYounger_lets)]
def b_Older_lets : DSt :=
  (sRet (eAnd (eBin kLe (eV 2) (eUn (kFldG cs_S 1) (eV 0))) (eSup tb_sO [(eV 1), (eV 2)])))
def f_Older_lets : DF := mkD 4 b_Older_lets
def tb_sY : Tb := [(c_Younger, f_NotOlder_lets)]
def b_Younger_lets : DSt :=
  (sRet (eAnd (eBin kGt (eV 1) (eUn (kFldG cs_S 1) (eV 0))) (eSup tb_sY [(eV 1), (eV 2)])))
def f_Younger_lets : DF := mkD 4 b_Younger_lets
def tb_s1 : Tb := [(c_One, f_NotYounger_lets)]
def b_One_lets : DSt :=
  (sRet (eSup tb_s1 [(eV 1), (eV 2)]))
def f_One_lets : DF := mkD 4 b_One_lets
def b_Saying___eq__ : DSt :=
  (sSeq (sIf (eNot (eUn (kIsi i_Saying) (eV 1)))
    (sRet (eC (.bl false)))
    sNil) (sRet (eAnd (eBin kEq (eUn (kConT tc_S_WORD) (eV 0)) (eUn (kConT tc_S_WORD) (eV 1))) (eAnd (eBin kEq (eUn (kFldG cs_S 0) (eV 0)) (eUn (kFldG cs_S 0) (eV 1))) (eBin kEq (eUn (kFldG cs_S 1) (eV 0)) (eUn (kFldG cs_S 1) (eV 1)))))))
def f_Saying___eq__ : DF := mkD 2 b_Saying___eq__
def b_Saying_written : DSt :=
  (sRet (eFs [(eUn kFmt (eUn (kConT tc_S_WORD) (eV 0))), (eC (.str " ")), (eUn kFmt (eUn (kFldG cs_S 0) (eV 0))), (eC (.str " ")), (eUn kFmt (eUn (kFldG cs_S 1) (eV 0)))]))
def f_Saying_written : DF := mkD 1 b_Saying_written
def b_made_saying : DSt :=
  (sSeq (sIf (eBin kEq (eV 0) (eC (.str "older")))
    (sRet (eArgs [(eV 1), (eV 2)] (kMake c_Older 2 f_Saying___init___at_Older)))
    sNil) (sSeq (sIf (eBin kEq (eV 0) (eC (.str "younger")))
    (sRet (eArgs [(eV 1), (eV 2)] (kMake c_Younger 2 f_Saying___init___at_Younger)))
    sNil) (sSeq (sIf (eBin kEq (eV 0) (eC (.str "one")))
    (sRet (eArgs [(eV 1), (eV 2)] (kMake c_One 2 f_Saying___init___at_One)))
    sNil) (sSeq (sIf (eBin kEq (eV 0) (eC (.str "not-older")))
    (sRet (eArgs [(eV 1), (eV 2)] (kMake c_NotOlder 2 f_Saying___init___at_NotOlder)))
    sNil) (sSeq (sIf (eBin kEq (eV 0) (eC (.str "not-younger")))
    (sRet (eArgs [(eV 1), (eV 2)] (kMake c_NotYounger 2 f_Saying___init___at_NotYounger)))
    sNil) (sRet (eC .non)))))))
def f_made_saying : DF := mkD 3 b_made_saying
def lp_read_saying_0 : DSt :=
  (sSeq (sSet 5 (eArgs [(eV 4)] (kCall f_parse_number))) (sSeq (sIf (eBin (kIsN false) (eV 5) (eC .non))
    (sRaise e_BadText [(eBin kAdd (eV 3) (eC (.int 2)))])
    sNil) (sDrop (eMth tyL kAppend (eV 2) [(eV 5)]))))
def b_read_saying : DSt :=
  (sSeq (sSet 1 (eMth tyS kSplit (eV 0) [(eC (.str " "))])) (sSeq (sIf (eBin (kIsN false) (eArgs [(eBin kIx (eV 1) (eC (.int 0))), (eC (.int 0)), (eC (.int 0))] (kCall f_made_saying)) (eC .non))
    (sRaise e_BadText [(eC (.int 1))])
    sNil) (sSeq (sSet 2 (eArgs [] kLstC)) (sSeq (sFor (iArgs [(eSlice (eV 1) (some (eC (.int 1))) (some (eC (.int 3))))] kEnum) (gT [(gN 3), (gN 4)]) lp_read_saying_0) (sSeq (sIf (eBin kGt (eArgs [(eV 1)] kLen) (eC (.int 3)))
    (sRaise e_BadText [(eC (.int 4))])
    sNil) (sSeq (sIf (eBin kLt (eArgs [(eV 1)] kLen) (eC (.int 3)))
    (sRaise e_BadText [(eBin kAdd (eArgs [(eV 1)] kLen) (eC (.int 1)))])
    sNil) (sRet (eArgs [(eBin kIx (eV 1) (eC (.int 0))), (eBin kIx (eV 2) (eC (.int 0))), (eBin kIx (eV 2) (eC (.int 1)))] (kCall f_made_saying)))))))))
def f_read_saying : DF := mkD 6 b_read_saying
def b__law_mix : DSt :=
  (sSeq (sSet 2 (eBin kMod (eArgs [(eBin kAdd (eBin kMul (eBin kMul (eV 0) (eC (.int 97))) (eBin kAdd (eV 1) (eC (.int 1)))) (eBin kMul (eC (.int 31)) (eV 1)))] kInt) (eC (.int 1000003)))) (sRet (eBin kAdd (eV 2) (eBin kDiv (eBin kMul (eV 2) (eV 2)) (eC (.int 1013))))))
def f__law_mix : DF := mkD 3 b__law_mix
def lp__law_pool_0 : DSt :=
  (sIf (eAnd (eTru (eV 6)) (eBin kGt (eV 5) (eC (.int 0))))
    (sSeq (sDrop (eMth tyL kAppend (eV 2) [(eBin kMod (eArgs [(eV 5)] kInt) (eC (.int 1000003)))])) (sSet 5 (eBin kDiv (eV 5) (eC (.int 1000003)))))
    (sIf (eAnd (eNot (eTru (eV 6))) (eBin kLt (eV 7) (eC (.int 6))))
    (sDrop (eMth tyL kAppend (eV 2) [(eArgs [(eBin kIx (eV 0) (eV 4)), (eV 7)] (kCall f__law_mix))]))
    sNil))
def lp__law_pool_1 : DSt :=
  (sSeq (sSet 3 (eBin kMod (eArgs [(eBin kAdd (eV 3) (eBin kMul (eBin kIx (eV 0) (eV 4)) (eBin kAdd (eV 4) (eC (.int 1)))))] kInt) (eC (.int 1000003)))) (sSeq (sSet 5 (eArgs [(eBin kIx (eV 0) (eV 4))] kAbs)) (sSeq (sSet 6 (eBin kGe (eV 5) (eBin kPow (eC (.int 10)) (eC (.int 18))))) (sFor (iArgs [(eC (.int 60))] kRng1) (gN 7) lp__law_pool_0))))
def lp__law_pool_2 : DSt :=
  (sIf (eBin kLt (eArgs [(eV 2)] kLen) (eV 1))
    (sDrop (eMth tyL kAppend (eV 2) [(eArgs [(eV 3), (eArgs [(eV 2)] kLen)] (kCall f__law_mix))]))
    sNil)
def b__law_pool : DSt :=
  (sSeq (sSet 2 (eArgs [] kLstC)) (sSeq (sSet 3 (eC (.int 0))) (sSeq (sFor (iArgs [(eArgs [(eArgs [(eV 0)] kLen), (eC (.int 63))] kMin)] kRng1) (gN 4) lp__law_pool_1) (sSeq (sFor (iArgs [(eV 1)] kRng1) (gN 7) lp__law_pool_2) (sRet (eV 2))))))
def f__law_pool : DF := mkD 8 b__law_pool
def b__law_draw : DSt :=
  (sSeq (sIf (eBin kEq (eArgs [(eV 0)] kLen) (eC (.int 0)))
    (sRet (eC (.int 0)))
    sNil) (sRet (eBin kMod (eArgs [(eMth tyL kPopAt (eV 0) [(eC (.int 0))])] kInt) (eV 1))))
def f__law_draw : DF := mkD 2 b__law_draw
def lp__law_number_0 : DSt :=
  (sSet 2 (eBin kAdd (eBin kMul (eV 2) (eC (.int 1000003))) (eArgs [(eV 0), (eC (.int 1000003))] (kCall f__law_draw))))
def b__law_number : DSt :=
  (sSeq (sSet 1 (eArgs [(eV 0), (eC (.int 8))] (kCall f__law_draw))) (sSeq (sSet 2 (eArgs [(eV 0), (eC (.int 5))] (kCall f__law_draw))) (sSeq (sIf (eBin kEq (eV 1) (eC (.int 4)))
    (sFor (iArgs [(eC (.int 5))] kRng1) (gN 3) lp__law_number_0)
    sNil) (sRet (eBin kMod (eArgs [(eV 2)] kInt) (eBin kPow (eC (.int 10)) (eC (.int 30))))))))
def f__law_number : DF := mkD 4 b__law_number
def b__law_whole : DSt :=
  (sRet (eAnd (eUn (kIsi i_int) (eV 0)) (eNot (eUn (kIsi i_bool) (eV 0)))))
def f__law_whole : DF := mkD 1 b__law_whole
def b__law_saying : DSt :=
  (sSeq (sIf (eBin kEq (eBin kIx (eV 0) (eC (.int 0))) (eC (.str "older")))
    (sRet (eArgs [(eBin kIx (eV 0) (eC (.int 1))), (eBin kIx (eV 0) (eC (.int 2)))] (kMake c_Older 2 f_Saying___init___at_Older)))
    sNil) (sSeq (sIf (eBin kEq (eBin kIx (eV 0) (eC (.int 0))) (eC (.str "younger")))
    (sRet (eArgs [(eBin kIx (eV 0) (eC (.int 1))), (eBin kIx (eV 0) (eC (.int 2)))] (kMake c_Younger 2 f_Saying___init___at_Younger)))
    sNil) (sSeq (sIf (eBin kEq (eBin kIx (eV 0) (eC (.int 0))) (eC (.str "one")))
    (sRet (eArgs [(eBin kIx (eV 0) (eC (.int 1))), (eBin kIx (eV 0) (eC (.int 2)))] (kMake c_One 2 f_Saying___init___at_One)))
    sNil) (sSeq (sIf (eBin kEq (eBin kIx (eV 0) (eC (.int 0))) (eC (.str "not-older")))
    (sRet (eArgs [(eBin kIx (eV 0) (eC (.int 1))), (eBin kIx (eV 0) (eC (.int 2)))] (kMake c_NotOlder 2 f_Saying___init___at_NotOlder)))
    sNil) (sRet (eArgs [(eBin kIx (eV 0) (eC (.int 1))), (eBin kIx (eV 0) (eC (.int 2)))] (kMake c_NotYounger 2 f_Saying___init___at_NotYounger)))))))
def f__law_saying : DF := mkD 1 b__law_saying
def b__law_is : DSt :=
  (sSeq (sIf (eTru (eV 1))
    (sRet (eBin (kIsB false) (eV 0) (eC (.bl true))))
    sNil) (sRet (eBin (kIsB false) (eV 0) (eC (.bl false)))))
def f__law_is : DF := mkD 2 b__law_is
def b__law_class : DSt :=
  (sSeq (sSet 1 (eArgs [(eUn (kIsi i_One) (eV 0)), (eUn (kIsi i_Older) (eV 0)), (eUn (kIsi i_Younger) (eV 0))] kLst)) (sSeq (sSet 1 (eBin kAdd (eV 1) (eArgs [(eUn (kIsi i_NotOlder) (eV 0)), (eUn (kIsi i_NotYounger) (eV 0)), (eUn (kIsi i_Saying) (eV 0))] kLst))) (sSeq (sIf (eBin kEq (eV 1) (eArgs [(eC (.bl true)), (eC (.bl false)), (eC (.bl false)), (eC (.bl true)), (eC (.bl true)), (eC (.bl true))] kLst))
    (sRet (eC (.str "one")))
    sNil) (sSeq (sIf (eBin kEq (eV 1) (eArgs [(eC (.bl false)), (eC (.bl true)), (eC (.bl false)), (eC (.bl false)), (eC (.bl true)), (eC (.bl true))] kLst))
    (sRet (eC (.str "older")))
    sNil) (sSeq (sIf (eBin kEq (eV 1) (eArgs [(eC (.bl false)), (eC (.bl false)), (eC (.bl true)), (eC (.bl true)), (eC (.bl false)), (eC (.bl true))] kLst))
    (sRet (eC (.str "younger")))
    sNil) (sSeq (sIf (eBin kEq (eV 1) (eArgs [(eC (.bl false)), (eC (.bl false)), (eC (.bl false)), (eC (.bl true)), (eC (.bl false)), (eC (.bl true))] kLst))
    (sRet (eC (.str "not-older")))
    sNil) (sSeq (sIf (eBin kEq (eV 1) (eArgs [(eC (.bl false)), (eC (.bl false)), (eC (.bl false)), (eC (.bl false)), (eC (.bl true)), (eC (.bl true))] kLst))
    (sRet (eC (.str "not-younger")))
    sNil) (sRet (eC (.str "none"))))))))))
def f__law_class : DF := mkD 2 b__law_class
def b__law_said : DSt :=
  (sSeq (sIf (eOr (eBin kNe (eArgs [(eV 0)] (kCall f__law_class)) (eBin kIx (eV 1) (eC (.int 0)))) (eOr (eNot (eArgs [(eUn (kFldG cs_S 0) (eV 0))] (kCall f__law_whole))) (eNot (eArgs [(eUn (kFldG cs_S 1) (eV 0))] (kCall f__law_whole)))))
    (sRet (eC (.bl false)))
    sNil) (sRet (eAnd (eBin kEq (eUn (kFldG cs_S 0) (eV 0)) (eBin kIx (eV 1) (eC (.int 1)))) (eBin kEq (eUn (kFldG cs_S 1) (eV 0)) (eBin kIx (eV 1) (eC (.int 2)))))))
def f__law_said : DF := mkD 2 b__law_said
def b__law_char : DSt :=
  (sSeq (sSet 1 (eC (.str " !\"#$&'()*+,-./0123456789:;<=>?@ABCDEFGHIJKLMNOPQRSTUVWXYZ[\\]^_`"))) (sSeq (sSet 1 (eBin kAdd (eV 1) (eC (.str "abcdefghijklmnopqrstuvwxyz{|}~")))) (sRet (eBin kIx (eV 1) (eBin kMod (eArgs [(eV 0)] kInt) (eC (.int 94)))))))
def f__law_char : DF := mkD 2 b__law_char
def lp__law_value_0 : DSt :=
  (sIf (eBin (kInS true) (eV 1) (eC (.str "0123456789")))
    (sRet (eUn kNeg (eC (.int 1))))
    sNil)
def b__law_value : DSt :=
  (sSeq (sIf (eOr (eBin kEq (eV 0) (eC (.str ""))) (eAnd (eBin kGt (eArgs [(eV 0)] kLen) (eC (.int 1))) (eBin kEq (eBin kIx (eV 0) (eC (.int 0))) (eC (.str "0")))))
    (sRet (eUn kNeg (eC (.int 1))))
    sNil) (sSeq (sFor (iExp (eV 0) itS) (gN 1) lp__law_value_0) (sRet (eArgs [(eV 0)] kIntS))))
def f__law_value : DF := mkD 2 b__law_value
def b__law_odd : DSt :=
  (sSeq (sSet 1 (eArgs [(eC (.str "")), (eC (.str "older")), (eC (.str "younger")), (eC (.str "one")), (eC (.str "not-older")), (eC (.str "not-younger")), (eC (.str "Older")), (eC (.str "not")), (eC (.str "notolder")), (eC (.str "0")), (eC (.str "00")), (eC (.str "01"))] kLst)) (sSeq (sSet 1 (eBin kAdd (eV 1) (eArgs [(eC (.str "-1")), (eC (.str "+1")), (eC (.str "1.")), (eC (.str "x")), (eC (.str "one:")), (eC (.str "older-not")), (eC (.str "7")), (eC (.str "not_older"))] kLst))) (sRet (eBin kIx (eV 1) (eBin kMod (eArgs [(eV 0)] kInt) (eC (.int 20)))))))
def f__law_odd : DF := mkD 2 b__law_odd
def b__law_spoiled : DSt :=
  (sSeq (sSet 1 (eArgs [(eV 1)] kListC)) (sSeq (sSet 2 (eArgs [(eV 0), (eArgs [(eV 1)] kLen)] (kCall f__law_draw))) (sSeq (sSet 3 (eArgs [(eV 0), (eC (.int 4))] (kCall f__law_draw))) (sSeq (sSet 4 (eBin kIx (eV 1) (eV 2))) (sSeq (sSet 5 (eArgs [(eV 0), (eBin kAdd (eArgs [(eV 4)] kLen) (eC (.int 1)))] (kCall f__law_draw))) (sSeq (sSet 6 (eArgs [(eArgs [(eV 0), (eC (.int 20))] (kCall f__law_draw))] (kCall f__law_odd))) (sSeq (sSet 7 (eArgs [(eArgs [(eV 0), (eC (.int 94))] (kCall f__law_draw))] (kCall f__law_char))) (sSeq (sIf (eBin kEq (eV 3) (eC (.int 0)))
    (sSetIx (eV 1) (eV 2) (eV 6))
    sNil) (sSeq (sIf (eBin kEq (eV 3) (eC (.int 1)))
    (sSetIx (eV 1) (eV 2) (eBin kAdd (eBin kAdd (eSlice (eV 4) none (some (eV 5))) (eV 7)) (eSlice (eV 4) (some (eV 5)) none)))
    sNil) (sSeq (sIf (eBin kEq (eV 3) (eC (.int 2)))
    (sSetIx (eV 1) (eV 2) (eBin kAdd (eSlice (eV 4) none (some (eV 5))) (eSlice (eV 4) (some (eBin kAdd (eV 5) (eC (.int 1)))) none)))
    sNil) (sSeq (sIf (eBin kEq (eV 3) (eC (.int 3)))
    (sSeq (sSetIx (eV 1) (eV 2) (eBin kIx (eV 1) (eBin kSub (eV 2) (eC (.int 1))))) (sSetIx (eV 1) (eBin kSub (eV 2) (eC (.int 1))) (eV 4)))
    sNil) (sRet (eV 1)))))))))))))
def f__law_spoiled : DF := mkD 8 b__law_spoiled
def b__law_due : DSt :=
  (sSeq (sSet 1 (eArgs [(eC (.str "older")), (eC (.str "younger")), (eC (.str "one")), (eC (.str "not-older")), (eC (.str "not-younger"))] kLst)) (sSeq (sIf (eBin (kInQ true) (eBin kIx (eV 0) (eC (.int 0))) (eV 1))
    (sRet (eC (.int 1)))
    sNil) (sSeq (sIf (eAnd (eBin kGt (eArgs [(eV 0)] kLen) (eC (.int 1))) (eBin kLt (eArgs [(eBin kIx (eV 0) (eC (.int 1)))] (kCall f__law_value)) (eC (.int 0))))
    (sRet (eC (.int 2)))
    sNil) (sSeq (sIf (eAnd (eBin kGt (eArgs [(eV 0)] kLen) (eC (.int 2))) (eBin kLt (eArgs [(eBin kIx (eV 0) (eC (.int 2)))] (kCall f__law_value)) (eC (.int 0))))
    (sRet (eC (.int 3)))
    sNil) (sSeq (sIf (eBin kGt (eArgs [(eV 0)] kLen) (eC (.int 3)))
    (sRet (eC (.int 4)))
    sNil) (sSeq (sIf (eBin kLt (eArgs [(eV 0)] kLen) (eC (.int 3)))
    (sRet (eBin kAdd (eArgs [(eV 0)] kLen) (eC (.int 1))))
    sNil) (sRet (eC (.int 0)))))))))
def f__law_due : DF := mkD 2 b__law_due
def b__law_base : DSt :=
  (sSeq (sTry 3 x_SiltError (some 1)
    (sDrop (eArgs [(eV 0)] (kCall f_read_saying)))
    (sRet (eAnd (eUn (kIsE (fun c => some (x_BadText c))) (eV 1)) (eAnd (eUn (kIsE (fun c => some (x_ValueError c))) (eV 1)) (eNot (eUn (kIsE (fun c => some (x_BadRecord c))) (eV 1))))))) (sRet (eC (.bl false))))
def f__law_base : DF := mkD 2 b__law_base
def b__law_right : DSt :=
  (sSeq (sSet 1 (eMth tyS kSplit (eV 0) [(eC (.str " "))])) (sSeq (sSet 2 (eArgs [(eV 1)] (kCall f__law_due))) (sSeq (sSet 3 (eC (.int 0))) (sSeq (sSet 4 (eC .non)) (sSeq (sTry 3 x_BadText (some 5)
    (sSet 4 (eArgs [(eV 0)] (kCall f_read_saying)))
    (sSet 3 (eUn (kXf [0] 0) (eV 5)))) (sSeq (sIf (eBin kGt (eV 2) (eC (.int 0)))
    (sRet (eAnd (eArgs [(eV 3)] (kCall f__law_whole)) (eAnd (eBin kEq (eV 3) (eV 2)) (eAnd (eBin (kIsN false) (eV 4) (eC .non)) (eArgs [(eV 0)] (kCall f__law_base))))))
    sNil) (sSeq (sIf (eBin (kIsN false) (eV 4) (eC .non))
    (sRet (eC (.bl false)))
    sNil) (sRet (eArgs [(eV 4), (eArgs [(eBin kIx (eV 1) (eC (.int 0))), (eArgs [(eBin kIx (eV 1) (eC (.int 1)))] (kCall f__law_value)), (eArgs [(eBin kIx (eV 1) (eC (.int 2)))] (kCall f__law_value))] kTup)] (kCall f__law_said))))))))))
def f__law_right : DF := mkD 6 b__law_right
def tb_written : Tb := [(c_Older, f_Saying_written), (c_Younger, f_Saying_written), (c_One, f_Saying_written), (c_NotOlder, f_Saying_written), (c_NotYounger, f_Saying_written)]
def lp_law_0 : DSt :=
  (sSet 7 (eArgs [(eV 1), (eV 7)] (kCall f__law_spoiled)))
def b_law : DSt :=
  (sSeq (sSet 1 (eArgs [(eV 0), (eC (.int 150))] (kCall f__law_pool))) (sSeq (sSet 2 (eArgs [(eC (.str "older")), (eC (.str "younger")), (eC (.str "one")), (eC (.str "not-older")), (eC (.str "not-younger"))] kLst)) (sSeq (sSet 3 (eArgs [(eBin kIx (eV 2) (eArgs [(eV 1), (eC (.int 5))] (kCall f__law_draw))), (eArgs [(eV 1)] (kCall f__law_number)), (eArgs [(eV 1)] (kCall f__law_number))] kTup)) (sSeq (sSet 4 (eBin kAdd (eBin kAdd (eBin kAdd (eBin kAdd (eBin kIx (eV 3) (eC (.int 0))) (eC (.str " "))) (eArgs [(eBin kIx (eV 3) (eC (.int 1)))] kStrB)) (eC (.str " "))) (eArgs [(eBin kIx (eV 3) (eC (.int 2)))] kStrB))) (sSeq (sSet 5 (eArgs [(eV 3)] (kCall f__law_saying))) (sSeq (sIf (eOr (eNot (eUn (kIsi i_str) (eMthT tb_written (eV 5) []))) (eOr (eBin kNe (eMthT tb_written (eV 5) []) (eV 4)) (eNot (eArgs [(eV 4)] (kCall f__law_right)))))
    (sRet (eC (.bl false)))
    sNil) (sSeq (sSet 6 (eArgs [(eV 4)] (kCall f_read_saying))) (sSeq (sIf (eOr (eNot (eArgs [(eBin (kOwnE cs_S rf_S f_Saying___eq__) (eV 6) (eV 5)), (eC (.bl true))] (kCall f__law_is))) (eBin kNe (eMthT tb_written (eV 6) []) (eV 4)))
    (sRet (eC (.bl false)))
    sNil) (sSeq (sSet 7 (eMth tyS kSplit (eV 4) [(eC (.str " "))])) (sSeq (sFor (iArgs [(eBin kAdd (eC (.int 1)) (eArgs [(eV 1), (eC (.int 2))] (kCall f__law_draw)))] kRng1) (gN 8) lp_law_0) (sSeq (sSet 9 (eArgs [(eV 1), (eC (.int 8))] (kCall f__law_draw))) (sSeq (sIf (eBin kEq (eV 9) (eC (.int 0)))
    (sSet 7 (eSlice (eV 7) none (some (eC (.int 2)))))
    sNil) (sSeq (sIf (eBin kEq (eV 9) (eC (.int 1)))
    (sSet 7 (eSlice (eV 7) none (some (eC (.int 1)))))
    sNil) (sSeq (sIf (eBin kEq (eV 9) (eC (.int 2)))
    (sSet 7 (eBin kAdd (eV 7) (eArgs [(eC (.str ""))] kLst)))
    sNil) (sSeq (sIf (eBin kEq (eV 9) (eC (.int 3)))
    (sSet 7 (eBin kAdd (eV 7) (eArgs [(eArgs [(eArgs [(eV 1), (eC (.int 20))] (kCall f__law_draw))] (kCall f__law_odd))] kLst)))
    sNil) (sSeq (sIf (eNot (eArgs [(eMth tyS kJoin (eC (.str " ")) [(eV 7)])] (kCall f__law_right)))
    (sRet (eC (.bl false)))
    sNil) (sSeq (sSet 10 (eArgs [(eBin kIx (eV 3) (eC (.int 0))), (eBin kSub (eBin kSub (eBin kPow (eC (.int 10)) (eC (.int 60))) (eC (.int 1))) (eArgs [(eV 1)] (kCall f__law_number))), (eBin kAdd (eBin kPow (eC (.int 10)) (eC (.int 59))) (eBin kIx (eV 3) (eC (.int 1))))] kTup)) (sSeq (sSet 4 (eBin kAdd (eBin kAdd (eBin kAdd (eBin kAdd (eBin kIx (eV 10) (eC (.int 0))) (eC (.str " "))) (eArgs [(eBin kIx (eV 10) (eC (.int 1)))] kStrB)) (eC (.str " "))) (eArgs [(eBin kIx (eV 10) (eC (.int 2)))] kStrB))) (sRet (eAnd (eArgs [(eV 4)] (kCall f__law_right)) (eBin kEq (eMthT tb_written (eArgs [(eV 10)] (kCall f__law_saying)) []) (eV 4))))))))))))))))))))))
def f_law : DF := mkD 11 b_law
end
end ZZ
set_option Elab.async false
set_option linter.all false
set_option maxRecDepth 100000
set_option maxHeartbeats 4000000
namespace ZZ
open PySem PySem.Spec L2 L2H
theorem sc_BadText___init__ : FnScope ["self", "word"] ["self", "word"] (defScope s_BadText___init__) := ⟨rfl, rfl, rfl, by decide +kernel, rfl, by decide +kernel, by decide +kernel⟩
theorem sc_parse_number : FnScope n_parse_number ["word"] (defScope s_parse_number) := ⟨rfl, rfl, rfl, by decide +kernel, rfl, by decide +kernel, by decide +kernel⟩
theorem sc_Saying___init___at_Older : FnScope n_Saying___init___at_Older ["self", "left", "right"] (defScope s_Saying___init___at_Older) := ⟨rfl, rfl, rfl, by decide +kernel, rfl, by decide +kernel, by decide +kernel⟩
theorem sc_Saying___init___at_Younger : FnScope n_Saying___init___at_Younger ["self", "left", "right"] (defScope s_Saying___init___at_Younger) := ⟨rfl, rfl, rfl, by decide +kernel, rfl, by decide +kernel, by decide +kernel⟩
theorem sc_Saying___init___at_One : FnScope n_Saying___init___at_One ["self", "left", "right"] (defScope s_Saying___init___at_One) := ⟨rfl, rfl, rfl, by decide +kernel, rfl, by decide +kernel, by decide +kernel⟩
theorem sc_Saying___init___at_NotOlder : FnScope n_Saying___init___at_NotOlder ["self", "left", "right"] (defScope s_Saying___init___at_NotOlder) := ⟨rfl, rfl, rfl, by decide +kernel, rfl, by decide +kernel, by decide +kernel⟩
theorem sc_Saying___init___at_NotYounger : FnScope n_Saying___init___at_NotYounger ["self", "left", "right"] (defScope s_Saying___init___at_NotYounger) := ⟨rfl, rfl, rfl, by decide +kernel, rfl, by decide +kernel, by decide +kernel⟩
theorem sc_Saying___eq__ : FnScope n_Saying___eq__ ["self", "other"] (defScope s_Saying___eq__) := ⟨rfl, rfl, rfl, by decide +kernel, rfl, by decide +kernel, by decide +kernel⟩
theorem sc_Saying_written : FnScope n_Saying_written ["self"] (defScope s_Saying_written) := ⟨rfl, rfl, rfl, by decide +kernel, rfl, by decide +kernel, by decide +kernel⟩
theorem sc_made_saying : FnScope n_made_saying ["word", "left", "right"] (defScope s_made_saying) := ⟨rfl, rfl, rfl, by decide +kernel, rfl, by decide +kernel, by decide +kernel⟩
theorem sc_read_saying : FnScope n_read_saying ["text"] (defScope s_read_saying) := ⟨rfl, rfl, rfl, by decide +kernel, rfl, by decide +kernel, by decide +kernel⟩
theorem sc__law_mix : FnScope n__law_mix ["_law_cell", "_law_turn"] (defScope s__law_mix) := ⟨rfl, rfl, rfl, by decide +kernel, rfl, by decide +kernel, by decide +kernel⟩
theorem sc__law_pool : FnScope n__law_pool ["_law_script", "_law_many"] (defScope s__law_pool) := ⟨rfl, rfl, rfl, by decide +kernel, rfl, by decide +kernel, by decide +kernel⟩
theorem sc__law_draw : FnScope n__law_draw ["_law_pool_here", "_law_bound"] (defScope s__law_draw) := ⟨rfl, rfl, rfl, by decide +kernel, rfl, by decide +kernel, by decide +kernel⟩
theorem sc__law_number : FnScope n__law_number ["_law_pool_here"] (defScope s__law_number) := ⟨rfl, rfl, rfl, by decide +kernel, rfl, by decide +kernel, by decide +kernel⟩
theorem sc__law_whole : FnScope n__law_whole ["_law_number_here"] (defScope s__law_whole) := ⟨rfl, rfl, rfl, by decide +kernel, rfl, by decide +kernel, by decide +kernel⟩
theorem sc__law_saying : FnScope n__law_saying ["_law_item"] (defScope s__law_saying) := ⟨rfl, rfl, rfl, by decide +kernel, rfl, by decide +kernel, by decide +kernel⟩
theorem sc__law_is : FnScope n__law_is ["_law_value_here", "_law_due_here"] (defScope s__law_is) := ⟨rfl, rfl, rfl, by decide +kernel, rfl, by decide +kernel, by decide +kernel⟩
theorem sc__law_class : FnScope n__law_class ["_law_saying_here"] (defScope s__law_class) := ⟨rfl, rfl, rfl, by decide +kernel, rfl, by decide +kernel, by decide +kernel⟩
theorem sc__law_said : FnScope n__law_said ["_law_saying_here", "_law_item"] (defScope s__law_said) := ⟨rfl, rfl, rfl, by decide +kernel, rfl, by decide +kernel, by decide +kernel⟩
theorem sc__law_char : FnScope n__law_char ["_law_number_here"] (defScope s__law_char) := ⟨rfl, rfl, rfl, by decide +kernel, rfl, by decide +kernel, by decide +kernel⟩
theorem sc__law_value : FnScope n__law_value ["_law_word"] (defScope s__law_value) := ⟨rfl, rfl, rfl, by decide +kernel, rfl, by decide +kernel, by decide +kernel⟩
theorem sc__law_odd : FnScope n__law_odd ["_law_number_here"] (defScope s__law_odd) := ⟨rfl, rfl, rfl, by decide +kernel, rfl, by decide +kernel, by decide +kernel⟩
theorem sc__law_spoiled : FnScope n__law_spoiled ["_law_pool_here", "_law_words"] (defScope s__law_spoiled) := ⟨rfl, rfl, rfl, by decide +kernel, rfl, by decide +kernel, by decide +kernel⟩
theorem sc__law_due : FnScope n__law_due ["_law_parts"] (defScope s__law_due) := ⟨rfl, rfl, rfl, by decide +kernel, rfl, by decide +kernel, by decide +kernel⟩
theorem sc__law_base : FnScope n__law_base ["_law_text"] (defScope s__law_base) := ⟨rfl, rfl, rfl, by decide +kernel, rfl, by decide +kernel, by decide +kernel⟩
theorem sc__law_right : FnScope n__law_right ["_law_text"] (defScope s__law_right) := ⟨rfl, rfl, rfl, by decide +kernel, rfl, by decide +kernel, by decide +kernel⟩
theorem sc_law : FnScope n_law ["_law_script"] (defScope s_law) := ⟨rfl, rfl, rfl, by decide +kernel, rfl, by decide +kernel, by decide +kernel⟩
/-- what the top has written -/
structure Tx (P : Program) (w : World) (K : PySem.W.Frag) (mg : Str → Option Value) (ad cl : Nat → Addr) : Prop where
  b_ValueError : mg "ValueError" = none
  b_abs : mg "abs" = none
  b_all : mg "all" = none
  b_bool : mg "bool" = none
  b_enumerate : mg "enumerate" = none
  b_int : mg "int" = none
  b_isinstance : mg "isinstance" = none
  b_len : mg "len" = none
  b_list : mg "list" = none
  b_min : mg "min" = none
  b_range : mg "range" = none
  b_str : mg "str" = none
  b_super : mg "super" = none
  f_parse_number : ∃ fd, Fun K "parse_number" "parse_number" s_parse_number (ad 0) fd ∧ Binds K fd ["word"] []
  g_parse_number : mg "parse_number" = some (.ref (ad 0))
  f_Saying___init___at_Older : ∃ fd, Fun K "__init__" "Saying.__init__" s_Saying___init___at_Older (ad 1) fd ∧ Binds K fd ["self", "left", "right"] []
  f_Saying___init___at_Younger : ∃ fd, Fun K "__init__" "Saying.__init__" s_Saying___init___at_Younger (ad 2) fd ∧ Binds K fd ["self", "left", "right"] []
  f_Saying___init___at_One : ∃ fd, Fun K "__init__" "Saying.__init__" s_Saying___init___at_One (ad 3) fd ∧ Binds K fd ["self", "left", "right"] []
  f_Saying___init___at_NotOlder : ∃ fd, Fun K "__init__" "Saying.__init__" s_Saying___init___at_NotOlder (ad 4) fd ∧ Binds K fd ["self", "left", "right"] []
  f_Saying___init___at_NotYounger : ∃ fd, Fun K "__init__" "Saying.__init__" s_Saying___init___at_NotYounger (ad 5) fd ∧ Binds K fd ["self", "left", "right"] []
  f_Saying_lets : ∃ fd, Fun K "lets" "Saying.lets" s_Saying_lets (ad 6) fd ∧ Binds K fd ["self", "before", "after"] []
  f_NotOlder_lets : ∃ fd cc cda, SupDef K P.main.file "lets" "NotOlder.lets" s_NotOlder_lets (ad 7) fd (cl 6) cc cda ∧ Binds K fd ["self", "before", "after"] [] ∧ PySem.W.keepIn K (.ref (ad 7)) = true
  f_NotYounger_lets : ∃ fd cc cda, SupDef K P.main.file "lets" "NotYounger.lets" s_NotYounger_lets (ad 8) fd (cl 7) cc cda ∧ Binds K fd ["self", "before", "after"] [] ∧ PySem.W.keepIn K (.ref (ad 8)) = true
  f_Older_lets : ∃ fd cc cda, SupDef K P.main.file "lets" "Older.lets" s_Older_lets (ad 9) fd (cl 3) cc cda ∧ Binds K fd ["self", "before", "after"] [] ∧ PySem.W.keepIn K (.ref (ad 9)) = true
  f_Younger_lets : ∃ fd cc cda, SupDef K P.main.file "lets" "Younger.lets" s_Younger_lets (ad 10) fd (cl 4) cc cda ∧ Binds K fd ["self", "before", "after"] [] ∧ PySem.W.keepIn K (.ref (ad 10)) = true
  f_One_lets : ∃ fd cc cda, SupDef K P.main.file "lets" "One.lets" s_One_lets (ad 11) fd (cl 5) cc cda ∧ Binds K fd ["self", "before", "after"] [] ∧ PySem.W.keepIn K (.ref (ad 11)) = true
  f_Saying___eq__ : ∃ fd, Fun K "__eq__" "Saying.__eq__" s_Saying___eq__ (ad 12) fd ∧ Binds K fd ["self", "other"] []
  f_Saying_written : ∃ fd, Fun K "written" "Saying.written" s_Saying_written (ad 13) fd ∧ Binds K fd ["self"] []
  f_made_saying : ∃ fd, Fun K "made_saying" "made_saying" s_made_saying (ad 14) fd ∧ Binds K fd ["word", "left", "right"] []
  g_made_saying : mg "made_saying" = some (.ref (ad 14))
  f_read_saying : ∃ fd, Fun K "read_saying" "read_saying" s_read_saying (ad 15) fd ∧ Binds K fd ["text"] []
  g_read_saying : mg "read_saying" = some (.ref (ad 15))
  f__law_mix : ∃ fd, Fun K "_law_mix" "_law_mix" s__law_mix (ad 16) fd ∧ Binds K fd ["_law_cell", "_law_turn"] []
  g__law_mix : mg "_law_mix" = some (.ref (ad 16))
  f__law_pool : ∃ fd, Fun K "_law_pool" "_law_pool" s__law_pool (ad 17) fd ∧ Binds K fd ["_law_script", "_law_many"] []
  g__law_pool : mg "_law_pool" = some (.ref (ad 17))
  f__law_draw : ∃ fd, Fun K "_law_draw" "_law_draw" s__law_draw (ad 18) fd ∧ Binds K fd ["_law_pool_here", "_law_bound"] []
  g__law_draw : mg "_law_draw" = some (.ref (ad 18))
  f__law_number : ∃ fd, Fun K "_law_number" "_law_number" s__law_number (ad 19) fd ∧ Binds K fd ["_law_pool_here"] []
  g__law_number : mg "_law_number" = some (.ref (ad 19))
  f__law_whole : ∃ fd, Fun K "_law_whole" "_law_whole" s__law_whole (ad 20) fd ∧ Binds K fd ["_law_number_here"] []
  g__law_whole : mg "_law_whole" = some (.ref (ad 20))
  f__law_saying : ∃ fd, Fun K "_law_saying" "_law_saying" s__law_saying (ad 21) fd ∧ Binds K fd ["_law_item"] []
  g__law_saying : mg "_law_saying" = some (.ref (ad 21))
  f__law_is : ∃ fd, Fun K "_law_is" "_law_is" s__law_is (ad 22) fd ∧ Binds K fd ["_law_value_here", "_law_due_here"] []
  g__law_is : mg "_law_is" = some (.ref (ad 22))
  f__law_class : ∃ fd, Fun K "_law_class" "_law_class" s__law_class (ad 23) fd ∧ Binds K fd ["_law_saying_here"] []
  g__law_class : mg "_law_class" = some (.ref (ad 23))
  f__law_said : ∃ fd, Fun K "_law_said" "_law_said" s__law_said (ad 24) fd ∧ Binds K fd ["_law_saying_here", "_law_item"] []
  g__law_said : mg "_law_said" = some (.ref (ad 24))
  f__law_char : ∃ fd, Fun K "_law_char" "_law_char" s__law_char (ad 25) fd ∧ Binds K fd ["_law_number_here"] []
  g__law_char : mg "_law_char" = some (.ref (ad 25))
  f__law_value : ∃ fd, Fun K "_law_value" "_law_value" s__law_value (ad 26) fd ∧ Binds K fd ["_law_word"] []
  g__law_value : mg "_law_value" = some (.ref (ad 26))
  f__law_odd : ∃ fd, Fun K "_law_odd" "_law_odd" s__law_odd (ad 27) fd ∧ Binds K fd ["_law_number_here"] []
  g__law_odd : mg "_law_odd" = some (.ref (ad 27))
  f__law_spoiled : ∃ fd, Fun K "_law_spoiled" "_law_spoiled" s__law_spoiled (ad 28) fd ∧ Binds K fd ["_law_pool_here", "_law_words"] []
  g__law_spoiled : mg "_law_spoiled" = some (.ref (ad 28))
  f__law_due : ∃ fd, Fun K "_law_due" "_law_due" s__law_due (ad 29) fd ∧ Binds K fd ["_law_parts"] []
  g__law_due : mg "_law_due" = some (.ref (ad 29))
  f__law_base : ∃ fd, Fun K "_law_base" "_law_base" s__law_base (ad 30) fd ∧ Binds K fd ["_law_text"] []
  g__law_base : mg "_law_base" = some (.ref (ad 30))
  f__law_right : ∃ fd, Fun K "_law_right" "_law_right" s__law_right (ad 31) fd ∧ Binds K fd ["_law_text"] []
  g__law_right : mg "_law_right" = some (.ref (ad 31))
  f_law : ∃ fd, Fun K "law" "law" s_law (ad 32) fd ∧ Binds K fd ["_law_script"] []
  g_law : mg "law" = some (.ref (ad 32))
  g_Older : mg "Older" = some (.ref (cl 3))
  k_Older : ClsOk K (Zz w K cl) 3
  na_Older_left : NoAttr K (cl 3) "left"
  na_Older_right : NoAttr K (cl 3) "right"
  mk_Older : Mk K (cl 3) (ad 1)
  g_Younger : mg "Younger" = some (.ref (cl 4))
  k_Younger : ClsOk K (Zz w K cl) 4
  na_Younger_left : NoAttr K (cl 4) "left"
  na_Younger_right : NoAttr K (cl 4) "right"
  mk_Younger : Mk K (cl 4) (ad 2)
  g_One : mg "One" = some (.ref (cl 5))
  k_One : ClsOk K (Zz w K cl) 5
  na_One_left : NoAttr K (cl 5) "left"
  na_One_right : NoAttr K (cl 5) "right"
  mk_One : Mk K (cl 5) (ad 3)
  g_NotOlder : mg "NotOlder" = some (.ref (cl 6))
  k_NotOlder : ClsOk K (Zz w K cl) 6
  na_NotOlder_left : NoAttr K (cl 6) "left"
  na_NotOlder_right : NoAttr K (cl 6) "right"
  mk_NotOlder : Mk K (cl 6) (ad 4)
  g_NotYounger : mg "NotYounger" = some (.ref (cl 7))
  k_NotYounger : ClsOk K (Zz w K cl) 7
  na_NotYounger_left : NoAttr K (cl 7) "left"
  na_NotYounger_right : NoAttr K (cl 7) "right"
  mk_NotYounger : Mk K (cl 7) (ad 5)
  g_SiltError : mg "SiltError" = some (.ref (cl 8))
  g_Saying : mg "Saying" = some (.ref (cl 9))
  su_sNO_NotOlder : SupT K (cl 6) (cl 6) "lets" (ad 6)
  su_sNO_Younger : SupT K (cl 4) (cl 6) "lets" (ad 6)
  su_sNO_One : SupT K (cl 5) (cl 6) "lets" (ad 6)
  su_sNY_NotYounger : SupT K (cl 7) (cl 7) "lets" (ad 6)
  su_sNY_Older : SupT K (cl 3) (cl 7) "lets" (ad 6)
  su_sNY_One : SupT K (cl 5) (cl 7) "lets" (ad 7)
  su_sO_Older : SupT K (cl 3) (cl 3) "lets" (ad 8)
  su_sY_Younger : SupT K (cl 4) (cl 4) "lets" (ad 7)
  su_s1_One : SupT K (cl 5) (cl 5) "lets" (ad 8)
  mt_written_Older : Meth K (cl 3) "written" (ad 13)
  mt_written_Younger : Meth K (cl 4) "written" (ad 13)
  mt_written_One : Meth K (cl 5) "written" (ad 13)
  mt_written_NotOlder : Meth K (cl 6) "written" (ad 13)
  mt_written_NotYounger : Meth K (cl 7) "written" (ad 13)
  fg_S_left : FgOk K (Zz w K cl) cs_S "left" 0
  fg_S_right : FgOk K (Zz w K cl) cs_S "right" 1
  eq_S : EqT K cl cs_S rf_S (ad 12)
  tc_S_WORD : CoOk K (Zz w K cl) "WORD" tc_S_WORD
  gs_DIGITS : ∃ t, mg "DIGITS" = some (.str "0123456789" t)
  cr_NotOlder : ClX.CRead K (cl 6) (.type "type")
  cv_NotOlder_WORD : ∃ t, ClX.CVal K (cl 6) (.type "type") "WORD" (.str "not-older") (.str "not-older" t)
  cr_NotYounger : ClX.CRead K (cl 7) (.type "type")
  cv_NotYounger_WORD : ∃ t, ClX.CVal K (cl 7) (.type "type") "WORD" (.str "not-younger") (.str "not-younger" t)
  cr_Older : ClX.CRead K (cl 3) (.type "type")
  cv_Older_WORD : ∃ t, ClX.CVal K (cl 3) (.type "type") "WORD" (.str "older") (.str "older" t)
  cr_One : ClX.CRead K (cl 5) (.type "type")
  cv_One_WORD : ∃ t, ClX.CVal K (cl 5) (.type "type") "WORD" (.str "one") (.str "one" t)
  cr_Younger : ClX.CRead K (cl 4) (.type "type")
  cv_Younger_WORD : ∃ t, ClX.CVal K (cl 4) (.type "type") "WORD" (.str "younger") (.str "younger" t)
  ptop : (P.main.scope.names.lookup ("super" : Str)).isSome = false
  any_ : PySem.W.nsIn K cStatics "thirdparty.any" = some none
  g_BadText : mg "BadText" = some (.ref (cl 0))
  o_BadText : OexC K (cl 0)
  i_BadText : PySem.W.findIn K (.ref (cl 0)) "__init__" = some (some (.ref (ad 33)))
  t_BadText : PySem.W.typeIn K (.ref (ad 33)) = some (.type "function")
  nx_BadText_word : PySem.W.findIn K (.ref (cl 0)) "word" = some none
  f_BadText___init__ : ∃ fd, Fun K "__init__" "BadText.__init__" s_BadText___init__ (ad 33) fd ∧ Binds K fd ["self", "word"] []
  g_BadRecord : mg "BadRecord" = some (.ref (cl 1))
  o_BadRecord : OexC K (cl 1)
  i_BadRecord : PySem.W.findIn K (.ref (cl 1)) "__init__" = some (some (.ref (ad 34)))
  t_BadRecord : PySem.W.typeIn K (.ref (ad 34)) = some (.type "function")
  nx_BadRecord_index : PySem.W.findIn K (.ref (cl 1)) "index" = some none
  f_BadRecord___init__ : ∃ fd, Fun K "__init__" "BadRecord.__init__" s_BadRecord___init__ (ad 34) fd ∧ Binds K fd ["self", "index"] []
  g_NoContrary : mg "NoContrary" = some (.ref (cl 2))
  xt_NoContrary : ExT K (cl 2)
  xi : ∀ c, c < 3 → XiC K (cl c)
  xe_BadText : ∀ c, c < 3 → PySem.W.exmOne K (.ref (cl c)) (.ref (cl 0)) = some (x_BadText c)
  xe_SiltError : ∀ c, c < 3 → PySem.W.exmOne K (.ref (cl c)) (.ref (cl 8)) = some (x_SiltError c)
  xk_BadRecord : ∀ c, c < 3 → PySem.W.kitOne K (.ref (cl c)) (.ref (cl 1)) = some (x_BadRecord c)
  xk_BadText : ∀ c, c < 3 → PySem.W.kitOne K (.ref (cl c)) (.ref (cl 0)) = some (x_BadText c)
  xk_ValueError : ∀ c, c < 3 → PySem.W.kitOne K (.ref (cl c)) (.type "ValueError") = some (x_ValueError c)
  ik_NotOlder : ∀ ty b, i_NotOlder ty = some b → PySem.W.kitOne K (tyVal (Zz w K cl) ty) (.ref (cl 6)) = some b
  ic_NotOlder : ∀ c b, i_NotOlder (.c c) = some b → IsiC K (cl c)
  ik_NotYounger : ∀ ty b, i_NotYounger ty = some b → PySem.W.kitOne K (tyVal (Zz w K cl) ty) (.ref (cl 7)) = some b
  ic_NotYounger : ∀ c b, i_NotYounger (.c c) = some b → IsiC K (cl c)
  ik_Older : ∀ ty b, i_Older ty = some b → PySem.W.kitOne K (tyVal (Zz w K cl) ty) (.ref (cl 3)) = some b
  ic_Older : ∀ c b, i_Older (.c c) = some b → IsiC K (cl c)
  ik_One : ∀ ty b, i_One ty = some b → PySem.W.kitOne K (tyVal (Zz w K cl) ty) (.ref (cl 5)) = some b
  ic_One : ∀ c b, i_One (.c c) = some b → IsiC K (cl c)
  ik_Saying : ∀ ty b, i_Saying ty = some b → PySem.W.kitOne K (tyVal (Zz w K cl) ty) (.ref (cl 9)) = some b
  ic_Saying : ∀ c b, i_Saying (.c c) = some b → IsiC K (cl c)
  ik_Younger : ∀ ty b, i_Younger ty = some b → PySem.W.kitOne K (tyVal (Zz w K cl) ty) (.ref (cl 4)) = some b
  ic_Younger : ∀ c b, i_Younger (.c c) = some b → IsiC K (cl c)
  ik_bool : ∀ ty b, i_bool ty = some b → PySem.W.kitOne K (tyVal (Zz w K cl) ty) (.type "bool") = some b
  ic_bool : ∀ c b, i_bool (.c c) = some b → IsiC K (cl c)
  ik_int : ∀ ty b, i_int ty = some b → PySem.W.kitOne K (tyVal (Zz w K cl) ty) (.type "int") = some b
  ic_int : ∀ c b, i_int (.c c) = some b → IsiC K (cl c)
  ik_str : ∀ ty b, i_str ty = some b → PySem.W.kitOne K (tyVal (Zz w K cl) ty) (.type "str") = some b
  ic_str : ∀ c b, i_str (.c c) = some b → IsiC K (cl c)
section
variable {P : Program} {w : World} {K : PySem.W.Frag} {mg : Str → Option Value} {base : Heap} {ad cl : Nat → Addr}
theorem io_BadText (T : Tx P w K mg ad cl) : IOk P w K mg base (ad 33) ["self", "word"] (spI1 K "word") := by
  obtain ⟨fd, F, bd⟩ := T.f_BadText___init__
  refine ⟨⟨fd, F.ok sc_BadText___init__ (fun vs H Q E h => ?_) (fun cdv A outer s H vs Q E hr h => ?_), bd⟩⟩
  · obtain ⟨a, C, v, rfl, _⟩ := h
    rfl
  · obtain ⟨a, C, v, rfl, TT, nf, hx, k⟩ := h
    refine ⟨_, pss_one (ps_ost (pv 0) (pv 1)), ?_⟩
    exact ⟨_, rfl, _, rfl, a, C, rfl, TT, nf, .inl ⟨hx, fun dx h1 h2 => k dx h1 h2⟩⟩
theorem x1_BadText (T : Tx P w K mg ad cl) : Ex1 P w K mg base (Zz w K cl) 0 "word" (ad 33) ["self", "word"] := ⟨T.o_BadText, T.i_BadText, T.t_BadText, T.nx_BadText_word, rfl, io_BadText T⟩
theorem xf_word (T : Tx P w K mg ad cl) : ∀ c ∈ [0], XfC K ((Zz w K cl).cl c) ∧ PySem.W.findIn K (.ref ((Zz w K cl).cl c)) "word" = some none ∧ ((Zz w K cl).fl c)[0]? = some ("word" : Str) ∧ ((Zz w K cl).fl c).Nodup := by
  intro c h
  simp only [List.mem_cons, List.not_mem_nil, or_false] at h
  rcases h with rfl
  · exact ⟨(T.xi 0 (by decide)).xf, T.nx_BadText_word, rfl, by show (flds 0).Nodup; decide +kernel⟩
theorem ok_parse_number (T : Tx P w K mg ad cl) : DOk P w K mg base 2 (ad 0) ["word"] (spD (Zz w K cl) f_parse_number 1) := by
  obtain ⟨fd, F, bd⟩ := T.f_parse_number
  refine ⟨⟨fd, fnD F sc_parse_number (body := b_parse_number) rfl rfl fun cdv A outer s H E hr => ?_, bd⟩, F.kp⟩
  have tk := L2N.takes_of (X := cxOf (L2N.CX P w) P w K mg base n_parse_number "parse_number" (defScope s_parse_number) (ad 0) cdv A outer s H E) (E := E) rfl rfl rfl rfl
  have tw := tw_of tk
  exact (ds_cons (ds_if (PW.pt (dw_or (dt_cmp (c_eq rfl hr) (dv 0) de_str) (dw_or1 (dt_not (dt_val (de_callB (cr_all rfl) (ok_all rfl) T.b_all (by decide +kernel) (da_cons (de_settle (de_lcC (own := [("char", 1)]) rfl sc_parse_number.nd (blkOk_by (own := [("char", 1)]) (N := n_parse_number) (sc := defScope s_parse_number) (by decide +kernel)) (by decide) (di_str (dv 0)) (fun _ _ _ _ _ => (dg_name (i := 1) sc_parse_number.nd)) (fun _ _ _ _ _ => dts_nil) (fun _ _ _ _ _ => (de_cmpK c_inS (dv 1) (de_gstr T.gs_DIGITS))))) da_nil))))))) (ds_one (ds_ret de_non)) ds_nil) (ds_cons (ds_if (PW.pt (dw_and (dt_cmp (c_eq rfl hr) (de_ix rfl (dv 0) de_int) de_str) (dw_and1 (dt_cmp (c_ne rfl hr) (dv 0) de_str)))) (ds_one (ds_ret de_non)) ds_nil) (ds_one (ds_ret (de_callTy call_int_str ok_intS T.b_int (by decide +kernel) (da_cons (dv 0) da_nil))))))
theorem ok_Saying___init___at_Older (T : Tx P w K mg ad cl) : DOk P w K mg base 1 (ad 1) ["self", "left", "right"] (spD (Zz w K cl) f_Saying___init___at_Older 3) := by
  obtain ⟨fd, F, bd⟩ := T.f_Saying___init___at_Older
  refine ⟨⟨fd, fnD F sc_Saying___init___at_Older (body := b_Saying___init___at_Older) rfl rfl fun cdv A outer s H E hr => ?_, bd⟩, F.kp⟩
  have tk := L2N.takes_of (X := cxOf (L2N.CX P w) P w K mg base n_Saying___init___at_Older "Saying.__init__" (defScope s_Saying___init___at_Older) (ad 1) cdv A outer s H E) (E := E) rfl rfl rfl rfl
  have tw := tw_of tk
  exact (ds_cons (ds_fld (dv 0) (dv 1) rfl T.k_Older T.na_Older_left rfl (by show (flds 3).length < 1000; decide)) (ds_one (ds_fld (dv 0) (dv 2) rfl T.k_Older T.na_Older_right rfl (by show (flds 3).length < 1000; decide))))
theorem ok_Saying___init___at_Younger (T : Tx P w K mg ad cl) : DOk P w K mg base 1 (ad 2) ["self", "left", "right"] (spD (Zz w K cl) f_Saying___init___at_Younger 3) := by
  obtain ⟨fd, F, bd⟩ := T.f_Saying___init___at_Younger
  refine ⟨⟨fd, fnD F sc_Saying___init___at_Younger (body := b_Saying___init___at_Younger) rfl rfl fun cdv A outer s H E hr => ?_, bd⟩, F.kp⟩
  have tk := L2N.takes_of (X := cxOf (L2N.CX P w) P w K mg base n_Saying___init___at_Younger "Saying.__init__" (defScope s_Saying___init___at_Younger) (ad 2) cdv A outer s H E) (E := E) rfl rfl rfl rfl
  have tw := tw_of tk
  exact (ds_cons (ds_fld (dv 0) (dv 1) rfl T.k_Younger T.na_Younger_left rfl (by show (flds 4).length < 1000; decide)) (ds_one (ds_fld (dv 0) (dv 2) rfl T.k_Younger T.na_Younger_right rfl (by show (flds 4).length < 1000; decide))))
theorem ok_Saying___init___at_One (T : Tx P w K mg ad cl) : DOk P w K mg base 1 (ad 3) ["self", "left", "right"] (spD (Zz w K cl) f_Saying___init___at_One 3) := by
  obtain ⟨fd, F, bd⟩ := T.f_Saying___init___at_One
  refine ⟨⟨fd, fnD F sc_Saying___init___at_One (body := b_Saying___init___at_One) rfl rfl fun cdv A outer s H E hr => ?_, bd⟩, F.kp⟩
  have tk := L2N.takes_of (X := cxOf (L2N.CX P w) P w K mg base n_Saying___init___at_One "Saying.__init__" (defScope s_Saying___init___at_One) (ad 3) cdv A outer s H E) (E := E) rfl rfl rfl rfl
  have tw := tw_of tk
  exact (ds_cons (ds_fld (dv 0) (dv 1) rfl T.k_One T.na_One_left rfl (by show (flds 5).length < 1000; decide)) (ds_one (ds_fld (dv 0) (dv 2) rfl T.k_One T.na_One_right rfl (by show (flds 5).length < 1000; decide))))
theorem ok_Saying___init___at_NotOlder (T : Tx P w K mg ad cl) : DOk P w K mg base 1 (ad 4) ["self", "left", "right"] (spD (Zz w K cl) f_Saying___init___at_NotOlder 3) := by
  obtain ⟨fd, F, bd⟩ := T.f_Saying___init___at_NotOlder
  refine ⟨⟨fd, fnD F sc_Saying___init___at_NotOlder (body := b_Saying___init___at_NotOlder) rfl rfl fun cdv A outer s H E hr => ?_, bd⟩, F.kp⟩
  have tk := L2N.takes_of (X := cxOf (L2N.CX P w) P w K mg base n_Saying___init___at_NotOlder "Saying.__init__" (defScope s_Saying___init___at_NotOlder) (ad 4) cdv A outer s H E) (E := E) rfl rfl rfl rfl
  have tw := tw_of tk
  exact (ds_cons (ds_fld (dv 0) (dv 1) rfl T.k_NotOlder T.na_NotOlder_left rfl (by show (flds 6).length < 1000; decide)) (ds_one (ds_fld (dv 0) (dv 2) rfl T.k_NotOlder T.na_NotOlder_right rfl (by show (flds 6).length < 1000; decide))))
theorem ok_Saying___init___at_NotYounger (T : Tx P w K mg ad cl) : DOk P w K mg base 1 (ad 5) ["self", "left", "right"] (spD (Zz w K cl) f_Saying___init___at_NotYounger 3) := by
  obtain ⟨fd, F, bd⟩ := T.f_Saying___init___at_NotYounger
  refine ⟨⟨fd, fnD F sc_Saying___init___at_NotYounger (body := b_Saying___init___at_NotYounger) rfl rfl fun cdv A outer s H E hr => ?_, bd⟩, F.kp⟩
  have tk := L2N.takes_of (X := cxOf (L2N.CX P w) P w K mg base n_Saying___init___at_NotYounger "Saying.__init__" (defScope s_Saying___init___at_NotYounger) (ad 5) cdv A outer s H E) (E := E) rfl rfl rfl rfl
  have tw := tw_of tk
  exact (ds_cons (ds_fld (dv 0) (dv 1) rfl T.k_NotYounger T.na_NotYounger_left rfl (by show (flds 7).length < 1000; decide)) (ds_one (ds_fld (dv 0) (dv 2) rfl T.k_NotYounger T.na_NotYounger_right rfl (by show (flds 7).length < 1000; decide))))
theorem ok_Saying___eq__ (T : Tx P w K mg ad cl) : DOk P w K mg base 2 (ad 12) ["self", "other"] (spD (Zz w K cl) f_Saying___eq__ 2) := by
  obtain ⟨fd, F, bd⟩ := T.f_Saying___eq__
  refine ⟨⟨fd, fnD F sc_Saying___eq__ (body := b_Saying___eq__) rfl rfl fun cdv A outer s H E hr => ?_, bd⟩, F.kp⟩
  have tk := L2N.takes_of (X := cxOf (L2N.CX P w) P w K mg base n_Saying___eq__ "Saying.__eq__" (defScope s_Saying___eq__) (ad 12) cdv A outer s H E) (E := E) rfl rfl rfl rfl
  have tw := tw_of tk
  exact (ds_cons (ds_if (dt_not (dt_val (de_isi (pe_glob (v := .ref (cl 9)) rfl T.g_Saying rfl) (.own _) rfl T.ik_Saying T.ic_Saying (dv 1) T.b_isinstance))) (ds_one (ds_ret de_bl)) ds_nil) (ds_one (ds_ret (de_and (de_cmpK (c_eq rfl hr) (de_conT (dv 0) T.tc_S_WORD) (de_conT (dv 1) T.tc_S_WORD)) (de_and (de_cmpK (c_eq rfl hr) (de_fldG (dv 0) T.fg_S_left) (de_fldG (dv 1) T.fg_S_left)) (de_one (de_cmpK (c_eq rfl hr) (de_fldG (dv 0) T.fg_S_right) (de_fldG (dv 1) T.fg_S_right))))))))
theorem ok_Saying_written (T : Tx P w K mg ad cl) : DOk P w K mg base 1 (ad 13) ["self"] (spD (Zz w K cl) f_Saying_written 1) := by
  obtain ⟨fd, F, bd⟩ := T.f_Saying_written
  refine ⟨⟨fd, fnD F sc_Saying_written (body := b_Saying_written) rfl rfl fun cdv A outer s H E hr => ?_, bd⟩, F.kp⟩
  have tk := L2N.takes_of (X := cxOf (L2N.CX P w) P w K mg base n_Saying_written "Saying.written" (defScope s_Saying_written) (ad 13) cdv A outer s H E) (E := E) rfl rfl rfl rfl
  have tw := tw_of tk
  exact (ds_one (ds_ret (de_joined (dj_cons (de_fmt (de_conT (dv 0) T.tc_S_WORD)) (dj_cons de_str (dj_cons (de_fmt (de_fldG (dv 0) T.fg_S_left)) (dj_cons de_str (dj_cons (de_fmt (de_fldG (dv 0) T.fg_S_right)) dj_nil))))))))
theorem ok_made_saying (T : Tx P w K mg ad cl) : DOk P w K mg base 3 (ad 14) ["word", "left", "right"] (spD (Zz w K cl) f_made_saying 3) := by
  obtain ⟨fd, F, bd⟩ := T.f_made_saying
  refine ⟨⟨fd, fnD F sc_made_saying (body := b_made_saying) rfl rfl fun cdv A outer s H E hr => ?_, bd⟩, F.kp⟩
  have tk := L2N.takes_of (X := cxOf (L2N.CX P w) P w K mg base n_made_saying "made_saying" (defScope s_made_saying) (ad 14) cdv A outer s H E) (E := E) rfl rfl rfl rfl
  have tw := tw_of tk
  exact (ds_cons (ds_if (dt_cmp (c_eq rfl hr) (dv 0) (de_clsCon T.g_Older T.cr_Older T.cv_Older_WORD)) (ds_one (ds_ret (de_makeD T.mk_Older (ok_Saying___init___at_Older (P := P) (w := w) (base := base) T) (hr.mono (by decide)) T.g_Older tw (da_cons (dv 1) (da_cons (dv 2) da_nil)) rfl))) ds_nil) (ds_cons (ds_if (dt_cmp (c_eq rfl hr) (dv 0) (de_clsCon T.g_Younger T.cr_Younger T.cv_Younger_WORD)) (ds_one (ds_ret (de_makeD T.mk_Younger (ok_Saying___init___at_Younger (P := P) (w := w) (base := base) T) (hr.mono (by decide)) T.g_Younger tw (da_cons (dv 1) (da_cons (dv 2) da_nil)) rfl))) ds_nil) (ds_cons (ds_if (dt_cmp (c_eq rfl hr) (dv 0) (de_clsCon T.g_One T.cr_One T.cv_One_WORD)) (ds_one (ds_ret (de_makeD T.mk_One (ok_Saying___init___at_One (P := P) (w := w) (base := base) T) (hr.mono (by decide)) T.g_One tw (da_cons (dv 1) (da_cons (dv 2) da_nil)) rfl))) ds_nil) (ds_cons (ds_if (dt_cmp (c_eq rfl hr) (dv 0) (de_clsCon T.g_NotOlder T.cr_NotOlder T.cv_NotOlder_WORD)) (ds_one (ds_ret (de_makeD T.mk_NotOlder (ok_Saying___init___at_NotOlder (P := P) (w := w) (base := base) T) (hr.mono (by decide)) T.g_NotOlder tw (da_cons (dv 1) (da_cons (dv 2) da_nil)) rfl))) ds_nil) (ds_cons (ds_if (dt_cmp (c_eq rfl hr) (dv 0) (de_clsCon T.g_NotYounger T.cr_NotYounger T.cv_NotYounger_WORD)) (ds_one (ds_ret (de_makeD T.mk_NotYounger (ok_Saying___init___at_NotYounger (P := P) (w := w) (base := base) T) (hr.mono (by decide)) T.g_NotYounger tw (da_cons (dv 1) (da_cons (dv 2) da_nil)) rfl))) ds_nil) (ds_one (ds_ret de_non)))))))
theorem ok_read_saying (T : Tx P w K mg ad cl) : DOk P w K mg base 4 (ad 15) ["text"] (spD (Zz w K cl) f_read_saying 1) := by
  obtain ⟨fd, F, bd⟩ := T.f_read_saying
  refine ⟨⟨fd, fnD F sc_read_saying (body := b_read_saying) rfl rfl fun cdv A outer s H E hr => ?_, bd⟩, F.kp⟩
  have tk := L2N.takes_of (X := cxOf (L2N.CX P w) P w K mg base n_read_saying "read_saying" (defScope s_read_saying) (ad 15) cdv A outer s H E) (E := E) rfl rfl rfl rfl
  have tw := tw_of tk
  exact (ds_cons (ds_set (i := 1) sc_read_saying.nd (de_split (dv 0) de_str)) (ds_cons (ds_if (dt_cmp c_isN (de_callD (ok_made_saying (P := P) (w := w) (base := base) T) (hr.mono (by decide)) T.g_made_saying tw (da_cons (de_ix rfl (dv 1) de_int) (da_cons de_int (da_cons de_int da_nil)))) de_non) (ds_one (ds_raise1D rfl rfl tk (x1_BadText (P := P) (w := w) (base := base) T) (hr.mono (by decide)) T.g_BadText (da_cons de_int da_nil))) ds_nil) (ds_cons (ds_set (i := 2) sc_read_saying.nd (de_lstC da_nil)) (ds_cons (ds_for (passes_of rfl) (di_enum rfl T.b_enumerate (da_cons (de_slice rfl (dv 1) (dp_some de_int) (dp_some de_int)) da_nil)) (dg_tup rfl rfl (dgs_cons (dg_name (i := 3) sc_read_saying.nd) (dgs_cons (dg_name (i := 4) sc_read_saying.nd) dgs_nil))) (ds_cons (ds_set (i := 5) sc_read_saying.nd (de_callD (ok_parse_number (P := P) (w := w) (base := base) T) (hr.mono (by decide)) T.g_parse_number tw (da_cons (dv 4) da_nil))) (ds_cons (ds_if (dt_cmp c_isN (dv 5) de_non) (ds_one (ds_raise1D rfl rfl tk (x1_BadText (P := P) (w := w) (base := base) T) (hr.mono (by decide)) T.g_BadText (da_cons (de_add (dv 3) de_int) da_nil))) ds_nil) (ds_one (ds_expr (de_append rfl (dv 2) (dv 5))))))) (ds_cons (ds_if (dt_cmp c_gt (de_callB call_len (ok_len rfl) T.b_len PySem.boot_len (da_cons (dv 1) da_nil)) de_int) (ds_one (ds_raise1D rfl rfl tk (x1_BadText (P := P) (w := w) (base := base) T) (hr.mono (by decide)) T.g_BadText (da_cons de_int da_nil))) ds_nil) (ds_cons (ds_if (dt_cmp c_lt (de_callB call_len (ok_len rfl) T.b_len PySem.boot_len (da_cons (dv 1) da_nil)) de_int) (ds_one (ds_raise1D rfl rfl tk (x1_BadText (P := P) (w := w) (base := base) T) (hr.mono (by decide)) T.g_BadText (da_cons (de_add (de_callB call_len (ok_len rfl) T.b_len PySem.boot_len (da_cons (dv 1) da_nil)) de_int) da_nil))) ds_nil) (ds_one (ds_ret (de_callD (ok_made_saying (P := P) (w := w) (base := base) T) (hr.mono (by decide)) T.g_made_saying tw (da_cons (de_ix rfl (dv 1) de_int) (da_cons (de_ix rfl (dv 2) de_int) (da_cons (de_ix rfl (dv 2) de_int) da_nil))))))))))))
theorem ok__law_mix (T : Tx P w K mg ad cl) : DOk P w K mg base 1 (ad 16) ["_law_cell", "_law_turn"] (spD (Zz w K cl) f__law_mix 2) := by
  obtain ⟨fd, F, bd⟩ := T.f__law_mix
  refine ⟨⟨fd, fnD F sc__law_mix (body := b__law_mix) rfl rfl fun cdv A outer s H E hr => ?_, bd⟩, F.kp⟩
  have tk := L2N.takes_of (X := cxOf (L2N.CX P w) P w K mg base n__law_mix "_law_mix" (defScope s__law_mix) (ad 16) cdv A outer s H E) (E := E) rfl rfl rfl rfl
  have tw := tw_of tk
  exact (ds_cons (ds_set (i := 2) sc__law_mix.nd (de_mod (de_callTy call_int1 ok_int1 T.b_int (by decide +kernel) (da_cons (de_add (de_mul (de_mul (dv 0) de_int) (de_add (dv 1) de_int)) (de_mul de_int (dv 1))) da_nil)) de_int)) (ds_one (ds_ret (de_add (dv 2) (de_div (de_mul (dv 2) (dv 2)) de_int)))))
theorem ok__law_pool (T : Tx P w K mg ad cl) : DOk P w K mg base 2 (ad 17) ["_law_script", "_law_many"] (spD (Zz w K cl) f__law_pool 2) := by
  obtain ⟨fd, F, bd⟩ := T.f__law_pool
  refine ⟨⟨fd, fnD F sc__law_pool (body := b__law_pool) rfl rfl fun cdv A outer s H E hr => ?_, bd⟩, F.kp⟩
  have tk := L2N.takes_of (X := cxOf (L2N.CX P w) P w K mg base n__law_pool "_law_pool" (defScope s__law_pool) (ad 17) cdv A outer s H E) (E := E) rfl rfl rfl rfl
  have tw := tw_of tk
  exact (ds_cons (ds_set (i := 2) sc__law_pool.nd (de_lstC da_nil)) (ds_cons (ds_set (i := 3) sc__law_pool.nd de_int) (ds_cons (ds_for (passes_of rfl) (di_range1 T.b_range (da_cons (de_callB (call_min2 rfl) ok_min T.b_min (by decide +kernel) (da_cons (de_callB call_len (ok_len rfl) T.b_len PySem.boot_len (da_cons (dv 0) da_nil)) (da_cons de_int da_nil))) da_nil)) (dg_name (i := 4) sc__law_pool.nd) (ds_cons (ds_set (i := 3) sc__law_pool.nd (de_mod (de_callTy call_int1 ok_int1 T.b_int (by decide +kernel) (da_cons (de_add (dv 3) (de_mul (de_ix rfl (dv 0) (dv 4)) (de_add (dv 4) de_int))) da_nil)) de_int)) (ds_cons (ds_set (i := 5) sc__law_pool.nd (de_callB call_abs ok_abs T.b_abs (by decide +kernel) (da_cons (de_ix rfl (dv 0) (dv 4)) da_nil))) (ds_cons (ds_set (i := 6) sc__law_pool.nd (de_cmpK c_ge (dv 5) (de_pow de_int de_int))) (ds_one (ds_for (passes_of rfl) (di_range1 T.b_range (da_cons de_int da_nil)) (dg_name (i := 7) sc__law_pool.nd) (ds_one (ds_if (PW.pt (dw_and (dt_tru rfl (dv 6)) (dw_and1 (dt_cmp c_gt (dv 5) de_int)))) (ds_cons (ds_expr (de_append rfl (dv 2) (de_mod (de_callTy call_int1 ok_int1 T.b_int (by decide +kernel) (da_cons (dv 5) da_nil)) de_int))) (ds_one (ds_set (i := 5) sc__law_pool.nd (de_div (dv 5) de_int)))) (ds_one (ds_if (PW.pt (dw_and (dt_not (dt_tru rfl (dv 6))) (dw_and1 (dt_cmp c_lt (dv 7) de_int)))) (ds_one (ds_expr (de_append rfl (dv 2) (de_callD (ok__law_mix (P := P) (w := w) (base := base) T) (hr.mono (by decide)) T.g__law_mix tw (da_cons (de_ix rfl (dv 0) (dv 4)) (da_cons (dv 7) da_nil)))))) ds_nil)))))))))) (ds_cons (ds_for (passes_of rfl) (di_range1 T.b_range (da_cons (dv 1) da_nil)) (dg_name (i := 7) sc__law_pool.nd) (ds_one (ds_if (dt_cmp c_lt (de_callB call_len (ok_len rfl) T.b_len PySem.boot_len (da_cons (dv 2) da_nil)) (dv 1)) (ds_one (ds_expr (de_append rfl (dv 2) (de_callD (ok__law_mix (P := P) (w := w) (base := base) T) (hr.mono (by decide)) T.g__law_mix tw (da_cons (dv 3) (da_cons (de_callB call_len (ok_len rfl) T.b_len PySem.boot_len (da_cons (dv 2) da_nil)) da_nil)))))) ds_nil))) (ds_one (ds_ret (dv 2)))))))
theorem ok__law_draw (T : Tx P w K mg ad cl) : DOk P w K mg base 2 (ad 18) ["_law_pool_here", "_law_bound"] (spD (Zz w K cl) f__law_draw 2) := by
  obtain ⟨fd, F, bd⟩ := T.f__law_draw
  refine ⟨⟨fd, fnD F sc__law_draw (body := b__law_draw) rfl rfl fun cdv A outer s H E hr => ?_, bd⟩, F.kp⟩
  have tk := L2N.takes_of (X := cxOf (L2N.CX P w) P w K mg base n__law_draw "_law_draw" (defScope s__law_draw) (ad 18) cdv A outer s H E) (E := E) rfl rfl rfl rfl
  have tw := tw_of tk
  exact (ds_cons (ds_if (dt_cmp (c_eq rfl hr) (de_callB call_len (ok_len rfl) T.b_len PySem.boot_len (da_cons (dv 0) da_nil)) de_int) (ds_one (ds_ret de_int)) ds_nil) (ds_one (ds_ret (de_mod (de_callTy call_int1 ok_int1 T.b_int (by decide +kernel) (da_cons (de_popAt rfl (dv 0) de_int) da_nil)) (dv 1)))))
theorem ok__law_number (T : Tx P w K mg ad cl) : DOk P w K mg base 3 (ad 19) ["_law_pool_here"] (spD (Zz w K cl) f__law_number 1) := by
  obtain ⟨fd, F, bd⟩ := T.f__law_number
  refine ⟨⟨fd, fnD F sc__law_number (body := b__law_number) rfl rfl fun cdv A outer s H E hr => ?_, bd⟩, F.kp⟩
  have tk := L2N.takes_of (X := cxOf (L2N.CX P w) P w K mg base n__law_number "_law_number" (defScope s__law_number) (ad 19) cdv A outer s H E) (E := E) rfl rfl rfl rfl
  have tw := tw_of tk
  exact (ds_cons (ds_set (i := 1) sc__law_number.nd (de_callD (ok__law_draw (P := P) (w := w) (base := base) T) (hr.mono (by decide)) T.g__law_draw tw (da_cons (dv 0) (da_cons de_int da_nil)))) (ds_cons (ds_set (i := 2) sc__law_number.nd (de_callD (ok__law_draw (P := P) (w := w) (base := base) T) (hr.mono (by decide)) T.g__law_draw tw (da_cons (dv 0) (da_cons de_int da_nil)))) (ds_cons (ds_if (dt_cmp (c_eq rfl hr) (dv 1) de_int) (ds_one (ds_for (passes_of rfl) (di_range1 T.b_range (da_cons de_int da_nil)) (dg_name (i := 3) sc__law_number.nd) (ds_one (ds_set (i := 2) sc__law_number.nd (de_add (de_mul (dv 2) de_int) (de_callD (ok__law_draw (P := P) (w := w) (base := base) T) (hr.mono (by decide)) T.g__law_draw tw (da_cons (dv 0) (da_cons de_int da_nil)))))))) ds_nil) (ds_one (ds_ret (de_mod (de_callTy call_int1 ok_int1 T.b_int (by decide +kernel) (da_cons (dv 2) da_nil)) (de_pow de_int de_int)))))))
theorem ok__law_whole (T : Tx P w K mg ad cl) : DOk P w K mg base 1 (ad 20) ["_law_number_here"] (spD (Zz w K cl) f__law_whole 1) := by
  obtain ⟨fd, F, bd⟩ := T.f__law_whole
  refine ⟨⟨fd, fnD F sc__law_whole (body := b__law_whole) rfl rfl fun cdv A outer s H E hr => ?_, bd⟩, F.kp⟩
  have tk := L2N.takes_of (X := cxOf (L2N.CX P w) P w K mg base n__law_whole "_law_whole" (defScope s__law_whole) (ad 20) cdv A outer s H E) (E := E) rfl rfl rfl rfl
  have tw := tw_of tk
  exact (ds_one (ds_ret (de_and (de_isi (pe_bltn (v := .ty "int") (u := .type "int") rfl T.b_int (by decide +kernel) rfl) (.ty _) rfl T.ik_int T.ic_int (dv 0) T.b_isinstance) (de_one (de_not (de_isi (pe_bltn (v := .ty "bool") (u := .type "bool") rfl T.b_bool (by decide +kernel) rfl) (.ty _) rfl T.ik_bool T.ic_bool (dv 0) T.b_isinstance))))))
theorem ok__law_saying (T : Tx P w K mg ad cl) : DOk P w K mg base 3 (ad 21) ["_law_item"] (spD (Zz w K cl) f__law_saying 1) := by
  obtain ⟨fd, F, bd⟩ := T.f__law_saying
  refine ⟨⟨fd, fnD F sc__law_saying (body := b__law_saying) rfl rfl fun cdv A outer s H E hr => ?_, bd⟩, F.kp⟩
  have tk := L2N.takes_of (X := cxOf (L2N.CX P w) P w K mg base n__law_saying "_law_saying" (defScope s__law_saying) (ad 21) cdv A outer s H E) (E := E) rfl rfl rfl rfl
  have tw := tw_of tk
  exact (ds_cons (ds_if (dt_cmp (c_eq rfl hr) (de_ix rfl (dv 0) de_int) de_str) (ds_one (ds_ret (de_makeD T.mk_Older (ok_Saying___init___at_Older (P := P) (w := w) (base := base) T) (hr.mono (by decide)) T.g_Older tw (da_cons (de_ix rfl (dv 0) de_int) (da_cons (de_ix rfl (dv 0) de_int) da_nil)) rfl))) ds_nil) (ds_cons (ds_if (dt_cmp (c_eq rfl hr) (de_ix rfl (dv 0) de_int) de_str) (ds_one (ds_ret (de_makeD T.mk_Younger (ok_Saying___init___at_Younger (P := P) (w := w) (base := base) T) (hr.mono (by decide)) T.g_Younger tw (da_cons (de_ix rfl (dv 0) de_int) (da_cons (de_ix rfl (dv 0) de_int) da_nil)) rfl))) ds_nil) (ds_cons (ds_if (dt_cmp (c_eq rfl hr) (de_ix rfl (dv 0) de_int) de_str) (ds_one (ds_ret (de_makeD T.mk_One (ok_Saying___init___at_One (P := P) (w := w) (base := base) T) (hr.mono (by decide)) T.g_One tw (da_cons (de_ix rfl (dv 0) de_int) (da_cons (de_ix rfl (dv 0) de_int) da_nil)) rfl))) ds_nil) (ds_cons (ds_if (dt_cmp (c_eq rfl hr) (de_ix rfl (dv 0) de_int) de_str) (ds_one (ds_ret (de_makeD T.mk_NotOlder (ok_Saying___init___at_NotOlder (P := P) (w := w) (base := base) T) (hr.mono (by decide)) T.g_NotOlder tw (da_cons (de_ix rfl (dv 0) de_int) (da_cons (de_ix rfl (dv 0) de_int) da_nil)) rfl))) ds_nil) (ds_one (ds_ret (de_makeD T.mk_NotYounger (ok_Saying___init___at_NotYounger (P := P) (w := w) (base := base) T) (hr.mono (by decide)) T.g_NotYounger tw (da_cons (de_ix rfl (dv 0) de_int) (da_cons (de_ix rfl (dv 0) de_int) da_nil)) rfl)))))))
theorem ok__law_is (T : Tx P w K mg ad cl) : DOk P w K mg base 1 (ad 22) ["_law_value_here", "_law_due_here"] (spD (Zz w K cl) f__law_is 2) := by
  obtain ⟨fd, F, bd⟩ := T.f__law_is
  refine ⟨⟨fd, fnD F sc__law_is (body := b__law_is) rfl rfl fun cdv A outer s H E hr => ?_, bd⟩, F.kp⟩
  have tk := L2N.takes_of (X := cxOf (L2N.CX P w) P w K mg base n__law_is "_law_is" (defScope s__law_is) (ad 22) cdv A outer s H E) (E := E) rfl rfl rfl rfl
  have tw := tw_of tk
  exact (ds_cons (ds_if (dt_tru rfl (dv 1)) (ds_one (ds_ret (de_cmpK c_isB (dv 0) de_bl))) ds_nil) (ds_one (ds_ret (de_cmpK c_isB (dv 0) de_bl))))
theorem ok__law_class (T : Tx P w K mg ad cl) : DOk P w K mg base 2 (ad 23) ["_law_saying_here"] (spD (Zz w K cl) f__law_class 1) := by
  obtain ⟨fd, F, bd⟩ := T.f__law_class
  refine ⟨⟨fd, fnD F sc__law_class (body := b__law_class) rfl rfl fun cdv A outer s H E hr => ?_, bd⟩, F.kp⟩
  have tk := L2N.takes_of (X := cxOf (L2N.CX P w) P w K mg base n__law_class "_law_class" (defScope s__law_class) (ad 23) cdv A outer s H E) (E := E) rfl rfl rfl rfl
  have tw := tw_of tk
  exact (ds_cons (ds_set (i := 1) sc__law_class.nd (de_lst (da_cons (de_isi (pe_glob (v := .ref (cl 5)) rfl T.g_One rfl) (.own _) rfl T.ik_One T.ic_One (dv 0) T.b_isinstance) (da_cons (de_isi (pe_glob (v := .ref (cl 3)) rfl T.g_Older rfl) (.own _) rfl T.ik_Older T.ic_Older (dv 0) T.b_isinstance) (da_cons (de_isi (pe_glob (v := .ref (cl 4)) rfl T.g_Younger rfl) (.own _) rfl T.ik_Younger T.ic_Younger (dv 0) T.b_isinstance) da_nil))))) (ds_cons (ds_set (i := 1) sc__law_class.nd (de_add (dv 1) (de_lst (da_cons (de_isi (pe_glob (v := .ref (cl 6)) rfl T.g_NotOlder rfl) (.own _) rfl T.ik_NotOlder T.ic_NotOlder (dv 0) T.b_isinstance) (da_cons (de_isi (pe_glob (v := .ref (cl 7)) rfl T.g_NotYounger rfl) (.own _) rfl T.ik_NotYounger T.ic_NotYounger (dv 0) T.b_isinstance) (da_cons (de_isi (pe_glob (v := .ref (cl 9)) rfl T.g_Saying rfl) (.own _) rfl T.ik_Saying T.ic_Saying (dv 0) T.b_isinstance) da_nil)))))) (ds_cons (ds_if (dt_cmp (c_eq rfl hr) (dv 1) (de_lst (da_cons de_bl (da_cons de_bl (da_cons de_bl (da_cons de_bl (da_cons de_bl (da_cons de_bl da_nil)))))))) (ds_one (ds_ret de_str)) ds_nil) (ds_cons (ds_if (dt_cmp (c_eq rfl hr) (dv 1) (de_lst (da_cons de_bl (da_cons de_bl (da_cons de_bl (da_cons de_bl (da_cons de_bl (da_cons de_bl da_nil)))))))) (ds_one (ds_ret de_str)) ds_nil) (ds_cons (ds_if (dt_cmp (c_eq rfl hr) (dv 1) (de_lst (da_cons de_bl (da_cons de_bl (da_cons de_bl (da_cons de_bl (da_cons de_bl (da_cons de_bl da_nil)))))))) (ds_one (ds_ret de_str)) ds_nil) (ds_cons (ds_if (dt_cmp (c_eq rfl hr) (dv 1) (de_lst (da_cons de_bl (da_cons de_bl (da_cons de_bl (da_cons de_bl (da_cons de_bl (da_cons de_bl da_nil)))))))) (ds_one (ds_ret de_str)) ds_nil) (ds_cons (ds_if (dt_cmp (c_eq rfl hr) (dv 1) (de_lst (da_cons de_bl (da_cons de_bl (da_cons de_bl (da_cons de_bl (da_cons de_bl (da_cons de_bl da_nil)))))))) (ds_one (ds_ret de_str)) ds_nil) (ds_one (ds_ret de_str)))))))))
theorem ok__law_said (T : Tx P w K mg ad cl) : DOk P w K mg base 3 (ad 24) ["_law_saying_here", "_law_item"] (spD (Zz w K cl) f__law_said 2) := by
  obtain ⟨fd, F, bd⟩ := T.f__law_said
  refine ⟨⟨fd, fnD F sc__law_said (body := b__law_said) rfl rfl fun cdv A outer s H E hr => ?_, bd⟩, F.kp⟩
  have tk := L2N.takes_of (X := cxOf (L2N.CX P w) P w K mg base n__law_said "_law_said" (defScope s__law_said) (ad 24) cdv A outer s H E) (E := E) rfl rfl rfl rfl
  have tw := tw_of tk
  exact (ds_cons (ds_if (PW.pt (dw_or (dt_cmp (c_ne rfl hr) (de_callD (ok__law_class (P := P) (w := w) (base := base) T) (hr.mono (by decide)) T.g__law_class tw (da_cons (dv 0) da_nil)) (de_ix rfl (dv 1) de_int)) (dw_or (dt_not (dt_val (de_callD (ok__law_whole (P := P) (w := w) (base := base) T) (hr.mono (by decide)) T.g__law_whole tw (da_cons (de_fldG (dv 0) T.fg_S_left) da_nil)))) (dw_or1 (dt_not (dt_val (de_callD (ok__law_whole (P := P) (w := w) (base := base) T) (hr.mono (by decide)) T.g__law_whole tw (da_cons (de_fldG (dv 0) T.fg_S_right) da_nil)))))))) (ds_one (ds_ret de_bl)) ds_nil) (ds_one (ds_ret (de_and (de_cmpK (c_eq rfl hr) (de_fldG (dv 0) T.fg_S_left) (de_ix rfl (dv 1) de_int)) (de_one (de_cmpK (c_eq rfl hr) (de_fldG (dv 0) T.fg_S_right) (de_ix rfl (dv 1) de_int)))))))
theorem ok__law_char (T : Tx P w K mg ad cl) : DOk P w K mg base 1 (ad 25) ["_law_number_here"] (spD (Zz w K cl) f__law_char 1) := by
  obtain ⟨fd, F, bd⟩ := T.f__law_char
  refine ⟨⟨fd, fnD F sc__law_char (body := b__law_char) rfl rfl fun cdv A outer s H E hr => ?_, bd⟩, F.kp⟩
  have tk := L2N.takes_of (X := cxOf (L2N.CX P w) P w K mg base n__law_char "_law_char" (defScope s__law_char) (ad 25) cdv A outer s H E) (E := E) rfl rfl rfl rfl
  have tw := tw_of tk
  exact (ds_cons (ds_set (i := 1) sc__law_char.nd de_str) (ds_cons (ds_set (i := 1) sc__law_char.nd (de_add (dv 1) de_str)) (ds_one (ds_ret (de_ix rfl (dv 1) (de_mod (de_callTy call_int1 ok_int1 T.b_int (by decide +kernel) (da_cons (dv 0) da_nil)) de_int))))))
theorem ok__law_value (T : Tx P w K mg ad cl) : DOk P w K mg base 2 (ad 26) ["_law_word"] (spD (Zz w K cl) f__law_value 1) := by
  obtain ⟨fd, F, bd⟩ := T.f__law_value
  refine ⟨⟨fd, fnD F sc__law_value (body := b__law_value) rfl rfl fun cdv A outer s H E hr => ?_, bd⟩, F.kp⟩
  have tk := L2N.takes_of (X := cxOf (L2N.CX P w) P w K mg base n__law_value "_law_value" (defScope s__law_value) (ad 26) cdv A outer s H E) (E := E) rfl rfl rfl rfl
  have tw := tw_of tk
  exact (ds_cons (ds_if (PW.pt (dw_or (dt_cmp (c_eq rfl hr) (dv 0) de_str) (dw_or1 (PW.pt (dw_and (dt_cmp c_gt (de_callB call_len (ok_len rfl) T.b_len PySem.boot_len (da_cons (dv 0) da_nil)) de_int) (dw_and1 (dt_cmp (c_eq rfl hr) (de_ix rfl (dv 0) de_int) de_str))))))) (ds_one (ds_ret (de_neg de_int))) ds_nil) (ds_cons (ds_for (passes_of rfl) (di_str (dv 0)) (dg_name (i := 1) sc__law_value.nd) (ds_one (ds_if (dt_cmp c_notInS (dv 1) de_str) (ds_one (ds_ret (de_neg de_int))) ds_nil))) (ds_one (ds_ret (de_callTy call_int_str ok_intS T.b_int (by decide +kernel) (da_cons (dv 0) da_nil))))))
theorem ok__law_odd (T : Tx P w K mg ad cl) : DOk P w K mg base 1 (ad 27) ["_law_number_here"] (spD (Zz w K cl) f__law_odd 1) := by
  obtain ⟨fd, F, bd⟩ := T.f__law_odd
  refine ⟨⟨fd, fnD F sc__law_odd (body := b__law_odd) rfl rfl fun cdv A outer s H E hr => ?_, bd⟩, F.kp⟩
  have tk := L2N.takes_of (X := cxOf (L2N.CX P w) P w K mg base n__law_odd "_law_odd" (defScope s__law_odd) (ad 27) cdv A outer s H E) (E := E) rfl rfl rfl rfl
  have tw := tw_of tk
  exact (ds_cons (ds_set (i := 1) sc__law_odd.nd (de_lst (da_cons de_str (da_cons de_str (da_cons de_str (da_cons de_str (da_cons de_str (da_cons de_str (da_cons de_str (da_cons de_str (da_cons de_str (da_cons de_str (da_cons de_str (da_cons de_str da_nil)))))))))))))) (ds_cons (ds_set (i := 1) sc__law_odd.nd (de_add (dv 1) (de_lst (da_cons de_str (da_cons de_str (da_cons de_str (da_cons de_str (da_cons de_str (da_cons de_str (da_cons de_str (da_cons de_str da_nil))))))))))) (ds_one (ds_ret (de_ix rfl (dv 1) (de_mod (de_callTy call_int1 ok_int1 T.b_int (by decide +kernel) (da_cons (dv 0) da_nil)) de_int))))))
theorem ok__law_spoiled (T : Tx P w K mg ad cl) : DOk P w K mg base 3 (ad 28) ["_law_pool_here", "_law_words"] (spD (Zz w K cl) f__law_spoiled 2) := by
  obtain ⟨fd, F, bd⟩ := T.f__law_spoiled
  refine ⟨⟨fd, fnD F sc__law_spoiled (body := b__law_spoiled) rfl rfl fun cdv A outer s H E hr => ?_, bd⟩, F.kp⟩
  have tk := L2N.takes_of (X := cxOf (L2N.CX P w) P w K mg base n__law_spoiled "_law_spoiled" (defScope s__law_spoiled) (ad 28) cdv A outer s H E) (E := E) rfl rfl rfl rfl
  have tw := tw_of tk
  exact (ds_cons (ds_set (i := 1) sc__law_spoiled.nd (de_callTy call_list_of (ok_listC rfl) T.b_list (by decide +kernel) (da_cons (dv 1) da_nil))) (ds_cons (ds_set (i := 2) sc__law_spoiled.nd (de_callD (ok__law_draw (P := P) (w := w) (base := base) T) (hr.mono (by decide)) T.g__law_draw tw (da_cons (dv 0) (da_cons (de_callB call_len (ok_len rfl) T.b_len PySem.boot_len (da_cons (dv 1) da_nil)) da_nil)))) (ds_cons (ds_set (i := 3) sc__law_spoiled.nd (de_callD (ok__law_draw (P := P) (w := w) (base := base) T) (hr.mono (by decide)) T.g__law_draw tw (da_cons (dv 0) (da_cons de_int da_nil)))) (ds_cons (ds_set (i := 4) sc__law_spoiled.nd (de_ix rfl (dv 1) (dv 2))) (ds_cons (ds_set (i := 5) sc__law_spoiled.nd (de_callD (ok__law_draw (P := P) (w := w) (base := base) T) (hr.mono (by decide)) T.g__law_draw tw (da_cons (dv 0) (da_cons (de_add (de_callB call_len (ok_len rfl) T.b_len PySem.boot_len (da_cons (dv 4) da_nil)) de_int) da_nil)))) (ds_cons (ds_set (i := 6) sc__law_spoiled.nd (de_callD (ok__law_odd (P := P) (w := w) (base := base) T) (hr.mono (by decide)) T.g__law_odd tw (da_cons (de_callD (ok__law_draw (P := P) (w := w) (base := base) T) (hr.mono (by decide)) T.g__law_draw tw (da_cons (dv 0) (da_cons de_int da_nil))) da_nil))) (ds_cons (ds_set (i := 7) sc__law_spoiled.nd (de_callD (ok__law_char (P := P) (w := w) (base := base) T) (hr.mono (by decide)) T.g__law_char tw (da_cons (de_callD (ok__law_draw (P := P) (w := w) (base := base) T) (hr.mono (by decide)) T.g__law_draw tw (da_cons (dv 0) (da_cons de_int da_nil))) da_nil))) (ds_cons (ds_if (dt_cmp (c_eq rfl hr) (dv 3) de_int) (ds_one (ds_setIx (dv 1) (dv 2) (dv 6))) ds_nil) (ds_cons (ds_if (dt_cmp (c_eq rfl hr) (dv 3) de_int) (ds_one (ds_setIx (dv 1) (dv 2) (de_add (de_add (de_slice rfl (dv 4) dp_none (dp_some (dv 5))) (dv 7)) (de_slice rfl (dv 4) (dp_some (dv 5)) dp_none)))) ds_nil) (ds_cons (ds_if (dt_cmp (c_eq rfl hr) (dv 3) de_int) (ds_one (ds_setIx (dv 1) (dv 2) (de_add (de_slice rfl (dv 4) dp_none (dp_some (dv 5))) (de_slice rfl (dv 4) (dp_some (de_add (dv 5) de_int)) dp_none)))) ds_nil) (ds_cons (ds_if (dt_cmp (c_eq rfl hr) (dv 3) de_int) (ds_cons (ds_setIx (dv 1) (dv 2) (de_ix rfl (dv 1) (de_sub (dv 2) de_int))) (ds_one (ds_setIx (dv 1) (de_sub (dv 2) de_int) (dv 4)))) ds_nil) (ds_one (ds_ret (dv 1))))))))))))))
theorem ok__law_due (T : Tx P w K mg ad cl) : DOk P w K mg base 3 (ad 29) ["_law_parts"] (spD (Zz w K cl) f__law_due 1) := by
  obtain ⟨fd, F, bd⟩ := T.f__law_due
  refine ⟨⟨fd, fnD F sc__law_due (body := b__law_due) rfl rfl fun cdv A outer s H E hr => ?_, bd⟩, F.kp⟩
  have tk := L2N.takes_of (X := cxOf (L2N.CX P w) P w K mg base n__law_due "_law_due" (defScope s__law_due) (ad 29) cdv A outer s H E) (E := E) rfl rfl rfl rfl
  have tw := tw_of tk
  exact (ds_cons (ds_set (i := 1) sc__law_due.nd (de_lst (da_cons de_str (da_cons de_str (da_cons de_str (da_cons de_str (da_cons de_str da_nil))))))) (ds_cons (ds_if (dt_cmp (c_notInQ rfl) (de_ix rfl (dv 0) de_int) (dv 1)) (ds_one (ds_ret de_int)) ds_nil) (ds_cons (ds_if (PW.pt (dw_and (dt_cmp c_gt (de_callB call_len (ok_len rfl) T.b_len PySem.boot_len (da_cons (dv 0) da_nil)) de_int) (dw_and1 (dt_cmp c_lt (de_callD (ok__law_value (P := P) (w := w) (base := base) T) (hr.mono (by decide)) T.g__law_value tw (da_cons (de_ix rfl (dv 0) de_int) da_nil)) de_int)))) (ds_one (ds_ret de_int)) ds_nil) (ds_cons (ds_if (PW.pt (dw_and (dt_cmp c_gt (de_callB call_len (ok_len rfl) T.b_len PySem.boot_len (da_cons (dv 0) da_nil)) de_int) (dw_and1 (dt_cmp c_lt (de_callD (ok__law_value (P := P) (w := w) (base := base) T) (hr.mono (by decide)) T.g__law_value tw (da_cons (de_ix rfl (dv 0) de_int) da_nil)) de_int)))) (ds_one (ds_ret de_int)) ds_nil) (ds_cons (ds_if (dt_cmp c_gt (de_callB call_len (ok_len rfl) T.b_len PySem.boot_len (da_cons (dv 0) da_nil)) de_int) (ds_one (ds_ret de_int)) ds_nil) (ds_cons (ds_if (dt_cmp c_lt (de_callB call_len (ok_len rfl) T.b_len PySem.boot_len (da_cons (dv 0) da_nil)) de_int) (ds_one (ds_ret (de_add (de_callB call_len (ok_len rfl) T.b_len PySem.boot_len (da_cons (dv 0) da_nil)) de_int))) ds_nil) (ds_one (ds_ret de_int))))))))
theorem ok__law_base (T : Tx P w K mg ad cl) : DOk P w K mg base 5 (ad 30) ["_law_text"] (spD (Zz w K cl) f__law_base 1) := by
  obtain ⟨fd, F, bd⟩ := T.f__law_base
  refine ⟨⟨fd, fnD F sc__law_base (body := b__law_base) rfl rfl fun cdv A outer s H E hr => ?_, bd⟩, F.kp⟩
  have tk := L2N.takes_of (X := cxOf (L2N.CX P w) P w K mg base n__law_base "_law_base" (defScope s__law_base) (ad 30) cdv A outer s H E) (E := E) rfl rfl rfl rfl
  have tw := tw_of tk
  exact (ds_cons (ds_try_as (i := 1) rfl rfl sc__law_base.nd rfl ⟨rfl, by decide, .inl T.g_SiltError⟩ tk T.xe_SiltError (fun W pn xe tkb hpb => (ds_one (ds_expr (de_callD (ok_read_saying (P := P) (w := w) (base := base) T) (hr.mono (by decide)) T.g_read_saying (tw_of tkb) (da_cons (dv 0) da_nil))))) (fun a oe c d pn hcn hzn hfl => (have hrh := L2H.roomH_mark hr (some (.ref a)); (ds_one (ds_ret (de_and (de_isX (T.xi _ hcn) (pe_glob (v := .ref (cl 0)) rfl T.g_BadText rfl) (fun _ r => r) (fun b h => by cases h; exact T.xk_BadText _ hcn) hzn hfl (dv 1) T.b_isinstance) (de_and (de_isX (T.xi _ hcn) (pe_bltn (v := .ty "ValueError") (u := .type "ValueError") rfl T.b_ValueError (by decide +kernel) rfl) (fun _ r => r) (fun b h => by cases h; exact T.xk_ValueError _ hcn) hzn hfl (dv 1) T.b_isinstance) (de_one (de_not (de_isX (T.xi _ hcn) (pe_glob (v := .ref (cl 1)) rfl T.g_BadRecord rfl) (fun _ r => r) (fun b h => by cases h; exact T.xk_BadRecord _ hcn) hzn hfl (dv 1) T.b_isinstance)))))))))) (ds_one (ds_ret de_bl)))
theorem ok__law_right (T : Tx P w K mg ad cl) : DOk P w K mg base 6 (ad 31) ["_law_text"] (spD (Zz w K cl) f__law_right 1) := by
  obtain ⟨fd, F, bd⟩ := T.f__law_right
  refine ⟨⟨fd, fnD F sc__law_right (body := b__law_right) rfl rfl fun cdv A outer s H E hr => ?_, bd⟩, F.kp⟩
  have tk := L2N.takes_of (X := cxOf (L2N.CX P w) P w K mg base n__law_right "_law_right" (defScope s__law_right) (ad 31) cdv A outer s H E) (E := E) rfl rfl rfl rfl
  have tw := tw_of tk
  exact (ds_cons (ds_set (i := 1) sc__law_right.nd (de_split (dv 0) de_str)) (ds_cons (ds_set (i := 2) sc__law_right.nd (de_callD (ok__law_due (P := P) (w := w) (base := base) T) (hr.mono (by decide)) T.g__law_due tw (da_cons (dv 1) da_nil))) (ds_cons (ds_set (i := 3) sc__law_right.nd de_int) (ds_cons (ds_set (i := 4) sc__law_right.nd de_non) (ds_cons (ds_try_as (i := 5) rfl rfl sc__law_right.nd rfl ⟨rfl, by decide, .inl T.g_BadText⟩ tk T.xe_BadText (fun W pn xe tkb hpb => (ds_one (ds_set (i := 4) sc__law_right.nd (de_callD (ok_read_saying (P := P) (w := w) (base := base) T) (hr.mono (by decide)) T.g_read_saying (tw_of tkb) (da_cons (dv 0) da_nil))))) (fun a oe c d pn hcn hzn hfl => (have hrh := L2H.roomH_mark hr (some (.ref a)); (ds_one (ds_set (i := 3) sc__law_right.nd (de_xf (xf_word T) hzn hfl (dv 5))))))) (ds_cons (ds_if (dt_cmp c_gt (dv 2) de_int) (ds_one (ds_ret (de_and (de_callD (ok__law_whole (P := P) (w := w) (base := base) T) (hr.mono (by decide)) T.g__law_whole tw (da_cons (dv 3) da_nil)) (de_and (de_cmpK (c_eq rfl hr) (dv 3) (dv 2)) (de_and (de_cmpK c_isN (dv 4) de_non) (de_one (de_callD (ok__law_base (P := P) (w := w) (base := base) T) (hr.mono (by decide)) T.g__law_base tw (da_cons (dv 0) da_nil)))))))) ds_nil) (ds_cons (ds_if (dt_cmp c_isN (dv 4) de_non) (ds_one (ds_ret de_bl)) ds_nil) (ds_one (ds_ret (de_callD (ok__law_said (P := P) (w := w) (base := base) T) (hr.mono (by decide)) T.g__law_said tw (da_cons (dv 4) (da_cons (de_tup (da_cons (de_ix rfl (dv 1) de_int) (da_cons (de_callD (ok__law_value (P := P) (w := w) (base := base) T) (hr.mono (by decide)) T.g__law_value tw (da_cons (de_ix rfl (dv 1) de_int) da_nil)) (da_cons (de_callD (ok__law_value (P := P) (w := w) (base := base) T) (hr.mono (by decide)) T.g__law_value tw (da_cons (de_ix rfl (dv 1) de_int) da_nil)) da_nil)))) da_nil))))))))))))
theorem g_written (T : Tx P w K mg ad cl) : GOk P w K mg base (Zz w K cl) 1 "written" 1 tb_written := by
  refine ⟨fun c fh h => ?_⟩
  unfold tb_written at h
  rcases tb_cons h with ⟨rfl, rfl⟩ | h
  · exact ⟨show ("written" : Str) ∉ flds 3 by decide +kernel, T.k_Older.cls, ad 13, _, T.mt_written_Older, (ok_Saying_written (P := P) (w := w) (base := base) T).mono (by decide)⟩
  rcases tb_cons h with ⟨rfl, rfl⟩ | h
  · exact ⟨show ("written" : Str) ∉ flds 4 by decide +kernel, T.k_Younger.cls, ad 13, _, T.mt_written_Younger, (ok_Saying_written (P := P) (w := w) (base := base) T).mono (by decide)⟩
  rcases tb_cons h with ⟨rfl, rfl⟩ | h
  · exact ⟨show ("written" : Str) ∉ flds 5 by decide +kernel, T.k_One.cls, ad 13, _, T.mt_written_One, (ok_Saying_written (P := P) (w := w) (base := base) T).mono (by decide)⟩
  rcases tb_cons h with ⟨rfl, rfl⟩ | h
  · exact ⟨show ("written" : Str) ∉ flds 6 by decide +kernel, T.k_NotOlder.cls, ad 13, _, T.mt_written_NotOlder, (ok_Saying_written (P := P) (w := w) (base := base) T).mono (by decide)⟩
  rcases tb_cons h with ⟨rfl, rfl⟩ | h
  · exact ⟨show ("written" : Str) ∉ flds 7 by decide +kernel, T.k_NotYounger.cls, ad 13, _, T.mt_written_NotYounger, (ok_Saying_written (P := P) (w := w) (base := base) T).mono (by decide)⟩
  exact (tb_nil h).elim
theorem okF_law (T : Tx P w K mg ad cl) {fa : Addr} {fd : FuncData} (F : Fun K "law" "law" s_law fa fd) : FnOk P w K mg base (L2N.CX P w) 7 fa fd ["_law_script"] (spD (Zz w K cl) f_law 1) := by
  refine fnD F sc_law (body := b_law) rfl rfl fun cdv A outer s H E hr => ?_
  have tk := L2N.takes_of (X := cxOf (L2N.CX P w) P w K mg base n_law "law" (defScope s_law) fa cdv A outer s H E) (E := E) rfl rfl rfl rfl
  have tw := tw_of tk
  exact (ds_cons (ds_set (i := 1) sc_law.nd (de_callD (ok__law_pool (P := P) (w := w) (base := base) T) (hr.mono (by decide)) T.g__law_pool tw (da_cons (dv 0) (da_cons de_int da_nil)))) (ds_cons (ds_set (i := 2) sc_law.nd (de_lst (da_cons de_str (da_cons de_str (da_cons de_str (da_cons de_str (da_cons de_str da_nil))))))) (ds_cons (ds_set (i := 3) sc_law.nd (de_tup (da_cons (de_ix rfl (dv 2) (de_callD (ok__law_draw (P := P) (w := w) (base := base) T) (hr.mono (by decide)) T.g__law_draw tw (da_cons (dv 1) (da_cons de_int da_nil)))) (da_cons (de_callD (ok__law_number (P := P) (w := w) (base := base) T) (hr.mono (by decide)) T.g__law_number tw (da_cons (dv 1) da_nil)) (da_cons (de_callD (ok__law_number (P := P) (w := w) (base := base) T) (hr.mono (by decide)) T.g__law_number tw (da_cons (dv 1) da_nil)) da_nil))))) (ds_cons (ds_set (i := 4) sc_law.nd (de_add (de_add (de_add (de_add (de_ix rfl (dv 3) de_int) de_str) (de_callTy call_str_int ok_strB T.b_str (by decide +kernel) (da_cons (de_ix rfl (dv 3) de_int) da_nil))) de_str) (de_callTy call_str_int ok_strB T.b_str (by decide +kernel) (da_cons (de_ix rfl (dv 3) de_int) da_nil)))) (ds_cons (ds_set (i := 5) sc_law.nd (de_callD (ok__law_saying (P := P) (w := w) (base := base) T) (hr.mono (by decide)) T.g__law_saying tw (da_cons (dv 3) da_nil))) (ds_cons (ds_if (PW.pt (dw_or (dt_not (dt_val (de_isi (pe_bltn (v := .ty "str") (u := .type "str") rfl T.b_str (by decide +kernel) rfl) (.ty _) rfl T.ik_str T.ic_str (de_methT0 (dv 5) (g_written (P := P) (w := w) (base := base) T) (hr.mono (by decide)) tw) T.b_isinstance))) (dw_or (dt_cmp (c_ne rfl hr) (de_methT0 (dv 5) (g_written (P := P) (w := w) (base := base) T) (hr.mono (by decide)) tw) (dv 4)) (dw_or1 (dt_not (dt_val (de_callD (ok__law_right (P := P) (w := w) (base := base) T) (hr.mono (by decide)) T.g__law_right tw (da_cons (dv 4) da_nil)))))))) (ds_one (ds_ret de_bl)) ds_nil) (ds_cons (ds_set (i := 6) sc_law.nd (de_callD (ok_read_saying (P := P) (w := w) (base := base) T) (hr.mono (by decide)) T.g_read_saying tw (da_cons (dv 4) da_nil))) (ds_cons (ds_if (PW.pt (dw_or (dt_not (dt_val (de_callD (ok__law_is (P := P) (w := w) (base := base) T) (hr.mono (by decide)) T.g__law_is tw (da_cons (de_ownE T.eq_S (ok_Saying___eq__ (P := P) (w := w) (base := base) T) (hr.mono (by decide)) tw (dv 6) (dv 5)) (da_cons de_bl da_nil))))) (dw_or1 (dt_cmp (c_ne rfl hr) (de_methT0 (dv 6) (g_written (P := P) (w := w) (base := base) T) (hr.mono (by decide)) tw) (dv 4))))) (ds_one (ds_ret de_bl)) ds_nil) (ds_cons (ds_set (i := 7) sc_law.nd (de_split (dv 4) de_str)) (ds_cons (ds_for (passes_of rfl) (di_range1 T.b_range (da_cons (de_add de_int (de_callD (ok__law_draw (P := P) (w := w) (base := base) T) (hr.mono (by decide)) T.g__law_draw tw (da_cons (dv 1) (da_cons de_int da_nil)))) da_nil)) (dg_name (i := 8) sc_law.nd) (ds_one (ds_set (i := 7) sc_law.nd (de_callD (ok__law_spoiled (P := P) (w := w) (base := base) T) (hr.mono (by decide)) T.g__law_spoiled tw (da_cons (dv 1) (da_cons (dv 7) da_nil)))))) (ds_cons (ds_set (i := 9) sc_law.nd (de_callD (ok__law_draw (P := P) (w := w) (base := base) T) (hr.mono (by decide)) T.g__law_draw tw (da_cons (dv 1) (da_cons de_int da_nil)))) (ds_cons (ds_if (dt_cmp (c_eq rfl hr) (dv 9) de_int) (ds_one (ds_set (i := 7) sc_law.nd (de_slice rfl (dv 7) dp_none (dp_some de_int)))) ds_nil) (ds_cons (ds_if (dt_cmp (c_eq rfl hr) (dv 9) de_int) (ds_one (ds_set (i := 7) sc_law.nd (de_slice rfl (dv 7) dp_none (dp_some de_int)))) ds_nil) (ds_cons (ds_if (dt_cmp (c_eq rfl hr) (dv 9) de_int) (ds_one (ds_set (i := 7) sc_law.nd (de_add (dv 7) (de_lst (da_cons de_str da_nil))))) ds_nil) (ds_cons (ds_if (dt_cmp (c_eq rfl hr) (dv 9) de_int) (ds_one (ds_set (i := 7) sc_law.nd (de_add (dv 7) (de_lst (da_cons (de_callD (ok__law_odd (P := P) (w := w) (base := base) T) (hr.mono (by decide)) T.g__law_odd tw (da_cons (de_callD (ok__law_draw (P := P) (w := w) (base := base) T) (hr.mono (by decide)) T.g__law_draw tw (da_cons (dv 1) (da_cons de_int da_nil))) da_nil)) da_nil))))) ds_nil) (ds_cons (ds_if (dt_not (dt_val (de_callD (ok__law_right (P := P) (w := w) (base := base) T) (hr.mono (by decide)) T.g__law_right tw (da_cons (de_join rfl de_str (dv 7)) da_nil)))) (ds_one (ds_ret de_bl)) ds_nil) (ds_cons (ds_set (i := 10) sc_law.nd (de_tup (da_cons (de_ix rfl (dv 3) de_int) (da_cons (de_sub (de_sub (de_pow de_int de_int) de_int) (de_callD (ok__law_number (P := P) (w := w) (base := base) T) (hr.mono (by decide)) T.g__law_number tw (da_cons (dv 1) da_nil))) (da_cons (de_add (de_pow de_int de_int) (de_ix rfl (dv 3) de_int)) da_nil))))) (ds_cons (ds_set (i := 4) sc_law.nd (de_add (de_add (de_add (de_add (de_ix rfl (dv 10) de_int) de_str) (de_callTy call_str_int ok_strB T.b_str (by decide +kernel) (da_cons (de_ix rfl (dv 10) de_int) da_nil))) de_str) (de_callTy call_str_int ok_strB T.b_str (by decide +kernel) (da_cons (de_ix rfl (dv 10) de_int) da_nil)))) (ds_one (ds_ret (de_and (de_callD (ok__law_right (P := P) (w := w) (base := base) T) (hr.mono (by decide)) T.g__law_right tw (da_cons (dv 4) da_nil)) (de_one (de_cmpK (c_eq rfl hr) (de_methT0 (de_callD (ok__law_saying (P := P) (w := w) (base := base) T) (hr.mono (by decide)) T.g__law_saying tw (da_cons (dv 10) da_nil)) (g_written (P := P) (w := w) (base := base) T) (hr.mono (by decide)) tw) (dv 4))))))))))))))))))))))))
end
end ZZ
set_option Elab.async false
set_option linter.all false
set_option maxRecDepth 100000
set_option maxHeartbeats 4000000
open Lean Parser Tactic in
local macro_rules
  | `(tactic| simp? only [$xs,*] $[$l]?) => do
    let es := xs.getElems.filter fun x => x.raw.getKind == ``simpErase
    let ks := (#[`mkD, `List.map_cons, `List.map_nil, `List.length_cons, `List.length_nil, `Nat.reduceAdd, `Nat.reduceSub, `List.replicate_succ, `List.replicate_zero, `List.cons_append, `List.nil_append, `sSeq, `sSet, `sRet, `sExp, `sDrop, `sIf, `sNil, `sFor, `eBin, `eUn, `eBind, `eV, `eC, `eArgs, `eAnd, `eOr, `eNot, `eIf, `eMth, `eTru, `kBool, `List.getElem?_cons_zero, `List.getElem?_cons_succ, `List.set_cons_zero, `List.set_cons_succ, `if_true, `if_false, `ite_true, `ite_false, `Bool.false_eq_true, `eq_self_iff_true, `reduceIte, `ims, `Option.map_some, `kTup, `kLst, `kLstC, `kCall, `List.all_cons, `List.all_nil, `plainV, `Bool.and_true, `Bool.true_and, `iExp, `iArgs, `itS, `itL, `itT, `itLT, `gN, `gT, `gL, `Option.bind_some, `frz, `ce_get, `ce_get0, `ce_set, `ce_set0, `ce_take, `asL, `asSq, `asIm, `truV, `kTru, `kAdd, `kSub, `kMod, `kLen, `kInt, `kMin, `kMax, `kCmp, `kIsB, `tyL, `tyS, `Option.isSome_some, `Bool.and_self, `beq_self_eq_true, `Option.isSome, `Bool.or_true, `Bool.true_or, `Bool.not_true, `Bool.not_false, `Bool.false_and, `Bool.and_false, `Bool.or_false, `Bool.false_or, `List.cons.injEq, `reduceCtorEq, `false_and, `and_false, `and_self, `and_true, `true_and, `decide_true, `decide_false, `Nat.reduceLeDiff, `LINE] : Array Name).filter fun n => !es.any fun e => e.raw[1].getId == n
    let ls ← ks.mapM fun n => `(simpLemma| $(mkIdent n):ident)
    let ys := (ls.map fun l => l.raw) ++ (xs.getElems.filter fun x => x.raw.getKind != ``simpErase).map fun x => x.raw
    let zs : Syntax.TSepArray [``simpStar, ``simpErase, ``simpLemma] "," := ⟨(mkNullNode (Syntax.mkSep ys (mkAtom ",")).getArgs).getArgs⟩
    `(tactic| simp only [$zs,*] $[$l]?)
namespace ZZ
open PySem PySem.Spec L2
theorem mul_ok_l {i j : Int} (h : i.natAbs < 2 ^ 64) : mulOK i j = true := by
  unfold mulOK
  simp only [h, decide_true, Bool.true_or, Bool.or_true]
theorem mul_ok_r {i j : Int} (h : j.natAbs < 2 ^ 64) : mulOK i j = true := by
  unfold mulOK
  simp only [h, decide_true, Bool.or_true]
def mixI (c t : Int) : Int := (c * 97 * (t + 1) + 31 * t) % 1000003 + (c * 97 * (t + 1) + 31 * t) % 1000003 * ((c * 97 * (t + 1) + 31 * t) % 1000003) / 1013
theorem m_mix' (c t : Int) (ce : List Cell) (h0 : 0 ≤ t) (h1 : t < 2 ^ 60) : f__law_mix [.im (.int c), .im (.int t)] ce = .ok (.im (.int (mixI c t))) ce := by
  have e1 : mulOK c 97 = true := mul_ok_r (by decide)
  have e2 : mulOK (c * 97) (t + 1) = true := mul_ok_r (by omega)
  have e3 : mulOK 31 t = true := mul_ok_l (by decide)
  have e4 : ∀ x : Int, mulOK (x % 1000003) (x % 1000003) = true := fun x => mul_ok_r (by omega)
  unfold f__law_mix b__law_mix
  simp? only [kMul, kDiv, e1, e2, e3, e4, finD, List.take_length, Int.reduceLT]
  rfl
theorem m_draw (k : Nat) (ds : List Int) (b : Int) (ce : List Cell) (hk : ce[k]? = some (.lst (ds.map .int))) (hb : 0 < b) : ∃ r ds', 0 ≤ r ∧ r < b ∧ f__law_draw [.cell k, .im (.int b)] ce = .ok (.im (.int r)) (ce.set k (.lst (List.map D.int ds'))) := by
  unfold f__law_draw b__law_draw
  cases ds with
  | nil =>
    refine ⟨0, [], Int.le_refl _, hb, ?_⟩
    have e : ce.set k (.lst (List.map D.int [])) = ce := by
      refine List.ext_getElem? fun j => ?_
      by_cases hj : k = j
      · subst hj
        rw [List.getElem?_set_self (List.getElem?_eq_some_iff.mp hk).1, hk]
      · rw [List.getElem?_set_ne hj]
    rw [e]
    rw [List.map_nil] at hk
    have hz : ((0 : Nat) : Int) = 0 := rfl
    simp? only [hk, eq_int, hz, finD, List.take_length]
  | cons d ds =>
    refine ⟨d % b, ds, Int.emod_nonneg _ (by omega), Int.emod_lt_of_pos _ hb, ?_⟩
    rw [List.map_cons] at hk
    have e : ¬ (((D.int d :: ds.map D.int).length : Nat) : Int) = 0 := by rw [List.length_cons]; omega
    have e2 : seqIndex? 0 (D.int d :: ds.map D.int).length = some 0 := by
      unfold seqIndex?
      rw [List.length_cons]
      simp
      try omega
    have kp : ∀ sl, kPopAt (.cell k) [.im (.int 0)] sl ce = .ok (.im (.int d)) (ce.set k (.lst (ds.map D.int))) := fun sl => by
      unfold kPopAt
      simp only [hk, e2]
      rw [if_pos ⟨by decide, by decide⟩]
      rfl
    simp only [eTru, mkD, List.map_cons, List.map_nil, Nat.reduceAdd, Nat.reduceSub, List.replicate_succ, List.replicate_zero, List.cons_append, List.nil_append, sSeq, sSet, sRet, sExp, sDrop, sIf, sNil, sFor, eBin, eUn, eBind, eV, eC, eArgs, eAnd, eOr, eNot, eIf, eMth, eTru, kBool, List.getElem?_cons_zero, List.getElem?_cons_succ, List.set_cons_zero, List.set_cons_succ, if_true, if_false, ite_true, ite_false, Bool.false_eq_true, eq_self_iff_true, reduceIte, ims, Option.map_some, kTup, kLst, kLstC, kCall, List.all_cons, List.all_nil, plainV, Bool.and_true, Bool.true_and, iExp, iArgs, itS, itL, itT, itLT, gN, gT, gL, Option.bind_some, frz, ce_get, ce_get0, ce_set, ce_set0, ce_take, asL, asSq, asIm, truV, kTru, kAdd, kSub, kMod, kLen, kInt, kMin, kMax, kCmp, kIsB, tyL, tyS, Option.isSome_some, Bool.and_self, beq_self_eq_true, Option.isSome, Bool.or_true, Bool.true_or, Bool.not_true, Bool.not_false, Bool.false_and, Bool.and_false, Bool.or_false, Bool.false_or, List.cons.injEq, reduceCtorEq, false_and, and_false, and_self, and_true, true_and, decide_true, decide_false, Nat.reduceLeDiff, LINE, hk, eq_int, e, kp, hb, finD, set_take]
def scr (ns : List Int) : D := .wl (ns.map .int)
theorem pool_in (ns : List Int) (many seed : Option Val) (k : Nat) (v : Int) (hk : ns[k]? = some v) (g : Bool) (ce : List Cell) : ∀ (js : List Int) (ρ : Int) (ds : List Int) (x7 : Option Val), (∀ j ∈ js, 0 ≤ j ∧ j < 100) → ds.length + js.length < 16777216 →
    ∃ (ds' : List Int) (ρ' : Int) (y7 : Option Val), forD (gN 7) lp__law_pool_0 (js.map .int) [some (.im (scr ns)), many, some (.cell ce.length), seed, some (.im (.int k)), some (.im (.int ρ)), some (.im (.bl g)), x7] (ce ++ [.lst (ds.map .int)]) =
      .nx [some (.im (scr ns)), many, some (.cell ce.length), seed, some (.im (.int k)), some (.im (.int ρ')), some (.im (.bl g)), y7] (ce ++ [.lst (ds'.map D.int)]) ∧ ds'.length ≤ ds.length + js.length
  | [], ρ, ds, x7, hj, h => ⟨ds, ρ, x7, by rw [List.map_nil, forD], by simp⟩
  | j :: js, ρ, ds, x7, hj, h => by
    rw [List.length_cons] at h
    have hj0 := hj j (List.mem_cons_self ..)
    have ih := fun ρ ds x7 h => pool_in ns many seed k v hk g ce js ρ ds x7 (fun j hm => hj j (List.mem_cons_of_mem _ hm)) h
    have app : ∀ (x : Int) sl, kAppend (.cell ce.length) [.im (.int x)] sl (ce ++ [.lst (ds.map .int)]) = .ok (.im .non) (ce ++ [.lst ((ds ++ [x]).map .int)]) := fun x sl => by
      rw [app_ok (by rw [List.length_map]; show ds.length < 16777216; omega), List.map_append]
      rfl
    have ix : ∀ sl ce, kIx (.im (scr ns)) (.im (.int k)) sl ce = .ok (.im (.int v)) ce := fun sl ce => by
      unfold kIx scr
      have hlt := (List.getElem?_eq_some_iff.mp hk).1
      have e : atI (ns.map D.int) (k : Int) = some (.int v) := by
        unfold atI ixN
        rw [if_pos (by omega), if_pos (by rw [List.length_map]; omega), Int.toNat_natCast, Option.bind_some, List.getElem?_map, hk]
        rfl
      simp only [asSq, e]
    have go : ∀ (ρ2 : Int) (ds2 : List Int), ds2.length ≤ ds.length + 1 → lp__law_pool_0 [some (.im (scr ns)), many, some (.cell ce.length), seed, some (.im (.int k)), some (.im (.int ρ)), some (.im (.bl g)), some (.im (.int j))] (ce ++ [.lst (ds.map .int)]) = .nx [some (.im (scr ns)), many, some (.cell ce.length), seed, some (.im (.int k)), some (.im (.int ρ2)), some (.im (.bl g)), some (.im (.int j))] (ce ++ [.lst (ds2.map .int)]) →
        ∃ (ds' : List Int) (ρ' : Int) (y7 : Option Val), forD (gN 7) lp__law_pool_0 ((j :: js).map .int) [some (.im (scr ns)), many, some (.cell ce.length), seed, some (.im (.int k)), some (.im (.int ρ)), some (.im (.bl g)), x7] (ce ++ [.lst (ds.map .int)]) =
      .nx [some (.im (scr ns)), many, some (.cell ce.length), seed, some (.im (.int k)), some (.im (.int ρ')), some (.im (.bl g)), y7] (ce ++ [.lst (ds'.map D.int)]) ∧ ds'.length ≤ ds.length + (js.length + 1) := fun ρ2 ds2 hd2 hb => by
      obtain ⟨ds', ρ', y7, e, q⟩ := ih ρ2 ds2 (some (.im (.int j))) (by omega)
      refine ⟨ds', ρ', y7, ?_, by omega⟩
      rw [List.map_cons, forD]
      simp only [gN, List.set_cons_zero, List.set_cons_succ, hb]
      exact e
    rw [List.length_cons]
    cases g with
    | true =>
      by_cases hp : 0 < ρ
      · refine go (ρ / 1000003) (ds ++ [ρ % 1000003]) (by simp) ?_
        unfold lp__law_pool_0
        simp? only [kDiv, hp, app, Int.reduceLT]
      · refine go ρ ds (by omega) ?_
        unfold lp__law_pool_0
        simp? only [kDiv, hp, app, Int.reduceLT]
    | false =>
      by_cases hp : j < 6
      · have er := fun ce => m_mix' v j ce hj0.1 (by omega)
        refine go ρ (ds ++ [mixI v j]) (by simp) ?_
        unfold lp__law_pool_0
        simp? only [hp, ix, er, app]
      · refine go ρ ds (by omega) ?_
        unfold lp__law_pool_0
        simp? only [hp]
theorem m_ix (ns : List Int) (k : Nat) (v : Int) (hk : ns[k]? = some v) (sl : Sl) (ce : List Cell) : kIx (.im (scr ns)) (.im (.int k)) sl ce = .ok (.im (.int v)) ce := by
  unfold kIx scr
  have hlt := (List.getElem?_eq_some_iff.mp hk).1
  have e : atI (ns.map D.int) (k : Int) = some (.int v) := by
    unfold atI ixN
    rw [if_pos (by omega), if_pos (by rw [List.length_map]; omega), Int.toNat_natCast, Option.bind_some, List.getElem?_map, hk]
    rfl
  simp only [asSq, e]
theorem pool_out (ns : List Int) (hn : ns.length ≤ 63) (many : Option Val) (ce : List Cell) : ∀ (ks : List Nat) (s : Int) (ds : List Int) (x4 x5 x6 x7 : Option Val), (∀ k ∈ ks, k < ns.length) → ds.length + 60 * ks.length < 16777216 →
    ∃ (ds' : List Int) (s' : Int) (y4 y5 y6 y7 : Option Val), forD (gN 4) lp__law_pool_1 (ks.map fun (k : Nat) => D.int (k : Int)) [some (.im (scr ns)), many, some (.cell ce.length), some (.im (.int s)), x4, x5, x6, x7] (ce ++ [.lst (ds.map .int)]) =
      .nx [some (.im (scr ns)), many, some (.cell ce.length), some (.im (.int s')), y4, y5, y6, y7] (ce ++ [.lst (ds'.map D.int)]) ∧ ds'.length ≤ ds.length + 60 * ks.length
  | [], s, ds, x4, x5, x6, x7, hj, h => ⟨ds, s, x4, x5, x6, x7, by rw [List.map_nil, forD], by simp⟩
  | k :: ks, s, ds, x4, x5, x6, x7, hj, h => by
    rw [List.length_cons] at h
    have hk0 := hj k (List.mem_cons_self ..)
    have hv : ns[k]? = some ns[k] := List.getElem?_eq_getElem hk0
    generalize ns[k] = v at hv
    have kr := rng1 60 (by decide)
    have hpow : ∀ sl ce, kPow (.im (.int 10)) (.im (.int 18)) sl ce = .ok (.im (.int (10 ^ 18))) ce := fun sl ce => by
      unfold kPow
      simp only []
      rw [if_pos (by decide)]
      rfl
    have hmul : mulOK v ((k : Int) + 1) = true := mul_ok_r (by omega)
    obtain ⟨ds1, ρ1, y7, e1, q1⟩ := pool_in ns many (some (.im (.int ((s + v * ((k : Int) + 1)) % 1000003)))) k v hv (decide (10 ^ 18 ≤ (if v < 0 then -v else v))) ce ((List.range 60).map fun (i : Nat) => (i : Int)) (if v < 0 then -v else v) ds x7 (fun j hm => by
      obtain ⟨i, hi, rfl⟩ := List.mem_map.mp hm
      rw [List.mem_range] at hi
      omega) (by rw [List.length_map, List.length_range]; omega)
    rw [List.map_map] at e1
    rw [List.length_map, List.length_range] at q1
    have hf : (D.int ∘ fun (i : Nat) => (i : Int)) = fun (i : Nat) => D.int (i : Int) := rfl
    rw [hf] at e1
    obtain ⟨ds', s', z4, z5, z6, z7, e, q⟩ := pool_out ns hn many ce ks ((s + v * ((k : Int) + 1)) % 1000003) ds1 (some (.im (.int k))) (some (.im (.int ρ1))) (some (.im (.bl (decide (10 ^ 18 ≤ (if v < 0 then -v else v)))))) y7 (fun k hm => hj k (List.mem_cons_of_mem _ hm)) (by omega)
    refine ⟨ds', s', z4, z5, z6, z7, ?_, by rw [List.length_cons]; omega⟩
    rw [List.map_cons, forD]
    simp only [gN, List.set_cons_zero, List.set_cons_succ]
    rw [← e]
    unfold lp__law_pool_1
    have kr' : kRng1 [.im (.int 60)] = some ((List.range 60).map fun (i : Nat) => D.int (i : Int)) := kr
    simp? only [kMul, kAbs, m_ix ns k v hv, hmul, hpow, kr', e1, Int.reduceLT]
theorem pool_fill (many : Nat) (hm : many ≤ 1000) (a0 a4 a5 a6 : Option Val) (s : Int) (ce : List Cell) : ∀ (js : List D) (ds : List Int) (x7 : Option Val), ds.length + js.length < 16777216 →
    ∃ (ds' : List Int) (y7 : Option Val), forD (gN 7) lp__law_pool_2 js [a0, some (.im (.int many)), some (.cell ce.length), some (.im (.int s)), a4, a5, a6, x7] (ce ++ [.lst (ds.map .int)]) =
      .nx [a0, some (.im (.int many)), some (.cell ce.length), some (.im (.int s)), a4, a5, a6, y7] (ce ++ [.lst (ds'.map D.int)])
  | [], ds, x7, h => ⟨ds, x7, by rw [forD]⟩
  | j :: js, ds, x7, h => by
    rw [List.length_cons] at h
    have app : ∀ (x : Int) sl, kAppend (.cell ce.length) [.im (.int x)] sl (ce ++ [.lst (ds.map .int)]) = .ok (.im .non) (ce ++ [.lst ((ds ++ [x]).map .int)]) := fun x sl => by
      rw [app_ok (by rw [List.length_map]; show ds.length < 16777216; omega), List.map_append]
      rfl
    rw [forD]
    simp only [gN, List.set_cons_zero, List.set_cons_succ]
    by_cases hl : ds.length < many
    · obtain ⟨ds', y7, e⟩ := pool_fill many hm a0 a4 a5 a6 s ce js (ds ++ [mixI s ds.length]) (some (.im j)) (by rw [List.length_append, List.length_singleton]; omega)
      refine ⟨ds', y7, ?_⟩
      rw [← e]
      have hl' : (ds.length : Int) < (many : Int) := by omega
      have er := fun ce => m_mix' s ds.length ce (by omega) (by omega)
      unfold lp__law_pool_2
      simp? only [List.length_map, hl', er, app]
    · obtain ⟨ds', y7, e⟩ := pool_fill many hm a0 a4 a5 a6 s ce js ds (some (.im j)) (by omega)
      refine ⟨ds', y7, ?_⟩
      rw [← e]
      have hl' : ¬ (ds.length : Int) < (many : Int) := by omega
      unfold lp__law_pool_2
      simp? only [List.length_map, hl']
theorem m_pool (ns : List Int) (hn : ns.length ≤ 63) (many : Nat) (hm : many ≤ 1000) (ce : List Cell) : ∃ ds : List Int, f__law_pool [.im (scr ns), .im (.int many)] ce = .ok (.cell ce.length) (ce ++ [.lst (ds.map .int)]) := by
  obtain ⟨ds1, s1, y4, y5, y6, y7, e1, q1⟩ := pool_out ns hn (some (.im (.int many))) ce (List.range ns.length) 0 [] none none none none (fun k h => List.mem_range.mp h) (by rw [List.length_range]; simp; omega)
  rw [List.length_range, List.length_nil] at q1
  obtain ⟨ds2, z7, e2⟩ := pool_fill many hm (some (.im (scr ns))) y4 y5 y6 s1 ce ((List.range many).map fun (i : Nat) => D.int (i : Int)) ds1 y7 (by rw [List.length_map, List.length_range]; omega)
  refine ⟨ds2, ?_⟩
  have hmin : ∀ (sl : Sl) (ce : List Cell), kMin [.im (.int (ns.length : Int)), .im (.int 63)] sl ce = .ok (.im (.int (ns.length : Int))) ce := fun sl ce => by
    unfold kMin
    have : ¬ (63 : Int) < (ns.length : Int) := by omega
    simp only [this, if_false, eC]
  have k1 := rng1 ns.length (by omega)
  have k2 := rng1 many (by omega)
  rw [List.map_nil] at e1
  have hlen : ∀ (sl : Sl) (ce : List Cell), kLen [.im (scr ns)] sl ce = .ok (.im (.int (ns.length : Int))) ce := fun sl ce => by
    unfold kLen scr
    simp only [asSq, List.length_map]
  unfold f__law_pool b__law_pool
  simp? only [-kLen, -kMin, hlen, hmin, k1, k2, e1, e2, finD, Nat.lt_irrefl]
end ZZ
set_option Elab.async false
set_option linter.all false
set_option maxRecDepth 100000
set_option maxHeartbeats 4000000
namespace ZZ
open PySem PySem.Spec L2
section
variable {sl : Sl} {ce : List Cell}
theorem set_get {k : Nat} {c c2 : Cell} (h : ce[k]? = some c) : (ce.set k c2)[k]? = some c2 := by
  rw [List.getElem?_set_self (List.getElem?_eq_some_iff.mp h).1]
theorem num_loop (k : Nat) : ∀ (items : List D) (n : Int) (ds : List Int) (ce : List Cell) (x1 x3 : Option Val), ce[k]? = some (.lst (ds.map .int)) →
    ∃ n' ds' y3, forD (gN 3) lp__law_number_0 items [some (.cell k), x1, some (.im (.int n)), x3] ce = .nx [some (.cell k), x1, some (.im (.int n')), y3] (ce.set k (.lst (List.map D.int ds')))
  | [], n, ds, ce, x1, x3, hk => ⟨n, ds, x3, by rw [forD, set_same hk]⟩
  | d :: items, n, ds, ce, x1, x3, hk => by
    obtain ⟨r, ds1, b, c, e⟩ := m_draw k ds 1000003 ce hk (by decide)
    obtain ⟨n', ds', y3, e2⟩ := num_loop k items (n * 1000003 + r) ds1 (ce.set k (.lst (ds1.map .int))) x1 (some (.im d)) (set_get hk)
    refine ⟨n', ds', y3, ?_⟩
    rw [List.set_set] at e2
    have mk : mulOK n 1000003 = true := mul_ok_r (by decide)
    have ml : ∀ sl ce, kMul (.im (.int n)) (.im (.int 1000003)) sl ce = .ok (.im (.int (n * 1000003))) ce := fun sl ce => by
      unfold kMul
      simp only [mk, if_true]
    rw [← e2, forD]
    simp only [gN, List.set_cons_zero, List.set_cons_succ]
    unfold lp__law_number_0
    simp? only [-kMul, ml, e]
theorem m_number (k : Nat) (ds : List Int) (ce : List Cell) (hk : ce[k]? = some (.lst (ds.map .int))) : ∃ n ds', 0 ≤ n ∧ n < 1000000000000000000000000000000 ∧ f__law_number [.cell k] ce = .ok (.im (.int n)) (ce.set k (.lst (List.map D.int ds'))) := by
  obtain ⟨r1, ds1, b1, c1, e1⟩ := m_draw k ds 8 ce hk (by decide)
  obtain ⟨r2, ds2, b2, c2, e2⟩ := m_draw k ds1 5 (ce.set k (.lst (ds1.map .int))) (set_get hk) (by decide)
  rw [List.set_set] at e2
  have h2 : (ce.set k (.lst (ds2.map .int)))[k]? = some (.lst (ds2.map .int)) := set_get hk
  have k5 : kRng1 [.im (.int 5)] = some [.int 0, .int 1, .int 2, .int 3, .int 4] := rng1 5 (by decide)
  have pw : ∀ sl ce, kPow (.im (.int 10)) (.im (.int 30)) sl ce = .ok (.im (.int 1000000000000000000000000000000)) ce := fun _ _ => rfl
  have md : ∀ (n : Int) sl ce, kMod (.im (.int n)) (.im (.int 1000000000000000000000000000000)) sl ce = .ok (.im (.int (n % 1000000000000000000000000000000))) ce := fun n sl ce => by
    unfold kMod
    simp
  have mb : ∀ n : Int, 0 ≤ n % 1000000000000000000000000000000 ∧ n % 1000000000000000000000000000000 < 1000000000000000000000000000000 := fun n => ⟨Int.emod_nonneg _ (by decide), Int.emod_lt_of_pos _ (by decide)⟩
  have hn : k < ce.length := (List.getElem?_eq_some_iff.mp hk).1
  by_cases h4 : r1 = 4
  · obtain ⟨n', ds', y3, e3⟩ := num_loop k [.int 0, .int 1, .int 2, .int 3, .int 4] r2 ds2 (ce.set k (.lst (ds2.map .int))) (some (.im (.int r1))) none h2
    rw [List.set_set, h4] at e3
    refine ⟨n' % 1000000000000000000000000000000, ds', (mb n').1, (mb n').2, ?_⟩
    unfold f__law_number b__law_number
    simp? only [-kMod, e1, h4, e2, eq_int, k5, e3, pw, md, finD, set_take]
  · refine ⟨r2 % 1000000000000000000000000000000, ds2, (mb r2).1, (mb r2).2, ?_⟩
    unfold f__law_number b__law_number
    simp? only [-kMod, e1, h4, e2, eq_int, pw, md, finD, set_take]
end
end ZZ
set_option Elab.async false
set_option linter.all false
set_option maxRecDepth 100000
set_option maxHeartbeats 4000000
namespace ZZ
open PySem PySem.Spec L2
inductive Wd | older | younger | one | nolder | nyounger
  deriving DecidableEq
def Wd.cls : Wd → Nat
  | .older => c_Older | .younger => c_Younger | .one => c_One | .nolder => c_NotOlder | .nyounger => c_NotYounger
def Wd.word : Wd → Str
  | .older => "older" | .younger => "younger" | .one => "one" | .nolder => "not-older" | .nyounger => "not-younger"
def sayD (w : Wd) (i j : Int) : D := .ins w.cls [.int i, .int j]
def itmD (w : Wd) (i j : Int) : D := .tup [.str w.word, .int i, .int j]
theorem wl1 : ("older" : Str) = Wd.older.word := rfl
theorem wl2 : ("younger" : Str) = Wd.younger.word := rfl
theorem wl3 : ("one" : Str) = Wd.one.word := rfl
theorem wl4 : ("not-older" : Str) = Wd.nolder.word := rfl
theorem wl5 : ("not-younger" : Str) = Wd.nyounger.word := rfl
theorem word_ok (w : Wd) : PyData.strOk w.word = true := by cases w <;> decide +kernel
theorem word_inj {w v : Wd} : (w.word = v.word) ↔ w = v := by
  constructor
  · cases w <;> cases v <;> intro h <;> first | rfl | (exact absurd h (by decide +kernel))
  · intro h
    rw [h]
theorem eq_wd {w v : Wd} {neg : Bool} {sl : Sl} {ce : List Cell} : kEqG neg (.im (.str w.word)) (.im (.str v.word)) sl ce = .ok (.im (.bl (if neg then !decide (w = v) else decide (w = v)))) ce := by
  rw [eq_str (word_ok w) (word_ok v)]
  simp only [word_inj]
section
variable {w : Wd} {i j b a : Int} {sl : Sl} {ce : List Cell}
theorem s_i0 : kFldG cs_S 0 (.im (sayD w i j)) sl ce = .ok (.im (.int i)) ce := by cases w <;> rfl
theorem s_i1 : kFldG cs_S 1 (.im (sayD w i j)) sl ce = .ok (.im (.int j)) ce := by cases w <;> rfl
theorem it0 : kIx (.im (itmD w i j)) (.im (.int 0)) sl ce = .ok (.im (.str w.word)) ce := by rfl
theorem it1 : kIx (.im (itmD w i j)) (.im (.int 1)) sl ce = .ok (.im (.int i)) ce := by rfl
theorem it2 : kIx (.im (itmD w i j)) (.im (.int 2)) sl ce = .ok (.im (.int j)) ce := by rfl
def ini : Wd → DF
  | .older => f_Saying___init___at_Older | .younger => f_Saying___init___at_Younger | .one => f_Saying___init___at_One | .nolder => f_Saying___init___at_NotOlder | .nyounger => f_Saying___init___at_NotYounger
theorem m_sinit (w : Wd) : ini w [.cell ce.length, .im (.int i), .im (.int j)] (ce ++ [.ins w.cls []]) = .ok (.im .non) (ce ++ [.ins w.cls [.int i, .int j]]) := by
  have tk : ∀ (l : List Cell) (k : Nat), (ce ++ l).take (ce.length + k) = ce ++ l.take k := fun l k => List.take_length_add_append k
  cases w
  all_goals
    unfold ini
    simp only [f_Saying___init___at_Older, b_Saying___init___at_Older, f_Saying___init___at_Younger, b_Saying___init___at_Younger, f_Saying___init___at_One, b_Saying___init___at_One, f_Saying___init___at_NotOlder, b_Saying___init___at_NotOlder, f_Saying___init___at_NotYounger, b_Saying___init___at_NotYounger, Wd.cls]
    simp? only [List.length_append, sFldSet, finD, tk, Nat.lt_irrefl, Nat.reduceLT, List.take_succ_cons, List.take_zero]
theorem s_make (w : Wd) : kMake w.cls 2 (ini w) [.im (.int i), .im (.int j)] sl ce = .ok (.im (sayD w i j)) ce := by
  unfold kMake
  simp only [List.all_cons, plainV, List.all_nil, Bool.and_self, if_true]
  rw [m_sinit w]
  simp [sayD]
theorem tab_s {tb : Tb} {fh : DF} {fs : List DE} (h : tb.lookup w.cls = some fh) : eTab tb fs (.im (sayD w i j)) sl ce = eArgs fs (kMeth fh (.im (sayD w i j))) sl ce := by
  unfold eTab
  have : clsV ce (.im (sayD w i j)) = some w.cls := rfl
  rw [this]
  simp only [h]
end
end ZZ
set_option Elab.async false
set_option linter.all false
set_option maxRecDepth 100000
set_option maxHeartbeats 4000000
namespace ZZ
open PySem PySem.Spec L2
section
variable {w v : Wd} {i j : Int} {sl : Sl} {ce : List Cell}
theorem is_say : kIsi i_Saying (.im (sayD w i j)) sl ce = .ok (.im (.bl true)) ce := by cases w <;> rfl
theorem con_ws : kConT tc_S_WORD (.im (sayD w i j)) sl ce = .ok (.im (.str w.word)) ce := by cases w <;> rfl
theorem m_eqsay {i' j' : Int} : f_Saying___eq__ [.im (sayD w i j), .im (sayD v i' j')] ce = .ok (.im (.bl (decide (w = v ∧ i = i' ∧ j = j')))) ce := by
  unfold f_Saying___eq__ b_Saying___eq__
  by_cases h1 : w = v
  · by_cases h2 : i = i'
    · simp? only [is_say, con_ws, eq_wd, s_i0, s_i1, eq_int, h1, h2, true_and, finD, List.take_length]
    · simp? only [is_say, con_ws, eq_wd, s_i0, s_i1, eq_int, h1, h2, true_and, false_and, finD, List.take_length]
  · simp? only [is_say, con_ws, eq_wd, s_i0, s_i1, eq_int, h1, false_and, finD, List.take_length]
theorem cls_s : clsV ce (.im (sayD w i j)) = some w.cls := rfl
theorem own_e {i' j' : Int} : kOwnE cs_S rf_S f_Saying___eq__ (.im (sayD w i j)) (.im (sayD v i' j')) sl ce = .ok (.im (.bl (decide (w = v ∧ i = i' ∧ j = j')))) ce := by
  have c1 : ∀ w : Wd, w.cls ∈ cs_S := fun w => by cases w <;> decide
  unfold kOwnE
  rw [cls_s, cls_s]
  simp only [c1, and_self, if_true]
  split
  · rw [m_eqsay]
    congr 4
    simp only [eq_comm]
  · exact m_eqsay
end
end ZZ
set_option Elab.async false
set_option linter.all false
set_option maxRecDepth 100000
set_option maxHeartbeats 4000000
namespace ZZ
open PySem PySem.Spec L2
section
variable {L R : Nat} {a b c : List Sg} {sl : Sl} {ce : List Cell}
theorem m_is (x y : Bool) : f__law_is [.im (.bl x), .im (.bl y)] ce = .ok (.im (.bl (x == y))) ce := by
  unfold f__law_is b__law_is
  cases x <;> cases y <;> simp [mkD, List.map_cons, List.map_nil, List.length_cons, List.length_nil, Nat.reduceAdd, Nat.reduceSub, List.replicate_succ, List.replicate_zero, List.cons_append, List.nil_append, sSeq, sSet, sRet, sExp, sDrop, sIf, sNil, sFor, eBin, eUn, eBind, eV, eC, eArgs, eAnd, eOr, eNot, eIf, eMth, eTru, kBool, List.getElem?_cons_zero, List.getElem?_cons_succ, List.set_cons_zero, List.set_cons_succ, if_true, if_false, ite_true, ite_false, Bool.false_eq_true, eq_self_iff_true, reduceIte, ims, Option.map_some, kTup, kLst, kLstC, kCall, List.all_cons, List.all_nil, plainV, Bool.and_true, Bool.true_and, iExp, iArgs, itS, itL, itT, itLT, gN, gT, gL, Option.bind_some, frz, ce_get, ce_get0, ce_set, ce_set0, ce_take, asL, asSq, asIm, truV, kTru, kAdd, kSub, kMod, kLen, kInt, kMin, kMax, kCmp, kIsB, tyL, tyS, Option.isSome_some, Bool.and_self, beq_self_eq_true, Option.isSome, Bool.or_true, Bool.true_or, Bool.not_true, Bool.not_false, Bool.false_and, Bool.and_false, Bool.or_false, Bool.false_or, List.cons.injEq, reduceCtorEq, false_and, and_false, and_self, and_true, true_and, decide_true, decide_false, Nat.reduceLeDiff, LINE, finD]
end
end ZZ
set_option Elab.async false
set_option linter.all false
set_option maxRecDepth 100000
set_option maxHeartbeats 4000000
namespace ZZ
open PySem PySem.Spec L2
section
variable {sl : Sl} {ce : List Cell} {x y : Str} {N : Nat}
def dig (c : Nat) : Bool := decide (48 ≤ c) && decide (c ≤ 57)
/-- the number that a word tells -/
def pn (x : Str) : Option Int :=
  if TL.tl x = [] ∨ (TL.tl x).all dig = false then none else if (TL.tl x).head? = some 48 ∧ TL.tl x ≠ [48] then none else some ((NumText.digitsVal (TL.tl x) : Nat) : Int)
def onD : Option Int → D
  | none => .non
  | some n => .int n
/-- signs that may be compared, and not too many -/
structure Fi (N : Nat) (x : Str) : Prop where
  ok : PyData.strOk x = true
  len : (TL.tl x).length ≤ N
theorem sok_iff : PyData.strOk x = true ↔ ∀ c ∈ TL.tl x, c < 0x110000 := by
  unfold PyData.strOk
  rw [← Array.all_toList, List.all_eq_true]
  exact ⟨fun h c hc => of_decide_eq_true (h c hc), fun h c hc => decide_eq_true (h c hc)⟩
theorem Fi.mono {M : Nat} (h : Fi N x) (l : N ≤ M) : Fi M x := ⟨h.ok, Nat.le_trans h.len l⟩
theorem fi_of (h : Fi N x) (hc : ∀ c ∈ TL.tl y, c ∈ TL.tl x) (hl : (TL.tl y).length ≤ N) : Fi N y := ⟨sok_iff.mpr fun c q => sok_iff.mp h.ok c (hc c q), hl⟩
theorem fi_app {M : Nat} (h : Fi N x) (g : Fi M y) : Fi (N + M) (x ++ y) := by
  refine ⟨sok_iff.mpr fun c q => ?_, ?_⟩
  · rw [TL.tl_append] at q
    rcases List.mem_append.mp q with z | z
    · exact sok_iff.mp h.ok c z
    · exact sok_iff.mp g.ok c z
  · rw [TL.tl_append, List.length_append]
    have := h.len
    have := g.len
    omega
theorem dg_tl : TL.tl ("0123456789" : Str) = [48, 49, 50, 51, 52, 53, 54, 55, 56, 57] := by decide +kernel
theorem sp_tl : TL.tl (" " : Str) = [32] := by decide +kernel
theorem em_tl : TL.tl ("" : Str) = [] := by decide +kernel
theorem z_tl : TL.tl ("0" : Str) = [48] := by decide +kernel
theorem in_digits (c : Nat) : decide (c ∈ TL.tl ("0123456789" : Str)) = dig c := by
  rw [dg_tl]
  unfold dig
  rw [Bool.eq_iff_iff]
  simp
  omega
theorem k_dig (c : Nat) (neg : Bool) : kInS neg (.im (.str ⟨#[c]⟩)) (.im (.str "0123456789")) sl ce = .ok (.im (.bl (if neg then !dig c else dig c))) ce := by
  have e := in_digits c
  unfold kInS
  show EOut.ok (Val.im (.bl (if neg then !decide (c ∈ TL.tl ("0123456789" : Str)) else decide (c ∈ TL.tl ("0123456789" : Str))))) ce = _
  rw [e]
theorem eq_empty (h : PyData.strOk x = true) (neg : Bool) : kEqG neg (.im (.str x)) (.im (.str "")) sl ce = .ok (.im (.bl (if neg then !decide (TL.tl x = []) else decide (TL.tl x = [])))) ce := by
  have e : (x = "") ↔ TL.tl x = [] := ⟨fun h => by rw [h, em_tl], fun h => TL.ext_tl (by rw [h, em_tl])⟩
  rw [eq_str h (by decide +kernel)]
  simp only [e]
theorem eq_zero (h : PyData.strOk x = true) (neg : Bool) : kEqG neg (.im (.str x)) (.im (.str "0")) sl ce = .ok (.im (.bl (if neg then !decide (TL.tl x = [48]) else decide (TL.tl x = [48])))) ce := by
  have e : (x = "0") ↔ TL.tl x = [48] := ⟨fun h => by rw [h, z_tl], fun h => TL.ext_tl (by rw [h, z_tl])⟩
  rw [eq_str h (by decide +kernel)]
  simp only [e]
theorem one_tl (c : Nat) : TL.tl (⟨#[c]⟩ : Str) = [c] := rfl
theorem kall_bl {α : Type} (p : α → Bool) (cs : List α) : kAll [.im (.lst (cs.map fun c => D.bl (p c)))] sl ce = .ok (.im (.bl (cs.all p))) ce := by
  have e : asBls (cs.map fun c => D.bl (p c)) = some (cs.map p) := by
    induction cs with
    | nil => rfl
    | cons a l ih =>
      rw [List.map_cons, List.map_cons]
      simp only [asBls, ih]
      rfl
  unfold kAll
  simp only [asL, e]
  rw [List.all_map]
  rfl
theorem int_word (h : (TL.tl x).all dig = true) (hne : TL.tl x ≠ []) (hl : (TL.tl x).length ≤ 640) : kIntS [.im (.str x)] sl ce = .ok (.im (.int ((NumText.digitsVal (TL.tl x) : Nat) : Int))) ce := by
  have e := SX.int_S (a := TL.tl x) h hne (by omega)
  have ex : SX.S (TL.tl x) = x := TL.mk_tl x
  rw [ex] at e
  have hx : x.length ≤ 640 := by
    rw [TL.len_tl]
    exact hl
  unfold kIntS
  simp only [e, if_pos hx]
  rfl
theorem ix_head {c : Nat} {r : List Nat} (e : TL.tl x = c :: r) (hl : (TL.tl x).length ≤ 640) : kIx (.im (.str x)) (.im (.int 0)) sl ce = .ok (.im (.str ⟨#[c]⟩)) ce := by
  have hx : x.length ≤ LINE := by
    rw [TL.len_tl]
    exact Nat.le_trans hl (by decide)
  have ea : x.cps.toList = c :: r := e
  have e0 : atI (c :: r) ((0 : Nat) : Int) = some c := atI_nat _ _ _ rfl
  have e0 : atI (c :: r) 0 = some c := e0
  unfold kIx
  simp only [if_pos hx, ea, e0]
theorem m_parse (h : Fi 640 x) : f_parse_number [.im (.str x)] ce = .ok (.im (onD (pn x))) ce := by
  have lc : ∀ ce, eSettle (eLcC [1] (iExp (eV 0) itS) (gN 1) (eC (.bl true)) el_parse_number_0) [some (.im (.str x)), none] ce = .ok (.im (.lst ((TL.tl x).map fun c => D.bl (dig c)))) ce := fun ce =>
    lc_map (TL.tl x) (fun c => D.str ⟨#[c]⟩) (fun c => D.bl (dig c)) (by simp? only [signs]) (Nat.lt_of_le_of_lt h.len (by decide)) fun c _ acc => ⟨_, rfl, by
      have k := fun sl ce => k_dig (sl := sl) (ce := ce) c false
      unfold el_parse_number_0
      simp? only [wipeD, k]⟩
  have ee := fun sl ce => eq_empty (sl := sl) (ce := ce) h.ok false
  have ka := fun sl ce => kall_bl (sl := sl) (ce := ce) dig (TL.tl x)
  unfold f_parse_number b_parse_number pn
  generalize eSettle (eLcC [1] (iExp (eV 0) itS) (gN 1) (eC (.bl true)) el_parse_number_0) = G at lc ⊢
  by_cases h1 : TL.tl x = []
  · rw [decide_eq_true h1] at ee
    rw [if_pos (.inl h1)]
    simp? only [-kEq, kEq, ee, onD, finD, List.take_length]
  · rw [decide_eq_false h1] at ee
    by_cases h2 : (TL.tl x).all dig = false
    · rw [if_pos (.inr h2)]
      rw [h2] at ka
      simp? only [-kEq, kEq, ee, lc, ka, onD, finD, List.take_length]
    · rw [if_neg (fun z => z.elim h1 h2)]
      have h3 : (TL.tl x).all dig = true := by simpa using h2
      rw [h3] at ka
      obtain ⟨c, r, ec⟩ : ∃ c r, TL.tl x = c :: r := by
        cases e : TL.tl x with
        | nil => exact absurd e h1
        | cons c r => exact ⟨c, r, rfl⟩
      have hx := fun sl ce => ix_head (sl := sl) (ce := ce) ec h.len
      have cok : PyData.strOk (⟨#[c]⟩ : Str) = true := sok_iff.mpr fun d hd => by
        rw [one_tl, List.mem_singleton] at hd
        rw [hd]
        exact sok_iff.mp h.ok c (by rw [ec]; exact List.mem_cons_self)
      have e0 := fun sl ce => eq_zero (x := ⟨#[c]⟩) (sl := sl) (ce := ce) cok false
      have e1 := fun sl ce => eq_zero (x := x) (sl := sl) (ce := ce) h.ok true
      have iw := fun sl ce => int_word (sl := sl) (ce := ce) h3 h1 h.len
      have hh : ((TL.tl x).head? = some 48) ↔ c = 48 := by rw [ec]; simp
      have ho : (TL.tl (⟨#[c]⟩ : Str) = [48]) ↔ c = 48 := by rw [one_tl]; simp
      by_cases hc : c = 48
      · rw [decide_eq_true (ho.mpr hc)] at e0
        by_cases hz : TL.tl x = [48]
        · rw [decide_eq_true hz] at e1
          rw [if_neg (fun z => z.2 hz)]
          simp? only [-kEq, -kNe, kEq, kNe, ee, lc, ka, hx, e0, e1, iw, onD, finD, List.take_length]
        · rw [decide_eq_false hz] at e1
          rw [if_pos ⟨hh.mpr hc, hz⟩]
          simp? only [-kEq, -kNe, kEq, kNe, ee, lc, ka, hx, e0, e1, iw, onD, finD, List.take_length]
      · rw [decide_eq_false (fun z => hc (ho.mp z))] at e0
        rw [if_neg (fun z => hc (hh.mp z.1))]
        simp? only [-kEq, -kNe, kEq, kNe, ee, lc, ka, hx, e0, e1, iw, onD, finD, List.take_length]
theorem spl_mem {S : List Nat} : ∀ (l : List Nat) (k : Nat) (acc p : List Nat), p ∈ TL.spl S k acc l → (∀ c ∈ p, c ∈ acc ∨ c ∈ l) ∧ p.length ≤ acc.length + l.length
  | [], k, acc, p, h => by
    rw [TL.spl_nil, List.mem_singleton] at h
    subst h
    exact ⟨fun c hc => .inl hc, Nat.le_add_right _ _⟩
  | c :: r, 0, acc, p, h => by
    unfold TL.spl at h
    rw [List.length_cons]
    split at h
    · rcases List.mem_cons.mp h with rfl | h
      · exact ⟨fun c hc => .inl hc, by omega⟩
      · obtain ⟨q1, q2⟩ := spl_mem r _ _ p h
        refine ⟨fun d hd => ?_, by rw [List.length_nil] at q2; omega⟩
        rcases q1 d hd with z | z
        · cases z
        · exact .inr (List.mem_cons_of_mem _ z)
    · obtain ⟨q1, q2⟩ := spl_mem r _ _ p h
      refine ⟨fun d hd => ?_, by rw [List.length_append, List.length_singleton] at q2; omega⟩
      rcases q1 d hd with z | z
      · rcases List.mem_append.mp z with y | y
        · exact .inl y
        · rw [List.mem_singleton] at y
          exact .inr (by rw [y]; exact List.mem_cons_self)
      · exact .inr (List.mem_cons_of_mem _ z)
  | c :: r, k + 1, acc, p, h => by
    unfold TL.spl at h
    obtain ⟨q1, q2⟩ := spl_mem r _ _ p h
    rw [List.length_cons]
    exact ⟨fun d hd => (q1 d hd).imp_right fun z => List.mem_cons_of_mem _ z, by omega⟩
theorem spl_ne {S : List Nat} : ∀ (l : List Nat) (k : Nat) (acc : List Nat), TL.spl S k acc l ≠ []
  | [], k, acc => by rw [TL.spl_nil]; simp
  | c :: r, 0, acc => by
    unfold TL.spl
    split
    · simp
    · exact spl_ne r _ _
  | c :: r, k + 1, acc => by
    unfold TL.spl
    exact spl_ne r _ _
theorem split_map (s : Nat) (hy : TL.tl y = [s]) (hs : s < 256) : (Txt.split x y).map TL.tl = TL.spl [s] 0 [] (TL.tl x) := by
  have e := TL.split_spl x y (by rw [hy]; simp) (TL.kind_ok (by
    rw [← Array.all_toList]
    show (TL.tl y).all _ = true
    rw [hy]
    simp [hs]))
  rw [hy] at e
  exact e
theorem split_parts (s : Nat) (hy : TL.tl y = [s]) (hs : s < 256) (h : Fi N x) : Txt.split x y ≠ [] ∧ ∀ p ∈ Txt.split x y, Fi N p := by
  have e := split_map (x := x) s hy hs
  refine ⟨fun z => ?_, fun p hp => ?_⟩
  · rw [z] at e
    exact spl_ne _ _ _ e.symm
  · have hm : TL.tl p ∈ TL.spl [s] 0 [] (TL.tl x) := by
      rw [← e]
      exact List.mem_map.mpr ⟨p, hp, rfl⟩
    obtain ⟨q1, q2⟩ := spl_mem _ _ _ _ hm
    refine fi_of h (fun c hc => ?_) ?_
    · rcases q1 c hc with z | z
      · cases z
      · exact z
    · rw [List.length_nil] at q2
      have := h.len
      omega
theorem k_split (s : Nat) (hy : TL.tl y = [s]) (h : Fi 640 x) : kSplit (.im (.str x)) [.im (.str y)] sl ce = .ok (.im (.lst ((Txt.split x y).map .str))) ce := by
  have h1 : (y.length == 0) = false := by rw [TL.len_tl, hy]; rfl
  have h2 : x.length ≤ 1000000 := by
    rw [TL.len_tl]
    exact Nat.le_trans h.len (by decide)
  unfold kSplit
  simp only [h1, h2, and_self, if_true]
theorem asStrs_map : ∀ l : List Str, asStrs (l.map D.str) = some l
  | [] => rfl
  | a :: l => by
    rw [List.map_cons]
    simp only [asStrs, asStrs_map l]
    rfl
theorem k_join {v : Val} {l : List Str} (hv : asL ce v = some (l.map .str)) (hl : (l.map (·.length)).sum + l.length * y.length ≤ 16777216) : kJoin (.im (.str y)) [v] sl ce = .ok (.im (.str (Txt.join y l))) ce := by
  unfold kJoin
  simp only [hv, asStrs_map, if_pos hl]
theorem k_len (hl : (TL.tl x).length ≤ 1000) : kLen [.im (.str x)] sl ce = .ok (.im (.int ((TL.tl x).length : Nat))) ce := by
  have e := TL.len_tl x
  have hx : x.length ≤ LINE := by
    rw [e]
    exact Nat.le_trans hl (by decide)
  unfold kLen
  simp only [if_pos hx]
  rw [e]
theorem k_app (h : (TL.tl x).length + (TL.tl y).length ≤ 1000) : kAdd (.im (.str x)) (.im (.str y)) sl ce = .ok (.im (.str (x ++ y))) ce := by
  have hx : x.length + y.length ≤ LINE := by
    rw [TL.len_tl, TL.len_tl]
    exact Nat.le_trans h (by decide)
  unfold kAdd
  simp only [if_pos hx]
theorem k_cut (lo hi : Option Int) (h : Fi 640 x) : ∃ z, (∀ M, Fi M x → Fi M z) ∧ kSlL (.im (.str x)) lo hi sl ce = .ok (.im (.str z)) ce := by
  have hx : x.length ≤ LINE := by
    rw [TL.len_tl]
    exact Nat.le_trans h.len (by decide)
  refine ⟨cutS x lo hi, fun M hM => ?_, ?_⟩
  · have e : TL.tl (cutS x lo hi) = ((TL.tl x).drop (HT.sIx x.length 0 lo)).take (HT.sIx x.length x.length hi - HT.sIx x.length 0 lo) := rfl
    refine fi_of hM (fun c hc => ?_) ?_
    · rw [e] at hc
      exact List.mem_of_mem_drop (List.mem_of_mem_take hc)
    · rw [e, List.length_take, List.length_drop]
      have := hM.len
      omega
  · unfold kSlL
    simp only [if_pos hx]
theorem num_head : ∀ n : Nat, (TL.numL n).head? = some 48 → TL.numL n = [48] := by
  intro n
  induction n using Nat.strongRecOn with
  | ind n ih =>
    intro h
    by_cases hn : n < 10
    · rw [TL.numL_lt hn] at h ⊢
      have h : 48 + n = 48 := Option.some.inj h
      rw [h]
    · have hs := TL.numL_step (n := n) (by omega)
      rw [hs] at h
      have hne := TL.numL_ne (n / 10)
      obtain ⟨c, r, e⟩ : ∃ c r, TL.numL (n / 10) = c :: r := by
        cases e : TL.numL (n / 10) with
        | nil => exact absurd e hne
        | cons c r => exact ⟨c, r, rfl⟩
      rw [e] at h
      have h1 : (TL.numL (n / 10)).head? = some 48 := by
        rw [e]
        exact h
      have h2 := ih (n / 10) (by omega) h1
      have h3 : TL.numL (n / 10) = TL.numL 0 := by
        rw [h2, TL.numL_lt (by decide)]
      have := TL.numL_inj h3
      omega
def nw (n : Nat) : Str := Str.ofString (toString ((n : Nat) : Int))
theorem nw_tl (n : Nat) : TL.tl (nw n) = TL.numL n := TL.tl_num n
theorem nw_dig (n : Nat) : (TL.tl (nw n)).all dig = true := by
  rw [nw_tl, List.all_eq_true]
  intro c hc
  have h := TL.numL_digits n c hc
  unfold dig
  rw [Bool.and_eq_true, decide_eq_true_eq, decide_eq_true_eq]
  exact h
theorem nw_pn (n : Nat) : pn (nw n) = some (n : Int) := by
  have h1 : TL.tl (nw n) ≠ [] := by
    rw [nw_tl]
    exact TL.numL_ne n
  unfold pn
  rw [if_neg (fun z => z.elim h1 fun q => by rw [nw_dig n] at q; cases q), if_neg (fun z => ?_)]
  · rw [nw_tl, TL.numL_val]
  · rw [nw_tl] at z
    exact z.2 (num_head n z.1)
theorem nw_fi {n k : Nat} (hk : 0 < k) (h : n < 10 ^ k) : Fi k (nw n) := by
  refine ⟨sok_iff.mpr fun c hc => ?_, ?_⟩
  · rw [nw_tl] at hc
    have := TL.numL_digits n c hc
    omega
  · rw [nw_tl]
    exact TL.numL_len hk h
theorem nw_free {n s : Nat} (h : s < 48 ∨ 57 < s) : s ∉ TL.tl (nw n) := by
  rw [nw_tl]
  exact TL.numL_free h
theorem log_lt {n : Nat} (h : n < 10 ^ 61) : n.log2 < 1920 := by
  by_cases h0 : n = 0
  · rw [h0]
    decide
  · exact (Nat.log2_lt h0).mpr (Nat.lt_trans h (by decide +kernel))
theorem k_str {n : Nat} (h : n < 10 ^ 61) : kStrB [.im (.int (n : Nat))] sl ce = .ok (.im (.str (nw n))) ce := by
  have hn : ((n : Nat) : Int).natAbs.log2 < 1920 := by rw [Int.natAbs_natCast]; exact log_lt h
  unfold kStrB
  simp only [if_pos hn]
  rfl
end
end ZZ
set_option Elab.async false
set_option linter.all false
set_option maxRecDepth 100000
set_option maxHeartbeats 4000000
namespace ZZ
open PySem PySem.Spec L2
section
variable {sl : Sl} {ce : List Cell} {x y : Str} {w : Wd} {i j : Int} {P : List Str} {N : Nat}
theorem m_whole (i : Int) : f__law_whole [.im (.int i)] ce = .ok (.im (.bl true)) ce := by
  have h1 : ∀ sl ce, kIsi i_int (.im (.int i)) sl ce = .ok (.im (.bl true)) ce := fun _ _ => rfl
  have h2 : ∀ sl ce, kIsi i_bool (.im (.int i)) sl ce = .ok (.im (.bl false)) ce := fun _ _ => rfl
  unfold f__law_whole b__law_whole
  simp? only [h1, h2, finD, List.take_length]
theorem m_saying (w : Wd) : f__law_saying [.im (itmD w i j)] ce = .ok (.im (sayD w i j)) ce := by
  have k := fun w sl ce => s_make (i := i) (j := j) (sl := sl) (ce := ce) w
  have k1 := k .older
  have k2 := k .younger
  have k3 := k .one
  have k4 := k .nolder
  have k5 := k .nyounger
  simp only [Wd.cls, ini] at k1 k2 k3 k4 k5
  unfold f__law_saying b__law_saying
  cases w
  all_goals
    simp? only [it0, it1, it2, wl1, wl2, wl3, wl4, eq_wd, k1, k2, k3, k4, k5, finD, List.take_length]
def wdOf (x : Str) : Option Wd := if x = Wd.older.word then some .older else if x = Wd.younger.word then some .younger else if x = Wd.one.word then some .one else if x = Wd.nolder.word then some .nolder else if x = Wd.nyounger.word then some .nyounger else none
theorem wdOf_some (h : wdOf x = some w) : x = w.word := by
  unfold wdOf at h
  repeat' split at h
  all_goals first | (cases h; assumption) | cases h
theorem wdOf_word (w : Wd) : wdOf w.word = some w := by
  unfold wdOf
  cases w <;> simp only [word_inj, reduceCtorEq, if_true, if_false]
def saidR (x : Str) (i j : Int) : D := match wdOf x with
  | some w => sayD w i j
  | none => .non
theorem m_made (h : PyData.strOk x = true) : f_made_saying [.im (.str x), .im (.int i), .im (.int j)] ce = .ok (.im (saidR x i j)) ce := by
  have k := fun w sl ce => s_make (i := i) (j := j) (sl := sl) (ce := ce) w
  have k1 := k .older
  have k2 := k .younger
  have k3 := k .one
  have k4 := k .nolder
  have k5 := k .nyounger
  simp only [Wd.cls, ini] at k1 k2 k3 k4 k5
  have q : ∀ (v : Wd) sl ce, kEqG false (.im (.str x)) (.im (.str v.word)) sl ce = .ok (.im (.bl (decide (x = v.word)))) ce := fun v sl ce => eq_str h (word_ok v)
  unfold f_made_saying b_made_saying saidR wdOf
  by_cases h1 : x = Wd.older.word
  · have q1 := q .older
    rw [decide_eq_true h1] at q1
    rw [if_pos h1]
    simp? only [-kEq, kEq, wl1, q1, k1, finD, List.take_length]
  · have q1 := q .older
    rw [decide_eq_false h1] at q1
    rw [if_neg h1]
    by_cases h2 : x = Wd.younger.word
    · have q2 := q .younger
      rw [decide_eq_true h2] at q2
      rw [if_pos h2]
      simp? only [-kEq, kEq, wl1, wl2, q1, q2, k2, finD, List.take_length]
    · have q2 := q .younger
      rw [decide_eq_false h2] at q2
      rw [if_neg h2]
      by_cases h3 : x = Wd.one.word
      · have q3 := q .one
        rw [decide_eq_true h3] at q3
        rw [if_pos h3]
        simp? only [-kEq, kEq, wl1, wl2, wl3, q1, q2, q3, k3, finD, List.take_length]
      · have q3 := q .one
        rw [decide_eq_false h3] at q3
        rw [if_neg h3]
        by_cases h4 : x = Wd.nolder.word
        · have q4 := q .nolder
          rw [decide_eq_true h4] at q4
          rw [if_pos h4]
          simp? only [-kEq, kEq, wl1, wl2, wl3, wl4, q1, q2, q3, q4, k4, finD, List.take_length]
        · have q4 := q .nolder
          rw [decide_eq_false h4] at q4
          rw [if_neg h4]
          by_cases h5 : x = Wd.nyounger.word
          · have q5 := q .nyounger
            rw [decide_eq_true h5] at q5
            rw [if_pos h5]
            simp? only [-kEq, kEq, wl1, wl2, wl3, wl4, wl5, q1, q2, q3, q4, q5, k5, finD, List.take_length]
          · have q5 := q .nyounger
            rw [decide_eq_false h5] at q5
            rw [if_neg h5]
            simp? only [-kEq, kEq, wl1, wl2, wl3, wl4, wl5, q1, q2, q3, q4, q5, finD, List.take_length]
theorem k_rnon : kIsN false (.im (saidR x i j)) (.im .non) sl ce = .ok (.im (.bl (decide (wdOf x = none)))) ce := by
  unfold saidR
  cases wdOf x with
  | none => rfl
  | some w => rfl
/-- where the reading stops, 0 when it does not -/
def rdE : List Str → Int
  | [] => 1
  | [p0] => if wdOf p0 = none then 1 else 2
  | [p0, p1] => if wdOf p0 = none then 1 else if pn p1 = none then 2 else 3
  | p0 :: p1 :: p2 :: r => if wdOf p0 = none then 1 else if pn p1 = none then 2 else if pn p2 = none then 3 else if r = [] then 0 else 4
def rdV : List Str → D
  | p0 :: p1 :: p2 :: _ => saidR p0 ((pn p1).getD 0) ((pn p2).getD 0)
  | _ => .non
theorem rd_step (h : Fi 640 x) (k : Nat) (ns : List Int) (hn : ns.length ≤ 3) (a0 a1 x5 : Option Val) : lp_read_saying_0 [a0, a1, some (.cell ce.length), some (.im (.int (k : Nat))), some (.im (.str x)), x5] (ce ++ [.lst (ns.map .int)]) =
    match pn x with
    | none => .exc e_BadText [.int ((k : Int) + 2)] [a0, a1, some (.cell ce.length), some (.im (.int (k : Nat))), some (.im (.str x)), some (.im .non)] (ce ++ [.lst (ns.map .int)])
    | some v => .nx [a0, a1, some (.cell ce.length), some (.im (.int (k : Nat))), some (.im (.str x)), some (.im (.int v))] (ce ++ [.lst ((ns ++ [v]).map .int)]) := by
  have mp := fun ce => m_parse (ce := ce) h
  have n0 : ∀ sl ce, kIsN false (.im .non) (.im .non) sl ce = .ok (.im (.bl true)) ce := fun _ _ => rfl
  have n1 : ∀ (v : Int) sl ce, kIsN false (.im (.int v)) (.im .non) sl ce = .ok (.im (.bl false)) ce := fun _ _ _ => rfl
  have ka : ∀ (i j : Int) sl ce, kAdd (.im (.int i)) (.im (.int j)) sl ce = .ok (.im (.int (i + j))) ce := fun _ _ _ _ => rfl
  have ap : ∀ (v : Int) sl, kAppend (.cell ce.length) [.im (.int v)] sl (ce ++ [.lst (ns.map .int)]) = .ok (.im .non) (ce ++ [.lst ((ns ++ [v]).map .int)]) := fun v sl => by
    have hl : (ns.map D.int).length < LINE := by rw [List.length_map]; exact Nat.lt_of_le_of_lt hn (by decide)
    unfold kAppend
    simp only [ce_get0, List.getElem?_cons_zero, if_pos hl, ce_set0, List.set_cons_zero, List.map_append, List.map_cons, List.map_nil]
  unfold lp_read_saying_0
  cases hp : pn x with
  | none =>
    rw [hp] at mp
    simp? only [-kAdd, mp, onD, n0, sRaise, sArgs, ka, List.reverse_cons, List.reverse_nil]
  | some v =>
    rw [hp] at mp
    simp? only [-kAdd, mp, onD, n1, ap]
theorem k_en (ds : List D) : kEnum [.im (.lst ds)] = some (enF 0 ds) := by
  unfold kEnum
  simp only [enF_eq]
theorem k_mid (p0 p1 p2 : D) (r : List D) : kSlL (.im (.lst (p0 :: p1 :: p2 :: r))) (some 1) (some 3) sl ce = .ok (.im (.lst [p1, p2])) ce := by
  have e1 : HT.sIx (p0 :: p1 :: p2 :: r).length 0 (some ((1 : Nat) : Int)) = 1 := by
    rw [HT.sIx_nat]
    simp
  have e3 : HT.sIx (p0 :: p1 :: p2 :: r).length (p0 :: p1 :: p2 :: r).length (some ((3 : Nat) : Int)) = 3 := by
    rw [HT.sIx_nat]
    simp
  have e1 : HT.sIx (p0 :: p1 :: p2 :: r).length 0 (some 1) = 1 := e1
  have e3 : HT.sIx (p0 :: p1 :: p2 :: r).length (p0 :: p1 :: p2 :: r).length (some 3) = 3 := e3
  unfold kSlL
  simp only [asL, cutD, e1, e3]
  rfl
theorem m_read (h : Fi 640 x) : f_read_saying [.im (.str x)] ce = if rdE (Txt.split x " ") = 0 then .ok (.im (rdV (Txt.split x " "))) ce else .exc e_BadText [.int (rdE (Txt.split x " "))] ce := by
  obtain ⟨hne, hf⟩ := split_parts 32 sp_tl (by decide) h
  have ks := fun sl ce => k_split (sl := sl) (ce := ce) 32 sp_tl h
  generalize Txt.split x " " = P at hne hf ks ⊢
  have k0 : ∀ sl ce, eArgs [] kLstC sl ce = .ok (.cell ce.length) (ce ++ [.lst []]) := fun sl ce => rfl
  have rn := fun x sl ce => k_rnon (x := x) (i := 0) (j := 0) (sl := sl) (ce := ce)
  have ka : ∀ (i j : Int) sl ce, kAdd (.im (.int i)) (.im (.int j)) sl ce = .ok (.im (.int (i + j))) ce := fun _ _ _ _ => rfl
  have gt : ∀ (i j : Int) sl ce, kGt (.im (.int i)) (.im (.int j)) sl ce = .ok (.im (.bl (decide (j < i)))) ce := fun _ _ _ _ => rfl
  have lt : ∀ (i j : Int) sl ce, kLt (.im (.int i)) (.im (.int j)) sl ce = .ok (.im (.bl (decide (i < j)))) ce := fun _ _ _ _ => rfl
  have ln : ∀ (l : List D) sl ce, kLen [.im (.lst l)] sl ce = .ok (.im (.int (l.length : Nat))) ce := fun l sl ce => by simp [kLen, asSq]
  match P, hne, hf with
  | [p0], _, hf =>
    have f0 := hf p0 (by simp)
    have m0 := fun ce => m_made (ce := ce) (i := 0) (j := 0) f0.ok
    have i0 : ∀ sl ce, kIx (.im (.lst [.str p0])) (.im (.int 0)) sl ce = .ok (.im (.str p0)) ce := fun _ _ => rfl
    have sm : ∀ sl ce, kSlL (.im (.lst [.str p0])) (some 1) (some 3) sl ce = .ok (.im (.lst [])) ce := fun _ _ => rfl
    have ln1 : ∀ sl ce, kLen [.im (.lst [.str p0])] sl ce = .ok (.im (.int 1)) ce := fun _ _ => rfl
    rw [show rdE [p0] = (if wdOf p0 = none then 1 else 2) from rfl]
    unfold f_read_saying b_read_saying
    generalize eArgs [] kLstC = K at k0 ⊢
    by_cases h1 : wdOf p0 = none
    · rw [if_pos h1]
      have r1 := rn p0
      rw [decide_eq_true h1] at r1
      simp? only [-kAdd, -kLen, ks, i0, m0, r1, sRaise, sArgs, finD, List.reverse_cons, List.reverse_nil, List.take_length, Int.reduceEq, if_false]
    · rw [if_neg h1]
      have r1 := rn p0
      rw [decide_eq_false h1] at r1
      simp? only [-kAdd, -kLen, ks, i0, m0, r1, k0, eSlice, eOpt, sm, k_en, enF, forD, ln1, gt, lt, ka, Int.reduceLT, Int.reduceAdd, sRaise, sArgs, finD, List.reverse_cons, List.reverse_nil, List.take_left', Int.reduceEq, if_false]
  | [p0, p1], _, hf =>
    have f0 := hf p0 (by simp)
    have f1 := hf p1 (by simp)
    have m0 := fun ce => m_made (ce := ce) (i := 0) (j := 0) f0.ok
    have i0 : ∀ sl ce, kIx (.im (.lst [.str p0, .str p1])) (.im (.int 0)) sl ce = .ok (.im (.str p0)) ce := fun _ _ => rfl
    have sm : ∀ sl ce, kSlL (.im (.lst [.str p0, .str p1])) (some 1) (some 3) sl ce = .ok (.im (.lst [.str p1])) ce := fun _ _ => rfl
    have s1 := rd_step (ce := ce) f1 0 [] (by decide) (some (.im (.str x))) (some (.im (.lst [.str p0, .str p1]))) none
    have ln2 : ∀ sl ce, kLen [.im (.lst [.str p0, .str p1])] sl ce = .ok (.im (.int 2)) ce := fun _ _ => rfl
    rw [show rdE [p0, p1] = (if wdOf p0 = none then 1 else if pn p1 = none then 2 else 3) from rfl]
    unfold f_read_saying b_read_saying
    generalize eArgs [] kLstC = K at k0 ⊢
    by_cases h1 : wdOf p0 = none
    · rw [if_pos h1]
      have r1 := rn p0
      rw [decide_eq_true h1] at r1
      simp? only [-kAdd, -kLen, ks, i0, m0, r1, sRaise, sArgs, finD, List.reverse_cons, List.reverse_nil, List.take_length, Int.reduceEq, if_false]
    · rw [if_neg h1]
      have r1 := rn p0
      rw [decide_eq_false h1] at r1
      cases hp : pn p1 with
      | none =>
        rw [hp] at s1
        rw [if_pos rfl]
        simp only [List.map_nil] at s1
        simp? only [-kAdd, -kLen, ks, i0, m0, r1, k0, eSlice, eOpt, sm, k_en, enF, forD, gT, gL, gN, s1, finD, List.take_left', Int.reduceEq, if_false]
        all_goals rfl
      | some v =>
        rw [hp] at s1
        rw [if_neg (by simp)]
        simp only [List.map_nil, List.nil_append, List.map_cons] at s1
        simp? only [-kAdd, -kLen, ks, i0, m0, r1, k0, eSlice, eOpt, sm, k_en, enF, forD, gT, gL, gN, s1, ln2, gt, lt, ka, Int.reduceLT, Int.reduceAdd, sRaise, sArgs, finD, List.reverse_cons, List.reverse_nil, List.take_left', Int.reduceEq, if_false]
  | p0 :: p1 :: p2 :: r, _, hf =>
    have f0 := hf p0 (by simp)
    have f1 := hf p1 (by simp)
    have f2 := hf p2 (by simp)
    have m0 := fun ce => m_made (ce := ce) (i := 0) (j := 0) f0.ok
    have mv := fun (a b : Int) ce => m_made (ce := ce) (i := a) (j := b) f0.ok
    have el : (p0 :: p1 :: p2 :: r).map D.str = D.str p0 :: D.str p1 :: D.str p2 :: r.map D.str := rfl
    rw [el] at ks
    have i0 : ∀ sl ce, kIx (.im (.lst (.str p0 :: .str p1 :: .str p2 :: r.map .str))) (.im (.int 0)) sl ce = .ok (.im (.str p0)) ce := fun sl ce => ix_lst (k := 0) rfl
    have sm := fun sl ce => k_mid (sl := sl) (ce := ce) (.str p0) (.str p1) (.str p2) (r.map .str)
    have s1 := rd_step (ce := ce) f1 0 [] (by decide) (some (.im (.str x))) (some (.im (.lst (.str p0 :: .str p1 :: .str p2 :: r.map .str)))) none
    have s2 := fun (v : Int) => rd_step (ce := ce) f2 1 [v] (show 1 ≤ 3 by decide) (some (.im (.str x))) (some (.im (.lst (.str p0 :: .str p1 :: .str p2 :: r.map .str)))) (some (.im (.int v)))
    have ll : (((D.str p0 :: D.str p1 :: D.str p2 :: r.map D.str).length : Nat) : Int) = (r.length : Int) + 3 := by
      rw [List.length_cons, List.length_cons, List.length_cons, List.length_map]
      omega
    have ln3 : ∀ sl ce, kLen [.im (.lst (.str p0 :: .str p1 :: .str p2 :: r.map .str))] sl ce = .ok (.im (.int ((r.length : Int) + 3))) ce := fun sl ce => by rw [ln, ll]
    have lt3 : decide ((r.length : Int) + 3 < 3) = false := decide_eq_false (by omega)
    have c0 : ∀ (a b : Int) sl, kIx (.cell ce.length) (.im (.int 0)) sl (ce ++ [.lst [.int a, .int b]]) = .ok (.im (.int a)) (ce ++ [.lst [.int a, .int b]]) := fun a b sl => ix_cell (k := 0) (l := [.int a, .int b]) (by rw [ce_get0]; rfl) rfl
    have c1 : ∀ (a b : Int) sl, kIx (.cell ce.length) (.im (.int 1)) sl (ce ++ [.lst [.int a, .int b]]) = .ok (.im (.int b)) (ce ++ [.lst [.int a, .int b]]) := fun a b sl => ix_cell (k := 1) (l := [.int a, .int b]) (by rw [ce_get0]; rfl) rfl
    rw [show rdE (p0 :: p1 :: p2 :: r) = (if wdOf p0 = none then 1 else if pn p1 = none then 2 else if pn p2 = none then 3 else if r = [] then 0 else 4) from rfl]
    unfold f_read_saying b_read_saying
    generalize eArgs [] kLstC = K at k0 ⊢
    by_cases h1 : wdOf p0 = none
    · rw [if_pos h1]
      have r1 := rn p0
      rw [decide_eq_true h1] at r1
      simp? only [-kAdd, -kLen, ks, i0, m0, r1, sRaise, sArgs, finD, List.reverse_cons, List.reverse_nil, List.take_length, Int.reduceEq, if_false]
    · rw [if_neg h1]
      have r1 := rn p0
      rw [decide_eq_false h1] at r1
      cases hp : pn p1 with
      | none =>
        rw [hp] at s1
        rw [if_pos rfl]
        simp only [List.map_nil] at s1
        simp? only [-kAdd, -kLen, ks, i0, m0, r1, k0, eSlice, eOpt, sm, k_en, enF, forD, gT, gL, gN, s1, finD, List.take_left', Int.reduceEq, if_false]
        all_goals rfl
      | some v =>
        rw [hp] at s1
        rw [if_neg (show ¬ (some v = none) by simp)]
        have s2 := s2 v
        simp only [List.map_nil, List.nil_append, List.map_cons] at s1
        cases hq : pn p2 with
        | none =>
          rw [hq] at s2
          rw [if_pos rfl]
          simp only [List.map_nil, List.map_cons] at s2
          simp? only [-kAdd, -kLen, ks, i0, m0, r1, k0, eSlice, eOpt, sm, k_en, enF, forD, gT, gL, gN, s1, s2, finD, List.take_left', Int.reduceEq, if_false]
          all_goals rfl
        | some u =>
          rw [hq] at s2
          rw [if_neg (show ¬ (some u = none) by simp)]
          simp only [List.map_nil, List.map_cons, List.cons_append, List.nil_append] at s2
          have e1 : rdV (p0 :: p1 :: p2 :: r) = saidR p0 v u := by
            show saidR p0 ((pn p1).getD 0) ((pn p2).getD 0) = _
            rw [hp, hq]
            rfl
          by_cases hr : r = []
          · have g3 : decide ((3 : Int) < (r.length : Int) + 3) = false := decide_eq_false (by rw [hr]; decide)
            rw [if_pos hr, if_pos rfl, e1]
            simp? only [-kAdd, -kLen, ks, i0, m0, r1, k0, eSlice, eOpt, sm, k_en, enF, forD, gT, gL, gN, s1, s2, ln3, gt, lt, lt3, g3, c0, c1, mv, finD, List.take_left']
          · have hl : 0 < r.length := List.length_pos_iff.mpr hr
            have g3 : decide ((3 : Int) < (r.length : Int) + 3) = true := decide_eq_true (by omega)
            rw [if_neg hr]
            simp? only [-kAdd, -kLen, ks, i0, m0, r1, k0, eSlice, eOpt, sm, k_en, enF, forD, gT, gL, gN, s1, s2, ln3, gt, g3, sRaise, sArgs, finD, List.reverse_cons, List.reverse_nil, List.take_left', Int.reduceEq, if_false]
            all_goals rfl
end
end ZZ
set_option Elab.async false
set_option linter.all false
set_option maxRecDepth 100000
set_option maxHeartbeats 4000000
namespace ZZ
open PySem PySem.Spec L2
section
variable {sl : Sl} {ce : List Cell} {x y : Str} {w : Wd} {i j : Int} {P : List Str} {N : Nat}
theorem val_loop (a0 : Option Val) : ∀ (cs : List Nat) (x1 : Option Val), ∃ y1, forD (gN 1) lp__law_value_0 (cs.map fun c => D.str ⟨#[c]⟩) [a0, x1] ce = if cs.all dig = true then .nx [a0, y1] ce else .rt (.im (.int (-1))) ce
  | [], x1 => ⟨x1, by rw [List.map_nil, forD]; rfl⟩
  | c :: cs, x1 => by
    obtain ⟨y, ih⟩ := val_loop a0 cs (some (.im (.str ⟨#[c]⟩)))
    have k := fun sl ce => k_dig (sl := sl) (ce := ce) c true
    have ng : ∀ sl ce, kNeg (.im (.int 1)) sl ce = .ok (.im (.int (-1))) ce := fun _ _ => rfl
    refine ⟨y, ?_⟩
    rw [List.map_cons, forD]
    simp only [gN, List.set_cons_zero, List.set_cons_succ]
    cases hd : dig c with
    | true =>
      rw [hd] at k
      have e : lp__law_value_0 [a0, some (.im (.str ⟨#[c]⟩))] ce = .nx [a0, some (.im (.str ⟨#[c]⟩))] ce := by
        unfold lp__law_value_0
        simp? only [k]
      rw [e]
      rw [List.all_cons, hd, Bool.true_and]
      exact ih
    | false =>
      rw [hd] at k
      have e : lp__law_value_0 [a0, some (.im (.str ⟨#[c]⟩))] ce = .rt (.im (.int (-1))) ce := by
        unfold lp__law_value_0
        simp? only [k, ng]
      rw [e, List.all_cons, hd, Bool.false_and]
      rfl
theorem m_value (h : Fi 640 x) : f__law_value [.im (.str x)] ce = .ok (.im (.int ((pn x).getD (-1)))) ce := by
  have ee := fun sl ce => eq_empty (sl := sl) (ce := ce) h.ok false
  have ng : ∀ sl ce, kNeg (.im (.int 1)) sl ce = .ok (.im (.int (-1))) ce := fun _ _ => rfl
  have gt : ∀ (i j : Int) sl ce, kGt (.im (.int i)) (.im (.int j)) sl ce = .ok (.im (.bl (decide (j < i)))) ce := fun _ _ _ _ => rfl
  have kl := fun sl ce => k_len (x := x) (sl := sl) (ce := ce) (Nat.le_trans h.len (by decide))
  have sg : signs x = (TL.tl x).map fun c => D.str ⟨#[c]⟩ := rfl
  obtain ⟨y1, lp⟩ := val_loop (ce := ce) (some (.im (.str x))) (TL.tl x) none
  unfold f__law_value b__law_value pn
  by_cases h1 : TL.tl x = []
  · rw [decide_eq_true h1] at ee
    rw [if_pos (.inl h1)]
    simp? only [-kEq, kEq, ee, ng, finD, List.take_length]
    rfl
  · rw [decide_eq_false h1] at ee
    obtain ⟨c, r, ec⟩ : ∃ c r, TL.tl x = c :: r := by
      cases e : TL.tl x with
      | nil => exact absurd e h1
      | cons c r => exact ⟨c, r, rfl⟩
    have hx := fun sl ce => ix_head (sl := sl) (ce := ce) ec h.len
    have cok : PyData.strOk (⟨#[c]⟩ : Str) = true := sok_iff.mpr fun d hd => by
      rw [one_tl, List.mem_singleton] at hd
      rw [hd]
      exact sok_iff.mp h.ok c (by rw [ec]; exact List.mem_cons_self)
    have e0 := fun sl ce => eq_zero (x := ⟨#[c]⟩) (sl := sl) (ce := ce) cok false
    have ho : (TL.tl (⟨#[c]⟩ : Str) = [48]) ↔ c = 48 := by rw [one_tl]; simp
    have hh : ((TL.tl x).head? = some 48) ↔ c = 48 := by rw [ec]; simp
    have ll : (TL.tl x).length = r.length + 1 := by rw [ec]; rfl
    -- what the rest of the code does
    by_cases hz : (TL.tl x).head? = some 48 ∧ TL.tl x ≠ [48]
    · have hc := hh.mp hz.1
      have hr : 0 < r.length := List.length_pos_iff.mpr fun z => hz.2 (by rw [ec, hc, z])
      have g1 : decide ((1 : Int) < (((TL.tl x).length : Nat) : Int)) = true := decide_eq_true (by omega)
      rw [decide_eq_true (ho.mpr hc)] at e0
      have e2 : (if TL.tl x = [] ∨ (TL.tl x).all dig = false then none else if (TL.tl x).head? = some 48 ∧ TL.tl x ≠ [48] then none else some ((NumText.digitsVal (TL.tl x) : Nat) : Int)) = none := by
        rw [if_pos hz]
        split <;> rfl
      rw [e2]
      simp? only [-kEq, -kLen, kEq, ee, kl, gt, g1, hx, e0, ng, finD, List.take_length]
      rfl
    · rw [if_neg hz]
      have go : ∀ (sl : Sl) (ce : List Cell) (F : DSt), sIf (eOr (eBin kEq (eV 0) (eC (.str ""))) (eAnd (eBin kGt (eArgs [(eV 0)] kLen) (eC (.int 1))) (eBin kEq (eBin kIx (eV 0) (eC (.int 0))) (eC (.str "0"))))) F sNil (some (.im (.str x)) :: sl) ce = .nx (some (.im (.str x)) :: sl) ce := fun sl ce F => by
        by_cases hc : c = 48
        · have hr : r = [] := by
            refine Classical.byContradiction fun z => hz ⟨hh.mpr hc, fun q => z ?_⟩
            rw [ec] at q
            injection q
          have g1 : decide ((1 : Int) < (((TL.tl x).length : Nat) : Int)) = false := decide_eq_false (by rw [ll, hr]; decide)
          simp? only [-kEq, -kLen, kEq, ee, kl, gt, g1]
        · rw [decide_eq_false (fun z => hc (ho.mp z))] at e0
          by_cases g : (1 : Int) < (((TL.tl x).length : Nat) : Int)
          · have g1 := decide_eq_true g
            simp? only [-kEq, -kLen, kEq, ee, kl, gt, g1, hx, e0]
          · have g1 := decide_eq_false g
            simp? only [-kEq, -kLen, kEq, ee, kl, gt, g1]
      by_cases h2 : (TL.tl x).all dig = true
      · rw [if_neg (fun z => z.elim h1 fun q => by rw [h2] at q; cases q)]
        rw [if_pos h2] at lp
        have iw := fun sl ce => int_word (sl := sl) (ce := ce) h2 h1 h.len
        have go := fun sl ce => go sl ce (sRet (eUn kNeg (eC (.int 1))))
        generalize sIf (eOr (eBin kEq (eV 0) (eC (.str ""))) (eAnd (eBin kGt (eArgs [(eV 0)] kLen) (eC (.int 1))) (eBin kEq (eBin kIx (eV 0) (eC (.int 0))) (eC (.str "0"))))) (sRet (eUn kNeg (eC (.int 1)))) sNil = G at go ⊢
        simp? only [go, sg, lp, iw, finD, List.take_length]
        rfl
      · rw [if_pos (.inr (by simpa using h2))]
        rw [if_neg h2] at lp
        have go := fun sl ce => go sl ce (sRet (eUn kNeg (eC (.int 1))))
        generalize sIf (eOr (eBin kEq (eV 0) (eC (.str ""))) (eAnd (eBin kGt (eArgs [(eV 0)] kLen) (eC (.int 1))) (eBin kEq (eBin kIx (eV 0) (eC (.int 0))) (eC (.str "0"))))) (sRet (eUn kNeg (eC (.int 1)))) sNil = G at go ⊢
        simp? only [go, sg, lp, finD, List.take_length]
        rfl
theorem in_words (neg : Bool) : kInQ neg (.im (.str x)) (.im (.lst [.str "older", .str "younger", .str "one", .str "not-older", .str "not-younger"])) sl ce = .ok (.im (.bl (if neg then !(wdOf x).isSome else (wdOf x).isSome))) ce := by
  have key : ([D.str "older", .str "younger", .str "one", .str "not-older", .str "not-younger"].any fun y => eqF y (.str x)) = (wdOf x).isSome := by
    have b : ∀ v : Wd, (v.word == x) = decide (x = v.word) := fun v => by
      rw [Bool.eq_iff_iff, beq_iff_eq, decide_eq_true_eq]
      exact eq_comm
    simp only [List.any_cons, List.any_nil, eqF, wl1, wl2, wl3, wl4, wl5, b, Bool.or_false]
    unfold wdOf
    by_cases h1 : x = Wd.older.word
    · simp [h1]
    · by_cases h2 : x = Wd.younger.word
      · simp [h1, h2, word_inj]
      · by_cases h3 : x = Wd.one.word
        · simp [h1, h2, h3, word_inj]
        · by_cases h4 : x = Wd.nolder.word
          · simp [h1, h2, h3, h4, word_inj]
          · by_cases h5 : x = Wd.nyounger.word
            · simp [h1, h2, h3, h4, h5, word_inj]
            · simp [h1, h2, h3, h4, h5, word_inj]
  have fl : (flatD (.str x) && [D.str "older", .str "younger", .str "one", .str "not-older", .str "not-younger"].all flatD) = true := rfl
  unfold kInQ
  simp only [asSq, if_pos fl, key]
theorem pn_ge (n : Int) (h : pn x = some n) : 0 ≤ n := by
  unfold pn at h
  split at h
  · cases h
  · split at h
    · cases h
    · cases h
      exact Int.natCast_nonneg _
theorem m_ldue (hne : P ≠ []) (hf : ∀ p ∈ P, Fi 640 p) : f__law_due [.im (.lst (P.map .str))] ce = .ok (.im (.int (rdE P))) ce := by
  have ka : ∀ (i j : Int) sl ce, kAdd (.im (.int i)) (.im (.int j)) sl ce = .ok (.im (.int (i + j))) ce := fun _ _ _ _ => rfl
  have gt : ∀ (i j : Int) sl ce, kGt (.im (.int i)) (.im (.int j)) sl ce = .ok (.im (.bl (decide (j < i)))) ce := fun _ _ _ _ => rfl
  have lt : ∀ (i j : Int) sl ce, kLt (.im (.int i)) (.im (.int j)) sl ce = .ok (.im (.bl (decide (i < j)))) ce := fun _ _ _ _ => rfl
  have nn : ∀ p, decide ((pn p).getD (-1) < 0) = decide (pn p = none) := fun p => by
    cases hp : pn p with
    | none => rfl
    | some n =>
      have := pn_ge n hp
      rw [decide_eq_false (show ¬ (some n).getD (-1) < 0 by show ¬ n < 0; omega), decide_eq_false (by simp)]
  match P, hne, hf with
  | [p0], _, hf =>
    have i0 : ∀ sl ce, kIx (.im (.lst [.str p0])) (.im (.int 0)) sl ce = .ok (.im (.str p0)) ce := fun _ _ => rfl
    have ln : ∀ sl ce, kLen [.im (.lst [.str p0])] sl ce = .ok (.im (.int 1)) ce := fun _ _ => rfl
    have iw := fun sl ce => in_words (x := p0) (sl := sl) (ce := ce) true
    rw [show rdE [p0] = (if wdOf p0 = none then 1 else 2) from rfl]
    unfold f__law_due b__law_due
    cases h1 : wdOf p0 with
    | none =>
      rw [h1] at iw
      simp? only [-kAdd, -kLen, i0, iw, Option.isSome, finD, List.take_length]
    | some v =>
      rw [h1] at iw
      simp? only [-kAdd, -kLen, i0, iw, ln, gt, lt, ka, Option.isSome, Int.reduceLT, Int.reduceAdd, finD, List.take_length, reduceCtorEq, if_false]
  | [p0, p1], _, hf =>
    have i0 : ∀ sl ce, kIx (.im (.lst [.str p0, .str p1])) (.im (.int 0)) sl ce = .ok (.im (.str p0)) ce := fun _ _ => rfl
    have i1 : ∀ sl ce, kIx (.im (.lst [.str p0, .str p1])) (.im (.int 1)) sl ce = .ok (.im (.str p1)) ce := fun _ _ => rfl
    have ln : ∀ sl ce, kLen [.im (.lst [.str p0, .str p1])] sl ce = .ok (.im (.int 2)) ce := fun _ _ => rfl
    have iw := fun sl ce => in_words (x := p0) (sl := sl) (ce := ce) true
    have v1 := fun ce => m_value (ce := ce) (hf p1 (by simp))
    have n1 := nn p1
    rw [show rdE [p0, p1] = (if wdOf p0 = none then 1 else if pn p1 = none then 2 else 3) from rfl]
    unfold f__law_due b__law_due
    cases h1 : wdOf p0 with
    | none =>
      rw [h1] at iw
      simp? only [-kAdd, -kLen, i0, iw, Option.isSome, finD, List.take_length]
    | some v =>
      rw [h1] at iw
      by_cases hp : pn p1 = none
      · rw [decide_eq_true hp] at n1
        rw [if_pos hp]
        simp? only [-kAdd, -kLen, i0, i1, iw, ln, v1, n1, gt, lt, ka, Option.isSome, Int.reduceLT, Int.reduceAdd, finD, List.take_length, reduceCtorEq, if_false]
      · rw [decide_eq_false hp] at n1
        rw [if_neg hp]
        simp? only [-kAdd, -kLen, i0, i1, iw, ln, v1, n1, gt, lt, ka, Option.isSome, Int.reduceLT, Int.reduceAdd, finD, List.take_length, reduceCtorEq, if_false]
  | p0 :: p1 :: p2 :: r, _, hf =>
    have el : (p0 :: p1 :: p2 :: r).map D.str = D.str p0 :: D.str p1 :: D.str p2 :: r.map D.str := rfl
    have i0 : ∀ sl ce, kIx (.im (.lst (.str p0 :: .str p1 :: .str p2 :: r.map .str))) (.im (.int 0)) sl ce = .ok (.im (.str p0)) ce := fun sl ce => ix_lst (k := 0) rfl
    have i1 : ∀ sl ce, kIx (.im (.lst (.str p0 :: .str p1 :: .str p2 :: r.map .str))) (.im (.int 1)) sl ce = .ok (.im (.str p1)) ce := fun sl ce => ix_lst (k := 1) rfl
    have i2 : ∀ sl ce, kIx (.im (.lst (.str p0 :: .str p1 :: .str p2 :: r.map .str))) (.im (.int 2)) sl ce = .ok (.im (.str p2)) ce := fun sl ce => ix_lst (k := 2) rfl
    have ll : (((D.str p0 :: D.str p1 :: D.str p2 :: r.map D.str).length : Nat) : Int) = (r.length : Int) + 3 := by
      rw [List.length_cons, List.length_cons, List.length_cons, List.length_map]
      omega
    have ln : ∀ sl ce, kLen [.im (.lst (.str p0 :: .str p1 :: .str p2 :: r.map .str))] sl ce = .ok (.im (.int ((r.length : Int) + 3))) ce := fun sl ce => by
      rw [← ll]
      simp [kLen, asSq]
    have g1 : decide ((1 : Int) < (r.length : Int) + 3) = true := decide_eq_true (by omega)
    have g2 : decide ((2 : Int) < (r.length : Int) + 3) = true := decide_eq_true (by omega)
    have g4 : decide ((r.length : Int) + 3 < 3) = false := decide_eq_false (by omega)
    have iw := fun sl ce => in_words (x := p0) (sl := sl) (ce := ce) true
    have v1 := fun ce => m_value (ce := ce) (hf p1 (by simp))
    have v2 := fun ce => m_value (ce := ce) (hf p2 (by simp))
    have n1 := nn p1
    have n2 := nn p2
    rw [el, show rdE (p0 :: p1 :: p2 :: r) = (if wdOf p0 = none then 1 else if pn p1 = none then 2 else if pn p2 = none then 3 else if r = [] then 0 else 4) from rfl]
    unfold f__law_due b__law_due
    cases h1 : wdOf p0 with
    | none =>
      rw [h1] at iw
      simp? only [-kAdd, -kLen, i0, iw, Option.isSome, finD, List.take_length]
    | some v =>
      rw [h1] at iw
      by_cases hp : pn p1 = none
      · rw [decide_eq_true hp] at n1
        rw [if_pos hp]
        simp? only [-kAdd, -kLen, i0, i1, iw, ln, v1, n1, g1, gt, lt, ka, Option.isSome, finD, List.take_length, reduceCtorEq, if_false]
      · rw [decide_eq_false hp] at n1
        rw [if_neg hp]
        by_cases hq : pn p2 = none
        · rw [decide_eq_true hq] at n2
          rw [if_pos hq]
          simp? only [-kAdd, -kLen, i0, i1, i2, iw, ln, v1, v2, n1, n2, g1, g2, gt, lt, ka, Option.isSome, finD, List.take_length, reduceCtorEq, if_false]
        · rw [decide_eq_false hq] at n2
          rw [if_neg hq]
          by_cases hr : r = []
          · have g3 : decide ((3 : Int) < (r.length : Int) + 3) = false := decide_eq_false (by rw [hr]; decide)
            rw [if_pos hr]
            simp? only [-kAdd, -kLen, i0, i1, i2, iw, ln, v1, v2, n1, n2, g1, g2, g3, g4, gt, lt, ka, Option.isSome, finD, List.take_length, reduceCtorEq, if_false]
          · have hl : 0 < r.length := List.length_pos_iff.mpr hr
            have g3 : decide ((3 : Int) < (r.length : Int) + 3) = true := decide_eq_true (by omega)
            rw [if_neg hr]
            simp? only [-kAdd, -kLen, i0, i1, i2, iw, ln, v1, v2, n1, n2, g1, g2, g3, gt, lt, ka, Option.isSome, finD, List.take_length, reduceCtorEq, if_false]
end
end ZZ
set_option Elab.async false
set_option linter.all false
set_option maxRecDepth 100000
set_option maxHeartbeats 4000000
namespace ZZ
open PySem PySem.Spec L2
section
variable {sl : Sl} {ce : List Cell} {x y : Str} {w : Wd} {i j : Int} {P : List Str} {N : Nat}
def flg : Wd → List Bool
  | .one => [true, false, false, true, true, true]
  | .older => [false, true, false, false, true, true]
  | .younger => [false, false, true, true, false, true]
  | .nolder => [false, false, false, true, false, true]
  | .nyounger => [false, false, false, false, true, true]
theorem bl_eq (x y : Bool) : eqD (.bl x) (.bl y) = decide (x = y) := by cases x <;> cases y <;> rfl
theorem bls_ok (bs : List Bool) : okD 60 (.lst (bs.map D.bl)) = true := by
  rw [okD]
  exact okDs_map D.bl 59 (fun b => by cases b <;> rfl) bs
theorem eq_bls {bs cs : List Bool} {neg : Bool} {sl : Sl} {ce : List Cell} : kEqG neg (.im (.lst (bs.map D.bl))) (.im (.lst (cs.map D.bl))) sl ce = .ok (.im (.bl (if neg then !decide (bs = cs) else decide (bs = cs)))) ce := by
  rw [eq_gd (bls_ok bs) (bls_ok cs), eqD, eqDs_map D.bl bl_eq]
theorem m_class (w : Wd) : f__law_class [.im (sayD w i j)] ce = .ok (.im (.str w.word)) ce := by
  have q := fun (bs cs : List Bool) (sl : Sl) (ce : List Cell) => eq_bls (bs := bs) (cs := cs) (neg := false) (sl := sl) (ce := ce)
  have ad : ∀ (xs ys : List D) sl ce, kAdd (.im (.lst xs)) (.im (.lst ys)) sl ce = (if xs.length + ys.length ≤ 16777216 then .ok (.im (.lst (xs ++ ys))) ce else .stuck) := fun _ _ _ _ => rfl
  have g1 : ∀ sl ce, kEqG false (.im (.lst ((flg w).map D.bl))) (.im (.lst ((flg .one).map D.bl))) sl ce = .ok (.im (.bl (decide (w = .one)))) ce := fun sl ce => by rw [q]; cases w <;> rfl
  have g2 : ∀ sl ce, kEqG false (.im (.lst ((flg w).map D.bl))) (.im (.lst ((flg .older).map D.bl))) sl ce = .ok (.im (.bl (decide (w = .older)))) ce := fun sl ce => by rw [q]; cases w <;> rfl
  have g3 : ∀ sl ce, kEqG false (.im (.lst ((flg w).map D.bl))) (.im (.lst ((flg .younger).map D.bl))) sl ce = .ok (.im (.bl (decide (w = .younger)))) ce := fun sl ce => by rw [q]; cases w <;> rfl
  have g4 : ∀ sl ce, kEqG false (.im (.lst ((flg w).map D.bl))) (.im (.lst ((flg .nolder).map D.bl))) sl ce = .ok (.im (.bl (decide (w = .nolder)))) ce := fun sl ce => by rw [q]; cases w <;> rfl
  have g5 : ∀ sl ce, kEqG false (.im (.lst ((flg w).map D.bl))) (.im (.lst ((flg .nyounger).map D.bl))) sl ce = .ok (.im (.bl (decide (w = .nyounger)))) ce := fun sl ce => by rw [q]; cases w <;> rfl
  have b1 : ∀ sl ce, kIsi i_One (.im (sayD w i j)) sl ce = .ok (.im (.bl ((flg w)[0]!))) ce := fun _ _ => by cases w <;> rfl
  have b2 : ∀ sl ce, kIsi i_Older (.im (sayD w i j)) sl ce = .ok (.im (.bl ((flg w)[1]!))) ce := fun _ _ => by cases w <;> rfl
  have b3 : ∀ sl ce, kIsi i_Younger (.im (sayD w i j)) sl ce = .ok (.im (.bl ((flg w)[2]!))) ce := fun _ _ => by cases w <;> rfl
  have b4 : ∀ sl ce, kIsi i_NotOlder (.im (sayD w i j)) sl ce = .ok (.im (.bl ((flg w)[3]!))) ce := fun _ _ => by cases w <;> rfl
  have b5 : ∀ sl ce, kIsi i_NotYounger (.im (sayD w i j)) sl ce = .ok (.im (.bl ((flg w)[4]!))) ce := fun _ _ => by cases w <;> rfl
  have b6 : ∀ sl ce, kIsi i_Saying (.im (sayD w i j)) sl ce = .ok (.im (.bl ((flg w)[5]!))) ce := fun _ _ => by cases w <;> rfl
  have hf : [D.bl (flg w)[0]!, D.bl (flg w)[1]!, D.bl (flg w)[2]!, D.bl (flg w)[3]!, D.bl (flg w)[4]!, D.bl (flg w)[5]!] = (flg w).map D.bl := by cases w <;> rfl
  have f1 : [D.bl true, D.bl false, D.bl false, D.bl true, D.bl true, D.bl true] = (flg .one).map D.bl := rfl
  have f2 : [D.bl false, D.bl true, D.bl false, D.bl false, D.bl true, D.bl true] = (flg .older).map D.bl := rfl
  have f3 : [D.bl false, D.bl false, D.bl true, D.bl true, D.bl false, D.bl true] = (flg .younger).map D.bl := rfl
  have f4 : [D.bl false, D.bl false, D.bl false, D.bl true, D.bl false, D.bl true] = (flg .nolder).map D.bl := rfl
  have f5 : [D.bl false, D.bl false, D.bl false, D.bl false, D.bl true, D.bl true] = (flg .nyounger).map D.bl := rfl
  have fl : ∀ w, (flg w).length = 6 := fun w => by cases w <;> rfl
  unfold f__law_class b__law_class
  simp? only [-kAdd, List.length_map, fl, b1, b2, b3, b4, b5, b6, ad, hf, f1, f2, f3, f4, f5, g1, g2, g3, g4, g5, Nat.reduceLeDiff]
  cases w <;> simp? only [-kAdd, List.length_map, fl, f1, f2, f3, f4, f5, g1, g2, g3, g4, g5, finD, List.take_length, Wd.word]
theorem m_said (w : Wd) : f__law_said [.im (sayD w i j), .im (itmD w i j)] ce = .ok (.im (.bl true)) ce := by
  unfold f__law_said b__law_said
  simp? only [m_class, it0, it1, it2, eq_wd, s_i0, s_i1, m_whole, eq_int, finD, List.take_length]
theorem rdE_pos (P : List Str) : 0 ≤ rdE P := by
  unfold rdE
  repeat' split
  all_goals decide
theorem m_base (h : Fi 640 x) (h0 : rdE (Txt.split x " ") ≠ 0) : f__law_base [.im (.str x)] ce = .ok (.im (.bl true)) ce := by
  have mr := fun ce => (m_read (ce := ce) h).trans (if_neg h0)
  have r1 : e_BadText < 3 := by decide
  have s1 : x_SiltError e_BadText = true := by decide
  have s2 : x_BadText e_BadText = true := by decide
  have s3 : x_ValueError e_BadText = true := by decide
  have s4 : x_BadRecord e_BadText = false := by decide
  unfold f__law_base b__law_base sTry
  simp? only [mr, r1, s1, s2, s3, s4, kIsE, offD, finD, List.take_length, if_true]
theorem rd_zero (h0 : rdE P = 0) : ∃ (p0 p1 p2 : Str) (w : Wd) (u v : Int), P = [p0, p1, p2] ∧ p0 = w.word ∧ wdOf p0 = some w ∧ pn p1 = some u ∧ pn p2 = some v := by
  match P, h0 with
  | [], h0 => cases h0
  | [p0], h0 =>
    have h0 : (if wdOf p0 = none then (1 : Int) else 2) = 0 := h0
    split at h0 <;> cases h0
  | [p0, p1], h0 =>
    have h0 : (if wdOf p0 = none then (1 : Int) else if pn p1 = none then 2 else 3) = 0 := h0
    repeat' split at h0
    all_goals cases h0
  | p0 :: p1 :: p2 :: r, h0 =>
    have h0 : (if wdOf p0 = none then (1 : Int) else if pn p1 = none then 2 else if pn p2 = none then 3 else if r = [] then 0 else 4) = 0 := h0
    by_cases h1 : wdOf p0 = none
    · rw [if_pos h1] at h0; cases h0
    · rw [if_neg h1] at h0
      by_cases h2 : pn p1 = none
      · rw [if_pos h2] at h0; cases h0
      · rw [if_neg h2] at h0
        by_cases h3 : pn p2 = none
        · rw [if_pos h3] at h0; cases h0
        · rw [if_neg h3] at h0
          by_cases h4 : r = []
          · obtain ⟨w, hw⟩ := Option.ne_none_iff_exists'.mp h1
            obtain ⟨u, hu⟩ := Option.ne_none_iff_exists'.mp h2
            obtain ⟨v, hv⟩ := Option.ne_none_iff_exists'.mp h3
            exact ⟨p0, p1, p2, w, u, v, by rw [h4], wdOf_some hw, hw, hu, hv⟩
          · rw [if_neg h4] at h0; cases h0
theorem m_lright (h : Fi 640 x) : f__law_right [.im (.str x)] ce = .ok (.im (.bl true)) ce := by
  obtain ⟨hne, hf⟩ := split_parts 32 sp_tl (by decide) h
  have ks := fun sl ce => k_split (sl := sl) (ce := ce) 32 sp_tl h
  have md := fun ce => m_ldue (ce := ce) hne hf
  have mr := fun ce => m_read (ce := ce) h
  have mb := fun ce => m_base (ce := ce) h
  have mw := fun n ce => m_whole (ce := ce) n
  have gt : ∀ (i j : Int) sl ce, kGt (.im (.int i)) (.im (.int j)) sl ce = .ok (.im (.bl (decide (j < i)))) ce := fun _ _ _ _ => rfl
  have n0 : ∀ sl ce, kIsN false (.im .non) (.im .non) sl ce = .ok (.im (.bl true)) ce := fun _ _ => rfl
  have rp := rdE_pos (Txt.split x " ")
  have r1 : e_BadText < 3 := by decide
  have s2 : x_BadText e_BadText = true := by decide
  by_cases h0 : rdE (Txt.split x " ") = 0
  · obtain ⟨p0, p1, p2, w, u, v, hP, hp, hw, hu, hv⟩ := rd_zero h0
    rw [h0] at md
    have mr := fun ce => (mr ce).trans (if_pos h0)
    rw [hP] at mr md ks hf
    have el : [p0, p1, p2].map D.str = [.str p0, .str p1, .str p2] := rfl
    rw [el] at ks md
    have eVal : rdV [p0, p1, p2] = sayD w u v := by
      show saidR p0 ((pn p1).getD 0) ((pn p2).getD 0) = _
      rw [hu, hv]
      unfold saidR
      rw [hw]
      rfl
    rw [eVal] at mr
    have nS : ∀ sl ce, kIsN false (.im (sayD w u v)) (.im .non) sl ce = .ok (.im (.bl false)) ce := fun _ _ => rfl
    have i0 : ∀ sl ce, kIx (.im (.lst [.str p0, .str p1, .str p2])) (.im (.int 0)) sl ce = .ok (.im (.str p0)) ce := fun _ _ => rfl
    have i1 : ∀ sl ce, kIx (.im (.lst [.str p0, .str p1, .str p2])) (.im (.int 1)) sl ce = .ok (.im (.str p1)) ce := fun _ _ => rfl
    have i2 : ∀ sl ce, kIx (.im (.lst [.str p0, .str p1, .str p2])) (.im (.int 2)) sl ce = .ok (.im (.str p2)) ce := fun _ _ => rfl
    have v1 := fun ce => m_value (ce := ce) (hf p1 (by simp))
    have v2 := fun ce => m_value (ce := ce) (hf p2 (by simp))
    rw [hu] at v1
    rw [hv] at v2
    have g1 : (some u).getD (-1) = u := rfl
    have g2 : (some v).getD (-1) = v := rfl
    have ei : D.tup [.str p0, .int u, .int v] = itmD w u v := by rw [hp]; rfl
    have ms := fun ce => m_said (i := u) (j := v) (ce := ce) w
    unfold f__law_right b__law_right sTry
    simp? only [ks, md, mr, gt, Int.reduceLT, nS, i0, i1, i2, v1, v2, g1, g2, ei, ms, finD, List.take_length]
  · have mr := fun ce => (mr ce).trans (if_neg h0)
    have mb := fun ce => mb ce h0
    have g0 : decide ((0 : Int) < rdE (Txt.split x " ")) = true := decide_eq_true (by omega)
    generalize rdE (Txt.split x " ") = n at md mr g0
    have x0 : ∀ sl ce, kXf [0] 0 (.exn e_BadText [.int n]) sl ce = .ok (.im (.int n)) ce := fun _ _ => rfl
    have qq : ∀ sl ce, kEq (.im (.int n)) (.im (.int n)) sl ce = .ok (.im (.bl true)) ce := fun sl ce => by
      show kEqG false _ _ sl ce = _
      rw [eq_int]
      simp
    unfold f__law_right b__law_right sTry
    simp? only [-kEq, ks, md, mr, gt, g0, r1, s2, x0, mw, qq, n0, mb, offD, clean, setO, List.map_cons, List.map_nil, finD, List.take_length]
def txtS (w : Wd) (a b : Nat) : Str := w.word ++ " " ++ nw a ++ " " ++ nw b
theorem word_fi (w : Wd) : Fi 11 w.word := ⟨word_ok w, by cases w <;> decide +kernel⟩
theorem word_free (w : Wd) : 32 ∉ TL.tl w.word := by cases w <;> decide +kernel
theorem sp_fi : Fi 1 (" " : Str) := ⟨by decide +kernel, by decide +kernel⟩
theorem txt_fi {a b k : Nat} (hk : 0 < k) (ha : a < 10 ^ k) (hb : b < 10 ^ k) : Fi (13 + 2 * k) (txtS w a b) := (fi_app (fi_app (fi_app (fi_app (word_fi w) sp_fi) (nw_fi hk ha)) sp_fi) (nw_fi hk hb)).mono (by omega)
theorem word_join {a b : Nat} : txtS w a b = Txt.join " " [w.word, nw a, nw b] := by
  refine TL.ext_tl ?_
  rw [TL.join_eq, TL.tl_join]
  unfold txtS
  simp only [TL.tl_append, List.map_cons, List.map_nil, TL.joinL, List.append_assoc]
theorem txt_split {a b : Nat} : Txt.split (txtS w a b) " " = [w.word, nw a, nw b] := by
  rw [word_join]
  exact TL.split_join (s := 32) (S := []) sp_tl (by decide +kernel) (by simp) fun p hp => by
    rcases List.mem_cons.mp hp with rfl | hp
    · exact word_free w
    · rcases List.mem_cons.mp hp with rfl | hp
      · exact nw_free (by decide)
      · rw [List.mem_singleton.mp hp]
        exact nw_free (by decide)
theorem txt_rd {a b : Nat} : rdE [w.word, nw a, nw b] = 0 ∧ rdV [w.word, nw a, nw b] = sayD w a b := by
  constructor
  · show (if wdOf w.word = none then (1 : Int) else if pn (nw a) = none then 2 else if pn (nw b) = none then 3 else if ([] : List Str) = [] then 0 else 4) = 0
    rw [wdOf_word, nw_pn, nw_pn, if_neg (by simp), if_neg (by simp), if_neg (by simp), if_pos rfl]
  · show saidR w.word ((pn (nw a)).getD 0) ((pn (nw b)).getD 0) = _
    rw [nw_pn, nw_pn]
    unfold saidR
    rw [wdOf_word]
    rfl
theorem m_written {a b : Nat} (ha : a < 10 ^ 61) (hb : b < 10 ^ 61) : f_Saying_written [.im (sayD w a b)] ce = .ok (.im (.str (txtS w a b))) ce := by
  have c1 : ∀ sl ce, kConT tc_S_WORD (.im (sayD w a b)) sl ce = .ok (.im (.str w.word)) ce := fun sl ce => by cases w <;> rfl
  have s0 : ∀ sl ce, kFldG cs_S 0 (.im (sayD w a b)) sl ce = .ok (.im (.int (a : Nat))) ce := fun sl ce => s_i0
  have s1 : ∀ sl ce, kFldG cs_S 1 (.im (sayD w a b)) sl ce = .ok (.im (.int (b : Nat))) ce := fun sl ce => s_i1
  have fw : ∀ sl ce, kFmt (.im (.str w.word)) sl ce = .ok (.im (.str w.word)) ce := fun sl ce => by
    have hl : w.word.length ≤ 1000000 := by
      rw [TL.len_tl]
      exact Nat.le_trans (word_fi w).len (by decide)
    unfold kFmt
    simp only [if_pos hl]
  have fn : ∀ (n : Nat), n < 10 ^ 61 → ∀ sl ce, kFmt (.im (.int (n : Nat))) sl ce = .ok (.im (.str (nw n))) ce := fun n hn sl ce => by
    have h : ((n : Nat) : Int).natAbs.log2 < 1920 := by rw [Int.natAbs_natCast]; exact log_lt hn
    unfold kFmt
    simp only [if_pos h]
    rfl
  have fa := fn a ha
  have fb := fn b hb
  have F0 : Fi 0 Str.empty := ⟨by decide +kernel, by decide +kernel⟩
  have F1 := fi_app F0 (word_fi w)
  have F2 := fi_app F1 sp_fi
  have F3 := fi_app F2 (nw_fi (by decide) ha)
  have F4 := fi_app F3 sp_fi
  have F5 := fi_app F4 (nw_fi (by decide) hb)
  have le : ∀ {N : Nat} {z : Str}, Fi N z → N ≤ 1000000 → z.length ≤ 1000000 := fun {N z} h hN => by
    rw [TL.len_tl]
    exact Nat.le_trans h.len hN
  have L1 := le F1 (by decide)
  have L2 := le F2 (by decide)
  have L3 := le F3 (by decide)
  have L4 := le F4 (by decide)
  have L5 := le F5 (by decide)
  have e : Str.empty ++ w.word ++ " " ++ nw a ++ " " ++ nw b = txtS w a b := by
    refine TL.ext_tl ?_
    unfold txtS
    simp only [TL.tl_append]
    rfl
  rw [e] at L5
  unfold f_Saying_written b_Saying_written eFs
  simp? only [kJn, c1, s0, s1, fw, fa, fb, L1, L2, L3, L4, L5, e, finD, List.take_length]
theorem mt_written {a b : Nat} (ha : a < 10 ^ 61) (hb : b < 10 ^ 61) {f : DE} (hf : f sl ce = .ok (.im (sayD w a b)) ce) : eMthT tb_written f [] sl ce = .ok (.im (.str (txtS w a b))) ce := by
  have lk : tb_written.lookup w.cls = some f_Saying_written := by cases w <;> rfl
  unfold eMthT eBind
  simp only [hf, tab_s lk]
  show (if ([.im (sayD w a b)] : List Val).all plainV = true then f_Saying_written [.im (sayD w a b)] ce else .stuck) = _
  refine (if_pos (show ([Val.im (sayD w a b)] : List Val).all plainV = true from rfl)).trans ?_
  exact m_written ha hb
end
end ZZ
set_option Elab.async false
set_option linter.all false
set_option maxRecDepth 100000
set_option maxHeartbeats 4000000
namespace ZZ
open PySem PySem.Spec L2
section
variable {sl : Sl} {ce : List Cell} {x y : Str} {w : Wd} {i j : Int} {P : List Str} {N : Nat}
/-- words that may be compared, none too long -/
def Fis (N : Nat) (P : List Str) : Prop := ∀ p ∈ P, Fi N p
theorem m_odd (r : Int) (h0 : 0 ≤ r) (h1 : r < 20) : ∃ z, Fi 11 z ∧ ∀ ce, f__law_odd [.im (.int r)] ce = .ok (.im (.str z)) ce := by
  have hm : r % 20 = r := Int.emod_eq_of_lt h0 h1
  have ki : ∀ sl ce, kInt [.im (.int r)] sl ce = .ok (.im (.int r)) ce := fun _ _ => rfl
  have km : ∀ sl ce, kMod (.im (.int r)) (.im (.int 20)) sl ce = .ok (.im (.int r)) ce := fun sl ce => by
    unfold kMod
    simp [hm]
  obtain ⟨n, rfl⟩ : ∃ n : Nat, r = (n : Int) := ⟨r.toNat, by omega⟩
  have hn : n < 20 := by omega
  have all : ([("" : Str), "older", "younger", "one", "not-older", "not-younger", "Older", "not", "notolder", "0", "00", "01", "-1", "+1", "1.", "x", "one:", "older-not", "7", "not_older"] : List Str).all (fun z => PyData.strOk z && decide ((TL.tl z).length ≤ 11)) = true := by decide +kernel
  obtain ⟨z, hz⟩ : ∃ z, ([("" : Str), "older", "younger", "one", "not-older", "not-younger", "Older", "not", "notolder", "0", "00", "01", "-1", "+1", "1.", "x", "one:", "older-not", "7", "not_older"] : List Str)[n]? = some z := ⟨_, List.getElem?_eq_getElem (by show n < 20; exact hn)⟩
  have hq := List.all_eq_true.mp all z (List.mem_of_getElem? hz)
  rw [Bool.and_eq_true, decide_eq_true_eq] at hq
  have ad : ∀ sl ce, kAdd (.im (.lst [.str "", .str "older", .str "younger", .str "one", .str "not-older", .str "not-younger", .str "Older", .str "not", .str "notolder", .str "0", .str "00", .str "01"])) (.im (.lst [.str "-1", .str "+1", .str "1.", .str "x", .str "one:", .str "older-not", .str "7", .str "not_older"])) sl ce = .ok (.im (.lst ([("" : Str), "older", "younger", "one", "not-older", "not-younger", "Older", "not", "notolder", "0", "00", "01", "-1", "+1", "1.", "x", "one:", "older-not", "7", "not_older"].map D.str))) ce := fun _ _ => rfl
  have ix : ∀ sl ce, kIx (.im (.lst ([("" : Str), "older", "younger", "one", "not-older", "not-younger", "Older", "not", "notolder", "0", "00", "01", "-1", "+1", "1.", "x", "one:", "older-not", "7", "not_older"].map D.str))) (.im (.int (n : Nat))) sl ce = .ok (.im (.str z)) ce := fun sl ce => ix_lst (by rw [List.getElem?_map, hz]; rfl)
  generalize ([("" : Str), "older", "younger", "one", "not-older", "not-younger", "Older", "not", "notolder", "0", "00", "01", "-1", "+1", "1.", "x", "one:", "older-not", "7", "not_older"].map D.str) = BIG at ad ix
  refine ⟨z, ⟨hq.1, hq.2⟩, fun ce => ?_⟩
  unfold f__law_odd b__law_odd
  simp? only [-kAdd, -kInt, -kMod, ad, ki, km, ix, finD, List.take_length]
theorem m_char (r : Int) (h0 : 0 ≤ r) (h1 : r < 94) : ∃ z, Fi 1 z ∧ ∀ ce, f__law_char [.im (.int r)] ce = .ok (.im (.str z)) ce := by
  have hm : r % 94 = r := Int.emod_eq_of_lt h0 h1
  have ki : ∀ sl ce, kInt [.im (.int r)] sl ce = .ok (.im (.int r)) ce := fun _ _ => rfl
  have km : ∀ sl ce, kMod (.im (.int r)) (.im (.int 94)) sl ce = .ok (.im (.int r)) ce := fun sl ce => by
    unfold kMod
    simp [hm]
  obtain ⟨n, rfl⟩ : ∃ n : Nat, r = (n : Int) := ⟨r.toNat, by omega⟩
  have len : (TL.tl ((" !\"#$&'()*+,-./0123456789:;<=>?@ABCDEFGHIJKLMNOPQRSTUVWXYZ[\\]^_`" : Str) ++ ("abcdefghijklmnopqrstuvwxyz{|}~" : Str))).length = 94 := by decide +kernel
  have ok : (TL.tl ((" !\"#$&'()*+,-./0123456789:;<=>?@ABCDEFGHIJKLMNOPQRSTUVWXYZ[\\]^_`" : Str) ++ ("abcdefghijklmnopqrstuvwxyz{|}~" : Str))).all (fun c => decide (c < 0x110000)) = true := by decide +kernel
  have ad : ∀ sl ce, kAdd (.im (.str " !\"#$&'()*+,-./0123456789:;<=>?@ABCDEFGHIJKLMNOPQRSTUVWXYZ[\\]^_`")) (.im (.str "abcdefghijklmnopqrstuvwxyz{|}~")) sl ce = .ok (.im (.str ((" !\"#$&'()*+,-./0123456789:;<=>?@ABCDEFGHIJKLMNOPQRSTUVWXYZ[\\]^_`" : Str) ++ ("abcdefghijklmnopqrstuvwxyz{|}~" : Str)))) ce := fun sl ce => k_app (by decide +kernel)
  generalize ((" !\"#$&'()*+,-./0123456789:;<=>?@ABCDEFGHIJKLMNOPQRSTUVWXYZ[\\]^_`" : Str) ++ ("abcdefghijklmnopqrstuvwxyz{|}~" : Str)) = B at len ok ad
  obtain ⟨c, hc⟩ : ∃ c, (TL.tl B)[n]? = some c := ⟨_, List.getElem?_eq_getElem (by omega)⟩
  have ix : ∀ sl ce, kIx (.im (.str B)) (.im (.int (n : Nat))) sl ce = .ok (.im (.str ⟨#[c]⟩)) ce := fun sl ce => by
    have hx : B.length ≤ LINE := by
      rw [TL.len_tl, len]
      decide
    have e0 : atI (TL.tl B) ((n : Nat) : Int) = some c := atI_nat _ _ _ hc
    unfold kIx
    simp only [if_pos hx, e0]
  refine ⟨⟨#[c]⟩, ⟨sok_iff.mpr fun d hd => ?_, by rw [one_tl]; exact Nat.le_refl 1⟩, fun ce => ?_⟩
  · rw [one_tl, List.mem_singleton] at hd
    rw [hd]
    exact of_decide_eq_true (List.all_eq_true.mp ok c (List.mem_of_getElem? hc))
  · unfold f__law_char b__law_char
    simp? only [-kAdd, -kInt, -kMod, ad, ki, km, ix, finD, List.take_length]
theorem setIx_any {fo fi fv : DE} {n k : Nat} {z : Int} {ds : List D} {d : D} (hv : fv sl ce = .ok (.im d) ce) (ho : fo sl ce = .ok (.cell n) ce) (hi : fi sl ce = .ok (.im (.int z)) ce) (hc : ce[n]? = some (.lst ds)) (hk : ixN ds.length z = some k) : sSetIx fo fi fv sl ce = .nx sl (ce.set n (.lst (ds.set k d))) := by
  unfold sSetIx
  simp only [sExp, hv, ho, hi, hc, hk]
theorem fis_set (h : Fis N P) (k : Nat) (hx : Fi N x) : Fis N (P.set k x) := fun p hp => by
  rcases List.mem_or_eq_of_mem_set hp with z | rfl
  · exact h p z
  · exact hx
theorem map_set (k : Nat) : (P.map D.str).set k (.str x) = (P.set k x).map D.str := by rw [List.map_set]
/-- the place before k -/
def prv (n k : Nat) : Nat := if k = 0 then n - 1 else k - 1
theorem prv_lt {n k : Nat} (hk : k < n) : prv n k < n := by
  unfold prv
  split <;> omega
theorem prv_ix {n k : Nat} (hk : k < n) : ixN n ((k : Int) - 1) = some (prv n k) := by
  unfold ixN prv
  by_cases h : k = 0
  · rw [if_pos h, if_neg (by omega), if_pos (by omega)]
    congr 1
    omega
  · rw [if_neg h, if_pos (by omega), if_pos (by omega)]
    congr 1
    omega
theorem ixN_at {n k : Nat} (h : k < n) : ixN n (k : Int) = some k := by
  unfold ixN
  rw [if_pos (by omega), if_pos (by omega), Int.toNat_natCast]
abbrev stS (ds : List Int) (ce0 : List Cell) (Q : List Str) : List Cell := .lst (ds.map .int) :: (ce0 ++ [.lst (Q.map .str)])
theorem stS_get (ds : List Int) (ce0 : List Cell) (Q : List Str) : (stS ds ce0 Q)[ce0.length + 1]? = some (.lst (Q.map .str)) := by
  unfold stS
  rw [List.getElem?_cons_succ, ce_get0]
  rfl
theorem stS_set (ds : List Int) (ce0 : List Cell) (Q R : List Str) : (stS ds ce0 Q).set (ce0.length + 1) (.lst (R.map .str)) = stS ds ce0 R := by
  unfold stS
  rw [List.set_cons_succ, ce_set0]
  rfl
abbrev slX (m : Nat) (a c b : Int) (old odd ch : Str) : Sl := [some (.cell 0), some (.cell m), some (.im (.int a)), some (.im (.int c)), some (.im (.str old)), some (.im (.int b)), some (.im (.str odd)), some (.im (.str ch))]
/-- words drawn over -/
theorem m_spoiled (v : Val) (ds : List Int) (ce0 : List Cell) (hp : plainV v = true) (hv : asSq (.lst (ds.map .int) :: ce0) v = some (P.map .str)) (hne : 0 < P.length) (h4 : P.length ≤ 100) (h : Fis N P) (h11 : 11 ≤ N) (hN : N ≤ 300) :
    ∃ (P' : List Str) (ds' : List Int), P'.length = P.length ∧ Fis (2 * N + 1) P' ∧ f__law_spoiled [.cell 0, v] (.lst (ds.map .int) :: ce0) = .ok (.cell (ce0.length + 1)) (stS ds' ce0 P') := by
  have kl : ∀ sl, kListC [v] sl (.lst (ds.map .int) :: ce0) = .ok (.cell (ce0.length + 1)) (stS ds ce0 P) := fun sl => by
    unfold kListC
    simp only [hv]
    rfl
  have ln : ∀ (ds : List Int) sl, kLen [.cell (ce0.length + 1)] sl (stS ds ce0 P) = .ok (.im (.int (P.length : Nat))) (stS ds ce0 P) := fun ds sl => by
    have e : asSq (stS ds ce0 P) (.cell (ce0.length + 1)) = some (P.map .str) := by
      simp only [asSq, asL, stS_get]
    unfold kLen
    simp only [e, List.length_map]
  obtain ⟨r1, d1, a1, b1, e1⟩ := m_draw 0 ds (P.length : Int) (stS ds ce0 P) rfl (by omega)
  obtain ⟨r2, d2, a2, b2, e2⟩ := m_draw 0 d1 4 (stS d1 ce0 P) rfl (by decide)
  obtain ⟨k, rfl⟩ : ∃ k : Nat, r1 = (k : Int) := ⟨r1.toNat, by omega⟩
  have hk : k < P.length := by omega
  obtain ⟨old, ho⟩ : ∃ old, P[k]? = some old := ⟨_, List.getElem?_eq_getElem hk⟩
  have fo : Fi N old := h old (List.mem_of_getElem? ho)
  have fo6 : Fi 640 old := fo.mono (by omega)
  have ix : ∀ (ds : List Int) sl, kIx (.cell (ce0.length + 1)) (.im (.int (k : Nat))) sl (stS ds ce0 P) = .ok (.im (.str old)) (stS ds ce0 P) := fun ds sl => ix_cell (l := P.map .str) (stS_get ds ce0 P) (by rw [List.getElem?_map, ho]; rfl)
  have lo := fun sl ce => k_len (x := old) (sl := sl) (ce := ce) (Nat.le_trans fo6.len (by decide))
  obtain ⟨r3, d3, a3, b3, e3⟩ := m_draw 0 d2 (((TL.tl old).length : Nat) + 1 : Int) (stS d2 ce0 P) rfl (by omega)
  obtain ⟨r4, d4, a4, b4, e4⟩ := m_draw 0 d3 20 (stS d3 ce0 P) rfl (by decide)
  obtain ⟨odd, fod, eo⟩ := m_odd r4 a4 b4
  obtain ⟨r5, d5, a5, b5, e5⟩ := m_draw 0 d4 94 (stS d4 ce0 P) rfl (by decide)
  obtain ⟨ch, fch, ec⟩ := m_char r5 a5 b5
  have sz : ∀ (ds ds' : List Int), (stS ds ce0 P).set 0 (.lst (ds'.map .int)) = stS ds' ce0 P := fun _ _ => rfl
  rw [sz] at e1 e2 e3 e4 e5
  have ka : ∀ (i j : Int) sl ce, kAdd (.im (.int i)) (.im (.int j)) sl ce = .ok (.im (.int (i + j))) ce := fun _ _ _ _ => rfl
  have qq : ∀ (i j : Int) sl ce, kEq (.im (.int i)) (.im (.int j)) sl ce = .ok (.im (.bl (decide (i = j)))) ce := fun i j sl ce => by
    show kEqG false _ _ sl ce = _
    rw [eq_int]
    rfl
  have fin : ∀ (Q : List Str), finD (ce0.length + 1) (.cell (ce0.length + 1)) (stS d5 ce0 Q) = .ok (.cell (ce0.length + 1)) (stS d5 ce0 Q) := fun Q => by
    have tk : (stS d5 ce0 Q).take (ce0.length + 1) = .lst (d5.map .int) :: ce0 := by
      unfold stS
      rw [List.take_succ_cons, List.take_left' rfl]
    unfold finD
    simp only [Nat.lt_irrefl, if_false, stS_get, tk]
    rfl
  have six : ∀ (fv : DE) (d : Str), fv (slX (ce0.length + 1) k r2 r3 old odd ch) (stS d5 ce0 P) = .ok (.im (.str d)) (stS d5 ce0 P) → sSetIx (eV 1) (eV 2) fv (slX (ce0.length + 1) k r2 r3 old odd ch) (stS d5 ce0 P) = .nx (slX (ce0.length + 1) k r2 r3 old odd ch) (stS d5 ce0 (P.set k d)) := fun fv d hf => by
    rw [setIx_any (k := k) (ds := P.map .str) hf rfl rfl (stS_get d5 ce0 P) (by rw [List.length_map]; exact ixN_at hk), map_set, stS_set]
  have e : r2 = 0 ∨ r2 = 1 ∨ r2 = 2 ∨ r2 = 3 := by omega
  have pre : ∀ (S : DSt) (o : Out), S (slX (ce0.length + 1) k r2 r3 old odd ch) (stS d5 ce0 P) = o → (sSeq (sSet 1 (eArgs [(eV 1)] kListC)) (sSeq (sSet 2 (eArgs [(eV 0), (eArgs [(eV 1)] kLen)] (kCall f__law_draw))) (sSeq (sSet 3 (eArgs [(eV 0), (eC (.int 4))] (kCall f__law_draw))) (sSeq (sSet 4 (eBin kIx (eV 1) (eV 2))) (sSeq (sSet 5 (eArgs [(eV 0), (eBin kAdd (eArgs [(eV 4)] kLen) (eC (.int 1)))] (kCall f__law_draw))) (sSeq (sSet 6 (eArgs [(eArgs [(eV 0), (eC (.int 20))] (kCall f__law_draw))] (kCall f__law_odd))) (sSeq (sSet 7 (eArgs [(eArgs [(eV 0), (eC (.int 94))] (kCall f__law_draw))] (kCall f__law_char))) S))))))) [some (.cell 0), some v, none, none, none, none, none, none] (.lst (ds.map .int) :: ce0) = o := fun S o hS => by
    rw [← hS]
    simp? only [-kAdd, -kLen, -kIx, kl, ln, e1, e2, ix, lo, ka, e3, e4, eo, e5, ec]
  have go : ∀ (P' : List Str), P'.length = P.length → Fis (2 * N + 1) P' → (sSeq (sIf (eBin kEq (eV 3) (eC (.int 0)))
    (sSetIx (eV 1) (eV 2) (eV 6))
    sNil) (sSeq (sIf (eBin kEq (eV 3) (eC (.int 1)))
    (sSetIx (eV 1) (eV 2) (eBin kAdd (eBin kAdd (eSlice (eV 4) none (some (eV 5))) (eV 7)) (eSlice (eV 4) (some (eV 5)) none)))
    sNil) (sSeq (sIf (eBin kEq (eV 3) (eC (.int 2)))
    (sSetIx (eV 1) (eV 2) (eBin kAdd (eSlice (eV 4) none (some (eV 5))) (eSlice (eV 4) (some (eBin kAdd (eV 5) (eC (.int 1)))) none)))
    sNil) (sSeq (sIf (eBin kEq (eV 3) (eC (.int 3)))
    (sSeq (sSetIx (eV 1) (eV 2) (eBin kIx (eV 1) (eBin kSub (eV 2) (eC (.int 1))))) (sSetIx (eV 1) (eBin kSub (eV 2) (eC (.int 1))) (eV 4)))
    sNil) (sRet (eV 1)))))) (slX (ce0.length + 1) k r2 r3 old odd ch) (stS d5 ce0 P) = .rt (.cell (ce0.length + 1)) (stS d5 ce0 P') → ∃ (P' : List Str) (ds' : List Int), P'.length = P.length ∧ Fis (2 * N + 1) P' ∧ f__law_spoiled [.cell 0, v] (.lst (ds.map .int) :: ce0) = .ok (.cell (ce0.length + 1)) (stS ds' ce0 P') := fun P' l f e => by
    refine ⟨P', d5, l, f, ?_⟩
    have z := pre _ _ e
    show (match b__law_spoiled [some (.cell 0), some v, none, none, none, none, none, none] (.lst (ds.map .int) :: ce0) with
      | .nx _ ce' => finD (ce0.length + 1) (.im .non) ce'
      | .rt v ce' => finD (ce0.length + 1) v ce'
      | .exc c es _ ce' => .exc c es (ce'.take (ce0.length + 1))
      | _ => .stuck) = _
    unfold b__law_spoiled
    rw [z]
    exact fin P'
  have fod2 : Fi (2 * N + 1) odd := fod.mono (by omega)
  have h12 : Fis (2 * N + 1) P := fun p hp => (h p hp).mono (by omega)
  rcases e with rfl | rfl | rfl | rfl
  · refine go (P.set k odd) (List.length_set ..) (fis_set h12 k fod2) ?_
    have s0 := six (eV 6) odd rfl
    simp only [slX] at s0 ⊢
    simp? only [-kEq, -sSetIx, qq, Int.reduceEq, s0]
  · obtain ⟨z1, f1, c1⟩ := k_cut (sl := slX (ce0.length + 1) k 1 r3 old odd ch) (ce := stS d5 ce0 P) none (some r3) fo6
    obtain ⟨z2, f2, c2⟩ := k_cut (sl := slX (ce0.length + 1) k 1 r3 old odd ch) (ce := stS d5 ce0 P) (some r3) none fo6
    have g1 := f1 N fo
    have g2 := f2 N fo
    have g3 := fi_app (fi_app g1 fch) g2
    have p1 := fun sl ce => k_app (x := z1) (y := ch) (sl := sl) (ce := ce) (by have := g1.len; have := fch.len; omega)
    have p2 := fun sl ce => k_app (x := z1 ++ ch) (y := z2) (sl := sl) (ce := ce) (by have := (fi_app g1 fch).len; have := g2.len; omega)
    refine go (P.set k (z1 ++ ch ++ z2)) (List.length_set ..) (fis_set h12 k (g3.mono (by omega))) ?_
    have s0 := six (eBin kAdd (eBin kAdd (eSlice (eV 4) none (some (eV 5))) (eV 7)) (eSlice (eV 4) (some (eV 5)) none)) (z1 ++ ch ++ z2) (by
      simp only [slX] at c1 c2 ⊢
      simp? only [-kAdd, eSlice, eOpt, c1, c2, p1, p2])
    simp only [slX] at s0 ⊢
    generalize sSetIx (eV 1) (eV 2) (eBin kAdd (eBin kAdd (eSlice (eV 4) none (some (eV 5))) (eV 7)) (eSlice (eV 4) (some (eV 5)) none)) = G0 at s0 ⊢
    simp? only [-kEq, -sSetIx, -kAdd, qq, Int.reduceEq, s0, if_true]
  · obtain ⟨z1, f1, c1⟩ := k_cut (sl := slX (ce0.length + 1) k 2 r3 old odd ch) (ce := stS d5 ce0 P) none (some r3) fo6
    obtain ⟨z2, f2, c2⟩ := k_cut (sl := slX (ce0.length + 1) k 2 r3 old odd ch) (ce := stS d5 ce0 P) (some (r3 + 1)) none fo6
    have g1 := f1 N fo
    have g2 := f2 N fo
    have g3 := fi_app g1 g2
    have p2 := fun sl ce => k_app (x := z1) (y := z2) (sl := sl) (ce := ce) (by have := g1.len; have := g2.len; omega)
    refine go (P.set k (z1 ++ z2)) (List.length_set ..) (fis_set h12 k (g3.mono (by omega))) ?_
    have s0 := six (eBin kAdd (eSlice (eV 4) none (some (eV 5))) (eSlice (eV 4) (some (eBin kAdd (eV 5) (eC (.int 1)))) none)) (z1 ++ z2) (by
      simp only [slX] at c1 c2 ⊢
      simp? only [-kAdd, eSlice, eOpt, ka, c1, c2, p2])
    simp only [slX] at s0 ⊢
    generalize sSetIx (eV 1) (eV 2) (eBin kAdd (eSlice (eV 4) none (some (eV 5))) (eSlice (eV 4) (some (eBin kAdd (eV 5) (eC (.int 1)))) none)) = G0 at s0 ⊢
    simp? only [-kEq, -sSetIx, -kAdd, qq, Int.reduceEq, s0, if_true]
  · have hq := prv_lt hk
    obtain ⟨q, hqq⟩ : ∃ q, P[prv P.length k]? = some q := ⟨_, List.getElem?_eq_getElem hq⟩
    have fq : Fi (2 * N + 1) q := h12 q (List.mem_of_getElem? hqq)
    refine go ((P.set k q).set (prv P.length k) old) (by rw [List.length_set, List.length_set]) (fis_set (fis_set h12 k fq) _ (fo.mono (by omega))) ?_
    have ks : ∀ (i j : Int) sl ce, kSub (.im (.int i)) (.im (.int j)) sl ce = .ok (.im (.int (i - j))) ce := fun _ _ _ _ => rfl
    have ai : atI (P.map D.str) ((k : Int) - 1) = some (.str q) := by
      unfold atI
      rw [List.length_map, prv_ix hk, Option.bind_some, List.getElem?_map, hqq]
      rfl
    have iq : ∀ sl, kIx (.cell (ce0.length + 1)) (.im (.int ((k : Int) - 1))) sl (stS d5 ce0 P) = .ok (.im (.str q)) (stS d5 ce0 P) := fun sl => by
      unfold kIx
      simp only [asSq, asL, stS_get, ai]
    have s0 := six (eBin kIx (eV 1) (eBin kSub (eV 2) (eC (.int 1)))) q (by
      simp only [slX]
      simp? only [-kSub, -kIx, ks, iq])
    have s1 : sSetIx (eV 1) (eBin kSub (eV 2) (eC (.int 1))) (eV 4) (slX (ce0.length + 1) k 3 r3 old odd ch) (stS d5 ce0 (P.set k q)) = .nx (slX (ce0.length + 1) k 3 r3 old odd ch) (stS d5 ce0 ((P.set k q).set (prv P.length k) old)) := by
      rw [setIx_any (k := prv P.length k) (z := (k : Int) - 1) (ds := (P.set k q).map .str) rfl rfl rfl (stS_get d5 ce0 (P.set k q)) (by rw [List.length_map, List.length_set]; exact prv_ix hk), map_set, stS_set]
    simp only [slX] at s0 s1 ⊢
    generalize sSetIx (eV 1) (eV 2) (eBin kIx (eV 1) (eBin kSub (eV 2) (eC (.int 1)))) = G0 at s0 ⊢
    generalize sSetIx (eV 1) (eBin kSub (eV 2) (eC (.int 1))) (eV 4) = G1 at s1 ⊢
    simp? only [-kEq, -sSetIx, -kAdd, -kSub, qq, Int.reduceEq, s0, s1]
end
end ZZ
set_option Elab.async false
set_option linter.all false
set_option maxRecDepth 100000
set_option maxHeartbeats 4000000
namespace ZZ
open PySem PySem.Spec L2
section
variable {sl : Sl} {ce : List Cell} {w : Wd} {N : Nat}
theorem join_fi : ∀ (Q : List Str), Fis N Q → (∀ c ∈ TL.tl (Txt.join " " Q), c < 0x110000) ∧ (TL.tl (Txt.join " " Q)).length ≤ Q.length * (N + 1) := by
  intro Q
  rw [TL.join_eq, TL.tl_join, sp_tl]
  induction Q with
  | nil => exact fun _ => ⟨fun c hc => (by cases hc), Nat.zero_le _⟩
  | cons a Q ih =>
    intro h
    have ha := h a List.mem_cons_self
    obtain ⟨i1, i2⟩ := ih fun p hp => h p (List.mem_cons_of_mem _ hp)
    cases Q with
    | nil =>
      refine ⟨fun c hc => sok_iff.mp ha.ok c hc, ?_⟩
      show (TL.tl a).length ≤ _
      have := ha.len
      simp only [List.length_cons, List.length_nil]
      omega
    | cons b Q =>
      have e : TL.joinL [32] ((a :: b :: Q).map TL.tl) = TL.tl a ++ ([32] ++ TL.joinL [32] ((b :: Q).map TL.tl)) := rfl
      rw [e]
      refine ⟨fun c hc => ?_, ?_⟩
      · rcases List.mem_append.mp hc with z | z
        · exact sok_iff.mp ha.ok c z
        · rcases List.mem_append.mp z with y | y
          · rw [List.mem_singleton.mp y]
            decide
          · exact i1 c y
      · rw [List.length_append, List.length_append, List.length_singleton]
        have := ha.len
        rw [List.length_cons, Nat.succ_mul]
        omega
theorem fis_join {Q : List Str} (h : Fis 127 Q) (hl : Q.length ≤ 4) : Fi 640 (Txt.join " " Q) := by
  obtain ⟨h1, h2⟩ := join_fi Q h
  refine ⟨sok_iff.mpr h1, Nat.le_trans h2 ?_⟩
  have : Q.length * (127 + 1) ≤ 4 * 128 := Nat.mul_le_mul hl (Nat.le_refl _)
  omega
theorem sum_le {Q : List Str} (h : Fis N Q) : (Q.map (·.length)).sum ≤ Q.length * N := by
  induction Q with
  | nil => exact Nat.zero_le _
  | cons a Q ih =>
    have := (h a List.mem_cons_self).len
    have e := TL.len_tl a
    have := ih fun p hp => h p (List.mem_cons_of_mem _ hp)
    rw [List.map_cons, List.sum_cons, List.length_cons, Nat.succ_mul]
    omega
theorem j_join {v : Val} {Q : List Str} (hv : asL ce v = some (Q.map .str)) (h : Fis 127 Q) (hl : Q.length ≤ 4) : kJoin (.im (.str " ")) [v] sl ce = .ok (.im (.str (Txt.join " " Q))) ce := by
  refine k_join hv ?_
  have h1 := sum_le h
  have h2 : (" " : Str).length = 1 := by rw [TL.len_tl, sp_tl]; rfl
  have : Q.length * 127 ≤ 4 * 127 := Nat.mul_le_mul hl (Nat.le_refl _)
  rw [h2]
  omega
/-- the text of an item, put together -/
theorem ap_all {a b k : Nat} (hk : 0 < k) (hk2 : k ≤ 61) (ha : a < 10 ^ k) (hb : b < 10 ^ k) :
    (∀ sl ce, kAdd (.im (.str w.word)) (.im (.str " ")) sl ce = .ok (.im (.str (w.word ++ " "))) ce) ∧ (∀ sl ce, kAdd (.im (.str (w.word ++ " "))) (.im (.str (nw a))) sl ce = .ok (.im (.str (w.word ++ " " ++ nw a))) ce) ∧
    (∀ sl ce, kAdd (.im (.str (w.word ++ " " ++ nw a))) (.im (.str " ")) sl ce = .ok (.im (.str (w.word ++ " " ++ nw a ++ " "))) ce) ∧ (∀ sl ce, kAdd (.im (.str (w.word ++ " " ++ nw a ++ " "))) (.im (.str (nw b))) sl ce = .ok (.im (.str (txtS w a b))) ce) := by
  have F1 := word_fi w
  have F2 := fi_app F1 sp_fi
  have Fa := nw_fi hk ha
  have Fb := nw_fi hk hb
  have F3 := fi_app F2 Fa
  have F4 := fi_app F3 sp_fi
  refine ⟨fun sl ce => k_app ?_, fun sl ce => k_app ?_, fun sl ce => k_app ?_, fun sl ce => k_app ?_⟩
  · have := F1.len; have := sp_fi.len; omega
  · have := F2.len; have := Fa.len; omega
  · have := F3.len; have := sp_fi.len; omega
  · have := F4.len; have := Fb.len; omega
theorem ix_wd (r : Int) (h0 : 0 ≤ r) (h1 : r < 5) : ∃ w : Wd, ∀ sl ce, kIx (.im (.lst [.str "older", .str "younger", .str "one", .str "not-older", .str "not-younger"])) (.im (.int r)) sl ce = .ok (.im (.str w.word)) ce := by
  have e : r = 0 ∨ r = 1 ∨ r = 2 ∨ r = 3 ∨ r = 4 := by omega
  rcases e with rfl | rfl | rfl | rfl | rfl
  · exact ⟨.older, fun sl ce => rfl⟩
  · exact ⟨.younger, fun sl ce => rfl⟩
  · exact ⟨.one, fun sl ce => rfl⟩
  · exact ⟨.nolder, fun sl ce => rfl⟩
  · exact ⟨.nyounger, fun sl ce => rfl⟩
abbrev slL (a0 a2 a3 a4 a5 a6 a7 a8 a9 a10 : Option Val) : Sl := [a0, some (.cell 0), a2, a3, a4, a5, a6, a7, a8, a9, a10]
/-- the words drawn over once or twice -/
theorem l_loop (r : Int) (h0 : 0 ≤ r) (h1 : r < 2) (ds : List Int) {P : List Str} (hP : Fis 31 P) (hl : P.length = 3) (a0 a2 a3 a4 a5 a6 a9 a10 : Option Val) : ∃ (v : Val) (ce1 : List Cell) (ds' : List Int) (Q : List Str) (y8 : Option Val), Q.length = 3 ∧ Fis 127 Q ∧ (∀ ds : List Int, asL (.lst (ds.map .int) :: ce1) v = some (Q.map .str)) ∧
    sFor (iArgs [(eBin kAdd (eC (.int 1)) (eC (.int r)))] kRng1) (gN 8) lp_law_0 (slL a0 a2 a3 a4 a5 a6 (some (.im (.lst (P.map .str)))) none a9 a10) [.lst (ds.map .int)] = .nx (slL a0 a2 a3 a4 a5 a6 (some v) y8 a9 a10) (.lst (ds'.map .int) :: ce1) := by
  have ka : ∀ (i j : Int) sl ce, kAdd (.im (.int i)) (.im (.int j)) sl ce = .ok (.im (.int (i + j))) ce := fun _ _ _ _ => rfl
  obtain ⟨P1, d1, l1, f1, e1⟩ := m_spoiled (.im (.lst (P.map .str))) ds [] rfl rfl (by omega) (by omega) hP (by decide) (by decide)
  have k1 : kRng1 [.im (.int 1)] = some [.int 0] := rng1 1 (by decide)
  have k2 : kRng1 [.im (.int 2)] = some [.int 0, .int 1] := rng1 2 (by decide)
  have e : r = 0 ∨ r = 1 := by omega
  simp only [stS, List.length_nil, List.nil_append, Nat.zero_add] at e1
  rcases e with rfl | rfl
  · refine ⟨.cell 1, [.lst (P1.map .str)], d1, P1, some (.im (.int 0)), by omega, fun p hp => (f1 p hp).mono (by decide), fun _ => rfl, ?_⟩
    unfold lp_law_0
    simp only [slL, mkD, List.map_cons, List.map_nil, List.length_cons, List.length_nil, Nat.reduceAdd, Nat.reduceSub, List.replicate_succ, List.replicate_zero, List.cons_append, List.nil_append, sSeq, sSet, sRet, sExp, sDrop, sIf, sNil, sFor, eBin, eUn, eBind, eV, eC, eArgs, eAnd, eOr, eNot, eIf, eMth, eTru, kBool, List.getElem?_cons_zero, List.getElem?_cons_succ, List.set_cons_zero, List.set_cons_succ, if_true, if_false, ite_true, ite_false, Bool.false_eq_true, eq_self_iff_true, reduceIte, ims, Option.map_some, kTup, kLst, kLstC, kCall, List.all_cons, List.all_nil, plainV, Bool.and_true, Bool.true_and, iExp, iArgs, itS, itL, itT, itLT, gN, gT, gL, Option.bind_some, frz, ce_get, ce_get0, ce_set, ce_set0, ce_take, asL, asSq, asIm, truV, kTru, kSub, kMod, kLen, kInt, kMin, kMax, kCmp, kIsB, tyL, tyS, Option.isSome_some, Bool.and_self, beq_self_eq_true, Option.isSome, Bool.or_true, Bool.true_or, Bool.not_true, Bool.not_false, Bool.false_and, Bool.and_false, Bool.or_false, Bool.false_or, List.cons.injEq, reduceCtorEq, false_and, and_false, and_self, and_true, true_and, decide_true, decide_false, Nat.reduceLeDiff, LINE, ka, Int.reduceAdd, k1, forD, e1]
  · obtain ⟨P2, d2, l2, f2, e2⟩ := m_spoiled (.cell 1) d1 [.lst (P1.map .str)] rfl rfl (by omega) (by omega) f1 (by decide) (by decide)
    simp only [stS, List.length_cons, List.length_nil, List.cons_append, List.nil_append, Nat.zero_add, Nat.reduceAdd] at e2
    refine ⟨.cell 2, [.lst (P1.map .str), .lst (P2.map .str)], d2, P2, some (.im (.int 1)), by omega, f2, fun _ => rfl, ?_⟩
    unfold lp_law_0
    simp only [slL, mkD, List.map_cons, List.map_nil, List.length_cons, List.length_nil, Nat.reduceAdd, Nat.reduceSub, List.replicate_succ, List.replicate_zero, List.cons_append, List.nil_append, sSeq, sSet, sRet, sExp, sDrop, sIf, sNil, sFor, eBin, eUn, eBind, eV, eC, eArgs, eAnd, eOr, eNot, eIf, eMth, eTru, kBool, List.getElem?_cons_zero, List.getElem?_cons_succ, List.set_cons_zero, List.set_cons_succ, if_true, if_false, ite_true, ite_false, Bool.false_eq_true, eq_self_iff_true, reduceIte, ims, Option.map_some, kTup, kLst, kLstC, kCall, List.all_cons, List.all_nil, plainV, Bool.and_true, Bool.true_and, iExp, iArgs, itS, itL, itT, itLT, gN, gT, gL, Option.bind_some, frz, ce_get, ce_get0, ce_set, ce_set0, ce_take, asL, asSq, asIm, truV, kTru, kSub, kMod, kLen, kInt, kMin, kMax, kCmp, kIsB, tyL, tyS, Option.isSome_some, Bool.and_self, beq_self_eq_true, Option.isSome, Bool.or_true, Bool.true_or, Bool.not_true, Bool.not_false, Bool.false_and, Bool.and_false, Bool.or_false, Bool.false_or, List.cons.injEq, reduceCtorEq, false_and, and_false, and_self, and_true, true_and, decide_true, decide_false, Nat.reduceLeDiff, LINE, ka, Int.reduceAdd, k2, forD, e1, e2]
/-- the shape drawn -/
theorem l_shape (r : Int) (h0 : 0 ≤ r) (h1 : r < 8) (ds : List Int) {v : Val} {ce1 : List Cell} {Q : List Str} (hQ : Fis 127 Q) (hl : Q.length = 3) (hv : ∀ ds : List Int, asL (.lst (ds.map .int) :: ce1) v = some (Q.map .str)) (a0 a2 a3 a4 a5 a6 a8 a10 : Option Val) :
    ∃ (v' : Val) (ds' : List Int) (Q' : List Str), Q'.length ≤ 4 ∧ Fis 127 Q' ∧ (∀ ds : List Int, asL (.lst (ds.map .int) :: ce1) v' = some (Q'.map .str)) ∧ ∀ (R : DSt) (o : Out), R (slL a0 a2 a3 a4 a5 a6 (some v') a8 (some (.im (.int r))) a10) (.lst (ds'.map .int) :: ce1) = o →
    (sSeq (sIf (eBin kEq (eV 9) (eC (.int 0)))
    (sSet 7 (eSlice (eV 7) none (some (eC (.int 2)))))
    sNil) (sSeq (sIf (eBin kEq (eV 9) (eC (.int 1)))
    (sSet 7 (eSlice (eV 7) none (some (eC (.int 1)))))
    sNil) (sSeq (sIf (eBin kEq (eV 9) (eC (.int 2)))
    (sSet 7 (eBin kAdd (eV 7) (eArgs [(eC (.str ""))] kLst)))
    sNil) (sSeq (sIf (eBin kEq (eV 9) (eC (.int 3)))
    (sSet 7 (eBin kAdd (eV 7) (eArgs [(eArgs [(eArgs [(eV 1), (eC (.int 20))] (kCall f__law_draw))] (kCall f__law_odd))] kLst)))
    sNil) R)))) (slL a0 a2 a3 a4 a5 a6 (some v) a8 (some (.im (.int r))) a10) (.lst (ds.map .int) :: ce1) = o := by
  have qq : ∀ (i j : Int) sl ce, kEq (.im (.int i)) (.im (.int j)) sl ce = .ok (.im (.bl (decide (i = j)))) ce := fun i j sl ce => by
    show kEqG false _ _ sl ce = _
    rw [eq_int]
    rfl
  obtain ⟨p, q, t, rfl⟩ : ∃ p q t, Q = [p, q, t] := by
    match Q, hl with
    | [p, q, t], _ => exact ⟨p, q, t, rfl⟩
  have hv' : ∀ ds : List Int, asL (.lst (ds.map .int) :: ce1) v = some [.str p, .str q, .str t] := hv
  have cut : ∀ (n : Nat) (ds : List Int) sl, kSlL v none (some (n : Nat)) sl (.lst (ds.map .int) :: ce1) = .ok (.im (.lst (([p, q, t].take n).map .str))) (.lst (ds.map .int) :: ce1) := fun n ds sl => by
    have ns : ∀ z, v ≠ .im (.str z) := fun z e => by
      have := hv ds
      rw [e] at this
      cases this
    have ec : cutD [.str p, .str q, .str t] none (some (n : Nat)) = ([p, q, t].take n).map .str := by
      unfold cutD
      rw [HT.sIx_none, HT.sIx_nat, List.drop_zero, Nat.sub_zero, List.map_take]
      show List.take (min n 3) [D.str p, .str q, .str t] = List.take n [D.str p, .str q, .str t]
      by_cases h : n ≤ 3
      · rw [Nat.min_eq_left h]
      · rw [Nat.min_eq_right (by omega), List.take_of_length_le (by simp), List.take_of_length_le (by simp; omega)]
    unfold kSlL
    split
    · rename_i z
      exact absurd rfl (ns z)
    · simp only [hv', ec]
  have add : ∀ (z : Str) (ds : List Int) sl, kAdd v (.im (.lst [.str z])) sl (.lst (ds.map .int) :: ce1) = .ok (.im (.lst ([p, q, t, z].map .str))) (.lst (ds.map .int) :: ce1) := fun z ds sl => by
    unfold kAdd
    split
    · rename_i h _; rename_i e1 e2
      have := hv ds
      first | cases e2 | cases e1
    · rename_i e1 e2
      first | cases e2 | cases e1
    · have ea : asL (.lst (ds.map .int) :: ce1) (.im (.lst [.str z])) = some [.str z] := rfl
      simp only [hv', ea]
      rfl
  by_cases c0 : r = 0
  · subst c0
    have c := cut 2
    exact ⟨.im (.lst ([p, q].map .str)), ds, [p, q], (show 2 ≤ 4 by decide), fun z hz => hQ z (List.mem_of_mem_take (i := 2) (l := [p, q, t]) hz), fun _ => rfl, fun R o ho => by
      rw [← ho]
      have c : ∀ (ds : List Int) sl, kSlL v none (some 2) sl (.lst (ds.map .int) :: ce1) = .ok (.im (.lst ([p, q].map .str))) (.lst (ds.map .int) :: ce1) := cut 2
      simp only [slL, mkD, List.map_cons, List.map_nil, List.length_cons, List.length_nil, Nat.reduceAdd, Nat.reduceSub, List.replicate_succ, List.replicate_zero, List.cons_append, List.nil_append, sSeq, sSet, sRet, sExp, sDrop, sIf, sNil, sFor, eBin, eUn, eBind, eV, eC, eArgs, eAnd, eOr, eNot, eIf, eMth, eTru, kBool, List.getElem?_cons_zero, List.getElem?_cons_succ, List.set_cons_zero, List.set_cons_succ, if_true, if_false, ite_true, ite_false, Bool.false_eq_true, eq_self_iff_true, reduceIte, ims, Option.map_some, kTup, kLst, kLstC, kCall, List.all_cons, List.all_nil, plainV, Bool.and_true, Bool.true_and, iExp, iArgs, itS, itL, itT, itLT, gN, gT, gL, Option.bind_some, frz, ce_get, ce_get0, ce_set, ce_set0, ce_take, asL, asSq, asIm, truV, kTru, kSub, kMod, kLen, kInt, kMin, kMax, kCmp, kIsB, tyL, tyS, Option.isSome_some, Bool.and_self, beq_self_eq_true, Option.isSome, Bool.or_true, Bool.true_or, Bool.not_true, Bool.not_false, Bool.false_and, Bool.and_false, Bool.or_false, Bool.false_or, List.cons.injEq, reduceCtorEq, false_and, and_false, and_self, and_true, true_and, decide_true, decide_false, Nat.reduceLeDiff, LINE, eSlice, eOpt, qq, Int.reduceEq, c]⟩
  by_cases c1 : r = 1
  · subst c1
    exact ⟨.im (.lst ([p].map .str)), ds, [p], (show 1 ≤ 4 by decide), fun z hz => hQ z (List.mem_of_mem_take (i := 1) (l := [p, q, t]) hz), fun _ => rfl, fun R o ho => by
      rw [← ho]
      have c : ∀ (ds : List Int) sl, kSlL v none (some 1) sl (.lst (ds.map .int) :: ce1) = .ok (.im (.lst ([p].map .str))) (.lst (ds.map .int) :: ce1) := cut 1
      simp only [slL, mkD, List.map_cons, List.map_nil, List.length_cons, List.length_nil, Nat.reduceAdd, Nat.reduceSub, List.replicate_succ, List.replicate_zero, List.cons_append, List.nil_append, sSeq, sSet, sRet, sExp, sDrop, sIf, sNil, sFor, eBin, eUn, eBind, eV, eC, eArgs, eAnd, eOr, eNot, eIf, eMth, eTru, kBool, List.getElem?_cons_zero, List.getElem?_cons_succ, List.set_cons_zero, List.set_cons_succ, if_true, if_false, ite_true, ite_false, Bool.false_eq_true, eq_self_iff_true, reduceIte, ims, Option.map_some, kTup, kLst, kLstC, kCall, List.all_cons, List.all_nil, plainV, Bool.and_true, Bool.true_and, iExp, iArgs, itS, itL, itT, itLT, gN, gT, gL, Option.bind_some, frz, ce_get, ce_get0, ce_set, ce_set0, ce_take, asL, asSq, asIm, truV, kTru, kSub, kMod, kLen, kInt, kMin, kMax, kCmp, kIsB, tyL, tyS, Option.isSome_some, Bool.and_self, beq_self_eq_true, Option.isSome, Bool.or_true, Bool.true_or, Bool.not_true, Bool.not_false, Bool.false_and, Bool.and_false, Bool.or_false, Bool.false_or, List.cons.injEq, reduceCtorEq, false_and, and_false, and_self, and_true, true_and, decide_true, decide_false, Nat.reduceLeDiff, LINE, eSlice, eOpt, qq, Int.reduceEq, c]⟩
  by_cases c2 : r = 2
  · subst c2
    have ad := add ""
    refine ⟨.im (.lst ([p, q, t, ""].map .str)), ds, [p, q, t, ""], (show 4 ≤ 4 by decide), fun z hz => ?_, fun _ => rfl, fun R o ho => ?_⟩
    · simp only [List.mem_cons, List.not_mem_nil, or_false] at hz
      rcases hz with rfl | rfl | rfl | rfl
      · exact hQ _ (by simp)
      · exact hQ _ (by simp)
      · exact hQ _ (by simp)
      · exact ⟨by decide +kernel, by decide +kernel⟩
    · rw [← ho]
      simp only [slL, mkD, List.length_cons, List.length_nil, Nat.reduceAdd, Nat.reduceSub, List.replicate_succ, List.replicate_zero, List.cons_append, List.nil_append, sSeq, sSet, sRet, sExp, sDrop, sIf, sNil, sFor, eBin, eUn, eBind, eV, eC, eArgs, eAnd, eOr, eNot, eIf, eMth, eTru, kBool, List.getElem?_cons_zero, List.getElem?_cons_succ, List.set_cons_zero, List.set_cons_succ, if_true, if_false, ite_true, ite_false, Bool.false_eq_true, eq_self_iff_true, reduceIte, ims, Option.map_some, kTup, kLst, kLstC, kCall, List.all_cons, List.all_nil, plainV, Bool.and_true, Bool.true_and, iExp, iArgs, itS, itL, itT, itLT, gN, gT, gL, Option.bind_some, frz, ce_get, ce_get0, ce_set, ce_set0, ce_take, asL, asSq, asIm, truV, kTru, kSub, kMod, kLen, kInt, kMin, kMax, kCmp, kIsB, tyL, tyS, Option.isSome_some, Bool.and_self, beq_self_eq_true, Option.isSome, Bool.or_true, Bool.true_or, Bool.not_true, Bool.not_false, Bool.false_and, Bool.and_false, Bool.or_false, Bool.false_or, List.cons.injEq, reduceCtorEq, false_and, and_false, and_self, and_true, true_and, decide_true, decide_false, Nat.reduceLeDiff, LINE, eSlice, eOpt, qq, Int.reduceEq, ad]
  by_cases c3 : r = 3
  · subst c3
    obtain ⟨r4, d4, a4, b4, e4⟩ := m_draw 0 ds 20 (.lst (ds.map .int) :: ce1) rfl (by decide)
    obtain ⟨odd, fod, eo⟩ := m_odd r4 a4 b4
    have ad := add odd
    simp only [List.set_cons_zero] at e4
    refine ⟨.im (.lst ([p, q, t, odd].map .str)), d4, [p, q, t, odd], (show 4 ≤ 4 by decide), fun z hz => ?_, fun _ => rfl, fun R o ho => ?_⟩
    · simp only [List.mem_cons, List.not_mem_nil, or_false] at hz
      rcases hz with rfl | rfl | rfl | rfl
      · exact hQ _ (by simp)
      · exact hQ _ (by simp)
      · exact hQ _ (by simp)
      · exact fod.mono (by decide)
    · rw [← ho]
      simp only [slL, mkD, List.length_cons, List.length_nil, Nat.reduceAdd, Nat.reduceSub, List.replicate_succ, List.replicate_zero, List.cons_append, List.nil_append, sSeq, sSet, sRet, sExp, sDrop, sIf, sNil, sFor, eBin, eUn, eBind, eV, eC, eArgs, eAnd, eOr, eNot, eIf, eMth, eTru, kBool, List.getElem?_cons_zero, List.getElem?_cons_succ, List.set_cons_zero, List.set_cons_succ, if_true, if_false, ite_true, ite_false, Bool.false_eq_true, eq_self_iff_true, reduceIte, ims, Option.map_some, kTup, kLst, kLstC, kCall, List.all_cons, List.all_nil, plainV, Bool.and_true, Bool.true_and, iExp, iArgs, itS, itL, itT, itLT, gN, gT, gL, Option.bind_some, frz, ce_get, ce_get0, ce_set, ce_set0, ce_take, asL, asSq, asIm, truV, kTru, kSub, kMod, kLen, kInt, kMin, kMax, kCmp, kIsB, tyL, tyS, Option.isSome_some, Bool.and_self, beq_self_eq_true, Option.isSome, Bool.or_true, Bool.true_or, Bool.not_true, Bool.not_false, Bool.false_and, Bool.and_false, Bool.or_false, Bool.false_or, List.cons.injEq, reduceCtorEq, false_and, and_false, and_self, and_true, true_and, decide_true, decide_false, Nat.reduceLeDiff, LINE, eSlice, eOpt, qq, Int.reduceEq, e4, eo, ad]
  · refine ⟨v, ds, [p, q, t], (show 3 ≤ 4 by decide), hQ, hv, fun R o ho => ?_⟩
    rw [← ho]
    have d0 := decide_eq_false c0
    have d1 := decide_eq_false c1
    have d2 := decide_eq_false c2
    have d3 := decide_eq_false c3
    simp only [slL, mkD, List.map_cons, List.map_nil, List.length_cons, List.length_nil, Nat.reduceAdd, Nat.reduceSub, List.replicate_succ, List.replicate_zero, List.cons_append, List.nil_append, sSeq, sSet, sRet, sExp, sDrop, sIf, sNil, sFor, eBin, eUn, eBind, eV, eC, eArgs, eAnd, eOr, eNot, eIf, eMth, eTru, kBool, List.getElem?_cons_zero, List.getElem?_cons_succ, List.set_cons_zero, List.set_cons_succ, if_true, if_false, ite_true, ite_false, Bool.false_eq_true, eq_self_iff_true, reduceIte, ims, Option.map_some, kTup, kLst, kLstC, kCall, List.all_cons, List.all_nil, plainV, Bool.and_true, Bool.true_and, iExp, iArgs, itS, itL, itT, itLT, gN, gT, gL, Option.bind_some, frz, ce_get, ce_get0, ce_set, ce_set0, ce_take, asL, asSq, asIm, truV, kTru, kSub, kMod, kLen, kInt, kMin, kMax, kCmp, kIsB, tyL, tyS, Option.isSome_some, Bool.and_self, beq_self_eq_true, Option.isSome, Bool.or_true, Bool.true_or, Bool.not_true, Bool.not_false, Bool.false_and, Bool.and_false, Bool.or_false, Bool.false_or, List.cons.injEq, reduceCtorEq, false_and, and_false, and_self, and_true, true_and, decide_true, decide_false, Nat.reduceLeDiff, LINE, qq, d0, d1, d2, d3]
end
end ZZ
set_option Elab.async false
set_option linter.all false
set_option maxRecDepth 100000
set_option maxHeartbeats 4000000
namespace ZZ
open PySem PySem.Spec L2
theorem law_true : ∀ ns : List Int, ns.length ≤ 63 → ∃ ce', f_law [.im (.wl (ns.map .int))] [] = .ok (.im (.bl true)) ce' := by
  intro ns hl
  obtain ⟨ds0, e0⟩ := m_pool ns hl 150 (by decide) []
  have ne : ([] : List Cell).length = 0 := rfl
  simp only [ne, List.nil_append] at e0
  have e150 : ((150 : Nat) : Int) = 150 := rfl
  rw [e150] at e0
  obtain ⟨r1, ds1, b1, c1, e1⟩ := m_draw 0 ds0 5 [.lst (ds0.map .int)] rfl (by decide)
  obtain ⟨w, ew⟩ := ix_wd r1 b1 c1
  obtain ⟨n1, ds2, b2, c2, e2⟩ := m_number 0 ds1 [.lst (ds1.map .int)] rfl
  obtain ⟨n2, ds3, b3, c3, e3⟩ := m_number 0 ds2 [.lst (ds2.map .int)] rfl
  simp only [List.set_cons_zero] at e1 e2 e3
  obtain ⟨a, rfl⟩ : ∃ a : Nat, n1 = (a : Int) := ⟨n1.toNat, by omega⟩
  obtain ⟨b, rfl⟩ : ∃ b : Nat, n2 = (b : Int) := ⟨n2.toNat, by omega⟩
  have ha : a < 10 ^ 30 := by
    have : (10 : Nat) ^ 30 = 1000000000000000000000000000000 := by decide
    omega
  have hb : b < 10 ^ 30 := by
    have : (10 : Nat) ^ 30 = 1000000000000000000000000000000 := by decide
    omega
  have h3061 : (10 : Nat) ^ 30 < 10 ^ 61 := by decide
  have ha2 : a < 10 ^ 61 := Nat.lt_trans ha h3061
  have hb2 : b < 10 ^ 61 := Nat.lt_trans hb h3061
  obtain ⟨p1, p2, p3, p4⟩ := ap_all (w := w) (k := 30) (by decide) (by decide) ha hb
  have sa := fun sl ce => k_str (sl := sl) (ce := ce) ha2
  have sb := fun sl ce => k_str (sl := sl) (ce := ce) hb2
  have ei : D.tup [.str w.word, .int (a : Nat), .int (b : Nat)] = itmD w a b := rfl
  have i0 : ∀ sl ce, kIx (.im (itmD w a b)) (.im (.int 0)) sl ce = .ok (.im (.str w.word)) ce := fun _ _ => rfl
  have i1 : ∀ sl ce, kIx (.im (itmD w a b)) (.im (.int 1)) sl ce = .ok (.im (.int (a : Nat))) ce := fun _ _ => rfl
  have i2 : ∀ sl ce, kIx (.im (itmD w a b)) (.im (.int 2)) sl ce = .ok (.im (.int (b : Nat))) ce := fun _ _ => rfl
  have ms := fun ce => m_saying (i := (a : Int)) (j := (b : Int)) (ce := ce) w
  have fT : Fi (13 + 2 * 30) (txtS w a b) := txt_fi (by decide) ha hb
  have fT6 : Fi 640 (txtS w a b) := fT.mono (by decide)
  have is : ∀ sl ce, kIsi i_str (.im (.str (txtS w a b))) sl ce = .ok (.im (.bl true)) ce := fun _ _ => rfl
  have nT : ∀ sl ce, kNe (.im (.str (txtS w a b))) (.im (.str (txtS w a b))) sl ce = .ok (.im (.bl false)) ce := fun sl ce => by
    show kEqG true _ _ sl ce = _
    rw [eq_str fT.ok fT.ok]
    simp
  have mr := fun ce => m_lright (ce := ce) fT6
  have rd : ∀ ce, f_read_saying [.im (.str (txtS w a b))] ce = .ok (.im (sayD w a b)) ce := fun ce => by
    rw [m_read fT6, txt_split, if_pos txt_rd.1, txt_rd.2]
  have oe : ∀ sl ce, kOwnE cs_S rf_S f_Saying___eq__ (.im (sayD w a b)) (.im (sayD w a b)) sl ce = .ok (.im (.bl true)) ce := fun sl ce => by
    rw [own_e]
    simp
  have mi : ∀ ce, f__law_is [.im (.bl true), .im (.bl true)] ce = .ok (.im (.bl true)) ce := fun ce => m_is true true
  have m5 : ∀ (a0 a1 a2 a3 a4 a6 a7 a8 a9 a10 : Option Val) ce, eMthT tb_written (eV 5) [] [a0, a1, a2, a3, a4, some (.im (sayD w a b)), a6, a7, a8, a9, a10] ce = .ok (.im (.str (txtS w a b))) ce := fun a0 a1 a2 a3 a4 a6 a7 a8 a9 a10 ce => mt_written ha2 hb2 rfl
  have m6 : ∀ (a0 a1 a2 a3 a4 a5 a7 a8 a9 a10 : Option Val) ce, eMthT tb_written (eV 6) [] [a0, a1, a2, a3, a4, a5, some (.im (sayD w a b)), a7, a8, a9, a10] ce = .ok (.im (.str (txtS w a b))) ce := fun a0 a1 a2 a3 a4 a5 a7 a8 a9 a10 ce => mt_written ha2 hb2 rfl
  have ks : ∀ sl ce, kSplit (.im (.str (txtS w a b))) [.im (.str " ")] sl ce = .ok (.im (.lst ([w.word, nw a, nw b].map .str))) ce := fun sl ce => by rw [k_split 32 sp_tl fT6, txt_split]
  have hP : Fis 31 [w.word, nw a, nw b] := fun p hp => by
    simp only [List.mem_cons, List.not_mem_nil, or_false] at hp
    rcases hp with rfl | rfl | rfl
    · exact (word_fi w).mono (by decide)
    · exact (nw_fi (by decide) ha).mono (by decide)
    · exact (nw_fi (by decide) hb).mono (by decide)
  obtain ⟨r4, ds4, b4, c4, e4⟩ := m_draw 0 ds3 2 [.lst (ds3.map .int)] rfl (by decide)
  simp only [List.set_cons_zero] at e4
  obtain ⟨v, ce1, ds5, Q, y8, lQ, fQ, hv, e5⟩ := l_loop r4 b4 c4 ds4 hP rfl (some (.im (scr ns))) (some (.im (.lst [.str "older", .str "younger", .str "one", .str "not-older", .str "not-younger"]))) (some (.im (itmD w a b))) (some (.im (.str (txtS w a b)))) (some (.im (sayD w a b))) (some (.im (sayD w a b))) none none
  have e5' : sFor (iArgs [(eBin kAdd (eC (.int 1)) (eArgs [(eV 1), (eC (.int 2))] (kCall f__law_draw)))] kRng1) (gN 8) lp_law_0 (slL (some (.im (scr ns))) (some (.im (.lst [.str "older", .str "younger", .str "one", .str "not-older", .str "not-younger"]))) (some (.im (itmD w a b))) (some (.im (.str (txtS w a b)))) (some (.im (sayD w a b))) (some (.im (sayD w a b))) (some (.im (.lst ([w.word, nw a, nw b].map .str)))) none none none) [.lst (ds3.map .int)] = .nx (slL (some (.im (scr ns))) (some (.im (.lst [.str "older", .str "younger", .str "one", .str "not-older", .str "not-younger"]))) (some (.im (itmD w a b))) (some (.im (.str (txtS w a b)))) (some (.im (sayD w a b))) (some (.im (sayD w a b))) (some v) y8 none none) (.lst (ds5.map .int) :: ce1) := by
    rw [← e5]
    simp only [slL, mkD, List.length_cons, List.length_nil, Nat.reduceAdd, Nat.reduceSub, List.replicate_succ, List.replicate_zero, List.cons_append, List.nil_append, sSeq, sSet, sRet, sExp, sDrop, sIf, sNil, sFor, eBin, eUn, eBind, eV, eC, eArgs, eAnd, eOr, eNot, eIf, eMth, eTru, kBool, List.getElem?_cons_zero, List.getElem?_cons_succ, List.set_cons_zero, List.set_cons_succ, if_true, if_false, ite_true, ite_false, Bool.false_eq_true, eq_self_iff_true, reduceIte, ims, Option.map_some, kTup, kLst, kLstC, kCall, List.all_cons, List.all_nil, plainV, Bool.and_true, Bool.true_and, iExp, iArgs, itS, itL, itT, itLT, gN, gT, gL, Option.bind_some, frz, ce_get, ce_get0, ce_set, ce_set0, ce_take, asL, asSq, asIm, truV, kTru, kSub, kMod, kLen, kInt, kMin, kMax, kCmp, kIsB, tyL, tyS, Option.isSome_some, Bool.and_self, beq_self_eq_true, Option.isSome, Bool.or_true, Bool.true_or, Bool.not_true, Bool.not_false, Bool.false_and, Bool.and_false, Bool.or_false, Bool.false_or, List.cons.injEq, reduceCtorEq, false_and, and_false, and_self, and_true, true_and, decide_true, decide_false, Nat.reduceLeDiff, LINE, e4]
  obtain ⟨r6, ds6, b6, c6, e6⟩ := m_draw 0 ds5 8 (.lst (ds5.map .int) :: ce1) rfl (by decide)
  simp only [List.set_cons_zero] at e6
  obtain ⟨v', ds7, Q', lQ', fQ', hv', go⟩ := l_shape r6 b6 c6 ds6 fQ lQ hv (some (.im (scr ns))) (some (.im (.lst [.str "older", .str "younger", .str "one", .str "not-older", .str "not-younger"]))) (some (.im (itmD w a b))) (some (.im (.str (txtS w a b)))) (some (.im (sayD w a b))) (some (.im (sayD w a b))) y8 none
  have jn := fun sl => j_join (sl := sl) (ce := .lst (ds7.map .int) :: ce1) (hv' ds7) fQ' lQ'
  have mj := fun ce => m_lright (ce := ce) (fis_join fQ' lQ')
  -- the great numbers
  obtain ⟨n3, ds8, b8, c8, e8⟩ := m_number 0 ds7 (.lst (ds7.map .int) :: ce1) rfl
  simp only [List.set_cons_zero] at e8
  obtain ⟨A, hA, eA⟩ : ∃ A : Nat, A < 10 ^ 60 ∧ (1000000000000000000000000000000000000000000000000000000000000 - 1 - n3 : Int) = (A : Int) := by
    refine ⟨(1000000000000000000000000000000000000000000000000000000000000 - 1 - n3 : Int).toNat, ?_, by omega⟩
    have : (10 : Nat) ^ 60 = 1000000000000000000000000000000000000000000000000000000000000 := by decide
    omega
  obtain ⟨B, hB, eB⟩ : ∃ B : Nat, B < 10 ^ 60 ∧ (100000000000000000000000000000000000000000000000000000000000 + (a : Int) : Int) = (B : Int) := by
    refine ⟨(100000000000000000000000000000000000000000000000000000000000 + (a : Int) : Int).toNat, ?_, by omega⟩
    have : (10 : Nat) ^ 60 = 1000000000000000000000000000000000000000000000000000000000000 := by decide
    have : (10 : Nat) ^ 30 = 1000000000000000000000000000000 := by decide
    omega
  have pw1 : ∀ sl ce, kPow (.im (.int 10)) (.im (.int 60)) sl ce = .ok (.im (.int 1000000000000000000000000000000000000000000000000000000000000)) ce := fun _ _ => rfl
  have pw2 : ∀ sl ce, kPow (.im (.int 10)) (.im (.int 59)) sl ce = .ok (.im (.int 100000000000000000000000000000000000000000000000000000000000)) ce := fun _ _ => rfl
  have s1 : ∀ sl ce, kSub (.im (.int 1000000000000000000000000000000000000000000000000000000000000)) (.im (.int 1)) sl ce = .ok (.im (.int (1000000000000000000000000000000000000000000000000000000000000 - 1))) ce := fun _ _ => rfl
  have s2 : ∀ sl ce, kSub (.im (.int (1000000000000000000000000000000000000000000000000000000000000 - 1))) (.im (.int n3)) sl ce = .ok (.im (.int (A : Nat))) ce := fun sl ce => by
    show EOut.ok (Val.im (.int (1000000000000000000000000000000000000000000000000000000000000 - 1 - n3))) ce = _
    rw [eA]
  have s3 : ∀ sl ce, kAdd (.im (.int 100000000000000000000000000000000000000000000000000000000000)) (.im (.int (a : Nat))) sl ce = .ok (.im (.int (B : Nat))) ce := fun sl ce => by
    show EOut.ok (Val.im (.int (100000000000000000000000000000000000000000000000000000000000 + (a : Int)))) ce = _
    rw [eB]
  have h6061 : (10 : Nat) ^ 60 < 10 ^ 61 := by decide
  have hA2 : A < 10 ^ 61 := Nat.lt_trans hA h6061
  have hB2 : B < 10 ^ 61 := Nat.lt_trans hB h6061
  obtain ⟨q1, q2, q3, q4⟩ := ap_all (w := w) (k := 60) (by decide) (by decide) hA hB
  have sA := fun sl ce => k_str (sl := sl) (ce := ce) hA2
  have sB := fun sl ce => k_str (sl := sl) (ce := ce) hB2
  have eI : D.tup [.str w.word, .int (A : Nat), .int (B : Nat)] = itmD w A B := rfl
  have I0 : ∀ sl ce, kIx (.im (itmD w A B)) (.im (.int 0)) sl ce = .ok (.im (.str w.word)) ce := fun _ _ => rfl
  have I1 : ∀ sl ce, kIx (.im (itmD w A B)) (.im (.int 1)) sl ce = .ok (.im (.int (A : Nat))) ce := fun _ _ => rfl
  have I2 : ∀ sl ce, kIx (.im (itmD w A B)) (.im (.int 2)) sl ce = .ok (.im (.int (B : Nat))) ce := fun _ _ => rfl
  have mS := fun ce => m_saying (i := (A : Int)) (j := (B : Int)) (ce := ce) w
  have fG : Fi (13 + 2 * 60) (txtS w A B) := txt_fi (by decide) hA hB
  have mG := fun ce => m_lright (ce := ce) (fG.mono (by decide))
  have qG : ∀ sl ce, kEq (.im (.str (txtS w A B))) (.im (.str (txtS w A B))) sl ce = .ok (.im (.bl true)) ce := fun sl ce => by
    show kEqG false _ _ sl ce = _
    rw [eq_str fG.ok fG.ok]
    simp
  have m10 : ∀ (a0 a1 a2 a3 a4 a5 a6 a7 a8 a9 : Option Val) ce, eMthT tb_written (eArgs [(eV 10)] (kCall f__law_saying)) [] [a0, a1, a2, a3, a4, a5, a6, a7, a8, a9, some (.im (itmD w A B))] ce = .ok (.im (.str (txtS w A B))) ce := fun a0 a1 a2 a3 a4 a5 a6 a7 a8 a9 ce => mt_written hA2 hB2 (by simp? only [mS])
  have es : D.wl (ns.map .int) = scr ns := rfl
  have m3 : [w.word, nw a, nw b].map D.str = [.str w.word, .str (nw a), .str (nw b)] := rfl
  rw [m3] at e5' ks
  simp only [slL] at e5' go
  rw [es]
  refine ⟨[], ?_⟩
  unfold f_law b_law
  generalize eMthT tb_written (eV 5) [] = W5 at m5 ⊢
  generalize eMthT tb_written (eV 6) [] = W6 at m6 ⊢
  generalize eMthT tb_written (eArgs [(eV 10)] (kCall f__law_saying)) [] = W10 at m10 ⊢
  generalize sFor (iArgs [(eBin kAdd (eC (.int 1)) (eArgs [(eV 1), (eC (.int 2))] (kCall f__law_draw)))] kRng1) (gN 8) lp_law_0 = L0 at e5' ⊢
  generalize hR : (sSeq (sIf (eNot (eArgs [(eMth tyS kJoin (eC (.str " ")) [(eV 7)])] (kCall f__law_right)))
    (sRet (eC (.bl false)))
    sNil) _) = R at go ⊢
  have eR : R [some (.im (scr ns)), some (.cell 0), some (.im (.lst [.str "older", .str "younger", .str "one", .str "not-older", .str "not-younger"])), some (.im (itmD w a b)), some (.im (.str (txtS w a b))), some (.im (sayD w a b)), some (.im (sayD w a b)), some v', y8, some (.im (.int r6)), none] (.lst (ds7.map .int) :: ce1) = .rt (.im (.bl true)) (.lst (ds8.map .int) :: ce1) := by
    rw [← hR]
    simp? only [-kAdd, -kEq, -kSub, jn, mj, i0, i1, pw1, pw2, s1, e8, s2, s3, eI, I0, I1, I2, q1, sA, q2, q3, sB, q4, mG, m10, qG]
  have e7 := go R _ eR
  generalize hS : (sSeq (sIf (eBin kEq (eV 9) (eC (.int 0))) (sSet 7 (eSlice (eV 7) none (some (eC (.int 2))))) sNil) _) = S at e7 ⊢
  simp? only [-kAdd, -kNe, -kEq, e0, e1, ew, e2, e3, ei, i0, i1, i2, p1, sa, p2, p3, sb, p4, ms, m5, is, nT, mr, rd, oe, mi, m6, ks, e5', e6, e7, finD, List.take_zero]
end ZZ
set_option Elab.async false
set_option linter.all false
set_option maxRecDepth 100000
set_option maxHeartbeats 4000000
namespace ZZ
open PySem PySem.Spec L2 L2H
open ZH
/-- the law's own promise -/
def spLaw (K : PySem.W.Frag) : Sp := fun vs H Q _ => ∃ (a : Addr) (ns : List Int), vs = [.ref a] ∧ SqL K H a (ns.map V.int) ∧ ns.length ≤ 63 ∧ ∀ H', Q (.bl true) H'
theorem ints_reps {Z : Zx} {F : Hp} : ∀ ns : List Int, Reps Z F (ns.map D.int) (ns.map V.int)
  | [] => reps_nil
  | n :: ns => reps_cons (by unfold Rep; rfl) (ints_reps ns)
theorem sp_law {w : World} {K : PySem.W.Frag} {cl : Nat → Addr} {vs : List V} {H : Hp} {Q : VK} {E : XK} (h : spLaw K vs H Q E) : spD (Zz w K cl) f_law 1 vs H Q E := by
  obtain ⟨a, ns, rfl, hS, hl, k⟩ := h
  obtain ⟨ce', he⟩ := law_true ns hl
  refine ⟨[], H, [], [.im (.wl (ns.map .int))], ⟨Same.refl _, rfl, List.nodup_nil, fun k a c h1 h2 => by simp at h1⟩, ⟨_, _, rfl, ?_, rfl⟩, rfl, ?_⟩
  · unfold VRep Rep
    exact ⟨a, _, rfl, hS, ints_reps ns⟩
  · rw [he]
    intro A' F' H' x _ _ _ r
    rw [rep_bl r]
    exact k H'
theorem tx_mk {w : World} {K : PySem.W.Frag} {h : Heap} {mg : Str → Option Value} (X : K.In h) (G : h.Ns mainGlobals mg) (cZ : SaysZ fbs fnl tbs w K) : Tx PySem.Challenge.pw_siltmeet_k13_sayings_written_and_read w K mg (fun n => [82, 96, 96, 96, 96, 96, 117, 182, 147, 217, 252, 287, 110, 124, 313, 320, 327, 334, 341, 348, 355, 369, 362, 376, 383, 390, 397, 404, 411, 418, 425, 432, 439, 41, 60].getD n 0) (fun n => [44, 63, 75, 234, 269, 304, 199, 164, 24, 127].getD n 0) := {
    b_ValueError := PySem.W.mg_none_of X G (cZ.dec (p := PySem.W.nsIn K mainGlobals "ValueError" = some none) (i := 0) (j := 0) rfl rfl rfl),
    b_abs := PySem.W.mg_none_of X G (cZ.dec (p := PySem.W.nsIn K mainGlobals "abs" = some none) (i := 0) (j := 1) rfl rfl rfl),
    b_all := PySem.W.mg_none_of X G (cZ.dec (p := PySem.W.nsIn K mainGlobals "all" = some none) (i := 0) (j := 2) rfl rfl rfl),
    b_bool := PySem.W.mg_none_of X G (cZ.dec (p := PySem.W.nsIn K mainGlobals "bool" = some none) (i := 0) (j := 3) rfl rfl rfl),
    b_enumerate := PySem.W.mg_none_of X G (cZ.dec (p := PySem.W.nsIn K mainGlobals "enumerate" = some none) (i := 0) (j := 4) rfl rfl rfl),
    b_int := PySem.W.mg_none_of X G (cZ.dec (p := PySem.W.nsIn K mainGlobals "int" = some none) (i := 0) (j := 5) rfl rfl rfl),
    b_isinstance := PySem.W.mg_none_of X G (cZ.dec (p := PySem.W.nsIn K mainGlobals "isinstance" = some none) (i := 0) (j := 6) rfl rfl rfl),
    b_len := PySem.W.mg_none_of X G (cZ.dec (p := PySem.W.nsIn K mainGlobals "len" = some none) (i := 0) (j := 7) rfl rfl rfl),
    b_list := PySem.W.mg_none_of X G (cZ.dec (p := PySem.W.nsIn K mainGlobals "list" = some none) (i := 0) (j := 8) rfl rfl rfl),
    b_min := PySem.W.mg_none_of X G (cZ.dec (p := PySem.W.nsIn K mainGlobals "min" = some none) (i := 0) (j := 9) rfl rfl rfl),
    b_range := PySem.W.mg_none_of X G (cZ.dec (p := PySem.W.nsIn K mainGlobals "range" = some none) (i := 0) (j := 10) rfl rfl rfl),
    b_str := PySem.W.mg_none_of X G (cZ.dec (p := PySem.W.nsIn K mainGlobals "str" = some none) (i := 0) (j := 11) rfl rfl rfl),
    b_super := PySem.W.mg_none_of X G (cZ.dec (p := PySem.W.nsIn K mainGlobals "super" = some none) (i := 0) (j := 12) rfl rfl rfl),
    f_parse_number := (let ⟨_, F⟩ := fun_z (cZ.fns (i := 0) (d := dz_0) rfl) rfl rfl; ⟨_, F, F.binds (ps := ["word"]) fun _ _ _ _ _ _ us hl => match us, hl with | [_], _ => rfl⟩),
    g_parse_number := PySem.W.mg_of X G (cZ.dec (p := PySem.W.nsIn K mainGlobals "parse_number" = some (some (.ref 82))) (i := 0) (j := 13) rfl rfl rfl),
    f_Saying___init___at_Older := (let ⟨_, F⟩ := fun_z (cZ.fns (i := 1) (d := dz_1) rfl) rfl rfl; ⟨_, F, F.binds (ps := ["self", "left", "right"]) fun _ _ _ _ _ _ us hl => match us, hl with | [_, _, _], _ => rfl⟩),
    f_Saying___init___at_Younger := (let ⟨_, F⟩ := fun_z (cZ.fns (i := 2) (d := dz_2) rfl) rfl rfl; ⟨_, F, F.binds (ps := ["self", "left", "right"]) fun _ _ _ _ _ _ us hl => match us, hl with | [_, _, _], _ => rfl⟩),
    f_Saying___init___at_One := (let ⟨_, F⟩ := fun_z (cZ.fns (i := 3) (d := dz_3) rfl) rfl rfl; ⟨_, F, F.binds (ps := ["self", "left", "right"]) fun _ _ _ _ _ _ us hl => match us, hl with | [_, _, _], _ => rfl⟩),
    f_Saying___init___at_NotOlder := (let ⟨_, F⟩ := fun_z (cZ.fns (i := 4) (d := dz_4) rfl) rfl rfl; ⟨_, F, F.binds (ps := ["self", "left", "right"]) fun _ _ _ _ _ _ us hl => match us, hl with | [_, _, _], _ => rfl⟩),
    f_Saying___init___at_NotYounger := (let ⟨_, F⟩ := fun_z (cZ.fns (i := 5) (d := dz_5) rfl) rfl rfl; ⟨_, F, F.binds (ps := ["self", "left", "right"]) fun _ _ _ _ _ _ us hl => match us, hl with | [_, _, _], _ => rfl⟩),
    f_Saying_lets := (let ⟨_, F⟩ := fun_z (cZ.fns (i := 6) (d := dz_6) rfl) rfl rfl; ⟨_, F, F.binds (ps := ["self", "before", "after"]) fun _ _ _ _ _ _ us hl => match us, hl with | [_, _, _], _ => rfl⟩),
    f_NotOlder_lets := (sup_z (ps := ["self", "before", "after"]) (cZ.fns (i := 7) (d := dz_7) rfl) rfl rfl (cZ.fact (i := 0) (j := 14) rfl rfl : supB K dz_7 170 199 PySem.Challenge.pw_siltmeet_k13_sayings_written_and_read.main.file = true) fun _ _ _ _ _ us hl => match us, hl with | [_, _, _], _ => rfl),
    f_NotYounger_lets := (sup_z (ps := ["self", "before", "after"]) (cZ.fns (i := 8) (d := dz_8) rfl) rfl rfl (cZ.fact (i := 0) (j := 15) rfl rfl : supB K dz_8 135 164 PySem.Challenge.pw_siltmeet_k13_sayings_written_and_read.main.file = true) fun _ _ _ _ _ us hl => match us, hl with | [_, _, _], _ => rfl),
    f_Older_lets := (sup_z (ps := ["self", "before", "after"]) (cZ.fns (i := 9) (d := dz_9) rfl) rfl rfl (cZ.fact (i := 0) (j := 16) rfl rfl : supB K dz_9 205 234 PySem.Challenge.pw_siltmeet_k13_sayings_written_and_read.main.file = true) fun _ _ _ _ _ us hl => match us, hl with | [_, _, _], _ => rfl),
    f_Younger_lets := (sup_z (ps := ["self", "before", "after"]) (cZ.fns (i := 10) (d := dz_10) rfl) rfl rfl (cZ.fact (i := 0) (j := 17) rfl rfl : supB K dz_10 240 269 PySem.Challenge.pw_siltmeet_k13_sayings_written_and_read.main.file = true) fun _ _ _ _ _ us hl => match us, hl with | [_, _, _], _ => rfl),
    f_One_lets := (sup_z (ps := ["self", "before", "after"]) (cZ.fns (i := 11) (d := dz_11) rfl) rfl rfl (cZ.fact (i := 0) (j := 18) rfl rfl : supB K dz_11 275 304 PySem.Challenge.pw_siltmeet_k13_sayings_written_and_read.main.file = true) fun _ _ _ _ _ us hl => match us, hl with | [_, _, _], _ => rfl),
    f_Saying___eq__ := (let ⟨_, F⟩ := fun_z (cZ.fns (i := 12) (d := dz_12) rfl) rfl rfl; ⟨_, F, F.binds (ps := ["self", "other"]) fun _ _ _ _ _ _ us hl => match us, hl with | [_, _], _ => rfl⟩),
    f_Saying_written := (let ⟨_, F⟩ := fun_z (cZ.fns (i := 13) (d := dz_13) rfl) rfl rfl; ⟨_, F, F.binds (ps := ["self"]) fun _ _ _ _ _ _ us hl => match us, hl with | [_], _ => rfl⟩),
    f_made_saying := (let ⟨_, F⟩ := fun_z (cZ.fns (i := 14) (d := dz_14) rfl) rfl rfl; ⟨_, F, F.binds (ps := ["word", "left", "right"]) fun _ _ _ _ _ _ us hl => match us, hl with | [_, _, _], _ => rfl⟩),
    g_made_saying := PySem.W.mg_of X G (cZ.dec (p := PySem.W.nsIn K mainGlobals "made_saying" = some (some (.ref 313))) (i := 0) (j := 19) rfl rfl rfl),
    f_read_saying := (let ⟨_, F⟩ := fun_z (cZ.fns (i := 15) (d := dz_15) rfl) rfl rfl; ⟨_, F, F.binds (ps := ["text"]) fun _ _ _ _ _ _ us hl => match us, hl with | [_], _ => rfl⟩),
    g_read_saying := PySem.W.mg_of X G (cZ.dec (p := PySem.W.nsIn K mainGlobals "read_saying" = some (some (.ref 320))) (i := 0) (j := 20) rfl rfl rfl),
    f__law_mix := (let ⟨_, F⟩ := fun_z (cZ.fns (i := 16) (d := dz_16) rfl) rfl rfl; ⟨_, F, F.binds (ps := ["_law_cell", "_law_turn"]) fun _ _ _ _ _ _ us hl => match us, hl with | [_, _], _ => rfl⟩),
    g__law_mix := PySem.W.mg_of X G (cZ.dec (p := PySem.W.nsIn K mainGlobals "_law_mix" = some (some (.ref 327))) (i := 0) (j := 21) rfl rfl rfl),
    f__law_pool := (let ⟨_, F⟩ := fun_z (cZ.fns (i := 17) (d := dz_17) rfl) rfl rfl; ⟨_, F, F.binds (ps := ["_law_script", "_law_many"]) fun _ _ _ _ _ _ us hl => match us, hl with | [_, _], _ => rfl⟩),
    g__law_pool := PySem.W.mg_of X G (cZ.dec (p := PySem.W.nsIn K mainGlobals "_law_pool" = some (some (.ref 334))) (i := 0) (j := 22) rfl rfl rfl),
    f__law_draw := (let ⟨_, F⟩ := fun_z (cZ.fns (i := 18) (d := dz_18) rfl) rfl rfl; ⟨_, F, F.binds (ps := ["_law_pool_here", "_law_bound"]) fun _ _ _ _ _ _ us hl => match us, hl with | [_, _], _ => rfl⟩),
    g__law_draw := PySem.W.mg_of X G (cZ.dec (p := PySem.W.nsIn K mainGlobals "_law_draw" = some (some (.ref 341))) (i := 0) (j := 23) rfl rfl rfl),
    f__law_number := (let ⟨_, F⟩ := fun_z (cZ.fns (i := 19) (d := dz_19) rfl) rfl rfl; ⟨_, F, F.binds (ps := ["_law_pool_here"]) fun _ _ _ _ _ _ us hl => match us, hl with | [_], _ => rfl⟩),
    g__law_number := PySem.W.mg_of X G (cZ.dec (p := PySem.W.nsIn K mainGlobals "_law_number" = some (some (.ref 348))) (i := 0) (j := 24) rfl rfl rfl),
    f__law_whole := (let ⟨_, F⟩ := fun_z (cZ.fns (i := 20) (d := dz_20) rfl) rfl rfl; ⟨_, F, F.binds (ps := ["_law_number_here"]) fun _ _ _ _ _ _ us hl => match us, hl with | [_], _ => rfl⟩),
    g__law_whole := PySem.W.mg_of X G (cZ.dec (p := PySem.W.nsIn K mainGlobals "_law_whole" = some (some (.ref 355))) (i := 1) (j := 0) rfl rfl rfl),
    f__law_saying := (let ⟨_, F⟩ := fun_z (cZ.fns (i := 21) (d := dz_21) rfl) rfl rfl; ⟨_, F, F.binds (ps := ["_law_item"]) fun _ _ _ _ _ _ us hl => match us, hl with | [_], _ => rfl⟩),
    g__law_saying := PySem.W.mg_of X G (cZ.dec (p := PySem.W.nsIn K mainGlobals "_law_saying" = some (some (.ref 369))) (i := 1) (j := 1) rfl rfl rfl),
    f__law_is := (let ⟨_, F⟩ := fun_z (cZ.fns (i := 22) (d := dz_22) rfl) rfl rfl; ⟨_, F, F.binds (ps := ["_law_value_here", "_law_due_here"]) fun _ _ _ _ _ _ us hl => match us, hl with | [_, _], _ => rfl⟩),
    g__law_is := PySem.W.mg_of X G (cZ.dec (p := PySem.W.nsIn K mainGlobals "_law_is" = some (some (.ref 362))) (i := 1) (j := 2) rfl rfl rfl),
    f__law_class := (let ⟨_, F⟩ := fun_z (cZ.fns (i := 23) (d := dz_23) rfl) rfl rfl; ⟨_, F, F.binds (ps := ["_law_saying_here"]) fun _ _ _ _ _ _ us hl => match us, hl with | [_], _ => rfl⟩),
    g__law_class := PySem.W.mg_of X G (cZ.dec (p := PySem.W.nsIn K mainGlobals "_law_class" = some (some (.ref 376))) (i := 1) (j := 3) rfl rfl rfl),
    f__law_said := (let ⟨_, F⟩ := fun_z (cZ.fns (i := 24) (d := dz_24) rfl) rfl rfl; ⟨_, F, F.binds (ps := ["_law_saying_here", "_law_item"]) fun _ _ _ _ _ _ us hl => match us, hl with | [_, _], _ => rfl⟩),
    g__law_said := PySem.W.mg_of X G (cZ.dec (p := PySem.W.nsIn K mainGlobals "_law_said" = some (some (.ref 383))) (i := 1) (j := 4) rfl rfl rfl),
    f__law_char := (let ⟨_, F⟩ := fun_z (cZ.fns (i := 25) (d := dz_25) rfl) rfl rfl; ⟨_, F, F.binds (ps := ["_law_number_here"]) fun _ _ _ _ _ _ us hl => match us, hl with | [_], _ => rfl⟩),
    g__law_char := PySem.W.mg_of X G (cZ.dec (p := PySem.W.nsIn K mainGlobals "_law_char" = some (some (.ref 390))) (i := 1) (j := 5) rfl rfl rfl),
    f__law_value := (let ⟨_, F⟩ := fun_z (cZ.fns (i := 26) (d := dz_26) rfl) rfl rfl; ⟨_, F, F.binds (ps := ["_law_word"]) fun _ _ _ _ _ _ us hl => match us, hl with | [_], _ => rfl⟩),
    g__law_value := PySem.W.mg_of X G (cZ.dec (p := PySem.W.nsIn K mainGlobals "_law_value" = some (some (.ref 397))) (i := 1) (j := 6) rfl rfl rfl),
    f__law_odd := (let ⟨_, F⟩ := fun_z (cZ.fns (i := 27) (d := dz_27) rfl) rfl rfl; ⟨_, F, F.binds (ps := ["_law_number_here"]) fun _ _ _ _ _ _ us hl => match us, hl with | [_], _ => rfl⟩),
    g__law_odd := PySem.W.mg_of X G (cZ.dec (p := PySem.W.nsIn K mainGlobals "_law_odd" = some (some (.ref 404))) (i := 1) (j := 7) rfl rfl rfl),
    f__law_spoiled := (let ⟨_, F⟩ := fun_z (cZ.fns (i := 28) (d := dz_28) rfl) rfl rfl; ⟨_, F, F.binds (ps := ["_law_pool_here", "_law_words"]) fun _ _ _ _ _ _ us hl => match us, hl with | [_, _], _ => rfl⟩),
    g__law_spoiled := PySem.W.mg_of X G (cZ.dec (p := PySem.W.nsIn K mainGlobals "_law_spoiled" = some (some (.ref 411))) (i := 1) (j := 8) rfl rfl rfl),
    f__law_due := (let ⟨_, F⟩ := fun_z (cZ.fns (i := 29) (d := dz_29) rfl) rfl rfl; ⟨_, F, F.binds (ps := ["_law_parts"]) fun _ _ _ _ _ _ us hl => match us, hl with | [_], _ => rfl⟩),
    g__law_due := PySem.W.mg_of X G (cZ.dec (p := PySem.W.nsIn K mainGlobals "_law_due" = some (some (.ref 418))) (i := 1) (j := 9) rfl rfl rfl),
    f__law_base := (let ⟨_, F⟩ := fun_z (cZ.fns (i := 30) (d := dz_30) rfl) rfl rfl; ⟨_, F, F.binds (ps := ["_law_text"]) fun _ _ _ _ _ _ us hl => match us, hl with | [_], _ => rfl⟩),
    g__law_base := PySem.W.mg_of X G (cZ.dec (p := PySem.W.nsIn K mainGlobals "_law_base" = some (some (.ref 425))) (i := 1) (j := 10) rfl rfl rfl),
    f__law_right := (let ⟨_, F⟩ := fun_z (cZ.fns (i := 31) (d := dz_31) rfl) rfl rfl; ⟨_, F, F.binds (ps := ["_law_text"]) fun _ _ _ _ _ _ us hl => match us, hl with | [_], _ => rfl⟩),
    g__law_right := PySem.W.mg_of X G (cZ.dec (p := PySem.W.nsIn K mainGlobals "_law_right" = some (some (.ref 432))) (i := 1) (j := 11) rfl rfl rfl),
    f_law := (let ⟨_, F⟩ := fun_z (cZ.fns (i := 32) (d := dz_32) rfl) rfl rfl; ⟨_, F, F.binds (ps := ["_law_script"]) fun _ _ _ _ _ _ us hl => match us, hl with | [_], _ => rfl⟩),
    g_law := PySem.W.mg_of X G (cZ.dec (p := PySem.W.nsIn K mainGlobals "law" = some (some (.ref 439))) (i := 1) (j := 12) rfl rfl rfl),
    g_Older := PySem.W.mg_of X G (cZ.dec (p := PySem.W.nsIn K mainGlobals "Older" = some (some (.ref 234))) (i := 1) (j := 13) rfl rfl rfl),
    k_Older := ⟨⟨(cZ.fact (i := 1) (j := 14) rfl rfl : PySem.W.plainGet K 234 Str.empty = true), (cZ.fact (i := 1) (j := 15) rfl rfl : PySem.W.hasDictIn K 234 = true), (cZ.fact (i := 1) (j := 16) rfl rfl : PySem.W.plainOver K 234 = true), (cZ.dec (p := PySem.W.findIn K (.ref 234) "__setattr__" = some (some (.builtin "object.__setattr__"))) (i := 1) (j := 17) rfl rfl rfl)⟩, by show (flds 3).Nodup; decide +kernel⟩,
    na_Older_left := (cZ.dec (p := PySem.W.findIn K (.ref 234) "left" = some none) (i := 1) (j := 18) rfl rfl rfl),
    na_Older_right := (cZ.dec (p := PySem.W.findIn K (.ref 234) "right" = some none) (i := 1) (j := 19) rfl rfl rfl),
    mk_Older := ⟨(cZ.fact (i := 1) (j := 20) rfl rfl : PySem.W.makesIn K 234 = true), (cZ.dec (p := PySem.W.findIn K (.ref 234) "__init__" = some (some (.ref 96))) (i := 1) (j := 21) rfl rfl rfl), (cZ.fact (i := 1) (j := 22) rfl rfl : PySem.W.isFn K (.ref 96) = true), (cZ.fact (i := 1) (j := 23) rfl rfl : PySem.W.keepIn K (.ref 234) = true)⟩,
    g_Younger := PySem.W.mg_of X G (cZ.dec (p := PySem.W.nsIn K mainGlobals "Younger" = some (some (.ref 269))) (i := 1) (j := 24) rfl rfl rfl),
    k_Younger := ⟨⟨(cZ.fact (i := 2) (j := 0) rfl rfl : PySem.W.plainGet K 269 Str.empty = true), (cZ.fact (i := 2) (j := 1) rfl rfl : PySem.W.hasDictIn K 269 = true), (cZ.fact (i := 2) (j := 2) rfl rfl : PySem.W.plainOver K 269 = true), (cZ.dec (p := PySem.W.findIn K (.ref 269) "__setattr__" = some (some (.builtin "object.__setattr__"))) (i := 2) (j := 3) rfl rfl rfl)⟩, by show (flds 4).Nodup; decide +kernel⟩,
    na_Younger_left := (cZ.dec (p := PySem.W.findIn K (.ref 269) "left" = some none) (i := 2) (j := 4) rfl rfl rfl),
    na_Younger_right := (cZ.dec (p := PySem.W.findIn K (.ref 269) "right" = some none) (i := 2) (j := 5) rfl rfl rfl),
    mk_Younger := ⟨(cZ.fact (i := 2) (j := 6) rfl rfl : PySem.W.makesIn K 269 = true), (cZ.dec (p := PySem.W.findIn K (.ref 269) "__init__" = some (some (.ref 96))) (i := 2) (j := 7) rfl rfl rfl), (cZ.fact (i := 2) (j := 8) rfl rfl : PySem.W.isFn K (.ref 96) = true), (cZ.fact (i := 2) (j := 9) rfl rfl : PySem.W.keepIn K (.ref 269) = true)⟩,
    g_One := PySem.W.mg_of X G (cZ.dec (p := PySem.W.nsIn K mainGlobals "One" = some (some (.ref 304))) (i := 2) (j := 10) rfl rfl rfl),
    k_One := ⟨⟨(cZ.fact (i := 2) (j := 11) rfl rfl : PySem.W.plainGet K 304 Str.empty = true), (cZ.fact (i := 2) (j := 12) rfl rfl : PySem.W.hasDictIn K 304 = true), (cZ.fact (i := 2) (j := 13) rfl rfl : PySem.W.plainOver K 304 = true), (cZ.dec (p := PySem.W.findIn K (.ref 304) "__setattr__" = some (some (.builtin "object.__setattr__"))) (i := 2) (j := 14) rfl rfl rfl)⟩, by show (flds 5).Nodup; decide +kernel⟩,
    na_One_left := (cZ.dec (p := PySem.W.findIn K (.ref 304) "left" = some none) (i := 2) (j := 15) rfl rfl rfl),
    na_One_right := (cZ.dec (p := PySem.W.findIn K (.ref 304) "right" = some none) (i := 2) (j := 16) rfl rfl rfl),
    mk_One := ⟨(cZ.fact (i := 2) (j := 17) rfl rfl : PySem.W.makesIn K 304 = true), (cZ.dec (p := PySem.W.findIn K (.ref 304) "__init__" = some (some (.ref 96))) (i := 2) (j := 18) rfl rfl rfl), (cZ.fact (i := 2) (j := 19) rfl rfl : PySem.W.isFn K (.ref 96) = true), (cZ.fact (i := 2) (j := 20) rfl rfl : PySem.W.keepIn K (.ref 304) = true)⟩,
    g_NotOlder := PySem.W.mg_of X G (cZ.dec (p := PySem.W.nsIn K mainGlobals "NotOlder" = some (some (.ref 199))) (i := 2) (j := 21) rfl rfl rfl),
    k_NotOlder := ⟨⟨(cZ.fact (i := 2) (j := 22) rfl rfl : PySem.W.plainGet K 199 Str.empty = true), (cZ.fact (i := 2) (j := 23) rfl rfl : PySem.W.hasDictIn K 199 = true), (cZ.fact (i := 2) (j := 24) rfl rfl : PySem.W.plainOver K 199 = true), (cZ.dec (p := PySem.W.findIn K (.ref 199) "__setattr__" = some (some (.builtin "object.__setattr__"))) (i := 3) (j := 0) rfl rfl rfl)⟩, by show (flds 6).Nodup; decide +kernel⟩,
    na_NotOlder_left := (cZ.dec (p := PySem.W.findIn K (.ref 199) "left" = some none) (i := 3) (j := 1) rfl rfl rfl),
    na_NotOlder_right := (cZ.dec (p := PySem.W.findIn K (.ref 199) "right" = some none) (i := 3) (j := 2) rfl rfl rfl),
    mk_NotOlder := ⟨(cZ.fact (i := 3) (j := 3) rfl rfl : PySem.W.makesIn K 199 = true), (cZ.dec (p := PySem.W.findIn K (.ref 199) "__init__" = some (some (.ref 96))) (i := 3) (j := 4) rfl rfl rfl), (cZ.fact (i := 3) (j := 5) rfl rfl : PySem.W.isFn K (.ref 96) = true), (cZ.fact (i := 3) (j := 6) rfl rfl : PySem.W.keepIn K (.ref 199) = true)⟩,
    g_NotYounger := PySem.W.mg_of X G (cZ.dec (p := PySem.W.nsIn K mainGlobals "NotYounger" = some (some (.ref 164))) (i := 3) (j := 7) rfl rfl rfl),
    k_NotYounger := ⟨⟨(cZ.fact (i := 3) (j := 8) rfl rfl : PySem.W.plainGet K 164 Str.empty = true), (cZ.fact (i := 3) (j := 9) rfl rfl : PySem.W.hasDictIn K 164 = true), (cZ.fact (i := 3) (j := 10) rfl rfl : PySem.W.plainOver K 164 = true), (cZ.dec (p := PySem.W.findIn K (.ref 164) "__setattr__" = some (some (.builtin "object.__setattr__"))) (i := 3) (j := 11) rfl rfl rfl)⟩, by show (flds 7).Nodup; decide +kernel⟩,
    na_NotYounger_left := (cZ.dec (p := PySem.W.findIn K (.ref 164) "left" = some none) (i := 3) (j := 12) rfl rfl rfl),
    na_NotYounger_right := (cZ.dec (p := PySem.W.findIn K (.ref 164) "right" = some none) (i := 3) (j := 13) rfl rfl rfl),
    mk_NotYounger := ⟨(cZ.fact (i := 3) (j := 14) rfl rfl : PySem.W.makesIn K 164 = true), (cZ.dec (p := PySem.W.findIn K (.ref 164) "__init__" = some (some (.ref 96))) (i := 3) (j := 15) rfl rfl rfl), (cZ.fact (i := 3) (j := 16) rfl rfl : PySem.W.isFn K (.ref 96) = true), (cZ.fact (i := 3) (j := 17) rfl rfl : PySem.W.keepIn K (.ref 164) = true)⟩,
    g_SiltError := PySem.W.mg_of X G (cZ.dec (p := PySem.W.nsIn K mainGlobals "SiltError" = some (some (.ref 24))) (i := 3) (j := 18) rfl rfl rfl),
    g_Saying := PySem.W.mg_of X G (cZ.dec (p := PySem.W.nsIn K mainGlobals "Saying" = some (some (.ref 127))) (i := 3) (j := 19) rfl rfl rfl),
    su_sNO_NotOlder := ⟨(cZ.dec (p := PySem.W.ks_superIn K 199 199 "lets" = some (some (.ref 117))) (i := 3) (j := 21) rfl rfl rfl), (cZ.dec (p := PySem.W.typeIn K (.ref 117) = some (.type "function")) (i := 3) (j := 22) rfl rfl rfl), (cZ.dec (p := PySem.W.mroIn K 199 (.ref 199) = some true) (i := 3) (j := 23) rfl rfl rfl), (cZ.fact (i := 3) (j := 24) rfl rfl : PySem.W.fnIn K 117 = true)⟩,
    su_sNO_Younger := ⟨(cZ.dec (p := PySem.W.ks_superIn K 269 199 "lets" = some (some (.ref 117))) (i := 4) (j := 0) rfl rfl rfl), (cZ.dec (p := PySem.W.typeIn K (.ref 117) = some (.type "function")) (i := 3) (j := 22) rfl rfl rfl), (cZ.dec (p := PySem.W.mroIn K 269 (.ref 199) = some true) (i := 4) (j := 1) rfl rfl rfl), (cZ.fact (i := 3) (j := 24) rfl rfl : PySem.W.fnIn K 117 = true)⟩,
    su_sNO_One := ⟨(cZ.dec (p := PySem.W.ks_superIn K 304 199 "lets" = some (some (.ref 117))) (i := 4) (j := 2) rfl rfl rfl), (cZ.dec (p := PySem.W.typeIn K (.ref 117) = some (.type "function")) (i := 3) (j := 22) rfl rfl rfl), (cZ.dec (p := PySem.W.mroIn K 304 (.ref 199) = some true) (i := 4) (j := 3) rfl rfl rfl), (cZ.fact (i := 3) (j := 24) rfl rfl : PySem.W.fnIn K 117 = true)⟩,
    su_sNY_NotYounger := ⟨(cZ.dec (p := PySem.W.ks_superIn K 164 164 "lets" = some (some (.ref 117))) (i := 4) (j := 4) rfl rfl rfl), (cZ.dec (p := PySem.W.typeIn K (.ref 117) = some (.type "function")) (i := 3) (j := 22) rfl rfl rfl), (cZ.dec (p := PySem.W.mroIn K 164 (.ref 164) = some true) (i := 4) (j := 5) rfl rfl rfl), (cZ.fact (i := 3) (j := 24) rfl rfl : PySem.W.fnIn K 117 = true)⟩,
    su_sNY_Older := ⟨(cZ.dec (p := PySem.W.ks_superIn K 234 164 "lets" = some (some (.ref 117))) (i := 4) (j := 6) rfl rfl rfl), (cZ.dec (p := PySem.W.typeIn K (.ref 117) = some (.type "function")) (i := 3) (j := 22) rfl rfl rfl), (cZ.dec (p := PySem.W.mroIn K 234 (.ref 164) = some true) (i := 4) (j := 7) rfl rfl rfl), (cZ.fact (i := 3) (j := 24) rfl rfl : PySem.W.fnIn K 117 = true)⟩,
    su_sNY_One := ⟨(cZ.dec (p := PySem.W.ks_superIn K 304 164 "lets" = some (some (.ref 182))) (i := 4) (j := 9) rfl rfl rfl), (cZ.dec (p := PySem.W.typeIn K (.ref 182) = some (.type "function")) (i := 4) (j := 10) rfl rfl rfl), (cZ.dec (p := PySem.W.mroIn K 304 (.ref 164) = some true) (i := 4) (j := 11) rfl rfl rfl), (cZ.fact (i := 4) (j := 12) rfl rfl : PySem.W.fnIn K 182 = true)⟩,
    su_sO_Older := ⟨(cZ.dec (p := PySem.W.ks_superIn K 234 234 "lets" = some (some (.ref 147))) (i := 4) (j := 14) rfl rfl rfl), (cZ.dec (p := PySem.W.typeIn K (.ref 147) = some (.type "function")) (i := 4) (j := 15) rfl rfl rfl), (cZ.dec (p := PySem.W.mroIn K 234 (.ref 234) = some true) (i := 4) (j := 16) rfl rfl rfl), (cZ.fact (i := 4) (j := 17) rfl rfl : PySem.W.fnIn K 147 = true)⟩,
    su_sY_Younger := ⟨(cZ.dec (p := PySem.W.ks_superIn K 269 269 "lets" = some (some (.ref 182))) (i := 4) (j := 18) rfl rfl rfl), (cZ.dec (p := PySem.W.typeIn K (.ref 182) = some (.type "function")) (i := 4) (j := 10) rfl rfl rfl), (cZ.dec (p := PySem.W.mroIn K 269 (.ref 269) = some true) (i := 4) (j := 19) rfl rfl rfl), (cZ.fact (i := 4) (j := 12) rfl rfl : PySem.W.fnIn K 182 = true)⟩,
    su_s1_One := ⟨(cZ.dec (p := PySem.W.ks_superIn K 304 304 "lets" = some (some (.ref 147))) (i := 4) (j := 20) rfl rfl rfl), (cZ.dec (p := PySem.W.typeIn K (.ref 147) = some (.type "function")) (i := 4) (j := 15) rfl rfl rfl), (cZ.dec (p := PySem.W.mroIn K 304 (.ref 304) = some true) (i := 4) (j := 21) rfl rfl rfl), (cZ.fact (i := 4) (j := 17) rfl rfl : PySem.W.fnIn K 147 = true)⟩,
    mt_written_Older := ⟨(cZ.dec (p := PySem.W.findIn K (.ref 234) "written" = some (some (.ref 124))) (i := 4) (j := 22) rfl rfl rfl), (cZ.fact (i := 4) (j := 23) rfl rfl : PySem.W.isFn K (.ref 124) = true), (cZ.fact (i := 4) (j := 24) rfl rfl : PySem.W.keepIn K (.ref 124) = true)⟩,
    mt_written_Younger := ⟨(cZ.dec (p := PySem.W.findIn K (.ref 269) "written" = some (some (.ref 124))) (i := 5) (j := 0) rfl rfl rfl), (cZ.fact (i := 4) (j := 23) rfl rfl : PySem.W.isFn K (.ref 124) = true), (cZ.fact (i := 4) (j := 24) rfl rfl : PySem.W.keepIn K (.ref 124) = true)⟩,
    mt_written_One := ⟨(cZ.dec (p := PySem.W.findIn K (.ref 304) "written" = some (some (.ref 124))) (i := 5) (j := 1) rfl rfl rfl), (cZ.fact (i := 4) (j := 23) rfl rfl : PySem.W.isFn K (.ref 124) = true), (cZ.fact (i := 4) (j := 24) rfl rfl : PySem.W.keepIn K (.ref 124) = true)⟩,
    mt_written_NotOlder := ⟨(cZ.dec (p := PySem.W.findIn K (.ref 199) "written" = some (some (.ref 124))) (i := 5) (j := 2) rfl rfl rfl), (cZ.fact (i := 4) (j := 23) rfl rfl : PySem.W.isFn K (.ref 124) = true), (cZ.fact (i := 4) (j := 24) rfl rfl : PySem.W.keepIn K (.ref 124) = true)⟩,
    mt_written_NotYounger := ⟨(cZ.dec (p := PySem.W.findIn K (.ref 164) "written" = some (some (.ref 124))) (i := 5) (j := 3) rfl rfl rfl), (cZ.fact (i := 4) (j := 23) rfl rfl : PySem.W.isFn K (.ref 124) = true), (cZ.fact (i := 4) (j := 24) rfl rfl : PySem.W.keepIn K (.ref 124) = true)⟩,
    fg_S_left := ⟨fun c h => by
      unfold cs_S at h
      rcases cs_cons h with rfl | h
      · exact ⟨⟨⟨(cZ.fact (i := 1) (j := 14) rfl rfl : PySem.W.plainGet K 234 Str.empty = true), (cZ.fact (i := 1) (j := 15) rfl rfl : PySem.W.hasDictIn K 234 = true), (cZ.fact (i := 1) (j := 16) rfl rfl : PySem.W.plainOver K 234 = true), (cZ.dec (p := PySem.W.findIn K (.ref 234) "__setattr__" = some (some (.builtin "object.__setattr__"))) (i := 1) (j := 17) rfl rfl rfl)⟩, by show (flds 3).Nodup; decide +kernel⟩, (cZ.dec (p := PySem.W.findIn K (.ref 234) "left" = some none) (i := 1) (j := 18) rfl rfl rfl), rfl⟩
      rcases cs_cons h with rfl | h
      · exact ⟨⟨⟨(cZ.fact (i := 2) (j := 0) rfl rfl : PySem.W.plainGet K 269 Str.empty = true), (cZ.fact (i := 2) (j := 1) rfl rfl : PySem.W.hasDictIn K 269 = true), (cZ.fact (i := 2) (j := 2) rfl rfl : PySem.W.plainOver K 269 = true), (cZ.dec (p := PySem.W.findIn K (.ref 269) "__setattr__" = some (some (.builtin "object.__setattr__"))) (i := 2) (j := 3) rfl rfl rfl)⟩, by show (flds 4).Nodup; decide +kernel⟩, (cZ.dec (p := PySem.W.findIn K (.ref 269) "left" = some none) (i := 2) (j := 4) rfl rfl rfl), rfl⟩
      rcases cs_cons h with rfl | h
      · exact ⟨⟨⟨(cZ.fact (i := 2) (j := 11) rfl rfl : PySem.W.plainGet K 304 Str.empty = true), (cZ.fact (i := 2) (j := 12) rfl rfl : PySem.W.hasDictIn K 304 = true), (cZ.fact (i := 2) (j := 13) rfl rfl : PySem.W.plainOver K 304 = true), (cZ.dec (p := PySem.W.findIn K (.ref 304) "__setattr__" = some (some (.builtin "object.__setattr__"))) (i := 2) (j := 14) rfl rfl rfl)⟩, by show (flds 5).Nodup; decide +kernel⟩, (cZ.dec (p := PySem.W.findIn K (.ref 304) "left" = some none) (i := 2) (j := 15) rfl rfl rfl), rfl⟩
      rcases cs_cons h with rfl | h
      · exact ⟨⟨⟨(cZ.fact (i := 2) (j := 22) rfl rfl : PySem.W.plainGet K 199 Str.empty = true), (cZ.fact (i := 2) (j := 23) rfl rfl : PySem.W.hasDictIn K 199 = true), (cZ.fact (i := 2) (j := 24) rfl rfl : PySem.W.plainOver K 199 = true), (cZ.dec (p := PySem.W.findIn K (.ref 199) "__setattr__" = some (some (.builtin "object.__setattr__"))) (i := 3) (j := 0) rfl rfl rfl)⟩, by show (flds 6).Nodup; decide +kernel⟩, (cZ.dec (p := PySem.W.findIn K (.ref 199) "left" = some none) (i := 3) (j := 1) rfl rfl rfl), rfl⟩
      rcases cs_cons h with rfl | h
      · exact ⟨⟨⟨(cZ.fact (i := 3) (j := 8) rfl rfl : PySem.W.plainGet K 164 Str.empty = true), (cZ.fact (i := 3) (j := 9) rfl rfl : PySem.W.hasDictIn K 164 = true), (cZ.fact (i := 3) (j := 10) rfl rfl : PySem.W.plainOver K 164 = true), (cZ.dec (p := PySem.W.findIn K (.ref 164) "__setattr__" = some (some (.builtin "object.__setattr__"))) (i := 3) (j := 11) rfl rfl rfl)⟩, by show (flds 7).Nodup; decide +kernel⟩, (cZ.dec (p := PySem.W.findIn K (.ref 164) "left" = some none) (i := 3) (j := 12) rfl rfl rfl), rfl⟩
      exact (cs_nil h).elim⟩,
    fg_S_right := ⟨fun c h => by
      unfold cs_S at h
      rcases cs_cons h with rfl | h
      · exact ⟨⟨⟨(cZ.fact (i := 1) (j := 14) rfl rfl : PySem.W.plainGet K 234 Str.empty = true), (cZ.fact (i := 1) (j := 15) rfl rfl : PySem.W.hasDictIn K 234 = true), (cZ.fact (i := 1) (j := 16) rfl rfl : PySem.W.plainOver K 234 = true), (cZ.dec (p := PySem.W.findIn K (.ref 234) "__setattr__" = some (some (.builtin "object.__setattr__"))) (i := 1) (j := 17) rfl rfl rfl)⟩, by show (flds 3).Nodup; decide +kernel⟩, (cZ.dec (p := PySem.W.findIn K (.ref 234) "right" = some none) (i := 1) (j := 19) rfl rfl rfl), rfl⟩
      rcases cs_cons h with rfl | h
      · exact ⟨⟨⟨(cZ.fact (i := 2) (j := 0) rfl rfl : PySem.W.plainGet K 269 Str.empty = true), (cZ.fact (i := 2) (j := 1) rfl rfl : PySem.W.hasDictIn K 269 = true), (cZ.fact (i := 2) (j := 2) rfl rfl : PySem.W.plainOver K 269 = true), (cZ.dec (p := PySem.W.findIn K (.ref 269) "__setattr__" = some (some (.builtin "object.__setattr__"))) (i := 2) (j := 3) rfl rfl rfl)⟩, by show (flds 4).Nodup; decide +kernel⟩, (cZ.dec (p := PySem.W.findIn K (.ref 269) "right" = some none) (i := 2) (j := 5) rfl rfl rfl), rfl⟩
      rcases cs_cons h with rfl | h
      · exact ⟨⟨⟨(cZ.fact (i := 2) (j := 11) rfl rfl : PySem.W.plainGet K 304 Str.empty = true), (cZ.fact (i := 2) (j := 12) rfl rfl : PySem.W.hasDictIn K 304 = true), (cZ.fact (i := 2) (j := 13) rfl rfl : PySem.W.plainOver K 304 = true), (cZ.dec (p := PySem.W.findIn K (.ref 304) "__setattr__" = some (some (.builtin "object.__setattr__"))) (i := 2) (j := 14) rfl rfl rfl)⟩, by show (flds 5).Nodup; decide +kernel⟩, (cZ.dec (p := PySem.W.findIn K (.ref 304) "right" = some none) (i := 2) (j := 16) rfl rfl rfl), rfl⟩
      rcases cs_cons h with rfl | h
      · exact ⟨⟨⟨(cZ.fact (i := 2) (j := 22) rfl rfl : PySem.W.plainGet K 199 Str.empty = true), (cZ.fact (i := 2) (j := 23) rfl rfl : PySem.W.hasDictIn K 199 = true), (cZ.fact (i := 2) (j := 24) rfl rfl : PySem.W.plainOver K 199 = true), (cZ.dec (p := PySem.W.findIn K (.ref 199) "__setattr__" = some (some (.builtin "object.__setattr__"))) (i := 3) (j := 0) rfl rfl rfl)⟩, by show (flds 6).Nodup; decide +kernel⟩, (cZ.dec (p := PySem.W.findIn K (.ref 199) "right" = some none) (i := 3) (j := 2) rfl rfl rfl), rfl⟩
      rcases cs_cons h with rfl | h
      · exact ⟨⟨⟨(cZ.fact (i := 3) (j := 8) rfl rfl : PySem.W.plainGet K 164 Str.empty = true), (cZ.fact (i := 3) (j := 9) rfl rfl : PySem.W.hasDictIn K 164 = true), (cZ.fact (i := 3) (j := 10) rfl rfl : PySem.W.plainOver K 164 = true), (cZ.dec (p := PySem.W.findIn K (.ref 164) "__setattr__" = some (some (.builtin "object.__setattr__"))) (i := 3) (j := 11) rfl rfl rfl)⟩, by show (flds 7).Nodup; decide +kernel⟩, (cZ.dec (p := PySem.W.findIn K (.ref 164) "right" = some none) (i := 3) (j := 13) rfl rfl rfl), rfl⟩
      exact (cs_nil h).elim⟩,
    eq_S := ⟨fun c h => by
      unfold cs_S at h
      rcases List.mem_cons.mp h with rfl | h
      · exact (cZ.dec (p := PySem.W.findIn K (.ref 234) "__eq__" = some (some (.ref 110))) (i := 5) (j := 4) rfl rfl rfl)
      rcases List.mem_cons.mp h with rfl | h
      · exact (cZ.dec (p := PySem.W.findIn K (.ref 269) "__eq__" = some (some (.ref 110))) (i := 5) (j := 5) rfl rfl rfl)
      rcases List.mem_cons.mp h with rfl | h
      · exact (cZ.dec (p := PySem.W.findIn K (.ref 304) "__eq__" = some (some (.ref 110))) (i := 5) (j := 6) rfl rfl rfl)
      rcases List.mem_cons.mp h with rfl | h
      · exact (cZ.dec (p := PySem.W.findIn K (.ref 199) "__eq__" = some (some (.ref 110))) (i := 5) (j := 7) rfl rfl rfl)
      rcases List.mem_cons.mp h with rfl | h
      · exact (cZ.dec (p := PySem.W.findIn K (.ref 164) "__eq__" = some (some (.ref 110))) (i := 5) (j := 8) rfl rfl rfl)
      exact (List.not_mem_nil h).elim, (cZ.fact (i := 5) (j := 9) rfl rfl : PySem.W.isFn K (.ref 110) = true), fun c h d h' => by
      unfold cs_S at h h'
      rcases List.mem_cons.mp h with rfl | h
      · clear h
        rcases List.mem_cons.mp h' with rfl | h'
        · exact .inl rfl
        rcases List.mem_cons.mp h' with rfl | h'
        · exact .inr ((cZ.dec (p := PySem.W.mroIn K 269 (.ref 234) = some false) (i := 5) (j := 10) rfl rfl rfl).trans rfl)
        rcases List.mem_cons.mp h' with rfl | h'
        · exact .inr ((cZ.dec (p := PySem.W.mroIn K 304 (.ref 234) = some false) (i := 5) (j := 11) rfl rfl rfl).trans rfl)
        rcases List.mem_cons.mp h' with rfl | h'
        · exact .inr ((cZ.dec (p := PySem.W.mroIn K 199 (.ref 234) = some false) (i := 5) (j := 12) rfl rfl rfl).trans rfl)
        rcases List.mem_cons.mp h' with rfl | h'
        · exact .inr ((cZ.dec (p := PySem.W.mroIn K 164 (.ref 234) = some false) (i := 5) (j := 13) rfl rfl rfl).trans rfl)
        exact (List.not_mem_nil h').elim
      rcases List.mem_cons.mp h with rfl | h
      · clear h
        rcases List.mem_cons.mp h' with rfl | h'
        · exact .inr ((cZ.dec (p := PySem.W.mroIn K 234 (.ref 269) = some false) (i := 5) (j := 14) rfl rfl rfl).trans rfl)
        rcases List.mem_cons.mp h' with rfl | h'
        · exact .inl rfl
        rcases List.mem_cons.mp h' with rfl | h'
        · exact .inr ((cZ.dec (p := PySem.W.mroIn K 304 (.ref 269) = some false) (i := 5) (j := 15) rfl rfl rfl).trans rfl)
        rcases List.mem_cons.mp h' with rfl | h'
        · exact .inr ((cZ.dec (p := PySem.W.mroIn K 199 (.ref 269) = some false) (i := 5) (j := 16) rfl rfl rfl).trans rfl)
        rcases List.mem_cons.mp h' with rfl | h'
        · exact .inr ((cZ.dec (p := PySem.W.mroIn K 164 (.ref 269) = some false) (i := 5) (j := 17) rfl rfl rfl).trans rfl)
        exact (List.not_mem_nil h').elim
      rcases List.mem_cons.mp h with rfl | h
      · clear h
        rcases List.mem_cons.mp h' with rfl | h'
        · exact .inr ((cZ.dec (p := PySem.W.mroIn K 234 (.ref 304) = some false) (i := 5) (j := 18) rfl rfl rfl).trans rfl)
        rcases List.mem_cons.mp h' with rfl | h'
        · exact .inr ((cZ.dec (p := PySem.W.mroIn K 269 (.ref 304) = some false) (i := 5) (j := 19) rfl rfl rfl).trans rfl)
        rcases List.mem_cons.mp h' with rfl | h'
        · exact .inl rfl
        rcases List.mem_cons.mp h' with rfl | h'
        · exact .inr ((cZ.dec (p := PySem.W.mroIn K 199 (.ref 304) = some false) (i := 5) (j := 20) rfl rfl rfl).trans rfl)
        rcases List.mem_cons.mp h' with rfl | h'
        · exact .inr ((cZ.dec (p := PySem.W.mroIn K 164 (.ref 304) = some false) (i := 5) (j := 21) rfl rfl rfl).trans rfl)
        exact (List.not_mem_nil h').elim
      rcases List.mem_cons.mp h with rfl | h
      · clear h
        rcases List.mem_cons.mp h' with rfl | h'
        · exact .inr ((cZ.dec (p := PySem.W.mroIn K 234 (.ref 199) = some false) (i := 5) (j := 22) rfl rfl rfl).trans rfl)
        rcases List.mem_cons.mp h' with rfl | h'
        · exact .inr ((cZ.dec (p := PySem.W.mroIn K 269 (.ref 199) = some true) (i := 4) (j := 1) rfl rfl rfl).trans rfl)
        rcases List.mem_cons.mp h' with rfl | h'
        · exact .inr ((cZ.dec (p := PySem.W.mroIn K 304 (.ref 199) = some true) (i := 4) (j := 3) rfl rfl rfl).trans rfl)
        rcases List.mem_cons.mp h' with rfl | h'
        · exact .inl rfl
        rcases List.mem_cons.mp h' with rfl | h'
        · exact .inr ((cZ.dec (p := PySem.W.mroIn K 164 (.ref 199) = some false) (i := 5) (j := 23) rfl rfl rfl).trans rfl)
        exact (List.not_mem_nil h').elim
      rcases List.mem_cons.mp h with rfl | h
      · clear h
        rcases List.mem_cons.mp h' with rfl | h'
        · exact .inr ((cZ.dec (p := PySem.W.mroIn K 234 (.ref 164) = some true) (i := 4) (j := 7) rfl rfl rfl).trans rfl)
        rcases List.mem_cons.mp h' with rfl | h'
        · exact .inr ((cZ.dec (p := PySem.W.mroIn K 269 (.ref 164) = some false) (i := 5) (j := 24) rfl rfl rfl).trans rfl)
        rcases List.mem_cons.mp h' with rfl | h'
        · exact .inr ((cZ.dec (p := PySem.W.mroIn K 304 (.ref 164) = some true) (i := 4) (j := 11) rfl rfl rfl).trans rfl)
        rcases List.mem_cons.mp h' with rfl | h'
        · exact .inr ((cZ.dec (p := PySem.W.mroIn K 199 (.ref 164) = some false) (i := 6) (j := 0) rfl rfl rfl).trans rfl)
        rcases List.mem_cons.mp h' with rfl | h'
        · exact .inl rfl
        exact (List.not_mem_nil h').elim
      exact (List.not_mem_nil h).elim, by decide +kernel⟩,
    tc_S_WORD := ⟨fun c s h => by
      unfold tc_S_WORD at h
      rcases tc_cons h with ⟨rfl, rfl⟩ | h
      · obtain ⟨_, h1, h2⟩ := conB_ok (cZ.fact (i := 6) (j := 1) rfl rfl : conB K 234 "WORD" "older" = true)
        exact ⟨⟨(cZ.fact (i := 1) (j := 14) rfl rfl : PySem.W.plainGet K 234 Str.empty = true), (cZ.fact (i := 1) (j := 15) rfl rfl : PySem.W.hasDictIn K 234 = true), (cZ.fact (i := 1) (j := 16) rfl rfl : PySem.W.plainOver K 234 = true), (cZ.dec (p := PySem.W.findIn K (.ref 234) "__setattr__" = some (some (.builtin "object.__setattr__"))) (i := 1) (j := 17) rfl rfl rfl)⟩, show ("WORD" : Str) ∉ flds 3 by decide +kernel, _, ⟨h1, ⟨_, rfl⟩, h2, by decide +kernel⟩⟩
      rcases tc_cons h with ⟨rfl, rfl⟩ | h
      · obtain ⟨_, h1, h2⟩ := conB_ok (cZ.fact (i := 6) (j := 2) rfl rfl : conB K 269 "WORD" "younger" = true)
        exact ⟨⟨(cZ.fact (i := 2) (j := 0) rfl rfl : PySem.W.plainGet K 269 Str.empty = true), (cZ.fact (i := 2) (j := 1) rfl rfl : PySem.W.hasDictIn K 269 = true), (cZ.fact (i := 2) (j := 2) rfl rfl : PySem.W.plainOver K 269 = true), (cZ.dec (p := PySem.W.findIn K (.ref 269) "__setattr__" = some (some (.builtin "object.__setattr__"))) (i := 2) (j := 3) rfl rfl rfl)⟩, show ("WORD" : Str) ∉ flds 4 by decide +kernel, _, ⟨h1, ⟨_, rfl⟩, h2, by decide +kernel⟩⟩
      rcases tc_cons h with ⟨rfl, rfl⟩ | h
      · obtain ⟨_, h1, h2⟩ := conB_ok (cZ.fact (i := 6) (j := 3) rfl rfl : conB K 304 "WORD" "one" = true)
        exact ⟨⟨(cZ.fact (i := 2) (j := 11) rfl rfl : PySem.W.plainGet K 304 Str.empty = true), (cZ.fact (i := 2) (j := 12) rfl rfl : PySem.W.hasDictIn K 304 = true), (cZ.fact (i := 2) (j := 13) rfl rfl : PySem.W.plainOver K 304 = true), (cZ.dec (p := PySem.W.findIn K (.ref 304) "__setattr__" = some (some (.builtin "object.__setattr__"))) (i := 2) (j := 14) rfl rfl rfl)⟩, show ("WORD" : Str) ∉ flds 5 by decide +kernel, _, ⟨h1, ⟨_, rfl⟩, h2, by decide +kernel⟩⟩
      rcases tc_cons h with ⟨rfl, rfl⟩ | h
      · obtain ⟨_, h1, h2⟩ := conB_ok (cZ.fact (i := 6) (j := 4) rfl rfl : conB K 199 "WORD" "not-older" = true)
        exact ⟨⟨(cZ.fact (i := 2) (j := 22) rfl rfl : PySem.W.plainGet K 199 Str.empty = true), (cZ.fact (i := 2) (j := 23) rfl rfl : PySem.W.hasDictIn K 199 = true), (cZ.fact (i := 2) (j := 24) rfl rfl : PySem.W.plainOver K 199 = true), (cZ.dec (p := PySem.W.findIn K (.ref 199) "__setattr__" = some (some (.builtin "object.__setattr__"))) (i := 3) (j := 0) rfl rfl rfl)⟩, show ("WORD" : Str) ∉ flds 6 by decide +kernel, _, ⟨h1, ⟨_, rfl⟩, h2, by decide +kernel⟩⟩
      rcases tc_cons h with ⟨rfl, rfl⟩ | h
      · obtain ⟨_, h1, h2⟩ := conB_ok (cZ.fact (i := 6) (j := 5) rfl rfl : conB K 164 "WORD" "not-younger" = true)
        exact ⟨⟨(cZ.fact (i := 3) (j := 8) rfl rfl : PySem.W.plainGet K 164 Str.empty = true), (cZ.fact (i := 3) (j := 9) rfl rfl : PySem.W.hasDictIn K 164 = true), (cZ.fact (i := 3) (j := 10) rfl rfl : PySem.W.plainOver K 164 = true), (cZ.dec (p := PySem.W.findIn K (.ref 164) "__setattr__" = some (some (.builtin "object.__setattr__"))) (i := 3) (j := 11) rfl rfl rfl)⟩, show ("WORD" : Str) ∉ flds 7 by decide +kernel, _, ⟨h1, ⟨_, rfl⟩, h2, by decide +kernel⟩⟩
      exact (tc_nil h).elim⟩,
    gs_DIGITS := (strB_ok X G (cZ.fact (i := 6) (j := 6) rfl rfl : strB K "DIGITS" "0123456789" = true)),
    cr_NotOlder := ⟨(cZ.fact (i := 6) (j := 7) rfl rfl : PySem.W.readsIn K 199 (.type "type") = true), (cZ.dec (p := PySem.W.specialIn K (.ref 199) "__getattribute__" = some (some (.builtin "type.__getattribute__"))) (i := 6) (j := 8) rfl rfl rfl)⟩,
    cv_NotOlder_WORD := (let ⟨_, h, t, e⟩ := cvB_ok (d := .str "not-older") (cZ.fact (i := 6) (j := 9) rfl rfl : cvB K 199 "WORD" (.str "not-older") = true); ⟨t, e ▸ h, ⟨_, rfl⟩⟩),
    cr_NotYounger := ⟨(cZ.fact (i := 6) (j := 10) rfl rfl : PySem.W.readsIn K 164 (.type "type") = true), (cZ.dec (p := PySem.W.specialIn K (.ref 164) "__getattribute__" = some (some (.builtin "type.__getattribute__"))) (i := 6) (j := 11) rfl rfl rfl)⟩,
    cv_NotYounger_WORD := (let ⟨_, h, t, e⟩ := cvB_ok (d := .str "not-younger") (cZ.fact (i := 6) (j := 12) rfl rfl : cvB K 164 "WORD" (.str "not-younger") = true); ⟨t, e ▸ h, ⟨_, rfl⟩⟩),
    cr_Older := ⟨(cZ.fact (i := 6) (j := 13) rfl rfl : PySem.W.readsIn K 234 (.type "type") = true), (cZ.dec (p := PySem.W.specialIn K (.ref 234) "__getattribute__" = some (some (.builtin "type.__getattribute__"))) (i := 6) (j := 14) rfl rfl rfl)⟩,
    cv_Older_WORD := (let ⟨_, h, t, e⟩ := cvB_ok (d := .str "older") (cZ.fact (i := 6) (j := 15) rfl rfl : cvB K 234 "WORD" (.str "older") = true); ⟨t, e ▸ h, ⟨_, rfl⟩⟩),
    cr_One := ⟨(cZ.fact (i := 6) (j := 16) rfl rfl : PySem.W.readsIn K 304 (.type "type") = true), (cZ.dec (p := PySem.W.specialIn K (.ref 304) "__getattribute__" = some (some (.builtin "type.__getattribute__"))) (i := 6) (j := 17) rfl rfl rfl)⟩,
    cv_One_WORD := (let ⟨_, h, t, e⟩ := cvB_ok (d := .str "one") (cZ.fact (i := 6) (j := 18) rfl rfl : cvB K 304 "WORD" (.str "one") = true); ⟨t, e ▸ h, ⟨_, rfl⟩⟩),
    cr_Younger := ⟨(cZ.fact (i := 6) (j := 19) rfl rfl : PySem.W.readsIn K 269 (.type "type") = true), (cZ.dec (p := PySem.W.specialIn K (.ref 269) "__getattribute__" = some (some (.builtin "type.__getattribute__"))) (i := 6) (j := 20) rfl rfl rfl)⟩,
    cv_Younger_WORD := (let ⟨_, h, t, e⟩ := cvB_ok (d := .str "younger") (cZ.fact (i := 6) (j := 21) rfl rfl : cvB K 269 "WORD" (.str "younger") = true); ⟨t, e ▸ h, ⟨_, rfl⟩⟩),
    ptop := (by decide +kernel),
    any_ := (cZ.dec (p := PySem.W.nsIn K cStatics "thirdparty.any" = some none) (i := 6) (j := 22) rfl rfl rfl),
    g_BadText := PySem.W.mg_of X G (cZ.dec (p := PySem.W.nsIn K mainGlobals "BadText" = some (some (.ref 44))) (i := 6) (j := 23) rfl rfl rfl),
    o_BadText := ⟨excB_ok (cZ.fact (i := 7) (j := 3) rfl rfl : excB K 44 = true), (cZ.dec (p := PySem.W.findIn K (.ref 44) "__setattr__" = some (some (.builtin "object.__setattr__"))) (i := 7) (j := 2) rfl rfl rfl), (cZ.dec (p := PySem.W.subIn K (.ref 44) (.type "BaseException") = some true) (i := 7) (j := 0) rfl rfl rfl), (cZ.dec (p := PySem.W.typeIn K (.ref 44) = some (.type "type")) (i := 7) (j := 1) rfl rfl rfl), (cZ.fact (i := 6) (j := 24) rfl rfl : PySem.W.keepIn K (.ref 44) = true)⟩,
    i_BadText := (cZ.dec (p := PySem.W.findIn K (.ref 44) "__init__" = some (some (.ref 41))) (i := 7) (j := 4) rfl rfl rfl),
    t_BadText := (cZ.dec (p := PySem.W.typeIn K (.ref 41) = some (.type "function")) (i := 7) (j := 5) rfl rfl rfl),
    nx_BadText_word := (cZ.dec (p := PySem.W.findIn K (.ref 44) "word" = some none) (i := 7) (j := 6) rfl rfl rfl),
    f_BadText___init__ := (let ⟨_, F⟩ := fun_z (cZ.fns (i := 33) (d := dz_33) rfl) rfl rfl; ⟨_, F, F.binds (ps := ["self", "word"]) fun _ _ _ _ _ _ us hl => match us, hl with | [_, _], _ => rfl⟩),
    g_BadRecord := PySem.W.mg_of X G (cZ.dec (p := PySem.W.nsIn K mainGlobals "BadRecord" = some (some (.ref 63))) (i := 7) (j := 7) rfl rfl rfl),
    o_BadRecord := ⟨excB_ok (cZ.fact (i := 7) (j := 12) rfl rfl : excB K 63 = true), (cZ.dec (p := PySem.W.findIn K (.ref 63) "__setattr__" = some (some (.builtin "object.__setattr__"))) (i := 7) (j := 11) rfl rfl rfl), (cZ.dec (p := PySem.W.subIn K (.ref 63) (.type "BaseException") = some true) (i := 7) (j := 9) rfl rfl rfl), (cZ.dec (p := PySem.W.typeIn K (.ref 63) = some (.type "type")) (i := 7) (j := 10) rfl rfl rfl), (cZ.fact (i := 7) (j := 8) rfl rfl : PySem.W.keepIn K (.ref 63) = true)⟩,
    i_BadRecord := (cZ.dec (p := PySem.W.findIn K (.ref 63) "__init__" = some (some (.ref 60))) (i := 7) (j := 13) rfl rfl rfl),
    t_BadRecord := (cZ.dec (p := PySem.W.typeIn K (.ref 60) = some (.type "function")) (i := 7) (j := 14) rfl rfl rfl),
    nx_BadRecord_index := (cZ.dec (p := PySem.W.findIn K (.ref 63) "index" = some none) (i := 7) (j := 15) rfl rfl rfl),
    f_BadRecord___init__ := (let ⟨_, F⟩ := fun_z (cZ.fns (i := 34) (d := dz_34) rfl) rfl rfl; ⟨_, F, F.binds (ps := ["self", "index"]) fun _ _ _ _ _ _ us hl => match us, hl with | [_, _], _ => rfl⟩),
    g_NoContrary := PySem.W.mg_of X G (cZ.dec (p := PySem.W.nsIn K mainGlobals "NoContrary" = some (some (.ref 75))) (i := 7) (j := 16) rfl rfl rfl),
    xt_NoContrary := ⟨(cZ.fact (i := 7) (j := 20) rfl rfl : PySem.W.excIn K 75 [.type "ValueError", .type "Exception", .type "BaseException", .type "object"] "ValueError.__new__" = true), (cZ.fact (i := 7) (j := 17) rfl rfl : PySem.W.keepIn K (.ref 75) = true), (cZ.dec (p := PySem.W.subIn K (.ref 75) (.type "BaseException") = some true) (i := 7) (j := 18) rfl rfl rfl), (cZ.dec (p := PySem.W.typeIn K (.ref 75) = some (.type "type")) (i := 7) (j := 19) rfl rfl rfl)⟩,
    xi := fun c hc => match c, hc with | 0, _ => ⟨(cZ.dec (p := PySem.W.findIn K (.ref 44) "__getattribute__" = some (some (.builtin "BaseException.__getattribute__"))) (i := 7) (j := 23) rfl rfl rfl), (cZ.dec (p := PySem.W.findIn K (.ref 44) "__getattr__" = some none) (i := 7) (j := 24) rfl rfl rfl), (cZ.dec (p := PySem.W.subIn K (.ref 44) (.type "BaseException") = some true) (i := 7) (j := 0) rfl rfl rfl), (cZ.fact (i := 8) (j := 0) rfl rfl : PySem.W.hasDictIn K 44 = true), (cZ.dec (p := PySem.W.findIn K (.ref 44) "__class__" = some (some (.builtin "object.__class__"))) (i := 8) (j := 1) rfl rfl rfl), (cZ.dec (p := PySem.W.specialIn K (.builtin "object.__class__") "__get__" = some (some (.builtin "getset_descriptor.__get__"))) (i := 7) (j := 21) rfl rfl rfl), (cZ.dec (p := PySem.W.takesIn K (.builtin "object.__class__") = some true) (i := 7) (j := 22) rfl rfl rfl), (cZ.dec (p := PySem.W.mroIn K 44 (.type "object") = some true) (i := 8) (j := 2) rfl rfl rfl)⟩ | 1, _ => ⟨(cZ.dec (p := PySem.W.findIn K (.ref 63) "__getattribute__" = some (some (.builtin "BaseException.__getattribute__"))) (i := 8) (j := 3) rfl rfl rfl), (cZ.dec (p := PySem.W.findIn K (.ref 63) "__getattr__" = some none) (i := 8) (j := 4) rfl rfl rfl), (cZ.dec (p := PySem.W.subIn K (.ref 63) (.type "BaseException") = some true) (i := 7) (j := 9) rfl rfl rfl), (cZ.fact (i := 8) (j := 5) rfl rfl : PySem.W.hasDictIn K 63 = true), (cZ.dec (p := PySem.W.findIn K (.ref 63) "__class__" = some (some (.builtin "object.__class__"))) (i := 8) (j := 6) rfl rfl rfl), (cZ.dec (p := PySem.W.specialIn K (.builtin "object.__class__") "__get__" = some (some (.builtin "getset_descriptor.__get__"))) (i := 7) (j := 21) rfl rfl rfl), (cZ.dec (p := PySem.W.takesIn K (.builtin "object.__class__") = some true) (i := 7) (j := 22) rfl rfl rfl), (cZ.dec (p := PySem.W.mroIn K 63 (.type "object") = some true) (i := 8) (j := 7) rfl rfl rfl)⟩ | 2, _ => ⟨(cZ.dec (p := PySem.W.findIn K (.ref 75) "__getattribute__" = some (some (.builtin "BaseException.__getattribute__"))) (i := 8) (j := 8) rfl rfl rfl), (cZ.dec (p := PySem.W.findIn K (.ref 75) "__getattr__" = some none) (i := 8) (j := 9) rfl rfl rfl), (cZ.dec (p := PySem.W.subIn K (.ref 75) (.type "BaseException") = some true) (i := 7) (j := 18) rfl rfl rfl), (cZ.fact (i := 8) (j := 10) rfl rfl : PySem.W.hasDictIn K 75 = true), (cZ.dec (p := PySem.W.findIn K (.ref 75) "__class__" = some (some (.builtin "object.__class__"))) (i := 8) (j := 11) rfl rfl rfl), (cZ.dec (p := PySem.W.specialIn K (.builtin "object.__class__") "__get__" = some (some (.builtin "getset_descriptor.__get__"))) (i := 7) (j := 21) rfl rfl rfl), (cZ.dec (p := PySem.W.takesIn K (.builtin "object.__class__") = some true) (i := 7) (j := 22) rfl rfl rfl), (cZ.dec (p := PySem.W.mroIn K 75 (.type "object") = some true) (i := 8) (j := 12) rfl rfl rfl)⟩ | n + 3, h => absurd h (by omega),
    xe_BadText := fun c hc => match c, hc with | 0, _ => (cZ.dec (p := PySem.W.exmOne K (.ref 44) (.ref 44) = some true) (i := 8) (j := 13) rfl rfl rfl) | 1, _ => (cZ.dec (p := PySem.W.exmOne K (.ref 63) (.ref 44) = some false) (i := 8) (j := 14) rfl rfl rfl) | 2, _ => (cZ.dec (p := PySem.W.exmOne K (.ref 75) (.ref 44) = some false) (i := 8) (j := 15) rfl rfl rfl) | n + 3, h => absurd h (by omega),
    xe_SiltError := fun c hc => match c, hc with | 0, _ => (cZ.dec (p := PySem.W.exmOne K (.ref 44) (.ref 24) = some true) (i := 8) (j := 16) rfl rfl rfl) | 1, _ => (cZ.dec (p := PySem.W.exmOne K (.ref 63) (.ref 24) = some true) (i := 8) (j := 17) rfl rfl rfl) | 2, _ => (cZ.dec (p := PySem.W.exmOne K (.ref 75) (.ref 24) = some true) (i := 8) (j := 18) rfl rfl rfl) | n + 3, h => absurd h (by omega),
    xk_BadRecord := fun c hc => match c, hc with | 0, _ => (cZ.dec (p := PySem.W.kitOne K (.ref 44) (.ref 63) = some false) (i := 8) (j := 19) rfl rfl rfl) | 1, _ => (cZ.dec (p := PySem.W.kitOne K (.ref 63) (.ref 63) = some true) (i := 8) (j := 20) rfl rfl rfl) | 2, _ => (cZ.dec (p := PySem.W.kitOne K (.ref 75) (.ref 63) = some false) (i := 8) (j := 21) rfl rfl rfl) | n + 3, h => absurd h (by omega),
    xk_BadText := fun c hc => match c, hc with | 0, _ => (cZ.dec (p := PySem.W.kitOne K (.ref 44) (.ref 44) = some true) (i := 8) (j := 22) rfl rfl rfl) | 1, _ => (cZ.dec (p := PySem.W.kitOne K (.ref 63) (.ref 44) = some false) (i := 8) (j := 23) rfl rfl rfl) | 2, _ => (cZ.dec (p := PySem.W.kitOne K (.ref 75) (.ref 44) = some false) (i := 8) (j := 24) rfl rfl rfl) | n + 3, h => absurd h (by omega),
    xk_ValueError := fun c hc => match c, hc with | 0, _ => (cZ.dec (p := PySem.W.kitOne K (.ref 44) (.type "ValueError") = some true) (i := 9) (j := 0) rfl rfl rfl) | 1, _ => (cZ.dec (p := PySem.W.kitOne K (.ref 63) (.type "ValueError") = some true) (i := 9) (j := 1) rfl rfl rfl) | 2, _ => (cZ.dec (p := PySem.W.kitOne K (.ref 75) (.type "ValueError") = some true) (i := 9) (j := 2) rfl rfl rfl) | n + 3, h => absurd h (by omega),
    ik_NotOlder := (fun ty b h => by
      unfold i_NotOlder at h
      split at h
      · cases h; exact (cZ.dec (p := PySem.W.kitOne K (.type "NoneType") (.ref 199) = some false) (i := 9) (j := 3) rfl rfl rfl)
      · cases h; exact (cZ.dec (p := PySem.W.kitOne K (.type "bool") (.ref 199) = some false) (i := 9) (j := 4) rfl rfl rfl)
      · cases h; exact (cZ.dec (p := PySem.W.kitOne K (.type "int") (.ref 199) = some false) (i := 9) (j := 5) rfl rfl rfl)
      · cases h; exact (cZ.dec (p := PySem.W.kitOne K (.type "str") (.ref 199) = some false) (i := 9) (j := 6) rfl rfl rfl)
      · cases h; exact (cZ.dec (p := PySem.W.kitOne K (.type "tuple") (.ref 199) = some false) (i := 9) (j := 7) rfl rfl rfl)
      · cases h; exact (cZ.dec (p := PySem.W.kitOne K (.type "list") (.ref 199) = some false) (i := 9) (j := 8) rfl rfl rfl)
      · cases h; exact (cZ.dec (p := PySem.W.kitOne K (.ref 234) (.ref 199) = some false) (i := 9) (j := 9) rfl rfl rfl)
      · cases h; exact (cZ.dec (p := PySem.W.kitOne K (.ref 269) (.ref 199) = some true) (i := 9) (j := 10) rfl rfl rfl)
      · cases h; exact (cZ.dec (p := PySem.W.kitOne K (.ref 304) (.ref 199) = some true) (i := 9) (j := 11) rfl rfl rfl)
      · cases h; exact (cZ.dec (p := PySem.W.kitOne K (.ref 199) (.ref 199) = some true) (i := 9) (j := 12) rfl rfl rfl)
      · cases h; exact (cZ.dec (p := PySem.W.kitOne K (.ref 164) (.ref 199) = some false) (i := 9) (j := 13) rfl rfl rfl)
      · cases h),
    ic_NotOlder := (fun c b h => by
      unfold i_NotOlder at h
      split at h
      · rename_i e; cases e
      · rename_i e; cases e
      · rename_i e; cases e
      · rename_i e; cases e
      · rename_i e; cases e
      · rename_i e; cases e
      · rename_i e; cases e; exact ⟨⟨(cZ.fact (i := 1) (j := 14) rfl rfl : PySem.W.plainGet K 234 Str.empty = true), (cZ.fact (i := 1) (j := 15) rfl rfl : PySem.W.hasDictIn K 234 = true), (cZ.fact (i := 1) (j := 16) rfl rfl : PySem.W.plainOver K 234 = true), (cZ.dec (p := PySem.W.findIn K (.ref 234) "__setattr__" = some (some (.builtin "object.__setattr__"))) (i := 1) (j := 17) rfl rfl rfl)⟩, (cZ.dec (p := PySem.W.findIn K (.ref 234) "__class__" = some (some (.builtin "object.__class__"))) (i := 9) (j := 14) rfl rfl rfl), (cZ.dec (p := PySem.W.specialIn K (.builtin "object.__class__") "__get__" = some (some (.builtin "getset_descriptor.__get__"))) (i := 7) (j := 21) rfl rfl rfl), (cZ.dec (p := PySem.W.takesIn K (.builtin "object.__class__") = some true) (i := 7) (j := 22) rfl rfl rfl), (cZ.dec (p := PySem.W.mroIn K 234 (.type "object") = some true) (i := 9) (j := 15) rfl rfl rfl)⟩
      · rename_i e; cases e; exact ⟨⟨(cZ.fact (i := 2) (j := 0) rfl rfl : PySem.W.plainGet K 269 Str.empty = true), (cZ.fact (i := 2) (j := 1) rfl rfl : PySem.W.hasDictIn K 269 = true), (cZ.fact (i := 2) (j := 2) rfl rfl : PySem.W.plainOver K 269 = true), (cZ.dec (p := PySem.W.findIn K (.ref 269) "__setattr__" = some (some (.builtin "object.__setattr__"))) (i := 2) (j := 3) rfl rfl rfl)⟩, (cZ.dec (p := PySem.W.findIn K (.ref 269) "__class__" = some (some (.builtin "object.__class__"))) (i := 9) (j := 16) rfl rfl rfl), (cZ.dec (p := PySem.W.specialIn K (.builtin "object.__class__") "__get__" = some (some (.builtin "getset_descriptor.__get__"))) (i := 7) (j := 21) rfl rfl rfl), (cZ.dec (p := PySem.W.takesIn K (.builtin "object.__class__") = some true) (i := 7) (j := 22) rfl rfl rfl), (cZ.dec (p := PySem.W.mroIn K 269 (.type "object") = some true) (i := 9) (j := 17) rfl rfl rfl)⟩
      · rename_i e; cases e; exact ⟨⟨(cZ.fact (i := 2) (j := 11) rfl rfl : PySem.W.plainGet K 304 Str.empty = true), (cZ.fact (i := 2) (j := 12) rfl rfl : PySem.W.hasDictIn K 304 = true), (cZ.fact (i := 2) (j := 13) rfl rfl : PySem.W.plainOver K 304 = true), (cZ.dec (p := PySem.W.findIn K (.ref 304) "__setattr__" = some (some (.builtin "object.__setattr__"))) (i := 2) (j := 14) rfl rfl rfl)⟩, (cZ.dec (p := PySem.W.findIn K (.ref 304) "__class__" = some (some (.builtin "object.__class__"))) (i := 9) (j := 18) rfl rfl rfl), (cZ.dec (p := PySem.W.specialIn K (.builtin "object.__class__") "__get__" = some (some (.builtin "getset_descriptor.__get__"))) (i := 7) (j := 21) rfl rfl rfl), (cZ.dec (p := PySem.W.takesIn K (.builtin "object.__class__") = some true) (i := 7) (j := 22) rfl rfl rfl), (cZ.dec (p := PySem.W.mroIn K 304 (.type "object") = some true) (i := 9) (j := 19) rfl rfl rfl)⟩
      · rename_i e; cases e; exact ⟨⟨(cZ.fact (i := 2) (j := 22) rfl rfl : PySem.W.plainGet K 199 Str.empty = true), (cZ.fact (i := 2) (j := 23) rfl rfl : PySem.W.hasDictIn K 199 = true), (cZ.fact (i := 2) (j := 24) rfl rfl : PySem.W.plainOver K 199 = true), (cZ.dec (p := PySem.W.findIn K (.ref 199) "__setattr__" = some (some (.builtin "object.__setattr__"))) (i := 3) (j := 0) rfl rfl rfl)⟩, (cZ.dec (p := PySem.W.findIn K (.ref 199) "__class__" = some (some (.builtin "object.__class__"))) (i := 9) (j := 20) rfl rfl rfl), (cZ.dec (p := PySem.W.specialIn K (.builtin "object.__class__") "__get__" = some (some (.builtin "getset_descriptor.__get__"))) (i := 7) (j := 21) rfl rfl rfl), (cZ.dec (p := PySem.W.takesIn K (.builtin "object.__class__") = some true) (i := 7) (j := 22) rfl rfl rfl), (cZ.dec (p := PySem.W.mroIn K 199 (.type "object") = some true) (i := 9) (j := 21) rfl rfl rfl)⟩
      · rename_i e; cases e; exact ⟨⟨(cZ.fact (i := 3) (j := 8) rfl rfl : PySem.W.plainGet K 164 Str.empty = true), (cZ.fact (i := 3) (j := 9) rfl rfl : PySem.W.hasDictIn K 164 = true), (cZ.fact (i := 3) (j := 10) rfl rfl : PySem.W.plainOver K 164 = true), (cZ.dec (p := PySem.W.findIn K (.ref 164) "__setattr__" = some (some (.builtin "object.__setattr__"))) (i := 3) (j := 11) rfl rfl rfl)⟩, (cZ.dec (p := PySem.W.findIn K (.ref 164) "__class__" = some (some (.builtin "object.__class__"))) (i := 9) (j := 22) rfl rfl rfl), (cZ.dec (p := PySem.W.specialIn K (.builtin "object.__class__") "__get__" = some (some (.builtin "getset_descriptor.__get__"))) (i := 7) (j := 21) rfl rfl rfl), (cZ.dec (p := PySem.W.takesIn K (.builtin "object.__class__") = some true) (i := 7) (j := 22) rfl rfl rfl), (cZ.dec (p := PySem.W.mroIn K 164 (.type "object") = some true) (i := 9) (j := 23) rfl rfl rfl)⟩
      · cases h),
    ik_NotYounger := (fun ty b h => by
      unfold i_NotYounger at h
      split at h
      · cases h; exact (cZ.dec (p := PySem.W.kitOne K (.type "NoneType") (.ref 164) = some false) (i := 9) (j := 24) rfl rfl rfl)
      · cases h; exact (cZ.dec (p := PySem.W.kitOne K (.type "bool") (.ref 164) = some false) (i := 10) (j := 0) rfl rfl rfl)
      · cases h; exact (cZ.dec (p := PySem.W.kitOne K (.type "int") (.ref 164) = some false) (i := 10) (j := 1) rfl rfl rfl)
      · cases h; exact (cZ.dec (p := PySem.W.kitOne K (.type "str") (.ref 164) = some false) (i := 10) (j := 2) rfl rfl rfl)
      · cases h; exact (cZ.dec (p := PySem.W.kitOne K (.type "tuple") (.ref 164) = some false) (i := 10) (j := 3) rfl rfl rfl)
      · cases h; exact (cZ.dec (p := PySem.W.kitOne K (.type "list") (.ref 164) = some false) (i := 10) (j := 4) rfl rfl rfl)
      · cases h; exact (cZ.dec (p := PySem.W.kitOne K (.ref 234) (.ref 164) = some true) (i := 10) (j := 5) rfl rfl rfl)
      · cases h; exact (cZ.dec (p := PySem.W.kitOne K (.ref 269) (.ref 164) = some false) (i := 10) (j := 6) rfl rfl rfl)
      · cases h; exact (cZ.dec (p := PySem.W.kitOne K (.ref 304) (.ref 164) = some true) (i := 10) (j := 7) rfl rfl rfl)
      · cases h; exact (cZ.dec (p := PySem.W.kitOne K (.ref 199) (.ref 164) = some false) (i := 10) (j := 8) rfl rfl rfl)
      · cases h; exact (cZ.dec (p := PySem.W.kitOne K (.ref 164) (.ref 164) = some true) (i := 10) (j := 9) rfl rfl rfl)
      · cases h),
    ic_NotYounger := (fun c b h => by
      unfold i_NotYounger at h
      split at h
      · rename_i e; cases e
      · rename_i e; cases e
      · rename_i e; cases e
      · rename_i e; cases e
      · rename_i e; cases e
      · rename_i e; cases e
      · rename_i e; cases e; exact ⟨⟨(cZ.fact (i := 1) (j := 14) rfl rfl : PySem.W.plainGet K 234 Str.empty = true), (cZ.fact (i := 1) (j := 15) rfl rfl : PySem.W.hasDictIn K 234 = true), (cZ.fact (i := 1) (j := 16) rfl rfl : PySem.W.plainOver K 234 = true), (cZ.dec (p := PySem.W.findIn K (.ref 234) "__setattr__" = some (some (.builtin "object.__setattr__"))) (i := 1) (j := 17) rfl rfl rfl)⟩, (cZ.dec (p := PySem.W.findIn K (.ref 234) "__class__" = some (some (.builtin "object.__class__"))) (i := 9) (j := 14) rfl rfl rfl), (cZ.dec (p := PySem.W.specialIn K (.builtin "object.__class__") "__get__" = some (some (.builtin "getset_descriptor.__get__"))) (i := 7) (j := 21) rfl rfl rfl), (cZ.dec (p := PySem.W.takesIn K (.builtin "object.__class__") = some true) (i := 7) (j := 22) rfl rfl rfl), (cZ.dec (p := PySem.W.mroIn K 234 (.type "object") = some true) (i := 9) (j := 15) rfl rfl rfl)⟩
      · rename_i e; cases e; exact ⟨⟨(cZ.fact (i := 2) (j := 0) rfl rfl : PySem.W.plainGet K 269 Str.empty = true), (cZ.fact (i := 2) (j := 1) rfl rfl : PySem.W.hasDictIn K 269 = true), (cZ.fact (i := 2) (j := 2) rfl rfl : PySem.W.plainOver K 269 = true), (cZ.dec (p := PySem.W.findIn K (.ref 269) "__setattr__" = some (some (.builtin "object.__setattr__"))) (i := 2) (j := 3) rfl rfl rfl)⟩, (cZ.dec (p := PySem.W.findIn K (.ref 269) "__class__" = some (some (.builtin "object.__class__"))) (i := 9) (j := 16) rfl rfl rfl), (cZ.dec (p := PySem.W.specialIn K (.builtin "object.__class__") "__get__" = some (some (.builtin "getset_descriptor.__get__"))) (i := 7) (j := 21) rfl rfl rfl), (cZ.dec (p := PySem.W.takesIn K (.builtin "object.__class__") = some true) (i := 7) (j := 22) rfl rfl rfl), (cZ.dec (p := PySem.W.mroIn K 269 (.type "object") = some true) (i := 9) (j := 17) rfl rfl rfl)⟩
      · rename_i e; cases e; exact ⟨⟨(cZ.fact (i := 2) (j := 11) rfl rfl : PySem.W.plainGet K 304 Str.empty = true), (cZ.fact (i := 2) (j := 12) rfl rfl : PySem.W.hasDictIn K 304 = true), (cZ.fact (i := 2) (j := 13) rfl rfl : PySem.W.plainOver K 304 = true), (cZ.dec (p := PySem.W.findIn K (.ref 304) "__setattr__" = some (some (.builtin "object.__setattr__"))) (i := 2) (j := 14) rfl rfl rfl)⟩, (cZ.dec (p := PySem.W.findIn K (.ref 304) "__class__" = some (some (.builtin "object.__class__"))) (i := 9) (j := 18) rfl rfl rfl), (cZ.dec (p := PySem.W.specialIn K (.builtin "object.__class__") "__get__" = some (some (.builtin "getset_descriptor.__get__"))) (i := 7) (j := 21) rfl rfl rfl), (cZ.dec (p := PySem.W.takesIn K (.builtin "object.__class__") = some true) (i := 7) (j := 22) rfl rfl rfl), (cZ.dec (p := PySem.W.mroIn K 304 (.type "object") = some true) (i := 9) (j := 19) rfl rfl rfl)⟩
      · rename_i e; cases e; exact ⟨⟨(cZ.fact (i := 2) (j := 22) rfl rfl : PySem.W.plainGet K 199 Str.empty = true), (cZ.fact (i := 2) (j := 23) rfl rfl : PySem.W.hasDictIn K 199 = true), (cZ.fact (i := 2) (j := 24) rfl rfl : PySem.W.plainOver K 199 = true), (cZ.dec (p := PySem.W.findIn K (.ref 199) "__setattr__" = some (some (.builtin "object.__setattr__"))) (i := 3) (j := 0) rfl rfl rfl)⟩, (cZ.dec (p := PySem.W.findIn K (.ref 199) "__class__" = some (some (.builtin "object.__class__"))) (i := 9) (j := 20) rfl rfl rfl), (cZ.dec (p := PySem.W.specialIn K (.builtin "object.__class__") "__get__" = some (some (.builtin "getset_descriptor.__get__"))) (i := 7) (j := 21) rfl rfl rfl), (cZ.dec (p := PySem.W.takesIn K (.builtin "object.__class__") = some true) (i := 7) (j := 22) rfl rfl rfl), (cZ.dec (p := PySem.W.mroIn K 199 (.type "object") = some true) (i := 9) (j := 21) rfl rfl rfl)⟩
      · rename_i e; cases e; exact ⟨⟨(cZ.fact (i := 3) (j := 8) rfl rfl : PySem.W.plainGet K 164 Str.empty = true), (cZ.fact (i := 3) (j := 9) rfl rfl : PySem.W.hasDictIn K 164 = true), (cZ.fact (i := 3) (j := 10) rfl rfl : PySem.W.plainOver K 164 = true), (cZ.dec (p := PySem.W.findIn K (.ref 164) "__setattr__" = some (some (.builtin "object.__setattr__"))) (i := 3) (j := 11) rfl rfl rfl)⟩, (cZ.dec (p := PySem.W.findIn K (.ref 164) "__class__" = some (some (.builtin "object.__class__"))) (i := 9) (j := 22) rfl rfl rfl), (cZ.dec (p := PySem.W.specialIn K (.builtin "object.__class__") "__get__" = some (some (.builtin "getset_descriptor.__get__"))) (i := 7) (j := 21) rfl rfl rfl), (cZ.dec (p := PySem.W.takesIn K (.builtin "object.__class__") = some true) (i := 7) (j := 22) rfl rfl rfl), (cZ.dec (p := PySem.W.mroIn K 164 (.type "object") = some true) (i := 9) (j := 23) rfl rfl rfl)⟩
      · cases h),
    ik_Older := (fun ty b h => by
      unfold i_Older at h
      split at h
      · cases h; exact (cZ.dec (p := PySem.W.kitOne K (.type "NoneType") (.ref 234) = some false) (i := 10) (j := 10) rfl rfl rfl)
      · cases h; exact (cZ.dec (p := PySem.W.kitOne K (.type "bool") (.ref 234) = some false) (i := 10) (j := 11) rfl rfl rfl)
      · cases h; exact (cZ.dec (p := PySem.W.kitOne K (.type "int") (.ref 234) = some false) (i := 10) (j := 12) rfl rfl rfl)
      · cases h; exact (cZ.dec (p := PySem.W.kitOne K (.type "str") (.ref 234) = some false) (i := 10) (j := 13) rfl rfl rfl)
      · cases h; exact (cZ.dec (p := PySem.W.kitOne K (.type "tuple") (.ref 234) = some false) (i := 10) (j := 14) rfl rfl rfl)
      · cases h; exact (cZ.dec (p := PySem.W.kitOne K (.type "list") (.ref 234) = some false) (i := 10) (j := 15) rfl rfl rfl)
      · cases h; exact (cZ.dec (p := PySem.W.kitOne K (.ref 234) (.ref 234) = some true) (i := 10) (j := 16) rfl rfl rfl)
      · cases h; exact (cZ.dec (p := PySem.W.kitOne K (.ref 269) (.ref 234) = some false) (i := 10) (j := 17) rfl rfl rfl)
      · cases h; exact (cZ.dec (p := PySem.W.kitOne K (.ref 304) (.ref 234) = some false) (i := 10) (j := 18) rfl rfl rfl)
      · cases h; exact (cZ.dec (p := PySem.W.kitOne K (.ref 199) (.ref 234) = some false) (i := 10) (j := 19) rfl rfl rfl)
      · cases h; exact (cZ.dec (p := PySem.W.kitOne K (.ref 164) (.ref 234) = some false) (i := 10) (j := 20) rfl rfl rfl)
      · cases h),
    ic_Older := (fun c b h => by
      unfold i_Older at h
      split at h
      · rename_i e; cases e
      · rename_i e; cases e
      · rename_i e; cases e
      · rename_i e; cases e
      · rename_i e; cases e
      · rename_i e; cases e
      · rename_i e; cases e; exact ⟨⟨(cZ.fact (i := 1) (j := 14) rfl rfl : PySem.W.plainGet K 234 Str.empty = true), (cZ.fact (i := 1) (j := 15) rfl rfl : PySem.W.hasDictIn K 234 = true), (cZ.fact (i := 1) (j := 16) rfl rfl : PySem.W.plainOver K 234 = true), (cZ.dec (p := PySem.W.findIn K (.ref 234) "__setattr__" = some (some (.builtin "object.__setattr__"))) (i := 1) (j := 17) rfl rfl rfl)⟩, (cZ.dec (p := PySem.W.findIn K (.ref 234) "__class__" = some (some (.builtin "object.__class__"))) (i := 9) (j := 14) rfl rfl rfl), (cZ.dec (p := PySem.W.specialIn K (.builtin "object.__class__") "__get__" = some (some (.builtin "getset_descriptor.__get__"))) (i := 7) (j := 21) rfl rfl rfl), (cZ.dec (p := PySem.W.takesIn K (.builtin "object.__class__") = some true) (i := 7) (j := 22) rfl rfl rfl), (cZ.dec (p := PySem.W.mroIn K 234 (.type "object") = some true) (i := 9) (j := 15) rfl rfl rfl)⟩
      · rename_i e; cases e; exact ⟨⟨(cZ.fact (i := 2) (j := 0) rfl rfl : PySem.W.plainGet K 269 Str.empty = true), (cZ.fact (i := 2) (j := 1) rfl rfl : PySem.W.hasDictIn K 269 = true), (cZ.fact (i := 2) (j := 2) rfl rfl : PySem.W.plainOver K 269 = true), (cZ.dec (p := PySem.W.findIn K (.ref 269) "__setattr__" = some (some (.builtin "object.__setattr__"))) (i := 2) (j := 3) rfl rfl rfl)⟩, (cZ.dec (p := PySem.W.findIn K (.ref 269) "__class__" = some (some (.builtin "object.__class__"))) (i := 9) (j := 16) rfl rfl rfl), (cZ.dec (p := PySem.W.specialIn K (.builtin "object.__class__") "__get__" = some (some (.builtin "getset_descriptor.__get__"))) (i := 7) (j := 21) rfl rfl rfl), (cZ.dec (p := PySem.W.takesIn K (.builtin "object.__class__") = some true) (i := 7) (j := 22) rfl rfl rfl), (cZ.dec (p := PySem.W.mroIn K 269 (.type "object") = some true) (i := 9) (j := 17) rfl rfl rfl)⟩
      · rename_i e; cases e; exact ⟨⟨(cZ.fact (i := 2) (j := 11) rfl rfl : PySem.W.plainGet K 304 Str.empty = true), (cZ.fact (i := 2) (j := 12) rfl rfl : PySem.W.hasDictIn K 304 = true), (cZ.fact (i := 2) (j := 13) rfl rfl : PySem.W.plainOver K 304 = true), (cZ.dec (p := PySem.W.findIn K (.ref 304) "__setattr__" = some (some (.builtin "object.__setattr__"))) (i := 2) (j := 14) rfl rfl rfl)⟩, (cZ.dec (p := PySem.W.findIn K (.ref 304) "__class__" = some (some (.builtin "object.__class__"))) (i := 9) (j := 18) rfl rfl rfl), (cZ.dec (p := PySem.W.specialIn K (.builtin "object.__class__") "__get__" = some (some (.builtin "getset_descriptor.__get__"))) (i := 7) (j := 21) rfl rfl rfl), (cZ.dec (p := PySem.W.takesIn K (.builtin "object.__class__") = some true) (i := 7) (j := 22) rfl rfl rfl), (cZ.dec (p := PySem.W.mroIn K 304 (.type "object") = some true) (i := 9) (j := 19) rfl rfl rfl)⟩
      · rename_i e; cases e; exact ⟨⟨(cZ.fact (i := 2) (j := 22) rfl rfl : PySem.W.plainGet K 199 Str.empty = true), (cZ.fact (i := 2) (j := 23) rfl rfl : PySem.W.hasDictIn K 199 = true), (cZ.fact (i := 2) (j := 24) rfl rfl : PySem.W.plainOver K 199 = true), (cZ.dec (p := PySem.W.findIn K (.ref 199) "__setattr__" = some (some (.builtin "object.__setattr__"))) (i := 3) (j := 0) rfl rfl rfl)⟩, (cZ.dec (p := PySem.W.findIn K (.ref 199) "__class__" = some (some (.builtin "object.__class__"))) (i := 9) (j := 20) rfl rfl rfl), (cZ.dec (p := PySem.W.specialIn K (.builtin "object.__class__") "__get__" = some (some (.builtin "getset_descriptor.__get__"))) (i := 7) (j := 21) rfl rfl rfl), (cZ.dec (p := PySem.W.takesIn K (.builtin "object.__class__") = some true) (i := 7) (j := 22) rfl rfl rfl), (cZ.dec (p := PySem.W.mroIn K 199 (.type "object") = some true) (i := 9) (j := 21) rfl rfl rfl)⟩
      · rename_i e; cases e; exact ⟨⟨(cZ.fact (i := 3) (j := 8) rfl rfl : PySem.W.plainGet K 164 Str.empty = true), (cZ.fact (i := 3) (j := 9) rfl rfl : PySem.W.hasDictIn K 164 = true), (cZ.fact (i := 3) (j := 10) rfl rfl : PySem.W.plainOver K 164 = true), (cZ.dec (p := PySem.W.findIn K (.ref 164) "__setattr__" = some (some (.builtin "object.__setattr__"))) (i := 3) (j := 11) rfl rfl rfl)⟩, (cZ.dec (p := PySem.W.findIn K (.ref 164) "__class__" = some (some (.builtin "object.__class__"))) (i := 9) (j := 22) rfl rfl rfl), (cZ.dec (p := PySem.W.specialIn K (.builtin "object.__class__") "__get__" = some (some (.builtin "getset_descriptor.__get__"))) (i := 7) (j := 21) rfl rfl rfl), (cZ.dec (p := PySem.W.takesIn K (.builtin "object.__class__") = some true) (i := 7) (j := 22) rfl rfl rfl), (cZ.dec (p := PySem.W.mroIn K 164 (.type "object") = some true) (i := 9) (j := 23) rfl rfl rfl)⟩
      · cases h),
    ik_One := (fun ty b h => by
      unfold i_One at h
      split at h
      · cases h; exact (cZ.dec (p := PySem.W.kitOne K (.type "NoneType") (.ref 304) = some false) (i := 10) (j := 21) rfl rfl rfl)
      · cases h; exact (cZ.dec (p := PySem.W.kitOne K (.type "bool") (.ref 304) = some false) (i := 10) (j := 22) rfl rfl rfl)
      · cases h; exact (cZ.dec (p := PySem.W.kitOne K (.type "int") (.ref 304) = some false) (i := 10) (j := 23) rfl rfl rfl)
      · cases h; exact (cZ.dec (p := PySem.W.kitOne K (.type "str") (.ref 304) = some false) (i := 10) (j := 24) rfl rfl rfl)
      · cases h; exact (cZ.dec (p := PySem.W.kitOne K (.type "tuple") (.ref 304) = some false) (i := 11) (j := 0) rfl rfl rfl)
      · cases h; exact (cZ.dec (p := PySem.W.kitOne K (.type "list") (.ref 304) = some false) (i := 11) (j := 1) rfl rfl rfl)
      · cases h; exact (cZ.dec (p := PySem.W.kitOne K (.ref 234) (.ref 304) = some false) (i := 11) (j := 2) rfl rfl rfl)
      · cases h; exact (cZ.dec (p := PySem.W.kitOne K (.ref 269) (.ref 304) = some false) (i := 11) (j := 3) rfl rfl rfl)
      · cases h; exact (cZ.dec (p := PySem.W.kitOne K (.ref 304) (.ref 304) = some true) (i := 11) (j := 4) rfl rfl rfl)
      · cases h; exact (cZ.dec (p := PySem.W.kitOne K (.ref 199) (.ref 304) = some false) (i := 11) (j := 5) rfl rfl rfl)
      · cases h; exact (cZ.dec (p := PySem.W.kitOne K (.ref 164) (.ref 304) = some false) (i := 11) (j := 6) rfl rfl rfl)
      · cases h),
    ic_One := (fun c b h => by
      unfold i_One at h
      split at h
      · rename_i e; cases e
      · rename_i e; cases e
      · rename_i e; cases e
      · rename_i e; cases e
      · rename_i e; cases e
      · rename_i e; cases e
      · rename_i e; cases e; exact ⟨⟨(cZ.fact (i := 1) (j := 14) rfl rfl : PySem.W.plainGet K 234 Str.empty = true), (cZ.fact (i := 1) (j := 15) rfl rfl : PySem.W.hasDictIn K 234 = true), (cZ.fact (i := 1) (j := 16) rfl rfl : PySem.W.plainOver K 234 = true), (cZ.dec (p := PySem.W.findIn K (.ref 234) "__setattr__" = some (some (.builtin "object.__setattr__"))) (i := 1) (j := 17) rfl rfl rfl)⟩, (cZ.dec (p := PySem.W.findIn K (.ref 234) "__class__" = some (some (.builtin "object.__class__"))) (i := 9) (j := 14) rfl rfl rfl), (cZ.dec (p := PySem.W.specialIn K (.builtin "object.__class__") "__get__" = some (some (.builtin "getset_descriptor.__get__"))) (i := 7) (j := 21) rfl rfl rfl), (cZ.dec (p := PySem.W.takesIn K (.builtin "object.__class__") = some true) (i := 7) (j := 22) rfl rfl rfl), (cZ.dec (p := PySem.W.mroIn K 234 (.type "object") = some true) (i := 9) (j := 15) rfl rfl rfl)⟩
      · rename_i e; cases e; exact ⟨⟨(cZ.fact (i := 2) (j := 0) rfl rfl : PySem.W.plainGet K 269 Str.empty = true), (cZ.fact (i := 2) (j := 1) rfl rfl : PySem.W.hasDictIn K 269 = true), (cZ.fact (i := 2) (j := 2) rfl rfl : PySem.W.plainOver K 269 = true), (cZ.dec (p := PySem.W.findIn K (.ref 269) "__setattr__" = some (some (.builtin "object.__setattr__"))) (i := 2) (j := 3) rfl rfl rfl)⟩, (cZ.dec (p := PySem.W.findIn K (.ref 269) "__class__" = some (some (.builtin "object.__class__"))) (i := 9) (j := 16) rfl rfl rfl), (cZ.dec (p := PySem.W.specialIn K (.builtin "object.__class__") "__get__" = some (some (.builtin "getset_descriptor.__get__"))) (i := 7) (j := 21) rfl rfl rfl), (cZ.dec (p := PySem.W.takesIn K (.builtin "object.__class__") = some true) (i := 7) (j := 22) rfl rfl rfl), (cZ.dec (p := PySem.W.mroIn K 269 (.type "object") = some true) (i := 9) (j := 17) rfl rfl rfl)⟩
      · rename_i e; cases e; exact ⟨⟨(cZ.fact (i := 2) (j := 11) rfl rfl : PySem.W.plainGet K 304 Str.empty = true), (cZ.fact (i := 2) (j := 12) rfl rfl : PySem.W.hasDictIn K 304 = true), (cZ.fact (i := 2) (j := 13) rfl rfl : PySem.W.plainOver K 304 = true), (cZ.dec (p := PySem.W.findIn K (.ref 304) "__setattr__" = some (some (.builtin "object.__setattr__"))) (i := 2) (j := 14) rfl rfl rfl)⟩, (cZ.dec (p := PySem.W.findIn K (.ref 304) "__class__" = some (some (.builtin "object.__class__"))) (i := 9) (j := 18) rfl rfl rfl), (cZ.dec (p := PySem.W.specialIn K (.builtin "object.__class__") "__get__" = some (some (.builtin "getset_descriptor.__get__"))) (i := 7) (j := 21) rfl rfl rfl), (cZ.dec (p := PySem.W.takesIn K (.builtin "object.__class__") = some true) (i := 7) (j := 22) rfl rfl rfl), (cZ.dec (p := PySem.W.mroIn K 304 (.type "object") = some true) (i := 9) (j := 19) rfl rfl rfl)⟩
      · rename_i e; cases e; exact ⟨⟨(cZ.fact (i := 2) (j := 22) rfl rfl : PySem.W.plainGet K 199 Str.empty = true), (cZ.fact (i := 2) (j := 23) rfl rfl : PySem.W.hasDictIn K 199 = true), (cZ.fact (i := 2) (j := 24) rfl rfl : PySem.W.plainOver K 199 = true), (cZ.dec (p := PySem.W.findIn K (.ref 199) "__setattr__" = some (some (.builtin "object.__setattr__"))) (i := 3) (j := 0) rfl rfl rfl)⟩, (cZ.dec (p := PySem.W.findIn K (.ref 199) "__class__" = some (some (.builtin "object.__class__"))) (i := 9) (j := 20) rfl rfl rfl), (cZ.dec (p := PySem.W.specialIn K (.builtin "object.__class__") "__get__" = some (some (.builtin "getset_descriptor.__get__"))) (i := 7) (j := 21) rfl rfl rfl), (cZ.dec (p := PySem.W.takesIn K (.builtin "object.__class__") = some true) (i := 7) (j := 22) rfl rfl rfl), (cZ.dec (p := PySem.W.mroIn K 199 (.type "object") = some true) (i := 9) (j := 21) rfl rfl rfl)⟩
      · rename_i e; cases e; exact ⟨⟨(cZ.fact (i := 3) (j := 8) rfl rfl : PySem.W.plainGet K 164 Str.empty = true), (cZ.fact (i := 3) (j := 9) rfl rfl : PySem.W.hasDictIn K 164 = true), (cZ.fact (i := 3) (j := 10) rfl rfl : PySem.W.plainOver K 164 = true), (cZ.dec (p := PySem.W.findIn K (.ref 164) "__setattr__" = some (some (.builtin "object.__setattr__"))) (i := 3) (j := 11) rfl rfl rfl)⟩, (cZ.dec (p := PySem.W.findIn K (.ref 164) "__class__" = some (some (.builtin "object.__class__"))) (i := 9) (j := 22) rfl rfl rfl), (cZ.dec (p := PySem.W.specialIn K (.builtin "object.__class__") "__get__" = some (some (.builtin "getset_descriptor.__get__"))) (i := 7) (j := 21) rfl rfl rfl), (cZ.dec (p := PySem.W.takesIn K (.builtin "object.__class__") = some true) (i := 7) (j := 22) rfl rfl rfl), (cZ.dec (p := PySem.W.mroIn K 164 (.type "object") = some true) (i := 9) (j := 23) rfl rfl rfl)⟩
      · cases h),
    ik_Saying := (fun ty b h => by
      unfold i_Saying at h
      split at h
      · cases h; exact (cZ.dec (p := PySem.W.kitOne K (.type "NoneType") (.ref 127) = some false) (i := 11) (j := 7) rfl rfl rfl)
      · cases h; exact (cZ.dec (p := PySem.W.kitOne K (.type "bool") (.ref 127) = some false) (i := 11) (j := 8) rfl rfl rfl)
      · cases h; exact (cZ.dec (p := PySem.W.kitOne K (.type "int") (.ref 127) = some false) (i := 11) (j := 9) rfl rfl rfl)
      · cases h; exact (cZ.dec (p := PySem.W.kitOne K (.type "str") (.ref 127) = some false) (i := 11) (j := 10) rfl rfl rfl)
      · cases h; exact (cZ.dec (p := PySem.W.kitOne K (.type "tuple") (.ref 127) = some false) (i := 11) (j := 11) rfl rfl rfl)
      · cases h; exact (cZ.dec (p := PySem.W.kitOne K (.type "list") (.ref 127) = some false) (i := 11) (j := 12) rfl rfl rfl)
      · cases h; exact (cZ.dec (p := PySem.W.kitOne K (.ref 234) (.ref 127) = some true) (i := 11) (j := 13) rfl rfl rfl)
      · cases h; exact (cZ.dec (p := PySem.W.kitOne K (.ref 269) (.ref 127) = some true) (i := 11) (j := 14) rfl rfl rfl)
      · cases h; exact (cZ.dec (p := PySem.W.kitOne K (.ref 304) (.ref 127) = some true) (i := 11) (j := 15) rfl rfl rfl)
      · cases h; exact (cZ.dec (p := PySem.W.kitOne K (.ref 199) (.ref 127) = some true) (i := 11) (j := 16) rfl rfl rfl)
      · cases h; exact (cZ.dec (p := PySem.W.kitOne K (.ref 164) (.ref 127) = some true) (i := 11) (j := 17) rfl rfl rfl)
      · cases h),
    ic_Saying := (fun c b h => by
      unfold i_Saying at h
      split at h
      · rename_i e; cases e
      · rename_i e; cases e
      · rename_i e; cases e
      · rename_i e; cases e
      · rename_i e; cases e
      · rename_i e; cases e
      · rename_i e; cases e; exact ⟨⟨(cZ.fact (i := 1) (j := 14) rfl rfl : PySem.W.plainGet K 234 Str.empty = true), (cZ.fact (i := 1) (j := 15) rfl rfl : PySem.W.hasDictIn K 234 = true), (cZ.fact (i := 1) (j := 16) rfl rfl : PySem.W.plainOver K 234 = true), (cZ.dec (p := PySem.W.findIn K (.ref 234) "__setattr__" = some (some (.builtin "object.__setattr__"))) (i := 1) (j := 17) rfl rfl rfl)⟩, (cZ.dec (p := PySem.W.findIn K (.ref 234) "__class__" = some (some (.builtin "object.__class__"))) (i := 9) (j := 14) rfl rfl rfl), (cZ.dec (p := PySem.W.specialIn K (.builtin "object.__class__") "__get__" = some (some (.builtin "getset_descriptor.__get__"))) (i := 7) (j := 21) rfl rfl rfl), (cZ.dec (p := PySem.W.takesIn K (.builtin "object.__class__") = some true) (i := 7) (j := 22) rfl rfl rfl), (cZ.dec (p := PySem.W.mroIn K 234 (.type "object") = some true) (i := 9) (j := 15) rfl rfl rfl)⟩
      · rename_i e; cases e; exact ⟨⟨(cZ.fact (i := 2) (j := 0) rfl rfl : PySem.W.plainGet K 269 Str.empty = true), (cZ.fact (i := 2) (j := 1) rfl rfl : PySem.W.hasDictIn K 269 = true), (cZ.fact (i := 2) (j := 2) rfl rfl : PySem.W.plainOver K 269 = true), (cZ.dec (p := PySem.W.findIn K (.ref 269) "__setattr__" = some (some (.builtin "object.__setattr__"))) (i := 2) (j := 3) rfl rfl rfl)⟩, (cZ.dec (p := PySem.W.findIn K (.ref 269) "__class__" = some (some (.builtin "object.__class__"))) (i := 9) (j := 16) rfl rfl rfl), (cZ.dec (p := PySem.W.specialIn K (.builtin "object.__class__") "__get__" = some (some (.builtin "getset_descriptor.__get__"))) (i := 7) (j := 21) rfl rfl rfl), (cZ.dec (p := PySem.W.takesIn K (.builtin "object.__class__") = some true) (i := 7) (j := 22) rfl rfl rfl), (cZ.dec (p := PySem.W.mroIn K 269 (.type "object") = some true) (i := 9) (j := 17) rfl rfl rfl)⟩
      · rename_i e; cases e; exact ⟨⟨(cZ.fact (i := 2) (j := 11) rfl rfl : PySem.W.plainGet K 304 Str.empty = true), (cZ.fact (i := 2) (j := 12) rfl rfl : PySem.W.hasDictIn K 304 = true), (cZ.fact (i := 2) (j := 13) rfl rfl : PySem.W.plainOver K 304 = true), (cZ.dec (p := PySem.W.findIn K (.ref 304) "__setattr__" = some (some (.builtin "object.__setattr__"))) (i := 2) (j := 14) rfl rfl rfl)⟩, (cZ.dec (p := PySem.W.findIn K (.ref 304) "__class__" = some (some (.builtin "object.__class__"))) (i := 9) (j := 18) rfl rfl rfl), (cZ.dec (p := PySem.W.specialIn K (.builtin "object.__class__") "__get__" = some (some (.builtin "getset_descriptor.__get__"))) (i := 7) (j := 21) rfl rfl rfl), (cZ.dec (p := PySem.W.takesIn K (.builtin "object.__class__") = some true) (i := 7) (j := 22) rfl rfl rfl), (cZ.dec (p := PySem.W.mroIn K 304 (.type "object") = some true) (i := 9) (j := 19) rfl rfl rfl)⟩
      · rename_i e; cases e; exact ⟨⟨(cZ.fact (i := 2) (j := 22) rfl rfl : PySem.W.plainGet K 199 Str.empty = true), (cZ.fact (i := 2) (j := 23) rfl rfl : PySem.W.hasDictIn K 199 = true), (cZ.fact (i := 2) (j := 24) rfl rfl : PySem.W.plainOver K 199 = true), (cZ.dec (p := PySem.W.findIn K (.ref 199) "__setattr__" = some (some (.builtin "object.__setattr__"))) (i := 3) (j := 0) rfl rfl rfl)⟩, (cZ.dec (p := PySem.W.findIn K (.ref 199) "__class__" = some (some (.builtin "object.__class__"))) (i := 9) (j := 20) rfl rfl rfl), (cZ.dec (p := PySem.W.specialIn K (.builtin "object.__class__") "__get__" = some (some (.builtin "getset_descriptor.__get__"))) (i := 7) (j := 21) rfl rfl rfl), (cZ.dec (p := PySem.W.takesIn K (.builtin "object.__class__") = some true) (i := 7) (j := 22) rfl rfl rfl), (cZ.dec (p := PySem.W.mroIn K 199 (.type "object") = some true) (i := 9) (j := 21) rfl rfl rfl)⟩
      · rename_i e; cases e; exact ⟨⟨(cZ.fact (i := 3) (j := 8) rfl rfl : PySem.W.plainGet K 164 Str.empty = true), (cZ.fact (i := 3) (j := 9) rfl rfl : PySem.W.hasDictIn K 164 = true), (cZ.fact (i := 3) (j := 10) rfl rfl : PySem.W.plainOver K 164 = true), (cZ.dec (p := PySem.W.findIn K (.ref 164) "__setattr__" = some (some (.builtin "object.__setattr__"))) (i := 3) (j := 11) rfl rfl rfl)⟩, (cZ.dec (p := PySem.W.findIn K (.ref 164) "__class__" = some (some (.builtin "object.__class__"))) (i := 9) (j := 22) rfl rfl rfl), (cZ.dec (p := PySem.W.specialIn K (.builtin "object.__class__") "__get__" = some (some (.builtin "getset_descriptor.__get__"))) (i := 7) (j := 21) rfl rfl rfl), (cZ.dec (p := PySem.W.takesIn K (.builtin "object.__class__") = some true) (i := 7) (j := 22) rfl rfl rfl), (cZ.dec (p := PySem.W.mroIn K 164 (.type "object") = some true) (i := 9) (j := 23) rfl rfl rfl)⟩
      · cases h),
    ik_Younger := (fun ty b h => by
      unfold i_Younger at h
      split at h
      · cases h; exact (cZ.dec (p := PySem.W.kitOne K (.type "NoneType") (.ref 269) = some false) (i := 11) (j := 18) rfl rfl rfl)
      · cases h; exact (cZ.dec (p := PySem.W.kitOne K (.type "bool") (.ref 269) = some false) (i := 11) (j := 19) rfl rfl rfl)
      · cases h; exact (cZ.dec (p := PySem.W.kitOne K (.type "int") (.ref 269) = some false) (i := 11) (j := 20) rfl rfl rfl)
      · cases h; exact (cZ.dec (p := PySem.W.kitOne K (.type "str") (.ref 269) = some false) (i := 11) (j := 21) rfl rfl rfl)
      · cases h; exact (cZ.dec (p := PySem.W.kitOne K (.type "tuple") (.ref 269) = some false) (i := 11) (j := 22) rfl rfl rfl)
      · cases h; exact (cZ.dec (p := PySem.W.kitOne K (.type "list") (.ref 269) = some false) (i := 11) (j := 23) rfl rfl rfl)
      · cases h; exact (cZ.dec (p := PySem.W.kitOne K (.ref 234) (.ref 269) = some false) (i := 11) (j := 24) rfl rfl rfl)
      · cases h; exact (cZ.dec (p := PySem.W.kitOne K (.ref 269) (.ref 269) = some true) (i := 12) (j := 0) rfl rfl rfl)
      · cases h; exact (cZ.dec (p := PySem.W.kitOne K (.ref 304) (.ref 269) = some false) (i := 12) (j := 1) rfl rfl rfl)
      · cases h; exact (cZ.dec (p := PySem.W.kitOne K (.ref 199) (.ref 269) = some false) (i := 12) (j := 2) rfl rfl rfl)
      · cases h; exact (cZ.dec (p := PySem.W.kitOne K (.ref 164) (.ref 269) = some false) (i := 12) (j := 3) rfl rfl rfl)
      · cases h),
    ic_Younger := (fun c b h => by
      unfold i_Younger at h
      split at h
      · rename_i e; cases e
      · rename_i e; cases e
      · rename_i e; cases e
      · rename_i e; cases e
      · rename_i e; cases e
      · rename_i e; cases e
      · rename_i e; cases e; exact ⟨⟨(cZ.fact (i := 1) (j := 14) rfl rfl : PySem.W.plainGet K 234 Str.empty = true), (cZ.fact (i := 1) (j := 15) rfl rfl : PySem.W.hasDictIn K 234 = true), (cZ.fact (i := 1) (j := 16) rfl rfl : PySem.W.plainOver K 234 = true), (cZ.dec (p := PySem.W.findIn K (.ref 234) "__setattr__" = some (some (.builtin "object.__setattr__"))) (i := 1) (j := 17) rfl rfl rfl)⟩, (cZ.dec (p := PySem.W.findIn K (.ref 234) "__class__" = some (some (.builtin "object.__class__"))) (i := 9) (j := 14) rfl rfl rfl), (cZ.dec (p := PySem.W.specialIn K (.builtin "object.__class__") "__get__" = some (some (.builtin "getset_descriptor.__get__"))) (i := 7) (j := 21) rfl rfl rfl), (cZ.dec (p := PySem.W.takesIn K (.builtin "object.__class__") = some true) (i := 7) (j := 22) rfl rfl rfl), (cZ.dec (p := PySem.W.mroIn K 234 (.type "object") = some true) (i := 9) (j := 15) rfl rfl rfl)⟩
      · rename_i e; cases e; exact ⟨⟨(cZ.fact (i := 2) (j := 0) rfl rfl : PySem.W.plainGet K 269 Str.empty = true), (cZ.fact (i := 2) (j := 1) rfl rfl : PySem.W.hasDictIn K 269 = true), (cZ.fact (i := 2) (j := 2) rfl rfl : PySem.W.plainOver K 269 = true), (cZ.dec (p := PySem.W.findIn K (.ref 269) "__setattr__" = some (some (.builtin "object.__setattr__"))) (i := 2) (j := 3) rfl rfl rfl)⟩, (cZ.dec (p := PySem.W.findIn K (.ref 269) "__class__" = some (some (.builtin "object.__class__"))) (i := 9) (j := 16) rfl rfl rfl), (cZ.dec (p := PySem.W.specialIn K (.builtin "object.__class__") "__get__" = some (some (.builtin "getset_descriptor.__get__"))) (i := 7) (j := 21) rfl rfl rfl), (cZ.dec (p := PySem.W.takesIn K (.builtin "object.__class__") = some true) (i := 7) (j := 22) rfl rfl rfl), (cZ.dec (p := PySem.W.mroIn K 269 (.type "object") = some true) (i := 9) (j := 17) rfl rfl rfl)⟩
      · rename_i e; cases e; exact ⟨⟨(cZ.fact (i := 2) (j := 11) rfl rfl : PySem.W.plainGet K 304 Str.empty = true), (cZ.fact (i := 2) (j := 12) rfl rfl : PySem.W.hasDictIn K 304 = true), (cZ.fact (i := 2) (j := 13) rfl rfl : PySem.W.plainOver K 304 = true), (cZ.dec (p := PySem.W.findIn K (.ref 304) "__setattr__" = some (some (.builtin "object.__setattr__"))) (i := 2) (j := 14) rfl rfl rfl)⟩, (cZ.dec (p := PySem.W.findIn K (.ref 304) "__class__" = some (some (.builtin "object.__class__"))) (i := 9) (j := 18) rfl rfl rfl), (cZ.dec (p := PySem.W.specialIn K (.builtin "object.__class__") "__get__" = some (some (.builtin "getset_descriptor.__get__"))) (i := 7) (j := 21) rfl rfl rfl), (cZ.dec (p := PySem.W.takesIn K (.builtin "object.__class__") = some true) (i := 7) (j := 22) rfl rfl rfl), (cZ.dec (p := PySem.W.mroIn K 304 (.type "object") = some true) (i := 9) (j := 19) rfl rfl rfl)⟩
      · rename_i e; cases e; exact ⟨⟨(cZ.fact (i := 2) (j := 22) rfl rfl : PySem.W.plainGet K 199 Str.empty = true), (cZ.fact (i := 2) (j := 23) rfl rfl : PySem.W.hasDictIn K 199 = true), (cZ.fact (i := 2) (j := 24) rfl rfl : PySem.W.plainOver K 199 = true), (cZ.dec (p := PySem.W.findIn K (.ref 199) "__setattr__" = some (some (.builtin "object.__setattr__"))) (i := 3) (j := 0) rfl rfl rfl)⟩, (cZ.dec (p := PySem.W.findIn K (.ref 199) "__class__" = some (some (.builtin "object.__class__"))) (i := 9) (j := 20) rfl rfl rfl), (cZ.dec (p := PySem.W.specialIn K (.builtin "object.__class__") "__get__" = some (some (.builtin "getset_descriptor.__get__"))) (i := 7) (j := 21) rfl rfl rfl), (cZ.dec (p := PySem.W.takesIn K (.builtin "object.__class__") = some true) (i := 7) (j := 22) rfl rfl rfl), (cZ.dec (p := PySem.W.mroIn K 199 (.type "object") = some true) (i := 9) (j := 21) rfl rfl rfl)⟩
      · rename_i e; cases e; exact ⟨⟨(cZ.fact (i := 3) (j := 8) rfl rfl : PySem.W.plainGet K 164 Str.empty = true), (cZ.fact (i := 3) (j := 9) rfl rfl : PySem.W.hasDictIn K 164 = true), (cZ.fact (i := 3) (j := 10) rfl rfl : PySem.W.plainOver K 164 = true), (cZ.dec (p := PySem.W.findIn K (.ref 164) "__setattr__" = some (some (.builtin "object.__setattr__"))) (i := 3) (j := 11) rfl rfl rfl)⟩, (cZ.dec (p := PySem.W.findIn K (.ref 164) "__class__" = some (some (.builtin "object.__class__"))) (i := 9) (j := 22) rfl rfl rfl), (cZ.dec (p := PySem.W.specialIn K (.builtin "object.__class__") "__get__" = some (some (.builtin "getset_descriptor.__get__"))) (i := 7) (j := 21) rfl rfl rfl), (cZ.dec (p := PySem.W.takesIn K (.builtin "object.__class__") = some true) (i := 7) (j := 22) rfl rfl rfl), (cZ.dec (p := PySem.W.mroIn K 164 (.type "object") = some true) (i := 9) (j := 23) rfl rfl rfl)⟩
      · cases h),
    ik_bool := (fun ty b h => by
      unfold i_bool at h
      split at h
      · cases h; exact kit_ty (by decide +kernel)
      · cases h; exact kit_ty (by decide +kernel)
      · cases h; exact kit_ty (by decide +kernel)
      · cases h; exact kit_ty (by decide +kernel)
      · cases h; exact kit_ty (by decide +kernel)
      · cases h; exact kit_ty (by decide +kernel)
      · cases h; exact (cZ.dec (p := PySem.W.kitOne K (.ref 234) (.type "bool") = some false) (i := 12) (j := 4) rfl rfl rfl)
      · cases h; exact (cZ.dec (p := PySem.W.kitOne K (.ref 269) (.type "bool") = some false) (i := 12) (j := 5) rfl rfl rfl)
      · cases h; exact (cZ.dec (p := PySem.W.kitOne K (.ref 304) (.type "bool") = some false) (i := 12) (j := 6) rfl rfl rfl)
      · cases h; exact (cZ.dec (p := PySem.W.kitOne K (.ref 199) (.type "bool") = some false) (i := 12) (j := 7) rfl rfl rfl)
      · cases h; exact (cZ.dec (p := PySem.W.kitOne K (.ref 164) (.type "bool") = some false) (i := 12) (j := 8) rfl rfl rfl)
      · cases h),
    ic_bool := (fun c b h => by
      unfold i_bool at h
      split at h
      · rename_i e; cases e
      · rename_i e; cases e
      · rename_i e; cases e
      · rename_i e; cases e
      · rename_i e; cases e
      · rename_i e; cases e
      · rename_i e; cases e; exact ⟨⟨(cZ.fact (i := 1) (j := 14) rfl rfl : PySem.W.plainGet K 234 Str.empty = true), (cZ.fact (i := 1) (j := 15) rfl rfl : PySem.W.hasDictIn K 234 = true), (cZ.fact (i := 1) (j := 16) rfl rfl : PySem.W.plainOver K 234 = true), (cZ.dec (p := PySem.W.findIn K (.ref 234) "__setattr__" = some (some (.builtin "object.__setattr__"))) (i := 1) (j := 17) rfl rfl rfl)⟩, (cZ.dec (p := PySem.W.findIn K (.ref 234) "__class__" = some (some (.builtin "object.__class__"))) (i := 9) (j := 14) rfl rfl rfl), (cZ.dec (p := PySem.W.specialIn K (.builtin "object.__class__") "__get__" = some (some (.builtin "getset_descriptor.__get__"))) (i := 7) (j := 21) rfl rfl rfl), (cZ.dec (p := PySem.W.takesIn K (.builtin "object.__class__") = some true) (i := 7) (j := 22) rfl rfl rfl), (cZ.dec (p := PySem.W.mroIn K 234 (.type "object") = some true) (i := 9) (j := 15) rfl rfl rfl)⟩
      · rename_i e; cases e; exact ⟨⟨(cZ.fact (i := 2) (j := 0) rfl rfl : PySem.W.plainGet K 269 Str.empty = true), (cZ.fact (i := 2) (j := 1) rfl rfl : PySem.W.hasDictIn K 269 = true), (cZ.fact (i := 2) (j := 2) rfl rfl : PySem.W.plainOver K 269 = true), (cZ.dec (p := PySem.W.findIn K (.ref 269) "__setattr__" = some (some (.builtin "object.__setattr__"))) (i := 2) (j := 3) rfl rfl rfl)⟩, (cZ.dec (p := PySem.W.findIn K (.ref 269) "__class__" = some (some (.builtin "object.__class__"))) (i := 9) (j := 16) rfl rfl rfl), (cZ.dec (p := PySem.W.specialIn K (.builtin "object.__class__") "__get__" = some (some (.builtin "getset_descriptor.__get__"))) (i := 7) (j := 21) rfl rfl rfl), (cZ.dec (p := PySem.W.takesIn K (.builtin "object.__class__") = some true) (i := 7) (j := 22) rfl rfl rfl), (cZ.dec (p := PySem.W.mroIn K 269 (.type "object") = some true) (i := 9) (j := 17) rfl rfl rfl)⟩
      · rename_i e; cases e; exact ⟨⟨(cZ.fact (i := 2) (j := 11) rfl rfl : PySem.W.plainGet K 304 Str.empty = true), (cZ.fact (i := 2) (j := 12) rfl rfl : PySem.W.hasDictIn K 304 = true), (cZ.fact (i := 2) (j := 13) rfl rfl : PySem.W.plainOver K 304 = true), (cZ.dec (p := PySem.W.findIn K (.ref 304) "__setattr__" = some (some (.builtin "object.__setattr__"))) (i := 2) (j := 14) rfl rfl rfl)⟩, (cZ.dec (p := PySem.W.findIn K (.ref 304) "__class__" = some (some (.builtin "object.__class__"))) (i := 9) (j := 18) rfl rfl rfl), (cZ.dec (p := PySem.W.specialIn K (.builtin "object.__class__") "__get__" = some (some (.builtin "getset_descriptor.__get__"))) (i := 7) (j := 21) rfl rfl rfl), (cZ.dec (p := PySem.W.takesIn K (.builtin "object.__class__") = some true) (i := 7) (j := 22) rfl rfl rfl), (cZ.dec (p := PySem.W.mroIn K 304 (.type "object") = some true) (i := 9) (j := 19) rfl rfl rfl)⟩
      · rename_i e; cases e; exact ⟨⟨(cZ.fact (i := 2) (j := 22) rfl rfl : PySem.W.plainGet K 199 Str.empty = true), (cZ.fact (i := 2) (j := 23) rfl rfl : PySem.W.hasDictIn K 199 = true), (cZ.fact (i := 2) (j := 24) rfl rfl : PySem.W.plainOver K 199 = true), (cZ.dec (p := PySem.W.findIn K (.ref 199) "__setattr__" = some (some (.builtin "object.__setattr__"))) (i := 3) (j := 0) rfl rfl rfl)⟩, (cZ.dec (p := PySem.W.findIn K (.ref 199) "__class__" = some (some (.builtin "object.__class__"))) (i := 9) (j := 20) rfl rfl rfl), (cZ.dec (p := PySem.W.specialIn K (.builtin "object.__class__") "__get__" = some (some (.builtin "getset_descriptor.__get__"))) (i := 7) (j := 21) rfl rfl rfl), (cZ.dec (p := PySem.W.takesIn K (.builtin "object.__class__") = some true) (i := 7) (j := 22) rfl rfl rfl), (cZ.dec (p := PySem.W.mroIn K 199 (.type "object") = some true) (i := 9) (j := 21) rfl rfl rfl)⟩
      · rename_i e; cases e; exact ⟨⟨(cZ.fact (i := 3) (j := 8) rfl rfl : PySem.W.plainGet K 164 Str.empty = true), (cZ.fact (i := 3) (j := 9) rfl rfl : PySem.W.hasDictIn K 164 = true), (cZ.fact (i := 3) (j := 10) rfl rfl : PySem.W.plainOver K 164 = true), (cZ.dec (p := PySem.W.findIn K (.ref 164) "__setattr__" = some (some (.builtin "object.__setattr__"))) (i := 3) (j := 11) rfl rfl rfl)⟩, (cZ.dec (p := PySem.W.findIn K (.ref 164) "__class__" = some (some (.builtin "object.__class__"))) (i := 9) (j := 22) rfl rfl rfl), (cZ.dec (p := PySem.W.specialIn K (.builtin "object.__class__") "__get__" = some (some (.builtin "getset_descriptor.__get__"))) (i := 7) (j := 21) rfl rfl rfl), (cZ.dec (p := PySem.W.takesIn K (.builtin "object.__class__") = some true) (i := 7) (j := 22) rfl rfl rfl), (cZ.dec (p := PySem.W.mroIn K 164 (.type "object") = some true) (i := 9) (j := 23) rfl rfl rfl)⟩
      · cases h),
    ik_int := (fun ty b h => by
      unfold i_int at h
      split at h
      · cases h; exact kit_ty (by decide +kernel)
      · cases h; exact kit_ty (by decide +kernel)
      · cases h; exact kit_ty (by decide +kernel)
      · cases h; exact kit_ty (by decide +kernel)
      · cases h; exact kit_ty (by decide +kernel)
      · cases h; exact kit_ty (by decide +kernel)
      · cases h; exact (cZ.dec (p := PySem.W.kitOne K (.ref 234) (.type "int") = some false) (i := 12) (j := 9) rfl rfl rfl)
      · cases h; exact (cZ.dec (p := PySem.W.kitOne K (.ref 269) (.type "int") = some false) (i := 12) (j := 10) rfl rfl rfl)
      · cases h; exact (cZ.dec (p := PySem.W.kitOne K (.ref 304) (.type "int") = some false) (i := 12) (j := 11) rfl rfl rfl)
      · cases h; exact (cZ.dec (p := PySem.W.kitOne K (.ref 199) (.type "int") = some false) (i := 12) (j := 12) rfl rfl rfl)
      · cases h; exact (cZ.dec (p := PySem.W.kitOne K (.ref 164) (.type "int") = some false) (i := 12) (j := 13) rfl rfl rfl)
      · cases h),
    ic_int := (fun c b h => by
      unfold i_int at h
      split at h
      · rename_i e; cases e
      · rename_i e; cases e
      · rename_i e; cases e
      · rename_i e; cases e
      · rename_i e; cases e
      · rename_i e; cases e
      · rename_i e; cases e; exact ⟨⟨(cZ.fact (i := 1) (j := 14) rfl rfl : PySem.W.plainGet K 234 Str.empty = true), (cZ.fact (i := 1) (j := 15) rfl rfl : PySem.W.hasDictIn K 234 = true), (cZ.fact (i := 1) (j := 16) rfl rfl : PySem.W.plainOver K 234 = true), (cZ.dec (p := PySem.W.findIn K (.ref 234) "__setattr__" = some (some (.builtin "object.__setattr__"))) (i := 1) (j := 17) rfl rfl rfl)⟩, (cZ.dec (p := PySem.W.findIn K (.ref 234) "__class__" = some (some (.builtin "object.__class__"))) (i := 9) (j := 14) rfl rfl rfl), (cZ.dec (p := PySem.W.specialIn K (.builtin "object.__class__") "__get__" = some (some (.builtin "getset_descriptor.__get__"))) (i := 7) (j := 21) rfl rfl rfl), (cZ.dec (p := PySem.W.takesIn K (.builtin "object.__class__") = some true) (i := 7) (j := 22) rfl rfl rfl), (cZ.dec (p := PySem.W.mroIn K 234 (.type "object") = some true) (i := 9) (j := 15) rfl rfl rfl)⟩
      · rename_i e; cases e; exact ⟨⟨(cZ.fact (i := 2) (j := 0) rfl rfl : PySem.W.plainGet K 269 Str.empty = true), (cZ.fact (i := 2) (j := 1) rfl rfl : PySem.W.hasDictIn K 269 = true), (cZ.fact (i := 2) (j := 2) rfl rfl : PySem.W.plainOver K 269 = true), (cZ.dec (p := PySem.W.findIn K (.ref 269) "__setattr__" = some (some (.builtin "object.__setattr__"))) (i := 2) (j := 3) rfl rfl rfl)⟩, (cZ.dec (p := PySem.W.findIn K (.ref 269) "__class__" = some (some (.builtin "object.__class__"))) (i := 9) (j := 16) rfl rfl rfl), (cZ.dec (p := PySem.W.specialIn K (.builtin "object.__class__") "__get__" = some (some (.builtin "getset_descriptor.__get__"))) (i := 7) (j := 21) rfl rfl rfl), (cZ.dec (p := PySem.W.takesIn K (.builtin "object.__class__") = some true) (i := 7) (j := 22) rfl rfl rfl), (cZ.dec (p := PySem.W.mroIn K 269 (.type "object") = some true) (i := 9) (j := 17) rfl rfl rfl)⟩
      · rename_i e; cases e; exact ⟨⟨(cZ.fact (i := 2) (j := 11) rfl rfl : PySem.W.plainGet K 304 Str.empty = true), (cZ.fact (i := 2) (j := 12) rfl rfl : PySem.W.hasDictIn K 304 = true), (cZ.fact (i := 2) (j := 13) rfl rfl : PySem.W.plainOver K 304 = true), (cZ.dec (p := PySem.W.findIn K (.ref 304) "__setattr__" = some (some (.builtin "object.__setattr__"))) (i := 2) (j := 14) rfl rfl rfl)⟩, (cZ.dec (p := PySem.W.findIn K (.ref 304) "__class__" = some (some (.builtin "object.__class__"))) (i := 9) (j := 18) rfl rfl rfl), (cZ.dec (p := PySem.W.specialIn K (.builtin "object.__class__") "__get__" = some (some (.builtin "getset_descriptor.__get__"))) (i := 7) (j := 21) rfl rfl rfl), (cZ.dec (p := PySem.W.takesIn K (.builtin "object.__class__") = some true) (i := 7) (j := 22) rfl rfl rfl), (cZ.dec (p := PySem.W.mroIn K 304 (.type "object") = some true) (i := 9) (j := 19) rfl rfl rfl)⟩
      · rename_i e; cases e; exact ⟨⟨(cZ.fact (i := 2) (j := 22) rfl rfl : PySem.W.plainGet K 199 Str.empty = true), (cZ.fact (i := 2) (j := 23) rfl rfl : PySem.W.hasDictIn K 199 = true), (cZ.fact (i := 2) (j := 24) rfl rfl : PySem.W.plainOver K 199 = true), (cZ.dec (p := PySem.W.findIn K (.ref 199) "__setattr__" = some (some (.builtin "object.__setattr__"))) (i := 3) (j := 0) rfl rfl rfl)⟩, (cZ.dec (p := PySem.W.findIn K (.ref 199) "__class__" = some (some (.builtin "object.__class__"))) (i := 9) (j := 20) rfl rfl rfl), (cZ.dec (p := PySem.W.specialIn K (.builtin "object.__class__") "__get__" = some (some (.builtin "getset_descriptor.__get__"))) (i := 7) (j := 21) rfl rfl rfl), (cZ.dec (p := PySem.W.takesIn K (.builtin "object.__class__") = some true) (i := 7) (j := 22) rfl rfl rfl), (cZ.dec (p := PySem.W.mroIn K 199 (.type "object") = some true) (i := 9) (j := 21) rfl rfl rfl)⟩
      · rename_i e; cases e; exact ⟨⟨(cZ.fact (i := 3) (j := 8) rfl rfl : PySem.W.plainGet K 164 Str.empty = true), (cZ.fact (i := 3) (j := 9) rfl rfl : PySem.W.hasDictIn K 164 = true), (cZ.fact (i := 3) (j := 10) rfl rfl : PySem.W.plainOver K 164 = true), (cZ.dec (p := PySem.W.findIn K (.ref 164) "__setattr__" = some (some (.builtin "object.__setattr__"))) (i := 3) (j := 11) rfl rfl rfl)⟩, (cZ.dec (p := PySem.W.findIn K (.ref 164) "__class__" = some (some (.builtin "object.__class__"))) (i := 9) (j := 22) rfl rfl rfl), (cZ.dec (p := PySem.W.specialIn K (.builtin "object.__class__") "__get__" = some (some (.builtin "getset_descriptor.__get__"))) (i := 7) (j := 21) rfl rfl rfl), (cZ.dec (p := PySem.W.takesIn K (.builtin "object.__class__") = some true) (i := 7) (j := 22) rfl rfl rfl), (cZ.dec (p := PySem.W.mroIn K 164 (.type "object") = some true) (i := 9) (j := 23) rfl rfl rfl)⟩
      · cases h),
    ik_str := (fun ty b h => by
      unfold i_str at h
      split at h
      · cases h; exact kit_ty (by decide +kernel)
      · cases h; exact kit_ty (by decide +kernel)
      · cases h; exact kit_ty (by decide +kernel)
      · cases h; exact kit_ty (by decide +kernel)
      · cases h; exact kit_ty (by decide +kernel)
      · cases h; exact kit_ty (by decide +kernel)
      · cases h; exact (cZ.dec (p := PySem.W.kitOne K (.ref 234) (.type "str") = some false) (i := 12) (j := 14) rfl rfl rfl)
      · cases h; exact (cZ.dec (p := PySem.W.kitOne K (.ref 269) (.type "str") = some false) (i := 12) (j := 15) rfl rfl rfl)
      · cases h; exact (cZ.dec (p := PySem.W.kitOne K (.ref 304) (.type "str") = some false) (i := 12) (j := 16) rfl rfl rfl)
      · cases h; exact (cZ.dec (p := PySem.W.kitOne K (.ref 199) (.type "str") = some false) (i := 12) (j := 17) rfl rfl rfl)
      · cases h; exact (cZ.dec (p := PySem.W.kitOne K (.ref 164) (.type "str") = some false) (i := 12) (j := 18) rfl rfl rfl)
      · cases h),
    ic_str := (fun c b h => by
      unfold i_str at h
      split at h
      · rename_i e; cases e
      · rename_i e; cases e
      · rename_i e; cases e
      · rename_i e; cases e
      · rename_i e; cases e
      · rename_i e; cases e
      · rename_i e; cases e; exact ⟨⟨(cZ.fact (i := 1) (j := 14) rfl rfl : PySem.W.plainGet K 234 Str.empty = true), (cZ.fact (i := 1) (j := 15) rfl rfl : PySem.W.hasDictIn K 234 = true), (cZ.fact (i := 1) (j := 16) rfl rfl : PySem.W.plainOver K 234 = true), (cZ.dec (p := PySem.W.findIn K (.ref 234) "__setattr__" = some (some (.builtin "object.__setattr__"))) (i := 1) (j := 17) rfl rfl rfl)⟩, (cZ.dec (p := PySem.W.findIn K (.ref 234) "__class__" = some (some (.builtin "object.__class__"))) (i := 9) (j := 14) rfl rfl rfl), (cZ.dec (p := PySem.W.specialIn K (.builtin "object.__class__") "__get__" = some (some (.builtin "getset_descriptor.__get__"))) (i := 7) (j := 21) rfl rfl rfl), (cZ.dec (p := PySem.W.takesIn K (.builtin "object.__class__") = some true) (i := 7) (j := 22) rfl rfl rfl), (cZ.dec (p := PySem.W.mroIn K 234 (.type "object") = some true) (i := 9) (j := 15) rfl rfl rfl)⟩
      · rename_i e; cases e; exact ⟨⟨(cZ.fact (i := 2) (j := 0) rfl rfl : PySem.W.plainGet K 269 Str.empty = true), (cZ.fact (i := 2) (j := 1) rfl rfl : PySem.W.hasDictIn K 269 = true), (cZ.fact (i := 2) (j := 2) rfl rfl : PySem.W.plainOver K 269 = true), (cZ.dec (p := PySem.W.findIn K (.ref 269) "__setattr__" = some (some (.builtin "object.__setattr__"))) (i := 2) (j := 3) rfl rfl rfl)⟩, (cZ.dec (p := PySem.W.findIn K (.ref 269) "__class__" = some (some (.builtin "object.__class__"))) (i := 9) (j := 16) rfl rfl rfl), (cZ.dec (p := PySem.W.specialIn K (.builtin "object.__class__") "__get__" = some (some (.builtin "getset_descriptor.__get__"))) (i := 7) (j := 21) rfl rfl rfl), (cZ.dec (p := PySem.W.takesIn K (.builtin "object.__class__") = some true) (i := 7) (j := 22) rfl rfl rfl), (cZ.dec (p := PySem.W.mroIn K 269 (.type "object") = some true) (i := 9) (j := 17) rfl rfl rfl)⟩
      · rename_i e; cases e; exact ⟨⟨(cZ.fact (i := 2) (j := 11) rfl rfl : PySem.W.plainGet K 304 Str.empty = true), (cZ.fact (i := 2) (j := 12) rfl rfl : PySem.W.hasDictIn K 304 = true), (cZ.fact (i := 2) (j := 13) rfl rfl : PySem.W.plainOver K 304 = true), (cZ.dec (p := PySem.W.findIn K (.ref 304) "__setattr__" = some (some (.builtin "object.__setattr__"))) (i := 2) (j := 14) rfl rfl rfl)⟩, (cZ.dec (p := PySem.W.findIn K (.ref 304) "__class__" = some (some (.builtin "object.__class__"))) (i := 9) (j := 18) rfl rfl rfl), (cZ.dec (p := PySem.W.specialIn K (.builtin "object.__class__") "__get__" = some (some (.builtin "getset_descriptor.__get__"))) (i := 7) (j := 21) rfl rfl rfl), (cZ.dec (p := PySem.W.takesIn K (.builtin "object.__class__") = some true) (i := 7) (j := 22) rfl rfl rfl), (cZ.dec (p := PySem.W.mroIn K 304 (.type "object") = some true) (i := 9) (j := 19) rfl rfl rfl)⟩
      · rename_i e; cases e; exact ⟨⟨(cZ.fact (i := 2) (j := 22) rfl rfl : PySem.W.plainGet K 199 Str.empty = true), (cZ.fact (i := 2) (j := 23) rfl rfl : PySem.W.hasDictIn K 199 = true), (cZ.fact (i := 2) (j := 24) rfl rfl : PySem.W.plainOver K 199 = true), (cZ.dec (p := PySem.W.findIn K (.ref 199) "__setattr__" = some (some (.builtin "object.__setattr__"))) (i := 3) (j := 0) rfl rfl rfl)⟩, (cZ.dec (p := PySem.W.findIn K (.ref 199) "__class__" = some (some (.builtin "object.__class__"))) (i := 9) (j := 20) rfl rfl rfl), (cZ.dec (p := PySem.W.specialIn K (.builtin "object.__class__") "__get__" = some (some (.builtin "getset_descriptor.__get__"))) (i := 7) (j := 21) rfl rfl rfl), (cZ.dec (p := PySem.W.takesIn K (.builtin "object.__class__") = some true) (i := 7) (j := 22) rfl rfl rfl), (cZ.dec (p := PySem.W.mroIn K 199 (.type "object") = some true) (i := 9) (j := 21) rfl rfl rfl)⟩
      · rename_i e; cases e; exact ⟨⟨(cZ.fact (i := 3) (j := 8) rfl rfl : PySem.W.plainGet K 164 Str.empty = true), (cZ.fact (i := 3) (j := 9) rfl rfl : PySem.W.hasDictIn K 164 = true), (cZ.fact (i := 3) (j := 10) rfl rfl : PySem.W.plainOver K 164 = true), (cZ.dec (p := PySem.W.findIn K (.ref 164) "__setattr__" = some (some (.builtin "object.__setattr__"))) (i := 3) (j := 11) rfl rfl rfl)⟩, (cZ.dec (p := PySem.W.findIn K (.ref 164) "__class__" = some (some (.builtin "object.__class__"))) (i := 9) (j := 22) rfl rfl rfl), (cZ.dec (p := PySem.W.specialIn K (.builtin "object.__class__") "__get__" = some (some (.builtin "getset_descriptor.__get__"))) (i := 7) (j := 21) rfl rfl rfl), (cZ.dec (p := PySem.W.takesIn K (.builtin "object.__class__") = some true) (i := 7) (j := 22) rfl rfl rfl), (cZ.dec (p := PySem.W.mroIn K 164 (.type "object") = some true) (i := 9) (j := 23) rfl rfl rfl)⟩
      · cases h) }
open PySem PySem.Spec PyProof.Rows L2 ZH
theorem all_mk {w : World} {K : PySem.W.Frag} {h : Heap} {mg : Str → Option Value} {fa : Addr} (X : K.In h) (G : h.Ns mainGlobals mg) (hfa : mg "law" = some (.ref fa)) (cZ : SaysZ fbs fnl tbs w K) :
    ∃ fd : FuncData, (∀ (s : Shared) (v : Value), BindsTo s fd ⟨[v], []⟩ [("_law_script", v)]) ∧ ∀ base : Heap, K.In base → base.Ns mainGlobals mg → FnOk PySem.Challenge.pw_siltmeet_k13_sayings_written_and_read w K mg base (L2N.CX PySem.Challenge.pw_siltmeet_k13_sayings_written_and_read w) 7 fa fd ["_law_script"] (spLaw K) := by
  have e := hfa.symm.trans (PySem.W.mg_of X G (cZ.dec (p := PySem.W.nsIn K mainGlobals "law" = some (some (.ref 439))) (i := 1) (j := 12) rfl rfl rfl))
  cases e
  have T := tx_mk X G cZ
  obtain ⟨fd, F⟩ := fun_z (cZ.fns (i := 35) (d := dz_35) rfl) rfl rfl
  refine ⟨fd, ?_, fun base _ _ => ?_⟩
  · exact law_binds F fun _ _ _ _ _ _ s v => .of_eq rfl
  · exact (okF_law T F).imp fun vs H Q E h => sp_law h
theorem run_f (w : World) : HandSHeadRun.RunEq RR qq hkk obk 30000 nm_all (w.withFollow "special-get-raises" false) := fun os => map_trip (ra_f w os) (rb_f_0 w os)
theorem run_t (w : World) : HandSHeadRun.RunEq RR qq hkk obk 30000 nm_all (w.withFollow "special-get-raises" true) := fun os => map_trip (ra_t w os) (rb_t_0 w os)
end ZZ
set_option Elab.async false
set_option linter.all false
set_option maxRecDepth 100000
set_option maxHeartbeats 4000000
open PySem PySem.W PyProof.Rows in
set_option maxRecDepth 100000 in
set_option maxHeartbeats 0 in
theorem PySem.Challenge.cw_siltmeet_k13_sayings_written_and_read_holds : PySem.Challenge.rw_siltmeet_k13_sayings_written_and_read.Holds := by
  w_on; o_law
  refine HandSHeadRun.head_any (r := OpenLaw.row PySem.Challenge.rw_siltmeet_k13_sayings_written_and_read) (q := view (OpenLaw.row PySem.Challenge.rw_siltmeet_k13_sayings_written_and_read).prog [34]) (H := ZZ.hkk) (ob := ZZ.obk) (M := 30000) (loose := ZZ.nm_all) (d := HandSHeadRun.topDef (OpenLaw.row PySem.Challenge.rw_siltmeet_k13_sayings_written_and_read).prog 34) (kwd := []) ZZ.obk_eq
    (by kernel_rfl) (fun s => by kernel_rfl) (PySem.W.byRow2 "special-get-raises" (P := fun w => HandSHeadRun.RunEq ZZ.RR (PySem.W.view ZZ.RR.prog [34]) ZZ.hkk ZZ.obk 30000 ZZ.nm_all w) ZZ.run_f ZZ.run_t) (by kernel_rfl) (by kernel_rfl) (by kernel_rfl) (by rfl) (by first | assumption | decide +kernel) (by decide +kernel) ⟨rfl, rfl, rfl, rfl, rfl, by decide +kernel⟩ ?hw ?hc
  case hw => w_witness2
  case hc =>
    refine ZH.walk_ofZ (l := PySem.Challenge.rw_siltmeet_k13_sayings_written_and_read) (n := 63) (k := 7) (x := "_law_script") (CX := fun w => L2N.CX PySem.Challenge.pw_siltmeet_k13_sayings_written_and_read w) rfl (by decide) (by kernel_rfl) ⟨rfl, by decide, by decide⟩ ?F ?E
    case F =>
      intro w mg fa h Y G hmg0
      obtain ⟨K, KX, c⟩ := Y
      have hmg : mg ("law" : PySem.Str) = some (.ref fa) := by
        have e : (HandSHeadRun.topDef (OpenLaw.row PySem.Challenge.rw_siltmeet_k13_sayings_written_and_read).prog 34).name = ("law" : PySem.Str) := by kernel_rfl
        rw [← e]
        exact hmg0
      obtain ⟨fd, hb, hF⟩ := ZZ.all_mk KX G hmg c
      exact ⟨K, fd, ZZ.spLaw K, KX, hb, fun H a ns hl _ hS => ⟨a, ns, rfl, hS, hl, fun _ => rfl⟩, hF⟩
    case E =>
      intro _ _ _ _ _ h
      obtain ⟨_, _, _, _, _, _, _, _, _, _, _, _, z⟩ := h
      exact z
