import PyProof.Rows.All
import Wide.All
import OpenK.AllK
import Wide.FinOn
import KE.KStateDown
import Lean
import HandS.Base
import HandS.Call
import HandS.Ends
import HandS.More
import HandS.Words
import HandS.WordsExc
import HandS.Defaults
import HandS.Head0
import HandS.Head1
import HandS.Head2
import HandS.HeadEnd
import HandS.HeadHook1
import HandS.HeadHook2
import HandS.ForMost
import HandS.ForExc
import HandS.IsInst
import HandS.WideBits
import HandS.Flow
import HandS.TupAny
import HandS.TupMul
import HandS.Style
import KE.DatumOrd
import HandS.Zip
import HandS.CallSlots
import HandS.MakeKwOnly
import HandS.SortKw
import HandS.Conv
import HandS.Iter
import KE.KUnpackStar
import HandS.SetFor
import HandS.SortInts
import HandS.Small
import PyProof.P3Eq
import PySem.Challenge.RW_limplines_k11_worst_seen
set_option Elab.async false
set_option linter.all false
set_option maxRecDepth 100000
set_option maxHeartbeats 4000000
/-! DL: data trees over the abstract heap. Frozen data D, owned trees OT, states of slots. -/
namespace DL
open PySem PySem.Spec PyProof.Rows L2

/-- what kind of object a node is -/
inductive NK where
  | lst | scr | tup | dic (ks : List Key) | dit (ks : List (List Key)) | ins (C : Addr) (ns : List Str)
  deriving DecidableEq
/-- frozen data -/
inductive D where
  | non | bl (b : Bool) | int (i : Int) | str (x : Str) | ty (n : String) | adr (a : Addr) | nd (k : NK) (cs : List D)
abbrev D.lst (xs : List D) : D := .nd .lst xs
abbrev D.tup (xs : List D) : D := .nd .tup xs
/-- an owned tree: un: no value known; fz: frozen data; nd: an object of one's own -/
inductive OT where
  | un | fz (d : D) | nd (k : NK) (cs : List OT)
abbrev OT.lst (xs : List OT) : OT := .nd .lst xs
abbrev OT.tup (xs : List OT) : OT := .nd .tup xs

/-- a frozen object at a -/
def NodeF (K : PySem.W.Frag) (F : Hp) (a : Addr) (vs : List V) : NK → Prop
  | .lst => F a = some (.lst vs)
  | .scr => SqL K F a vs
  | .tup => SqT K F a vs
  | .dic ks => Rd F a (.dK (ks.zip vs)) ∧ ks.length = vs.length
  | .dit ks => Rd F a (.dT (ks.zip vs)) ∧ ks.length = vs.length
  | .ins C ns => ∃ dx, F a = some (.ins C dx (ns.zip vs)) ∧ ns.length = vs.length
/-- an object of one's own at a -/
def NodeO (H : Hp) (a : Addr) (vs : List V) : NK → Prop
  | .lst => H a = some (.lst vs)
  | .scr => False
  | .tup => H a = some (.tup vs)
  | .dic ks => H a = some (.dK (ks.zip vs)) ∧ ks.length = vs.length
  | .dit ks => H a = some (.dT (ks.zip vs)) ∧ ks.length = vs.length
  | .ins C ns => ∃ dx, H a = some (.ins C dx (ns.zip vs)) ∧ ns.length = vs.length
theorem NodeO.there {H : Hp} {a : Addr} {vs : List V} {k : NK} (h : NodeO H a vs k) : ∃ o, H a = some o := by
  cases k with
  | scr => exact h.elim
  | lst => exact ⟨_, h⟩
  | tup => exact ⟨_, h⟩
  | dic ks => exact ⟨_, h.1⟩
  | dit ks => exact ⟨_, h.1⟩
  | ins C ns => obtain ⟨dx, e, _⟩ := h; exact ⟨_, e⟩
theorem NodeO.at {H H' : Hp} {a : Addr} {vs : List V} {k : NK} (h : NodeO H a vs k) (e : H' a = H a) : NodeO H' a vs k := by
  cases k with
  | scr => exact h.elim
  | lst => exact e.trans h
  | tup => exact e.trans h
  | dic ks => exact ⟨e.trans h.1, h.2⟩
  | dit ks => exact ⟨e.trans h.1, h.2⟩
  | ins C ns => obtain ⟨dx, e1, l⟩ := h; exact ⟨dx, e.trans e1, l⟩
theorem NodeO.f {K : PySem.W.Frag} {H : Hp} {a : Addr} {vs : List V} {k : NK} (h : NodeO H a vs k) : NodeF K H a vs k := by
  cases k with
  | scr => exact h.elim
  | lst => exact h
  | tup => exact SqT.of h
  | dic ks => exact ⟨.inl h.1, h.2⟩
  | dit ks => exact ⟨.inl h.1, h.2⟩
  | ins C ns => exact h
theorem Same.tseq {K : PySem.W.Frag} {H H' : Hp} {a : Addr} {xs : List V} (e : Same H H') (h : SqT K H a xs) : SqT K H' a xs := by
  rcases h with (h | ⟨o, h⟩) | h
  · exact .inl (.inl (e _ _ h))
  · exact .inl (.inr ⟨o, e _ _ h⟩)
  · exact .inr h
theorem Same.rd {H H' : Hp} {a : Addr} {u : HO} (e : Same H H') (h : Rd H a u) : Rd H' a u := by
  rcases h with h | ⟨o, h⟩
  · exact .inl (e _ _ h)
  · exact .inr ⟨o, e _ _ h⟩
theorem NodeF.mono {K : PySem.W.Frag} {F F' : Hp} {a : Addr} {vs : List V} {k : NK} (s : Same F F') (h : NodeF K F a vs k) : NodeF K F' a vs k := by
  cases k with
  | scr => exact s.seq h
  | lst => exact s _ _ h
  | tup => exact Same.tseq s h
  | dic ks => exact ⟨Same.rd s h.1, h.2⟩
  | dit ks => exact ⟨Same.rd s h.1, h.2⟩
  | ins C ns => obtain ⟨dx, e, l⟩ := h; exact ⟨dx, s _ _ e, l⟩

mutual
/-- v is the data d in the heap F -/
def Rep (K : PySem.W.Frag) (F : Hp) : D → V → Prop
  | .non, v => v = .non
  | .bl b, v => v = .bl b
  | .int i, v => v = .int i
  | .str x, v => v = .str x
  | .ty n, v => v = .ty n
  | .adr a, v => v = .ref a
  | .nd k cs, v => ∃ a vs, v = .ref a ∧ NodeF K F a vs k ∧ RepL K F cs vs
def RepL (K : PySem.W.Frag) (F : Hp) : List D → List V → Prop
  | [], vs => vs = []
  | c :: cs, vs => ∃ v r, vs = v :: r ∧ Rep K F c v ∧ RepL K F cs r
end
mutual
theorem Rep.mono {K : PySem.W.Frag} {F F' : Hp} (s : Same F F') : ∀ {d : D} {v : V}, Rep K F d v → Rep K F' d v
  | .non, _, h => h
  | .bl _, _, h => h
  | .int _, _, h => h
  | .str _, _, h => h
  | .ty _, _, h => h
  | .adr _, _, h => h
  | .nd k cs, v, h => by
    unfold Rep at h ⊢
    obtain ⟨a, vs, e, n, r⟩ := h
    exact ⟨a, vs, e, n.mono s, RepL.mono s r⟩
theorem RepL.mono {K : PySem.W.Frag} {F F' : Hp} (s : Same F F') : ∀ {ds : List D} {vs : List V}, RepL K F ds vs → RepL K F' ds vs
  | [], _, h => h
  | c :: cs, vs, h => by
    unfold RepL at h ⊢
    obtain ⟨v, r, e, h1, h2⟩ := h
    exact ⟨v, r, e, Rep.mono s h1, RepL.mono s h2⟩
end
theorem RepL.nil {K : PySem.W.Frag} {F : Hp} : RepL K F [] [] := by unfold RepL; rfl
theorem RepL.cons {K : PySem.W.Frag} {F : Hp} {d : D} {v : V} {ds : List D} {vs : List V} (h : Rep K F d v) (r : RepL K F ds vs) : RepL K F (d :: ds) (v :: vs) := by
  unfold RepL; exact ⟨v, vs, rfl, h, r⟩
theorem RepL.cons_inv {K : PySem.W.Frag} {F : Hp} {d : D} {ds : List D} {vs : List V} (h : RepL K F (d :: ds) vs) : ∃ v r, vs = v :: r ∧ Rep K F d v ∧ RepL K F ds r := by
  unfold RepL at h; exact h
theorem RepL.len {K : PySem.W.Frag} {F : Hp} : ∀ {ds : List D} {vs : List V}, RepL K F ds vs → ds.length = vs.length
  | [], vs, h => by unfold RepL at h; subst h; rfl
  | d :: ds, vs, h => by
    obtain ⟨v, r, rfl, _, h2⟩ := h.cons_inv
    simp [RepL.len h2]
theorem RepL.get {K : PySem.W.Frag} {F : Hp} : ∀ {ds : List D} {vs : List V} {i : Nat} {d : D}, RepL K F ds vs → ds[i]? = some d → ∃ v, vs[i]? = some v ∧ Rep K F d v
  | [], vs, i, d, h, e => by simp at e
  | c :: ds, vs, 0, d, h, e => by
    obtain ⟨v, r, rfl, h1, h2⟩ := h.cons_inv
    simp at e; subst e
    exact ⟨v, rfl, h1⟩
  | c :: ds, vs, i + 1, d, h, e => by
    obtain ⟨v, r, rfl, h1, h2⟩ := h.cons_inv
    obtain ⟨w, e1, e2⟩ := RepL.get (i := i) h2 (by simpa using e)
    exact ⟨w, by simpa using e1, e2⟩
theorem RepL.get' {K : PySem.W.Frag} {F : Hp} : ∀ {ds : List D} {vs : List V} {i : Nat} {v : V}, RepL K F ds vs → vs[i]? = some v → ∃ d, ds[i]? = some d ∧ Rep K F d v
  | [], vs, i, d, h, e => by unfold RepL at h; subst h; simp at e
  | c :: ds, vs, 0, w, h, e => by
    obtain ⟨v, r, rfl, h1, h2⟩ := h.cons_inv
    simp at e; subst e
    exact ⟨c, rfl, h1⟩
  | c :: ds, vs, i + 1, w, h, e => by
    obtain ⟨v, r, rfl, h1, h2⟩ := h.cons_inv
    obtain ⟨d, e1, e2⟩ := RepL.get' (i := i) h2 (by simpa using e)
    exact ⟨d, by simpa using e1, e2⟩
theorem RepL.append {K : PySem.W.Frag} {F : Hp} : ∀ {ds es : List D} {vs us : List V}, RepL K F ds vs → RepL K F es us → RepL K F (ds ++ es) (vs ++ us)
  | [], es, vs, us, h, g => by unfold RepL at h; subst h; exact g
  | d :: ds, es, vs, us, h, g => by
    obtain ⟨v, r, rfl, h1, h2⟩ := h.cons_inv
    exact RepL.cons h1 (RepL.append h2 g)
theorem RepL.take {K : PySem.W.Frag} {F : Hp} : ∀ {ds : List D} {vs : List V} (n : Nat), RepL K F ds vs → RepL K F (ds.take n) (vs.take n)
  | _, _, 0, _ => by simpa using RepL.nil
  | [], vs, n + 1, h => by unfold RepL at h; subst h; simpa using RepL.nil
  | d :: ds, vs, n + 1, h => by
    obtain ⟨v, r, rfl, h1, h2⟩ := h.cons_inv
    exact RepL.cons h1 (RepL.take n h2)
theorem RepL.drop {K : PySem.W.Frag} {F : Hp} : ∀ {ds : List D} {vs : List V} (n : Nat), RepL K F ds vs → RepL K F (ds.drop n) (vs.drop n)
  | _, _, 0, h => by simpa using h
  | [], vs, n + 1, h => by unfold RepL at h; subst h; simpa using RepL.nil
  | d :: ds, vs, n + 1, h => by
    obtain ⟨v, r, rfl, h1, h2⟩ := h.cons_inv
    simpa using RepL.drop n h2
theorem RepL.reverse {K : PySem.W.Frag} {F : Hp} : ∀ {ds : List D} {vs : List V}, RepL K F ds vs → RepL K F ds.reverse vs.reverse
  | [], vs, h => by unfold RepL at h; subst h; simpa using RepL.nil
  | d :: ds, vs, h => by
    obtain ⟨v, r, rfl, h1, h2⟩ := h.cons_inv
    simpa using RepL.append (RepL.reverse h2) (RepL.cons h1 RepL.nil)

/-! ### owned trees -/
mutual
/-- v is the tree t: its owned addresses are those of A -/
def Own (K : PySem.W.Frag) (F H : Hp) : OT → V → (Addr → Prop) → Prop
  | .un, _, A => ∀ b, ¬ A b
  | .fz d, v, A => Rep K F d v ∧ ∀ b, ¬ A b
  | .nd k cs, v, A => ∃ a vs B, v = .ref a ∧ NodeO H a vs k ∧ F a = none ∧ OwnL K F H cs vs B ∧ ¬ B a ∧ ∀ b, A b ↔ (b = a ∨ B b)
def OwnL (K : PySem.W.Frag) (F H : Hp) : List OT → List V → (Addr → Prop) → Prop
  | [], vs, A => vs = [] ∧ ∀ b, ¬ A b
  | c :: cs, vs, A => ∃ v r B1 B2, vs = v :: r ∧ Own K F H c v B1 ∧ OwnL K F H cs r B2 ∧ (∀ b, B1 b → B2 b → False) ∧ ∀ b, A b ↔ (B1 b ∨ B2 b)
end
mutual
theorem Own.free {K : PySem.W.Frag} {F H : Hp} : ∀ {t : OT} {v : V} {A : Addr → Prop}, Own K F H t v A → ∀ b, A b → F b = none ∧ ∃ o, H b = some o
  | .un, _, _, h, b, hb => by unfold Own at h; exact (h b hb).elim
  | .fz d, _, _, h, b, hb => by unfold Own at h; exact (h.2 b hb).elim
  | .nd k cs, v, A, h, b, hb => by
    unfold Own at h
    obtain ⟨a, vs, B, rfl, n, f, r, na, e⟩ := h
    rcases (e b).mp hb with rfl | hb
    · exact ⟨f, n.there⟩
    · exact OwnL.free r b hb
theorem OwnL.free {K : PySem.W.Frag} {F H : Hp} : ∀ {ts : List OT} {vs : List V} {A : Addr → Prop}, OwnL K F H ts vs A → ∀ b, A b → F b = none ∧ ∃ o, H b = some o
  | [], _, _, h, b, hb => by unfold OwnL at h; exact (h.2 b hb).elim
  | t :: ts, vs, A, h, b, hb => by
    unfold OwnL at h
    obtain ⟨v, r, B1, B2, rfl, h1, h2, _, e⟩ := h
    rcases (e b).mp hb with hb | hb
    · exact Own.free h1 b hb
    · exact OwnL.free h2 b hb
end
mutual
theorem Own.mono {K : PySem.W.Frag} {F H F' H' : Hp} (s : Same F F') : ∀ {t : OT} {v : V} {A : Addr → Prop}, Own K F H t v A → (∀ b, A b → F' b = none ∧ H' b = H b) → Own K F' H' t v A
  | .un, _, _, h, _ => by unfold Own at h ⊢; exact h
  | .fz d, _, _, h, _ => by unfold Own at h ⊢; exact ⟨h.1.mono s, h.2⟩
  | .nd k cs, v, A, h, g => by
    unfold Own at h ⊢
    obtain ⟨a, vs, B, rfl, n, f, r, na, e⟩ := h
    have ga := g a ((e a).mpr (.inl rfl))
    exact ⟨a, vs, B, rfl, n.at ga.2, ga.1, OwnL.mono s r fun b hb => g b ((e b).mpr (.inr hb)), na, e⟩
theorem OwnL.mono {K : PySem.W.Frag} {F H F' H' : Hp} (s : Same F F') : ∀ {ts : List OT} {vs : List V} {A : Addr → Prop}, OwnL K F H ts vs A → (∀ b, A b → F' b = none ∧ H' b = H b) → OwnL K F' H' ts vs A
  | [], _, _, h, _ => by unfold OwnL at h ⊢; exact h
  | t :: ts, vs, A, h, g => by
    unfold OwnL at h ⊢
    obtain ⟨v, r, B1, B2, rfl, h1, h2, d, e⟩ := h
    exact ⟨v, r, B1, B2, rfl, Own.mono s h1 fun b hb => g b ((e b).mpr (.inl hb)), OwnL.mono s h2 fun b hb => g b ((e b).mpr (.inr hb)), d, e⟩
end
theorem Own.iff {K : PySem.W.Frag} {F H : Hp} {t : OT} {v : V} {A A' : Addr → Prop} (h : Own K F H t v A) (e : ∀ b, A' b ↔ A b) : Own K F H t v A' := by
  have : A' = A := funext fun b => propext (e b)
  rw [this]; exact h
theorem OwnL.iff {K : PySem.W.Frag} {F H : Hp} {ts : List OT} {vs : List V} {A A' : Addr → Prop} (h : OwnL K F H ts vs A) (e : ∀ b, A' b ↔ A b) : OwnL K F H ts vs A' := by
  have : A' = A := funext fun b => propext (e b)
  rw [this]; exact h
theorem OwnL.len {K : PySem.W.Frag} {F H : Hp} : ∀ {ts : List OT} {vs : List V} {A : Addr → Prop}, OwnL K F H ts vs A → ts.length = vs.length
  | [], vs, A, h => by unfold OwnL at h; rw [h.1]; rfl
  | t :: ts, vs, A, h => by
    unfold OwnL at h
    obtain ⟨v, r, B1, B2, rfl, h1, h2, _, e⟩ := h
    simp [OwnL.len h2]
abbrev Nobody : Addr → Prop := fun _ => False
theorem Own.fz {K : PySem.W.Frag} {F H : Hp} {d : D} {v : V} (h : Rep K F d v) : Own K F H (.fz d) v Nobody := by
  unfold Own; exact ⟨h, fun _ z => z⟩
theorem OwnL.nil {K : PySem.W.Frag} {F H : Hp} : OwnL K F H [] [] Nobody := by unfold OwnL; exact ⟨rfl, fun _ z => z⟩
theorem OwnL.cons {K : PySem.W.Frag} {F H : Hp} {t : OT} {v : V} {ts : List OT} {vs : List V} {A B : Addr → Prop} (h : Own K F H t v A) (r : OwnL K F H ts vs B) (d : ∀ b, A b → B b → False) : OwnL K F H (t :: ts) (v :: vs) (fun b => A b ∨ B b) := by
  unfold OwnL; exact ⟨v, vs, A, B, rfl, h, r, d, fun _ => Iff.rfl⟩
theorem OwnL.cons_inv {K : PySem.W.Frag} {F H : Hp} {t : OT} {ts : List OT} {vs : List V} {A : Addr → Prop} (h : OwnL K F H (t :: ts) vs A) : ∃ v r B1 B2, vs = v :: r ∧ Own K F H t v B1 ∧ OwnL K F H ts r B2 ∧ (∀ b, B1 b → B2 b → False) ∧ ∀ b, A b ↔ (B1 b ∨ B2 b) := by
  unfold OwnL at h; exact h
/-- all frozen -/
theorem OwnL.fzs {K : PySem.W.Frag} {F H : Hp} : ∀ {ds : List D} {vs : List V}, RepL K F ds vs → OwnL K F H (ds.map .fz) vs Nobody
  | [], vs, h => by unfold RepL at h; subst h; exact OwnL.nil
  | d :: ds, vs, h => by
    obtain ⟨v, r, rfl, h1, h2⟩ := h.cons_inv
    exact (OwnL.cons (Own.fz h1) (OwnL.fzs h2) fun _ z _ => z).iff fun b => ⟨fun z => z.elim, fun z => z.elim id id⟩
/-- THE FOCUS: one tree of a list, and what may be put in its place -/
theorem OwnL.focus {K : PySem.W.Frag} {F H : Hp} : ∀ {ts : List OT} {vs : List V} {A : Addr → Prop} {i : Nat} {t : OT}, OwnL K F H ts vs A → ts[i]? = some t →
    ∃ (v : V) (B R : Addr → Prop), vs[i]? = some v ∧ Own K F H t v B ∧ (∀ b, B b → R b → False) ∧ (∀ b, A b ↔ (B b ∨ R b)) ∧
      ∀ (F' H' : Hp) (t' : OT) (v' : V) (B' : Addr → Prop), Same F F' → (∀ b, R b → F' b = none ∧ H' b = H b) → Own K F' H' t' v' B' → (∀ b, B' b → R b → False) →
        OwnL K F' H' (ts.set i t') (vs.set i v') (fun b => B' b ∨ R b)
  | [], vs, A, i, t, h, e => by simp at e
  | c :: cs, vs, A, 0, t, h, e => by
    obtain ⟨v, r, B1, B2, rfl, h1, h2, d, ea⟩ := h.cons_inv
    simp at e; subst e
    exact ⟨v, B1, B2, rfl, h1, d, ea, fun F' H' t' v' B' s g h' d' => OwnL.cons h' (OwnL.mono s h2 g) d'⟩
  | c :: cs, vs, A, i + 1, t, h, e => by
    obtain ⟨v, r, B1, B2, rfl, h1, h2, d, ea⟩ := h.cons_inv
    obtain ⟨w, B, R, ew, ow, dw, eb, put⟩ := OwnL.focus (i := i) h2 (by simpa using e)
    refine ⟨w, B, fun b => B1 b ∨ R b, by simpa using ew, ow, fun b hb hr => ?_, fun b => ?_, fun F' H' t' v' B' s g h' d' => ?_⟩
    · rcases hr with hr | hr
      · exact d b hr ((eb b).mpr (.inl hb))
      · exact dw b hb hr
    · rw [ea b, eb b]
      constructor
      · rintro (z | z | z)
        · exact .inr (.inl z)
        · exact .inl z
        · exact .inr (.inr z)
      · rintro (z | z | z)
        · exact .inr (.inl z)
        · exact .inl z
        · exact .inr (.inr z)
    · have p := put F' H' t' v' B' s (fun b hb => g b (.inr hb)) h' fun b hb hr => d' b hb (.inr hr)
      have q := OwnL.cons (Own.mono s h1 fun b hb => g b (.inl hb)) p fun b hb hr => by
        rcases hr with hr | hr
        · exact d' b hr (.inl hb)
        · exact d b hb ((eb b).mpr (.inr hr))
      refine OwnL.iff (A' := fun b => B' b ∨ (B1 b ∨ R b)) (by simpa using q) fun b => ?_
      constructor
      · rintro (z | z | z)
        · exact .inr (.inl z)
        · exact .inl z
        · exact .inr (.inr z)
      · rintro (z | z | z)
        · exact .inr (.inl z)
        · exact .inl z
        · exact .inr (.inr z)
theorem OwnL.append {K : PySem.W.Frag} {F H : Hp} : ∀ {ts us : List OT} {vs ws : List V} {A B : Addr → Prop}, OwnL K F H ts vs A → OwnL K F H us ws B → (∀ b, A b → B b → False) → OwnL K F H (ts ++ us) (vs ++ ws) (fun b => A b ∨ B b)
  | [], us, vs, ws, A, B, h, g, d => by
    unfold OwnL at h
    obtain ⟨rfl, na⟩ := h
    exact g.iff fun b => ⟨fun z => z.elim (fun z => (na b z).elim) id, .inr⟩
  | t :: ts, us, vs, ws, A, B, h, g, d => by
    obtain ⟨v, r, B1, B2, rfl, h1, h2, d1, ea⟩ := h.cons_inv
    have p := OwnL.append h2 g fun b z y => d b ((ea b).mpr (.inr z)) y
    refine (OwnL.cons h1 p fun b z y => ?_).iff fun b => ?_
    · rcases y with y | y
      · exact d1 b z y
      · exact d b ((ea b).mpr (.inl z)) y
    · rw [ea b, or_assoc]

/-! ### freezing -/
mutual
def OT.frz : OT → D
  | .un => .non
  | .fz d => d
  | .nd k cs => .nd k (OT.frzL cs)
def OT.frzL : List OT → List D
  | [] => []
  | c :: cs => OT.frz c :: OT.frzL cs
end
theorem OT.frzL_map : ∀ cs : List OT, OT.frzL cs = cs.map OT.frz
  | [] => by unfold OT.frzL; rfl
  | c :: cs => by unfold OT.frzL; rw [OT.frzL_map cs]; rfl
mutual
/-- no place without a value -/
def OT.whole : OT → Bool
  | .un => false
  | .fz _ => true
  | .nd _ cs => OT.wholeL cs
def OT.wholeL : List OT → Bool
  | [] => true
  | c :: cs => OT.whole c && OT.wholeL cs
end
open Classical in
/-- F, and H on A -/
noncomputable def Hp.plus (F H : Hp) (A : Addr → Prop) : Hp := fun b => if A b then H b else F b
theorem Hp.plus_in {F H : Hp} {A : Addr → Prop} {b : Addr} (h : A b) : Hp.plus F H A b = H b := by unfold Hp.plus; rw [if_pos h]
theorem Hp.plus_out {F H : Hp} {A : Addr → Prop} {b : Addr} (h : ¬ A b) : Hp.plus F H A b = F b := by unfold Hp.plus; rw [if_neg h]
theorem Hp.plus_same {F H : Hp} {A : Addr → Prop} (h : ∀ b, A b → F b = none) : Same F (Hp.plus F H A) := fun b o e => by
  rw [Hp.plus_out fun z => by rw [h b z] at e; cases e]; exact e
theorem Hp.plus_sub {F H : Hp} {A : Addr → Prop} (s : Same F H) : Same (Hp.plus F H A) H := fun b o e => by
  by_cases z : A b
  · rw [Hp.plus_in z] at e; exact e
  · rw [Hp.plus_out z] at e; exact s b o e
mutual
theorem Own.freeze {K : PySem.W.Frag} {F H G : Hp} (s : Same F G) : ∀ {t : OT} {v : V} {A : Addr → Prop}, Own K F H t v A → t.whole = true → (∀ b, A b → G b = H b) → Rep K G t.frz v
  | .un, _, _, h, w, _ => by unfold OT.whole at w; cases w
  | .fz d, _, _, h, _, _ => by unfold Own at h; unfold OT.frz; exact h.1.mono s
  | .nd k cs, v, A, h, w, g => by
    unfold Own at h
    obtain ⟨a, vs, B, rfl, n, f, r, na, e⟩ := h
    unfold OT.frz Rep
    exact ⟨a, vs, rfl, (n.at (g a ((e a).mpr (.inl rfl)))).f, OwnL.freeze s r (by unfold OT.whole at w; exact w) fun b hb => g b ((e b).mpr (.inr hb))⟩
theorem OwnL.freeze {K : PySem.W.Frag} {F H G : Hp} (s : Same F G) : ∀ {ts : List OT} {vs : List V} {A : Addr → Prop}, OwnL K F H ts vs A → OT.wholeL ts = true → (∀ b, A b → G b = H b) → RepL K G (OT.frzL ts) vs
  | [], _, _, h, _, _ => by unfold OwnL at h; unfold OT.frzL RepL; exact h.1
  | t :: ts, vs, A, h, w, g => by
    obtain ⟨v, r, B1, B2, rfl, h1, h2, d, e⟩ := h.cons_inv
    unfold OT.wholeL at w
    rw [Bool.and_eq_true] at w
    unfold OT.frzL
    exact RepL.cons (Own.freeze s h1 w.1 fun b hb => g b ((e b).mpr (.inl hb))) (OwnL.freeze s h2 w.2 fun b hb => g b ((e b).mpr (.inr hb)))
end

/-! ### views: what stands at a value now -/
mutual
def View (K : PySem.W.Frag) (F H : Hp) : OT → V → Prop
  | .un, _ => False
  | .fz d, v => Rep K F d v
  | .nd k cs, v => ∃ a vs, v = .ref a ∧ NodeO H a vs k ∧ ViewL K F H cs vs
def ViewL (K : PySem.W.Frag) (F H : Hp) : List OT → List V → Prop
  | [], vs => vs = []
  | c :: cs, vs => ∃ v r, vs = v :: r ∧ (c = .un ∨ View K F H c v) ∧ ViewL K F H cs r
end
mutual
theorem Own.view {K : PySem.W.Frag} {F H : Hp} : ∀ {t : OT} {v : V} {A : Addr → Prop}, Own K F H t v A → t = .un ∨ View K F H t v
  | .un, _, _, _ => .inl rfl
  | .fz d, _, _, h => by unfold Own at h; right; unfold View; exact h.1
  | .nd k cs, v, A, h => by
    unfold Own at h
    obtain ⟨a, vs, B, rfl, n, f, r, na, e⟩ := h
    right; unfold View
    exact ⟨a, vs, rfl, n, OwnL.view r⟩
theorem OwnL.view {K : PySem.W.Frag} {F H : Hp} : ∀ {ts : List OT} {vs : List V} {A : Addr → Prop}, OwnL K F H ts vs A → ViewL K F H ts vs
  | [], _, _, h => by unfold OwnL at h; unfold ViewL; exact h.1
  | t :: ts, vs, A, h => by
    obtain ⟨v, r, B1, B2, rfl, h1, h2, d, e⟩ := h.cons_inv
    unfold ViewL
    exact ⟨v, r, rfl, Own.view h1, OwnL.view h2⟩
end
mutual
/-- a view as data of the heap that is now -/
theorem View.rep {K : PySem.W.Frag} {F H : Hp} (s : Same F H) : ∀ {t : OT} {v : V}, View K F H t v → t.whole = true → Rep K H t.frz v
  | .un, _, h, _ => by unfold View at h; exact h.elim
  | .fz d, _, h, _ => by unfold View at h; unfold OT.frz; exact h.mono s
  | .nd k cs, v, h, w => by
    unfold View at h
    obtain ⟨a, vs, rfl, n, r⟩ := h
    unfold OT.frz Rep
    exact ⟨a, vs, rfl, n.f, ViewL.rep s r (by unfold OT.whole at w; exact w)⟩
theorem ViewL.rep {K : PySem.W.Frag} {F H : Hp} (s : Same F H) : ∀ {ts : List OT} {vs : List V}, ViewL K F H ts vs → OT.wholeL ts = true → RepL K H (OT.frzL ts) vs
  | [], _, h, _ => by unfold ViewL at h; unfold OT.frzL RepL; exact h
  | t :: ts, vs, h, w => by
    unfold ViewL at h
    obtain ⟨v, r, rfl, h1, h2⟩ := h
    unfold OT.wholeL at w
    rw [Bool.and_eq_true] at w
    unfold OT.frzL
    refine RepL.cons ?_ (ViewL.rep s h2 w.2)
    rcases h1 with rfl | h1
    · unfold OT.whole at w; cases w.1
    · exact View.rep s h1 w.1
end
theorem ViewL.get {K : PySem.W.Frag} {F H : Hp} : ∀ {ts : List OT} {vs : List V} {i : Nat} {t : OT}, ViewL K F H ts vs → ts[i]? = some t → ∃ v, vs[i]? = some v ∧ (t = .un ∨ View K F H t v)
  | [], vs, i, t, h, e => by simp at e
  | c :: cs, vs, 0, t, h, e => by
    unfold ViewL at h
    obtain ⟨v, r, rfl, h1, h2⟩ := h
    simp at e; subst e
    exact ⟨v, rfl, h1⟩
  | c :: cs, vs, i + 1, t, h, e => by
    unfold ViewL at h
    obtain ⟨v, r, rfl, h1, h2⟩ := h
    obtain ⟨w, e1, e2⟩ := ViewL.get (i := i) h2 (by simpa using e)
    exact ⟨w, by simpa using e1, e2⟩
theorem ViewL.len {K : PySem.W.Frag} {F H : Hp} : ∀ {ts : List OT} {vs : List V}, ViewL K F H ts vs → ts.length = vs.length
  | [], vs, h => by unfold ViewL at h; subst h; rfl
  | t :: ts, vs, h => by
    unfold ViewL at h
    obtain ⟨v, r, rfl, h1, h2⟩ := h
    simp [ViewL.len h2]

/-! ### steps from a state to a later one -/
/-- F: what is frozen; H: the heap; A: what is owned -/
structure Step (F H : Hp) (A : Addr → Prop) (F' H' : Hp) (A' : Addr → Prop) : Prop where
  fr : Same F F'
  keep : ∀ b o, H b = some o → ¬ A b → H' b = some o
  new : ∀ b, F' b ≠ none → F b ≠ none ∨ H b = none ∨ A b
  own : ∀ b, A' b → A b ∨ H b = none
theorem Step.refl {F H : Hp} {A : Addr → Prop} : Step F H A F H A := ⟨Same.refl F, fun _ _ h _ => h, fun _ h => .inl h, fun _ h => .inl h⟩
theorem Step.trans {F H F1 H1 F2 H2 : Hp} {A A1 A2 : Addr → Prop} (p : Step F H A F1 H1 A1) (q : Step F1 H1 A1 F2 H2 A2) : Step F H A F2 H2 A2 where
  fr := p.fr.trans q.fr
  keep := fun b o e na => q.keep b o (p.keep b o e na) fun z => by
    rcases p.own b z with z | z
    · exact na z
    · rw [e] at z; cases z
  new := fun b h => by
    cases e : H b with
    | none => exact .inr (.inl rfl)
    | some o =>
      by_cases ha : A b
      · exact .inr (.inr ha)
      · rcases q.new b h with z | z | z
        · rcases p.new b z with z | z | z
          · exact .inl z
          · rw [e] at z; cases z
          · exact (ha z).elim
        · rw [p.keep b o e ha] at z; cases z
        · rcases p.own b z with z | z
          · exact (ha z).elim
          · rw [e] at z; cases z
  own := fun b h => by
    cases e : H b with
    | none => exact .inr rfl
    | some o =>
      by_cases ha : A b
      · exact .inl ha
      · rcases q.own b h with z | z
        · rcases p.own b z with z | z
          · exact .inl z
          · rw [e] at z; cases z
        · rw [p.keep b o e ha] at z; cases z
/-- what is owned beside A is untouched by a step from A -/
theorem Step.beside {F H F' H' : Hp} {A A' B : Addr → Prop} (p : Step F H A F' H' A') (hB : ∀ b, B b → F b = none ∧ ∃ o, H b = some o) (d : ∀ b, B b → ¬ A b) : ∀ b, B b → (F' b = none ∧ H' b = H b) ∧ ¬ A' b := fun b hb => by
  obtain ⟨f, o, e⟩ := hB b hb
  refine ⟨⟨?_, (p.keep b o e (d b hb)).trans e.symm⟩, fun z => ?_⟩
  · cases q : F' b with
    | none => rfl
    | some u =>
      rcases p.new b (by rw [q]; simp) with z | z | z
      · exact (z f).elim
      · rw [e] at z; cases z
      · exact (d b hb z).elim
  · rcases p.own b z with z | z
    · exact d b hb z
    · rw [e] at z; cases z
theorem Own.step {K : PySem.W.Frag} {F H F' H' : Hp} {A A' B : Addr → Prop} {t : OT} {v : V} (h : Own K F H t v B) (p : Step F H A F' H' A') (d : ∀ b, B b → ¬ A b) : Own K F' H' t v B ∧ ∀ b, B b → ¬ A' b :=
  ⟨h.mono p.fr fun b hb => (p.beside h.free d b hb).1, fun b hb => (p.beside h.free d b hb).2⟩
theorem OwnL.step {K : PySem.W.Frag} {F H F' H' : Hp} {A A' B : Addr → Prop} {ts : List OT} {vs : List V} (h : OwnL K F H ts vs B) (p : Step F H A F' H' A') (d : ∀ b, B b → ¬ A b) : OwnL K F' H' ts vs B ∧ ∀ b, B b → ¬ A' b :=
  ⟨h.mono p.fr fun b hb => (p.beside h.free d b hb).1, fun b hb => (p.beside h.free d b hb).2⟩
/-- the step owned more: less may be forgotten at its end -/
theorem Step.less {F H F' H' : Hp} {A A' A2 : Addr → Prop} (p : Step F H A F' H' A') (h : ∀ b, A2 b → A' b) : Step F H A F' H' A2 := ⟨p.fr, p.keep, p.new, fun b z => p.own b (h b z)⟩
theorem Step.more {F H F' H' : Hp} {A A' B : Addr → Prop} (p : Step F H A F' H' A') (hB : ∀ b, B b → A b ∨ H b = none) : Step F H A F' H' (fun b => A' b ∨ B b) := ⟨p.fr, p.keep, p.new, fun b z => z.elim (p.own b) (hB b)⟩
/-- a step that owned less is one that owned more -/
theorem Step.from {F H F' H' : Hp} {A A' A2 : Addr → Prop} (p : Step F H A F' H' A') (h : ∀ b, A b → A2 b) : Step F H A2 F' H' A' :=
  ⟨p.fr, fun b o e n => p.keep b o e fun z => n (h b z), fun b z => (p.new b z).imp id fun z => z.imp id (h b), fun b z => (p.own b z).imp (h b) id⟩
end DL

/-! DL: states, judgements, the first rules. -/
namespace DL
open PySem PySem.Spec PyProof.Rows L2

/-- what a def's body starts from; pin: slots that stay -/
structure Bs where
  K : PySem.W.Frag
  F0 : Hp
  H0 : Hp
  A0 : Addr → Prop
  pin : List (Nat × V)
abbrev Env' := List OT
def vsOf (σ : L2.St) : List V := σ.map fun o => o.getD .non
structure SR (B : Bs) (F H : Hp) (A : Addr → Prop) (env : Env') (σ : L2.St) : Prop where
  own : OwnL B.K F H env (vsOf σ) A
  set : ∀ (i : Nat) (t : OT), env[i]? = some t → t = OT.un ∨ ∃ v : V, σ[i]? = some (some v)
  sub : Same F H
  base : Step B.F0 B.H0 B.A0 F H A
  pin : ∀ p ∈ B.pin, σ[p.1]? = some (some p.2)
section
variable {B : Bs} {F H F' H' : Hp} {A A' : Addr → Prop} {env : Env'} {σ : L2.St}
theorem vsOf_get {σ : L2.St} {i : Nat} {v : V} (h : σ[i]? = some (some v)) : (vsOf σ)[i]? = some v := by
  unfold vsOf
  rw [List.getElem?_map, h]; rfl
theorem vsOf_set (σ : L2.St) (i : Nat) (v : V) : vsOf (σ.set i (some v)) = (vsOf σ).set i v := by
  unfold vsOf
  rw [List.map_set]; rfl
theorem SR.free (S : SR B F H A env σ) : ∀ b, A b → F b = none ∧ ∃ o, H b = some o := S.own.free
/-- what stands in a slot -/
theorem SR.get (S : SR B F H A env σ) {i : Nat} {t : OT} (e : env[i]? = some t) (h : t ≠ .un) : ∃ v, σ[i]? = some (some v) ∧ View B.K F H t v := by
  rcases S.set i t e with z | ⟨v, ev⟩
  · exact (h z).elim
  · obtain ⟨w, e1, e2⟩ := S.own.view.get e
    rw [vsOf_get ev] at e1
    cases e1
    exact ⟨v, ev, e2.resolve_left h⟩
theorem SR.fz (S : SR B F H A env σ) {i : Nat} {d : D} (e : env[i]? = some (.fz d)) : ∃ v, σ[i]? = some (some v) ∧ Rep B.K F d v := by
  obtain ⟨v, h1, h2⟩ := S.get e (by intro z; cases z)
  unfold View at h2
  exact ⟨v, h1, h2⟩
theorem SR.len (S : SR B F H A env σ) : env.length = σ.length := by
  rw [S.own.len]; unfold vsOf; simp
theorem set_same {α : Type} : ∀ {l : List α} {i : Nat} {x : α}, l[i]? = some x → l.set i x = l
  | [], _, _, h => by simp at h
  | a :: r, 0, x, h => by simp at h; subst h; rfl
  | a :: r, i + 1, x, h => by simp only [List.set_cons_succ]; rw [set_same (by simpa using h)]
/-- the heap grows by what nobody knows -/
theorem SR.grow (S : SR B F H A env σ) (g : Same H H') : SR B F H' A env σ ∧ Step F H A F H' A := by
  have p : Step F H A F H' A := ⟨Same.refl F, fun b o e _ => g b o e, fun _ h => .inl h, fun _ h => .inl h⟩
  refine ⟨⟨S.own.mono (Same.refl F) fun b hb => ?_, S.set, S.sub.trans g, S.base.trans p, S.pin⟩, p⟩
  obtain ⟨f, o, e⟩ := S.free b hb
  exact ⟨f, (g b o e).trans e.symm⟩
theorem Same.upd {H : Hp} {p : Addr} {o : HO} (h : H p = none) : Same H (L2.upd H p o) := fun b x e => by
  rw [upd_ne (ne_of_none e h)]
  exact e
/-- frozen things are added -/
theorem SR.add (S : SR B F H A env σ) (f : Same F F') (g : Same H H') (s : Same F' H') (n : ∀ b, F' b ≠ none → F b ≠ none ∨ H b = none) : SR B F' H' A env σ ∧ Step F H A F' H' A := by
  have p : Step F H A F' H' A := ⟨f, fun b o e _ => g b o e, fun b h => (n b h).imp id .inl, fun _ h => .inl h⟩
  refine ⟨⟨S.own.mono f fun b hb => ?_, S.set, s, S.base.trans p, S.pin⟩, p⟩
  obtain ⟨f0, o, e⟩ := S.free b hb
  refine ⟨?_, (g b o e).trans e.symm⟩
  cases q : F' b with
  | none => rfl
  | some u =>
    rcases n b (by rw [q]; simp) with z | z
    · exact (z f0).elim
    · rw [e] at z; cases z
theorem SR.addp (S : SR B F H A env σ) {p : Addr} {o : HO} (hp : H p = none) : SR B (L2.upd F p o) (L2.upd H p o) A env σ ∧ Step F H A (L2.upd F p o) (L2.upd H p o) A := by
  have fp : F p = none := S.sub.free hp
  refine S.add (Same.upd fp) (Same.upd hp) (fun b x e => ?_) fun b h => ?_
  · by_cases z : b = p
    · subst z; rw [upd_same] at e ⊢; exact e
    · rw [upd_ne z] at e ⊢; exact S.sub _ _ e
  · by_cases z : b = p
    · subst z; exact .inr hp
    · rw [upd_ne z] at h; exact .inl h
/-- a slot is frozen -/
theorem SR.freeze (S : SR B F H A env σ) {i : Nat} {t : OT} (e : env[i]? = some t) (w : t.whole = true) :
    ∃ F' A' v, SR B F' H A' (env.set i (.fz t.frz)) σ ∧ Step F H A F' H A' ∧ σ[i]? = some (some v) ∧ Rep B.K F' t.frz v := by
  have hu : t ≠ .un := by intro z; subst z; unfold OT.whole at w; cases w
  obtain ⟨v, Bi, R, ev, ow, d, ea, put⟩ := S.own.focus e
  obtain ⟨v', ev', _⟩ := S.get e hu
  rw [vsOf_get ev'] at ev
  cases ev
  have hB : ∀ b, Bi b → F b = none := fun b hb => (ow.free b hb).1
  have s1 : Same F (Hp.plus F H Bi) := Hp.plus_same hB
  have r := ow.freeze s1 w fun b hb => Hp.plus_in hb
  have o2 := put (Hp.plus F H Bi) H (.fz t.frz) v Nobody s1 (fun b hb => ⟨by
    rw [Hp.plus_out fun z => d b z hb]
    exact (S.free b ((ea b).mpr (.inr hb))).1, rfl⟩) (Own.fz r) fun _ z => z.elim
  rw [set_same (vsOf_get ev')] at o2
  have p : Step F H A (Hp.plus F H Bi) H R := by
    refine ⟨s1, fun b o e _ => e, fun b h => ?_, fun b h => .inl ((ea b).mpr (.inr h))⟩
    by_cases z : Bi b
    · exact .inr (.inr ((ea b).mpr (.inl z)))
    · rw [Hp.plus_out z] at h; exact .inl h
  refine ⟨Hp.plus F H Bi, R, v, ⟨o2.iff fun b => ⟨.inr, fun z => z.elim (fun z => z.elim) id⟩, fun j t' ej => ?_, Hp.plus_sub S.sub, S.base.trans p, S.pin⟩, p, ev', r⟩
  by_cases hj : i = j
  · subst hj
    exact .inr ⟨v, ev'⟩
  · rw [List.getElem?_set_ne hj] at ej
    exact S.set j t' ej
/-- a slot's tree is taken out -/
theorem SR.move (S : SR B F H A env σ) {i : Nat} {t : OT} (e : env[i]? = some t) (hu : t ≠ .un) :
    ∃ A' C v, SR B F H A' (env.set i .un) σ ∧ Step F H A F H (fun b => A' b ∨ C b) ∧ σ[i]? = some (some v) ∧ Own B.K F H t v C ∧ ∀ b, C b → ¬ A' b := by
  obtain ⟨v, Bi, R, ev, ow, d, ea, put⟩ := S.own.focus e
  obtain ⟨v', ev', _⟩ := S.get e hu
  rw [vsOf_get ev'] at ev
  cases ev
  have o2 := put F H .un v Nobody (Same.refl F) (fun b hb => ⟨(S.free b ((ea b).mpr (.inr hb))).1, rfl⟩) (by unfold Own; exact fun _ z => z) fun _ z => z.elim
  rw [set_same (vsOf_get ev')] at o2
  have p : Step F H A F H (fun b => R b ∨ Bi b) := ⟨Same.refl F, fun b o e _ => e, fun b h => .inl h, fun b h => .inl ((ea b).mpr h.symm)⟩
  refine ⟨R, Bi, v, ⟨o2.iff fun b => ⟨.inr, fun z => z.elim (fun z => z.elim) id⟩, fun j t' ej => ?_, S.sub, S.base.trans (p.less fun b h => .inl h), S.pin⟩, p, ev', ow, fun b h1 h2 => d b h1 h2⟩
  by_cases hj : i = j
  · subst hj
    have : i < env.length := (List.getElem?_eq_some_iff.mp e).1
    rw [List.getElem?_set_self this] at ej
    exact .inl (Option.some.inj ej).symm
  · rw [List.getElem?_set_ne hj] at ej
    exact S.set j t' ej
/-- a value is put into a slot -/
theorem SR.put (S : SR B F H A env σ) {i : Nat} {t : OT} {v : V} {C : Addr → Prop} (hi : i < env.length) (ow : Own B.K F H t v C) (d : ∀ b, C b → ¬ A b) (hb : ∀ b, C b → B.A0 b ∨ B.H0 b = none) (hp : ∀ p ∈ B.pin, p.1 ≠ i) :
    ∃ A', SR B F H A' (env.set i t) (σ.set i (some v)) ∧ Step F H (fun b => A b ∨ C b) F H A' := by
  obtain ⟨t0, e⟩ : ∃ t0, env[i]? = some t0 := ⟨env[i], List.getElem?_eq_getElem hi⟩
  obtain ⟨v0, Bi, R, ev, ow0, d0, ea, put⟩ := S.own.focus e
  have o2 := put F H t v C (Same.refl F) (fun b hb => ⟨(S.free b ((ea b).mpr (.inr hb))).1, rfl⟩) ow fun b h1 h2 => d b h1 ((ea b).mpr (.inr h2))
  rw [← vsOf_set] at o2
  refine ⟨_, ⟨o2, fun j t' ej => ?_, S.sub, ⟨S.base.fr, S.base.keep, S.base.new, fun b h => ?_⟩, fun p hp' => ?_⟩, ⟨Same.refl F, fun b o e _ => e, fun b h => .inl h, fun b h => ?_⟩⟩
  · by_cases hj : i = j
    · subst hj
      exact .inr ⟨v, List.getElem?_set_self (by rw [← S.len]; exact hi)⟩
    · rw [List.getElem?_set_ne hj] at ej ⊢
      exact S.set j t' ej
  · rcases h with h | h
    · exact hb b h
    · exact S.base.own b ((ea b).mpr (.inr h))
  · rw [List.getElem?_set_ne (Ne.symm (hp p hp'))]
    exact S.pin p hp'
  · rcases h with h | h
    · exact .inl (.inr h)
    · exact .inl (.inl ((ea b).mpr (.inr h)))
/-- .. frozen data -/
theorem SR.putf (S : SR B F H A env σ) {i : Nat} {d : D} {v : V} (hi : i < env.length) (r : Rep B.K F d v) (hp : ∀ p ∈ B.pin, p.1 ≠ i) : ∃ A', SR B F H A' (env.set i (.fz d)) (σ.set i (some v)) ∧ Step F H A F H A' := by
  obtain ⟨A', S', p⟩ := S.put hi (Own.fz r) (fun _ z => z.elim) (fun _ z => z.elim) hp
  exact ⟨A', S', ⟨p.fr, fun b o e _ => e, fun b h => (p.new b h).imp id fun z => z.imp id fun z => z.elim id fun z => z.elim, fun b h => (p.own b h).imp (fun z => z.elim id fun z => z.elim) id⟩⟩
/-- a slot is forgotten -/
theorem SR.forget (S : SR B F H A env σ) {i : Nat} : ∃ A', SR B F H A' (env.set i .un) σ ∧ Step F H A F H A' := by
  by_cases hi : i < env.length
  · obtain ⟨t0, e⟩ : ∃ t0, env[i]? = some t0 := ⟨env[i], List.getElem?_eq_getElem hi⟩
    obtain ⟨v0, Bi, R, ev, ow0, d0, ea, put⟩ := S.own.focus e
    have o2 := put F H .un v0 Nobody (Same.refl F) (fun b hb => ⟨(S.free b ((ea b).mpr (.inr hb))).1, rfl⟩) (by unfold Own; exact fun _ z => z) fun _ z => z.elim
    rw [set_same ev] at o2
    have p : Step F H A F H R := ⟨Same.refl F, fun b o e _ => e, fun b h => .inl h, fun b h => .inl ((ea b).mpr (.inr h))⟩
    refine ⟨R, ⟨o2.iff fun b => ⟨.inr, fun z => z.elim (fun z => z.elim) id⟩, fun j t' ej => ?_, S.sub, S.base.trans p, S.pin⟩, p⟩
    by_cases hj : i = j
    · subst hj
      rw [List.getElem?_set_self hi] at ej
      exact .inl (Option.some.inj ej).symm
    · rw [List.getElem?_set_ne hj] at ej
      exact S.set j t' ej
  · rw [List.set_eq_of_length_le (Nat.le_of_not_lt hi)]
    exact ⟨A, S, Step.refl⟩
/-- a forgotten slot may hold anything -/
theorem SR.unset (S : SR B F H A env σ) {i : Nat} {o : Option V} (e : env[i]? = some .un ∨ env[i]? = none) (hp : ∀ p ∈ B.pin, p.1 ≠ i) : SR B F H A env (σ.set i o) := by
  rcases e with e | e
  · obtain ⟨v0, Bi, R, ev, ow0, d0, ea, put⟩ := S.own.focus e
    have o2 := put F H .un (o.getD .non) Nobody (Same.refl F) (fun b hb => ⟨(S.free b ((ea b).mpr (.inr hb))).1, rfl⟩) (by unfold Own; exact fun _ z => z) fun _ z => z.elim
    rw [set_same e] at o2
    have e2 : vsOf (σ.set i o) = (vsOf σ).set i (o.getD .non) := by unfold vsOf; rw [List.map_set]
    rw [← e2] at o2
    have nB : ∀ b, ¬ Bi b := by unfold Own at ow0; exact ow0
    refine ⟨o2.iff fun b => ⟨fun h => .inr (((ea b).mp h).resolve_left (nB b)), fun z => z.elim (fun z => z.elim) fun z => (ea b).mpr (.inr z)⟩, fun j t' ej => ?_, S.sub, S.base, fun p hp' => ?_⟩
    · by_cases hj : i = j
      · subst hj
        rw [e] at ej
        exact .inl (Option.some.inj ej).symm
      · rw [List.getElem?_set_ne hj]
        exact S.set j t' ej
    · rw [List.getElem?_set_ne (Ne.symm (hp p hp'))]
      exact S.pin p hp'
  · have : σ.length ≤ i := by rw [← S.len]; exact List.getElem?_eq_none_iff.mp e
    rw [List.set_eq_of_length_le this]
    exact S
/-- a fresh tree becomes frozen -/
theorem SR.freezeTmp (S : SR B F H A env σ) {t : OT} {v : V} {C : Addr → Prop} (ow : Own B.K F H t v C) (d : ∀ b, C b → ¬ A b) (hb : ∀ b, C b → B.A0 b ∨ B.H0 b = none) (w : t.whole = true) :
    ∃ F', SR B F' H A env σ ∧ Step F H (fun b => A b ∨ C b) F' H A ∧ Rep B.K F' t.frz v := by
  have hB : ∀ b, C b → F b = none := fun b hb => (ow.free b hb).1
  have s1 : Same F (Hp.plus F H C) := Hp.plus_same hB
  have r := ow.freeze s1 w fun b hb => Hp.plus_in hb
  have new : ∀ b, Hp.plus F H C b ≠ none → F b ≠ none ∨ C b := fun b h => by
    by_cases z : C b
    · exact .inr z
    · rw [Hp.plus_out z] at h; exact .inl h
  refine ⟨Hp.plus F H C, ⟨S.own.mono s1 fun b hb => ⟨?_, rfl⟩, S.set, Hp.plus_sub S.sub, ⟨S.base.fr.trans s1, S.base.keep, fun b h => ?_, S.base.own⟩, S.pin⟩, ⟨s1, fun b o e _ => e, fun b h => (new b h).imp id fun z => .inr (.inr z), fun b h => .inl (.inl h)⟩, r⟩
  · rw [Hp.plus_out fun z => d b z hb]
    exact (S.free b hb).1
  · rcases new b h with z | z
    · exact S.base.new b z
    · rcases hb b z with z | z
      · exact .inr (.inr z)
      · exact .inr (.inl z)
end

/-! ### the judgements -/
abbrev WE := Env' → (D → Env' → Prop) → Prop
abbrev WO := Env' → (OT → Env' → Prop) → Prop
abbrev WP := Env' → (OT → Prop) → Prop
abbrev WT := Env' → (Bool → Env' → Prop) → Prop
def rdE (B : Bs) (w : WE) : TE := fun σ H Q => ∃ F A env R, SR B F H A env σ ∧ w env R ∧ ∀ d env', R d env' → ∀ F' H' A' v, SR B F' H' A' env' σ → Step F H A F' H' A' → Rep B.K F' d v → Q v H'
def rdO (B : Bs) (w : WO) : TE := fun σ H Q => ∃ F A env R, SR B F H A env σ ∧ w env R ∧ ∀ t env', R t env' → ∀ F' H' A' C v, SR B F' H' A' env' σ → Step F H A F' H' (fun b => A' b ∨ C b) → Own B.K F' H' t v C → (∀ b, C b → ¬ A' b) → Q v H'
def rdP (B : Bs) (w : WP) : TE := fun σ H Q => ∃ F A env R, SR B F H A env σ ∧ w env R ∧ ∀ t, R t → ∀ v, View B.K F H t v → Q v H
def rdT (B : Bs) (w : WT) : TT := fun σ H Q => ∃ F A env R, SR B F H A env σ ∧ w env R ∧ ∀ b env', R b env' → ∀ F' H' A', SR B F' H' A' env' σ → Step F H A F' H' A' → Q b H'
structure DE (X : Cx) (B : Bs) (e : Expr) (w : WE) : Prop where
  pe : PE X e (rdE B w)
structure OE (X : Cx) (B : Bs) (e : Expr) (w : WO) : Prop where
  pe : PE X e (rdO B w)
structure PV (X : Cx) (B : Bs) (e : Expr) (w : WP) : Prop where
  pe : PE X e (rdP B w)
structure DT (X : Cx) (B : Bs) (e : Expr) (w : WT) : Prop where
  pt : PT X e (rdT B w)
theorem pe_imp {X : Cx} {e : Expr} {t t' : TE} (h : PE X e t) (i : ∀ σ H Q, t' σ H Q → t σ H Q) : PE X e t' := ⟨fun pins s σ H Q I q => h.run pins s σ H Q I (i σ H Q q)⟩
theorem pt_imp {X : Cx} {e : Expr} {t t' : TT} (h : PT X e t) (i : ∀ σ H Q, t' σ H Q → t σ H Q) : PT X e t' := ⟨fun pins s σ H Q I q => h.run pins s σ H Q I (i σ H Q q)⟩
theorem pw_imp {X : Cx} {e : Expr} {t t' : TT} (h : PW X e t) (i : ∀ σ H Q, t' σ H Q → t σ H Q) : PW X e t' := ⟨fun wh pins s σ H Q I q => h.run wh pins s σ H Q I (i σ H Q q)⟩
theorem ps_imp {X : Cx} {e : Stmt} {t t' : TS} (h : PS X e t) (i : ∀ D σ H, t' D σ H → t D σ H) : PS X e t' := ⟨fun pins s σ H D I q => h.run pins s σ H D I (i D σ H q)⟩
theorem pss_imp {X : Cx} {e : List Stmt} {t t' : TS} (h : PSs X e t) (i : ∀ D σ H, t' D σ H → t D σ H) : PSs X e t' := ⟨fun pins s σ H D I q => h.run pins s σ H D I (i D σ H q)⟩

section
variable {X : Cx} {B : Bs} {e a b : Expr} {pos : Pos}
/-! ### from one judgement to another -/
def wPE (w : WP) : WE := fun env Q => w env fun t => match t with
  | .fz d => Q d env
  | _ => False
theorem PV.de {w : WP} (h : PV X B e w) : DE X B e (wPE w) := ⟨pe_imp h.pe fun σ H Q ⟨F, A, env, R, S, hw, q⟩ => by
  refine ⟨F, A, env, _, S, hw, fun t ht v hv => ?_⟩
  cases t with
  | fz d =>
    unfold View at hv
    exact q d env ht F H A v S Step.refl hv
  | un => exact ht.elim
  | nd k cs => exact ht.elim⟩
/-- a fresh tree is frozen -/
def wOE (w : WO) : WE := fun env Q => w env fun t env' => t.whole = true ∧ Q t.frz env'
theorem Step.base_of {F H F' H' : Hp} {A C : Addr → Prop} {A' : Addr → Prop} {F0 H0 : Hp} {A0 : Addr → Prop} (p : Step F0 H0 A0 F H A) (q : Step F H A F' H' (fun b => A' b ∨ C b)) : ∀ b, C b → A0 b ∨ H0 b = none := fun b hb => (p.trans q).own b (.inr hb)
theorem OE.de {w : WO} (h : OE X B e w) : DE X B e (wOE w) := ⟨pe_imp h.pe fun σ H Q ⟨F, A, env, R, S, hw, q⟩ => by
  refine ⟨F, A, env, _, S, hw, fun t env' ht F' H' A' C v S' p ow d => ?_⟩
  obtain ⟨w1, r1⟩ := ht
  obtain ⟨F2, S2, p2, r2⟩ := S'.freezeTmp ow d (S.base.base_of p) w1
  exact q _ _ r1 F2 H' A' v S2 (p.trans p2) r2⟩
def wEO (w : WE) : WO := fun env Q => w env fun d env' => Q (.fz d) env'
theorem DE.oe {w : WE} (h : DE X B e w) : OE X B e (wEO w) := ⟨pe_imp h.pe fun σ H Q ⟨F, A, env, R, S, hw, q⟩ => by
  refine ⟨F, A, env, _, S, hw, fun d env' hd F' H' A' v S' p r => ?_⟩
  exact q (.fz d) env' hd F' H' A' Nobody v S' (p.more fun _ z => z.elim) (Own.fz r) (fun _ z => z.elim)⟩
/-- a bool, as a test -/
def wET (w : WE) : WT := fun env Q => w env fun d env' => match d with
  | .bl b => Q b env'
  | _ => False
theorem rdT_of {w : WE} {σ : L2.St} {H : Hp} {Q : Bool → Hp → Prop} (h : rdT B (wET w) σ H Q) : rdE B w σ H (fun x H' => ∃ k, x = .bl k ∧ Q k H') := by
  obtain ⟨F, A, env, R, S, hw, q⟩ := h
  refine ⟨F, A, env, _, S, hw, fun d env' hd F' H' A' v S' p r => ?_⟩
  cases d with
  | bl b => unfold Rep at r; exact ⟨b, r, q b env' hd F' H' A' S' p⟩
  | _ => exact hd.elim
theorem DE.dt {w : WE} (h : DE X B e w) (he : ∀ whole, isTrue e X.env whole = (do let v ← whole; standAt e.pos; holding [v] (truthy v)) := by intro _; rfl) : DT X B e (wET w) :=
  ⟨pt_imp (pt_val h.pe he) fun _ _ _ h => rdT_of h⟩

/-! ### names and constants -/
def wVar (i : Nat) : WP := fun env Q => match env[i]? with
  | some .un => False
  | some t => Q t
  | none => False
theorem pv_var (i : Nat) {x : Str} (hN : X.N[i]? = some x := by rfl) (hv : Vis X.env.scope x := by first | exact Or.inl rfl | exact Or.inr (Or.inl rfl) | exact Or.inr (Or.inr rfl)) (hd : (x == ("__debug__" : Str)) = false := by decide)
    (hcd : (x == ("__classdict__" : Str)) = false := by decide) : PV X B (.Name x pos) (wVar i) := ⟨pe_imp (pe_var hN hv hd hcd) fun σ H Q ⟨F, A, env, R, S, hw, q⟩ => by
  unfold wVar at hw
  cases e : env[i]? with
  | none => rw [e] at hw; exact hw.elim
  | some t =>
    rw [e] at hw
    have hu : t ≠ .un := by intro z; subst z; exact hw
    have hR : R t := by cases t with
      | un => exact hw.elim
      | fz d => exact hw
      | nd k cs => exact hw
    obtain ⟨v, ev, hv⟩ := S.get e hu
    exact ⟨v, ev, q t hR v hv⟩⟩
/-- read as data: one's own is frozen by it -/
def wVarF (i : Nat) : WE := fun env Q => match env[i]? with
  | some (.fz d) => Q d env
  | some (.nd k cs) => OT.whole (.nd k cs) = true ∧ Q (OT.frz (.nd k cs)) (env.set i (.fz (OT.frz (.nd k cs))))
  | _ => False
theorem de_var (i : Nat) {x : Str} (hN : X.N[i]? = some x := by rfl) (hv : Vis X.env.scope x := by first | exact Or.inl rfl | exact Or.inr (Or.inl rfl) | exact Or.inr (Or.inr rfl)) (hd : (x == ("__debug__" : Str)) = false := by decide)
    (hcd : (x == ("__classdict__" : Str)) = false := by decide) : DE X B (.Name x pos) (wVarF i) := ⟨pe_imp (pe_var hN hv hd hcd) fun σ H Q ⟨F, A, env, R, S, hw, q⟩ => by
  unfold wVarF at hw
  cases e : env[i]? with
  | none => rw [e] at hw; exact hw.elim
  | some t =>
    rw [e] at hw
    cases t with
    | un => exact hw.elim
    | fz d =>
      obtain ⟨v, ev, r⟩ := S.fz e
      exact ⟨v, ev, q d env hw F H A v S Step.refl r⟩
    | nd k cs =>
      obtain ⟨w1, hw⟩ := hw
      obtain ⟨F', A', v, S', p, ev, r⟩ := S.freeze e w1
      exact ⟨v, ev, q _ _ hw F' H A' v S' p r⟩⟩
/-- taken out of its slot -/
def wMove (i : Nat) : WO := fun env Q => match env[i]? with
  | some (.fz d) => Q (.fz d) env
  | some (.nd k cs) => Q (.nd k cs) (env.set i .un)
  | _ => False
theorem oe_move (i : Nat) {x : Str} (hN : X.N[i]? = some x := by rfl) (hv : Vis X.env.scope x := by first | exact Or.inl rfl | exact Or.inr (Or.inl rfl) | exact Or.inr (Or.inr rfl)) (hd : (x == ("__debug__" : Str)) = false := by decide)
    (hcd : (x == ("__classdict__" : Str)) = false := by decide) : OE X B (.Name x pos) (wMove i) := ⟨pe_imp (pe_var hN hv hd hcd) fun σ H Q ⟨F, A, env, R, S, hw, q⟩ => by
  unfold wMove at hw
  cases e : env[i]? with
  | none => rw [e] at hw; exact hw.elim
  | some t =>
    rw [e] at hw
    cases t with
    | un => exact hw.elim
    | fz d =>
      obtain ⟨v, ev, r⟩ := S.fz e
      exact ⟨v, ev, q _ env hw F H A Nobody v S (Step.refl.more fun _ z => z.elim) (Own.fz r) (fun _ z => z.elim)⟩
    | nd k cs =>
      obtain ⟨A', C, v, S', p, ev, ow, d⟩ := S.move e (by intro z; cases z)
      exact ⟨v, ev, q _ _ hw F H A' C v S' p ow d⟩⟩
/-- a constant -/
def wC (d : D) : WP := fun _ Q => Q (.fz d)
theorem pv_c {v : V} {d : D} (h : PE X e (tC v)) (r : ∀ (K : PySem.W.Frag) (F : Hp), Rep K F d v) : PV X B e (wC d) := ⟨pe_imp h fun σ H Q ⟨F, A, env, R, S, hw, q⟩ => q _ hw v (by unfold View; exact r _ _)⟩
theorem pv_int {i : Int} {j} : PV X B (.Constant (.int i) j pos) (wC (.int i)) := pv_c pe_int fun _ _ => by unfold Rep; rfl
theorem pv_bl {i : Bool} {j} : PV X B (.Constant (.bool i) j pos) (wC (.bl i)) := pv_c pe_bl fun _ _ => by unfold Rep; rfl
theorem pv_non {j} : PV X B (.Constant .none j pos) (wC .non) := pv_c pe_non fun _ _ => by unfold Rep; rfl
theorem pv_str {i : Str} {j} : PV X B (.Constant (.str i) j pos) (wC (.str i)) := pv_c pe_str fun _ _ => by unfold Rep; rfl
theorem pv_gint {x : Str} {i : Int} (hg : Gl X x) (hm : ∃ t, X.mg x = some (.int i t)) (hd : (x == ("__debug__" : Str)) = false := by decide) : PV X B (.Name x pos) (wC (.int i)) := by
  obtain ⟨t, hm⟩ := hm
  exact pv_c (v := .int i) (pe_glob hg hm ⟨t, rfl⟩ hd) fun _ _ => by unfold Rep; rfl
theorem pv_gstr {x : Str} {i : Str} (hg : Gl X x) (hm : ∃ t, X.mg x = some (.str i t)) (hd : (x == ("__debug__" : Str)) = false := by decide) : PV X B (.Name x pos) (wC (.str i)) := by
  obtain ⟨t, hm⟩ := hm
  exact pv_c (v := .str i) (pe_glob hg hm ⟨t, rfl⟩ hd) fun _ _ => by unfold Rep; rfl
theorem pv_gref {x : Str} {a : Addr} (hg : Gl X x) (hm : X.mg x = some (.ref a)) (hd : (x == ("__debug__" : Str)) = false := by decide) : PV X B (.Name x pos) (wC (.adr a)) :=
  pv_c (v := .ref a) (pe_glob hg hm rfl hd) fun _ _ => by unfold Rep; rfl
theorem pv_ty {x : Str} {n : String} (hg : Gl X x) (hm : X.mg x = none) (hv : bootBuiltins x = some (.type n)) (hn : x ≠ "__name__" := by decide) (hd : (x == ("__debug__" : Str)) = false := by decide) : PV X B (.Name x pos) (wC (.ty n)) :=
  pv_c (v := .ty n) (pe_bltn hg hm hv rfl hn hd) fun _ _ => by unfold Rep; rfl

/-! ### one look into a tree -/
/-- its own node, if it is one -/
def OT.out : OT → OT
  | .fz (.nd k cs) => .nd k (cs.map .fz)
  | t => t
theorem ViewL.fzs {K : PySem.W.Frag} {F H : Hp} : ∀ {ds : List D} {vs : List V}, RepL K F ds vs → ViewL K F H (ds.map .fz) vs
  | [], vs, h => by unfold RepL at h; unfold List.map ViewL; exact h
  | d :: ds, vs, h => by
    obtain ⟨v, r, rfl, h1, h2⟩ := h.cons_inv
    rw [List.map_cons]; unfold ViewL
    exact ⟨v, r, rfl, .inr (by unfold View; exact h1), ViewL.fzs h2⟩
theorem View.out {K : PySem.W.Frag} {F H : Hp} (s : Same F H) {t : OT} {v : V} {k : NK} {cs : List OT} (h : View K F H t v) (e : t.out = .nd k cs) : ∃ a vs, v = .ref a ∧ NodeF K H a vs k ∧ ViewL K F H cs vs := by
  cases t with
  | un => unfold View at h; exact h.elim
  | fz d =>
    cases d with
    | nd k' ds =>
      have e' : OT.nd k' (ds.map .fz) = .nd k cs := e
      injection e' with e1 e2
      subst e1 e2
      unfold View Rep at h
      obtain ⟨a, vs, rfl, n, r⟩ := h
      exact ⟨a, vs, rfl, n.mono s, ViewL.fzs r⟩
    | _ => cases (show OT.fz _ = OT.nd k cs from e)
  | nd k' cs' =>
    have e' : OT.nd k' cs' = .nd k cs := e
    injection e' with e1 e2
    subst e1 e2
    unfold View at h
    obtain ⟨a, vs, rfl, n, r⟩ := h
    exact ⟨a, vs, rfl, n.f, r⟩
theorem View.sc {K : PySem.W.Frag} {F H : Hp} {t : OT} {v : V} {d : D} (h : View K F H t v) (e : t.out = .fz d) : Rep K F d v := by
  cases t with
  | un => cases (show OT.un = OT.fz d from e)
  | fz d' =>
    unfold View at h
    cases d' with
    | nd k' ds => cases (show OT.nd k' (ds.map .fz) = OT.fz d from e)
    | _ => cases (show OT.fz _ = OT.fz d from e); exact h
  | nd k' cs' => cases (show OT.nd k' cs' = OT.fz d from e)

/-! ### operators by values -/
abbrev G2 := OT → OT → (OT → Prop) → Prop
abbrev GN := List OT → (OT → Prop) → Prop
/-- what a made value is to be: new, one's own, the heap grown by it -/
def NewV (K : PySem.W.Frag) (F H : Hp) (Q : VK) (t : OT) : Prop := ∀ (F' H' : Hp) (C : Addr → Prop) (v : V), Same F F' → Same H H' → Same F' H' → (∀ b, F' b ≠ none → F b ≠ none ∨ H b = none) → Own K F' H' t v C → (∀ b, C b → H b = none) → Q v H'
def Op2 (K : PySem.W.Frag) (r : R2) (g : G2) : Prop := ∀ (F H : Hp) (x y : V) (tx ty : OT) (R : OT → Prop) (Q : VK), Same F H → View K F H tx x → View K F H ty y → g tx ty R → (∀ t, R t → NewV K F H Q t) → r x y H Q
def OpN (K : PySem.W.Frag) (r : List V → Hp → VK → Prop) (g : GN) : Prop := ∀ (F H : Hp) (xs : List V) (ts : List OT) (R : OT → Prop) (Q : VK), Same F H → ViewL K F H ts xs → g ts R → (∀ t, R t → NewV K F H Q t) → r xs H Q
theorem NewV.fz {K : PySem.W.Frag} {F H : Hp} {Q : VK} {d : D} {v : V} (h : NewV K F H Q (.fz d)) (s : Same F H) (r : Rep K F d v) : Q v H := h F H Nobody v (Same.refl F) (Same.refl H) s (fun _ z => .inl z) (Own.fz r) fun _ z => z.elim
theorem SR.newV {F H : Hp} {A : Addr → Prop} {env : Env'} {σ : L2.St} {Q : VK} {t : OT} (S : SR B F H A env σ)
    (q : ∀ (F' H' : Hp) (A' C : Addr → Prop) (v : V), SR B F' H' A' env σ → Step F H A F' H' (fun b => A' b ∨ C b) → Own B.K F' H' t v C → (∀ b, C b → ¬ A' b) → Q v H') : NewV B.K F H Q t := fun F' H' C v f g s n ow hC => by
  obtain ⟨S', p⟩ := S.add f g s n
  exact q F' H' A C v S' (p.more fun b z => .inr (hC b z)) ow fun b hb ha => by
    obtain ⟨_, o, e⟩ := S.free b ha
    rw [hC b hb] at e; cases e
/-- both operands looked at -/
def wOp2 (g : G2) (wa wb : WP) : WO := fun env Q => wa env fun ta => wb env fun tb => g ta tb fun t => Q t env
theorem oe_op2 {r : R2} {g : G2} {wa wb : WP} (ho : Op2 B.K r g) (h : PE X e (tOp r (rdP B wa) (rdP B wb))) : OE X B e (wOp2 g wa wb) := ⟨pe_imp h fun σ H Q ⟨F, A, env, R, S, hw, q⟩ => by
  refine ⟨F, A, env, _, S, hw, fun ta h1 x vx => ?_⟩
  refine ⟨F, A, env, _, S, h1, fun tb h2 y vy => ?_⟩
  exact ho F H x y ta tb _ Q S.sub vx vy h2 fun t ht => S.newV fun F' H' A' C v S' p ow d => q t env ht F' H' A' C v S' p ow d⟩
/-- both operands as data, from the left -/
def wOp2E (g : G2) (wa wb : WE) : WO := fun env Q => wa env fun da e1 => wb e1 fun db e2 => g (.fz da) (.fz db) fun t => Q t e2
theorem oe_op2E {r : R2} {g : G2} {wa wb : WE} (ho : Op2 B.K r g) (h : PE X e (tOp r (rdE B wa) (rdE B wb))) : OE X B e (wOp2E g wa wb) := ⟨pe_imp h fun σ H Q ⟨F, A, env, R, S, hw, q⟩ => by
  refine ⟨F, A, env, _, S, hw, fun da e1 h1 F1 H1 A1 x S1 p1 r1 => ?_⟩
  refine ⟨F1, A1, e1, _, S1, h1, fun db e2 h2 F2 H2 A2 y S2 p2 r2 => ?_⟩
  exact ho F2 H2 x y (.fz da) (.fz db) _ Q S2.sub (by unfold View; exact r1.mono p2.fr) (by unfold View; exact r2) h2 fun t ht => S2.newV fun F' H' A' C v S' p ow d => q t e2 ht F' H' A' C v S' ((p1.trans p2).trans p) ow d⟩
end
end DL

/-! DL: operators, calls of built-ins, subscripts. -/
namespace DL
open PySem PySem.Spec PyProof.Rows L2

/-! ### flat views -/
def OT.dsOf : List OT → Option (List D)
  | [] => some []
  | .fz d :: r => (OT.dsOf r).map (d :: ·)
  | _ :: _ => none
/-- data, or an object of one's own that holds data -/
def OT.flat : OT → Option D
  | .fz d => some d
  | .nd k cs => (OT.dsOf cs).map (.nd k ·)
  | .un => none
theorem OT.dsOf_fz : ∀ ds : List D, OT.dsOf (ds.map .fz) = some ds
  | [] => rfl
  | d :: ds => by rw [List.map_cons]; unfold OT.dsOf; rw [OT.dsOf_fz ds]; rfl
theorem OT.flat_fz (d : D) : (OT.fz d).flat = some d := rfl
theorem OT.flat_nd (k : NK) (ds : List D) : (OT.nd k (ds.map .fz)).flat = some (.nd k ds) := by
  show (OT.dsOf (ds.map .fz)).map (D.nd k ·) = _
  rw [OT.dsOf_fz]; rfl
theorem OT.whole_fz (d : D) : (OT.fz d).whole = true := by unfold OT.whole; rfl
theorem OT.wholeL_fz : ∀ ds : List D, OT.wholeL (ds.map .fz) = true
  | [] => by unfold List.map OT.wholeL; rfl
  | d :: ds => by rw [List.map_cons]; unfold OT.wholeL; rw [OT.whole_fz, OT.wholeL_fz ds]; rfl
theorem OT.whole_nd (k : NK) (ds : List D) : (OT.nd k (ds.map .fz)).whole = true := by unfold OT.whole; exact OT.wholeL_fz ds
theorem OT.whole_nd' (k : NK) (cs : List OT) : (OT.nd k cs).whole = OT.wholeL cs := by unfold OT.whole; rfl
theorem OT.wholeL_nil : OT.wholeL [] = true := by unfold OT.wholeL; rfl
theorem OT.wholeL_cons (c : OT) (cs : List OT) : OT.wholeL (c :: cs) = (OT.whole c && OT.wholeL cs) := by rw [OT.wholeL]
theorem OT.frz_fz (d : D) : (OT.fz d).frz = d := by unfold OT.frz; rfl
theorem OT.frz_nd' (k : NK) (cs : List OT) : (OT.nd k cs).frz = .nd k (cs.map OT.frz) := by unfold OT.frz; rw [OT.frzL_map]
theorem OT.frz_nd (k : NK) (ds : List D) : (OT.nd k (ds.map .fz)).frz = .nd k ds := by
  rw [OT.frz_nd', List.map_map]
  congr 1
  have : (OT.frz ∘ OT.fz) = id := funext fun d => OT.frz_fz d
  rw [this]; simp
/-- a value that can be read as the data d: its own node in H, what it holds in F -/
def RdD (K : PySem.W.Frag) (F H : Hp) : D → V → Prop
  | .nd k ds, v => ∃ a vs, v = .ref a ∧ NodeF K H a vs k ∧ RepL K F ds vs
  | d, v => Rep K F d v
theorem Rep.rdD {K : PySem.W.Frag} {F H : Hp} (s : Same F H) {d : D} {v : V} (h : Rep K F d v) : RdD K F H d v := by
  cases d with
  | nd k ds =>
    unfold Rep at h
    obtain ⟨a, vs, e, n, r⟩ := h
    exact ⟨a, vs, e, n.mono s, r⟩
  | _ => exact h
theorem RepL.ofView {K : PySem.W.Frag} {F H : Hp} : ∀ {ts : List OT} {ds : List D} {vs : List V}, ViewL K F H ts vs → OT.dsOf ts = some ds → RepL K F ds vs
  | [], ds, vs, h, e => by
    cases (show some [] = some ds from e)
    unfold ViewL at h; subst h; exact RepL.nil
  | t :: ts, ds, vs, h, e => by
    unfold ViewL at h
    obtain ⟨v, r, rfl, h1, h2⟩ := h
    cases t with
    | fz d =>
      unfold OT.dsOf at e
      obtain ⟨ds', e1, rfl⟩ := Option.map_eq_some_iff.mp e
      rcases h1 with h1 | h1
      · cases h1
      · unfold View at h1
        exact RepL.cons h1 (RepL.ofView h2 e1)
    | un => cases (show (none : Option (List D)) = some ds from e)
    | nd k cs => cases (show (none : Option (List D)) = some ds from e)
theorem View.rdD {K : PySem.W.Frag} {F H : Hp} (s : Same F H) {t : OT} {v : V} {d : D} (h : View K F H t v) (e : t.flat = some d) : RdD K F H d v := by
  cases t with
  | un => cases (show (none : Option D) = some d from e)
  | fz d' =>
    cases (show some d' = some d from e)
    unfold View at h
    exact h.rdD s
  | nd k cs =>
    unfold OT.flat at e
    obtain ⟨ds, e1, rfl⟩ := Option.map_eq_some_iff.mp e
    unfold View at h
    obtain ⟨a, vs, rfl, n, r⟩ := h
    exact ⟨a, vs, rfl, n.f, RepL.ofView r e1⟩
section
variable {K : PySem.W.Frag} {F H : Hp} {v : V}
theorem RdD.int {i : Int} (h : RdD K F H (.int i) v) : v = .int i := by unfold RdD Rep at h; exact h
theorem RdD.str {i : Str} (h : RdD K F H (.str i) v) : v = .str i := by unfold RdD Rep at h; exact h
theorem RdD.bl {i : Bool} (h : RdD K F H (.bl i) v) : v = .bl i := by unfold RdD Rep at h; exact h
theorem RdD.non (h : RdD K F H .non v) : v = .non := by unfold RdD Rep at h; exact h
theorem RdD.lst {ds : List D} (h : RdD K F H (.nd .lst ds) v) : ∃ a vs, v = .ref a ∧ H a = some (.lst vs) ∧ RepL K F ds vs := h
theorem RdD.tup {ds : List D} (h : RdD K F H (.nd .tup ds) v) : ∃ a vs, v = .ref a ∧ SqT K H a vs ∧ RepL K F ds vs := h
end

/-! ### operators over data -/
abbrev GD2 := D → D → (OT → Prop) → Prop
abbrev GDN := List D → (OT → Prop) → Prop
def OpD2 (K : PySem.W.Frag) (r : R2) (g : GD2) : Prop := ∀ (F H : Hp) (x y : V) (dx dy : D) (R : OT → Prop) (Q : VK), Same F H → RdD K F H dx x → RdD K F H dy y → g dx dy R → (∀ t, R t → NewV K F H Q t) → r x y H Q
def liftG (g : GD2) : G2 := fun tx ty R => match tx.flat, ty.flat with
  | some dx, some dy => g dx dy R
  | _, _ => False
theorem OpD2.lift {K : PySem.W.Frag} {r : R2} {g : GD2} (h : OpD2 K r g) : Op2 K r (liftG g) := fun F H x y tx ty R Q s vx vy hg q => by
  unfold liftG at hg
  cases ex : tx.flat with
  | none => rw [ex] at hg; exact hg.elim
  | some dx =>
    cases ey : ty.flat with
    | none => rw [ex, ey] at hg; exact hg.elim
    | some dy =>
      rw [ex, ey] at hg
      exact h F H x y dx dy R Q s (vx.rdD s ex) (vy.rdD s ey) hg q
def flats : List OT → Option (List D)
  | [] => some []
  | t :: r => match t.flat, flats r with
    | some d, some ds => some (d :: ds)
    | _, _ => none
def RdDs (K : PySem.W.Frag) (F H : Hp) : List D → List V → Prop
  | [], vs => vs = []
  | d :: ds, vs => ∃ v r, vs = v :: r ∧ RdD K F H d v ∧ RdDs K F H ds r
def OpDN (K : PySem.W.Frag) (r : List V → Hp → VK → Prop) (g : GDN) : Prop := ∀ (F H : Hp) (xs : List V) (ds : List D) (R : OT → Prop) (Q : VK), Same F H → RdDs K F H ds xs → g ds R → (∀ t, R t → NewV K F H Q t) → r xs H Q
def liftN (g : GDN) : GN := fun ts R => match flats ts with
  | some ds => g ds R
  | none => False
theorem ViewL.rdDs {K : PySem.W.Frag} {F H : Hp} (s : Same F H) : ∀ {ts : List OT} {vs : List V} {ds : List D}, ViewL K F H ts vs → flats ts = some ds → RdDs K F H ds vs
  | [], vs, ds, h, e => by
    cases (show some [] = some ds from e)
    unfold ViewL at h; exact h
  | t :: ts, vs, ds, h, e => by
    unfold ViewL at h
    obtain ⟨v, r, rfl, h1, h2⟩ := h
    unfold flats at e
    cases ex : t.flat with
    | none => rw [ex] at e; cases e
    | some d =>
      cases er : flats ts with
      | none => rw [ex, er] at e; cases e
      | some ds' =>
        rw [ex, er] at e
        cases e
        rcases h1 with rfl | h1
        · cases ex
        · exact ⟨v, r, rfl, h1.rdD s ex, ViewL.rdDs s h2 er⟩
theorem OpDN.lift {K : PySem.W.Frag} {r : List V → Hp → VK → Prop} {g : GDN} (h : OpDN K r g) : OpN K r (liftN g) := fun F H xs ts R Q s vx hg q => by
  unfold liftN at hg
  cases e : flats ts with
  | none => rw [e] at hg; exact hg.elim
  | some ds => rw [e] at hg; exact h F H xs ds R Q s (vx.rdDs s e) hg q
theorem RdDs.one {K : PySem.W.Frag} {F H : Hp} {d : D} {xs : List V} (h : RdDs K F H [d] xs) : ∃ v, xs = [v] ∧ RdD K F H d v := by
  obtain ⟨v, r, rfl, h1, h2⟩ := h
  cases h2
  exact ⟨v, rfl, h1⟩
theorem RdDs.two {K : PySem.W.Frag} {F H : Hp} {d e : D} {xs : List V} (h : RdDs K F H [d, e] xs) : ∃ v w, xs = [v, w] ∧ RdD K F H d v ∧ RdD K F H e w := by
  obtain ⟨v, r, rfl, h1, h2⟩ := h
  obtain ⟨w, e2, h3⟩ := RdDs.one h2
  subst e2
  exact ⟨v, w, rfl, h1, h3⟩
/-- a scalar answer -/
theorem NewV.sc {K : PySem.W.Frag} {F H : Hp} {Q : VK} {d : D} {v : V} (h : NewV K F H Q (.fz d)) (s : Same F H) (r : ∀ K F, Rep K F d v) : Q v H := h.fz s (r K F)
/-- a new list, a new tuple -/
theorem NewV.lst {K : PySem.W.Frag} {F H : Hp} {Q : VK} {ds : List D} {vs : List V} (h : NewV K F H Q (.nd .lst (ds.map .fz))) (s : Same F H) (r : RepL K F ds vs) {p : Addr} (hp : H p = none) : Q (.ref p) (L2.upd H p (.lst vs)) := by
  refine h F _ (fun b => b = p) _ (Same.refl F) (Same.upd hp) (s.trans (Same.upd hp)) (fun _ z => .inl z) ?_ fun b e => by rw [e]; exact hp
  unfold Own
  exact ⟨p, vs, Nobody, rfl, upd_same, s.free hp, OwnL.fzs r, fun z => z, fun b => ⟨.inl, fun z => z.elim id fun z => z.elim⟩⟩
theorem NewV.tup {K : PySem.W.Frag} {F H : Hp} {Q : VK} {ds : List D} {vs : List V} (h : NewV K F H Q (.fz (.nd .tup ds))) (s : Same F H) (r : RepL K F ds vs) {p : Addr} (hp : H p = none) : Q (.ref p) (L2.upd H p (.tup vs)) := by
  have fp := s.free hp
  refine h (L2.upd F p (.tup vs)) _ Nobody _ (Same.upd fp) (Same.upd hp) (fun b x e => ?_) (fun b z => ?_) (Own.fz ?_) fun _ z => z.elim
  · by_cases z : b = p
    · subst z; rw [upd_same] at e ⊢; exact e
    · rw [upd_ne z] at e ⊢; exact s _ _ e
  · by_cases e : b = p
    · subst e; exact .inr hp
    · rw [upd_ne e] at z; exact .inl z
  · unfold Rep
    exact ⟨p, vs, rfl, SqT.of upd_same, r.mono (Same.upd fp)⟩

section
variable {X : Cx} {B : Bs} {e a b : Expr} {pos : Pos} {K : PySem.W.Frag}
/-! arithmetic -/
def gInt (C : Int → Int → Prop) (f : Int → Int → Int) : GD2 := fun x y R => match x, y with
  | .int i, .int j => C i j ∧ R (.fz (.int (f i j)))
  | _, _ => False
theorem op_gInt {C : Int → Int → Prop} {f : Int → Int → Int} : OpD2 K (rI C fun i j => .int (f i j)) (gInt C f) := fun F H x y dx dy R Q s hx hy hg q => by
  unfold gInt at hg
  split at hg
  · obtain ⟨c, hg⟩ := hg
    exact ⟨_, _, hx.int, hy.int, c, (q _ hg).sc s fun _ _ => by unfold Rep; rfl⟩
  · exact hg.elim
def gSub : GD2 := fun x y R => match x, y with
  | .int i, .int j => R (.fz (.int (i - j)))
  | _, _ => False
theorem op_gSub : OpD2 K (rI0 fun i j => .int (i - j)) gSub := fun F H x y dx dy R Q s hx hy hg q => by
  unfold gSub at hg
  split at hg
  · exact ⟨_, _, hx.int, hy.int, (q _ hg).sc s fun _ _ => by unfold Rep; rfl⟩
  · exact hg.elim
/-- both frozen -/
def OpF2 (K : PySem.W.Frag) (r : R2) (g : GD2) : Prop := ∀ (F H : Hp) (x y : V) (dx dy : D) (R : OT → Prop) (Q : VK), Same F H → Rep K F dx x → Rep K F dy y → g dx dy R → (∀ t, R t → NewV K F H Q t) → r x y H Q
theorem OpD2.f {r : R2} {g : GD2} (h : OpD2 K r g) : OpF2 K r g := fun F H x y dx dy R Q s hx hy => h F H x y dx dy R Q s (hx.rdD s) (hy.rdD s)
def wBin (g : GD2) (wa wb : WE) : WO := fun env Q => wa env fun da e1 => wb e1 fun db e2 => g da db fun t => Q t e2
theorem oe_bin {r : R2} {g : GD2} {wa wb : WE} (ho : OpF2 B.K r g) (h : PE X e (tOp r (rdE B wa) (rdE B wb))) : OE X B e (wBin g wa wb) := ⟨pe_imp h fun σ H Q ⟨F, A, env, R, S, hw, q⟩ => by
  refine ⟨F, A, env, _, S, hw, fun da e1 h1 F1 H1 A1 x S1 p1 r1 => ?_⟩
  refine ⟨F1, A1, e1, _, S1, h1, fun db e2 h2 F2 H2 A2 y S2 p2 r2 => ?_⟩
  exact ho F2 H2 x y da db _ Q S2.sub (r1.mono p2.fr) r2 h2 fun t ht => S2.newV fun F' H' A' C v S' p ow d => q t e2 ht F' H' A' C v S' ((p1.trans p2).trans p) ow d⟩
def rAddAll (K : PySem.W.Frag) : R2 := fun x y H Q => (rI0 (fun i j => .int (i + j)) x y H Q) ∨ (∃ i j, x = .str i ∧ y = .str j ∧ i.length + j.length ≤ sizeLine ∧ Q (.str (i ++ j)) H) ∨ rCat x y H Q ∨ rCatA K x y H Q
theorem op_addAll : OpR X (binaryOp .Add) (rAddAll X.K) := (op_add).or ((op_add_str).or ((op_cat).or op_catA))
def gAdd : GD2 := fun x y R => match x, y with
  | .int i, .int j => R (.fz (.int (i + j)))
  | .str i, .str j => i.length + j.length ≤ sizeLine ∧ R (.fz (.str (i ++ j)))
  | .nd .lst xs, .nd .lst ys => xs.length + ys.length ≤ sizeLine ∧ R (.nd .lst ((xs ++ ys).map .fz))
  | .nd .tup xs, .nd .tup ys => xs.length + ys.length ≤ sizeLine ∧ R (.fz (.nd .tup (xs ++ ys)))
  | _, _ => False
theorem RepL.nil_iff {F : Hp} {ds : List D} {vs : List V} (r : RepL K F ds vs) : vs = [] ↔ ds = [] := by
  cases ds with
  | nil => unfold RepL at r; simp [r]
  | cons d ds => obtain ⟨v, r', rfl, _, _⟩ := r.cons_inv; simp
theorem op_gAdd : OpF2 K (rAddAll K) gAdd := fun F H x y dx dy R Q s hx hy hg q => by
  unfold gAdd at hg
  split at hg
  · exact .inl ⟨_, _, (hx.rdD s).int, (hy.rdD s).int, (q _ hg).sc s fun _ _ => by unfold Rep; rfl⟩
  · exact .inr (.inl ⟨_, _, (hx.rdD s).str, (hy.rdD s).str, hg.1, (q _ hg.2).sc s fun _ _ => by unfold Rep; rfl⟩)
  · obtain ⟨a, vs, rfl, n1, r1⟩ := (hx.rdD s).lst
    obtain ⟨b, us, rfl, n2, r2⟩ := (hy.rdD s).lst
    exact .inr (.inr (.inl ⟨a, b, vs, us, rfl, rfl, n1, n2, by rw [← r1.len, ← r2.len]; exact hg.1, fun p hp => (q _ hg.2).lst s (r1.append r2) hp⟩))
  · have h0 := q _ hg.2
    obtain ⟨a, vs, rfl, n1, r1⟩ := (hx.rdD s).tup
    obtain ⟨b, us, rfl, n2, r2⟩ := (hy.rdD s).tup
    refine .inr (.inr (.inr ⟨a, b, vs, us, rfl, rfl, n1, n2, by rw [← r1.len, ← r2.len]; exact hg.1, fun e => ?_, fun _ e => ?_, fun _ _ p hp => h0.tup s (r1.append r2) hp⟩))
    · rw [r1.nil_iff.mp e, List.nil_append] at h0
      exact h0.fz s hy
    · rw [r2.nil_iff.mp e, List.append_nil] at h0
      exact h0.fz s hx
  · exact hg.elim
/-- * : two ints of together less than 2^27 bits, a list times an int -/
def CMulB (i j : Int) : Prop := i.natAbs.log2 + j.natAbs.log2 < 100000000
theorem CMulB.ok {i j : Int} (h : CMulB i j) : IntMulOk i j := by
  have b : ∀ x : Int, Builtin.Int.intBits x ≤ x.natAbs.log2 + 1 := fun x => by
    unfold Builtin.Int.intBits
    split <;> omega
  have h1 := b i
  have h2 := b j
  have h3 : i.natAbs.log2 + j.natAbs.log2 < 100000000 := h
  have e : bitsLine = 134217728 := by decide
  unfold IntMulOk
  intro z
  rw [Bool.and_eq_true] at z
  have z2 := z.2
  unfold Builtin.Int.intTooBig at z2
  have z3 := of_decide_eq_true z2
  rw [e] at z3
  omega
theorem op_mulB : OpR X (binaryOp .Mult) (rI CMulB fun i j => .int (i * j)) := opI fun _ _ _ _ _ _ _ hc q => mul_int q hc.ok
def rMulAll : R2 := fun x y H Q => (rI CMulB (fun i j => .int (i * j)) x y H Q) ∨ rRep x y H Q
theorem op_mulAll : OpR X (binaryOp .Mult) rMulAll := (op_mulB).or op_rep
def gMul : GD2 := fun x y R => match x, y with
  | .int i, .int j => CMulB i j ∧ R (.fz (.int (i * j)))
  | .nd .lst xs, .int k => (-(2 ^ 63) ≤ k ∧ k < 2 ^ 63 ∧ xs.length * k.toNat ≤ sizeLine) ∧ R (.nd .lst ((List.replicate k.toNat xs).flatten.map .fz))
  | _, _ => False
theorem RepL.rep {F : Hp} {ds : List D} {vs : List V} (r : RepL K F ds vs) : ∀ n, RepL K F (List.replicate n ds).flatten (List.replicate n vs).flatten
  | 0 => RepL.nil
  | n + 1 => by
    rw [List.replicate_succ, List.replicate_succ, List.flatten_cons, List.flatten_cons]
    exact r.append (RepL.rep r n)
theorem op_gMul : OpD2 K rMulAll gMul := fun F H x y dx dy R Q s hx hy hg q => by
  unfold gMul at hg
  split at hg
  · exact .inl ⟨_, _, hx.int, hy.int, hg.1, (q _ hg.2).sc s fun _ _ => by unfold Rep; rfl⟩
  · obtain ⟨a, vs, rfl, n1, r1⟩ := hx.lst
    exact .inr ⟨a, _, vs, rfl, hy.int, n1, hg.1.1, hg.1.2.1, by rw [← r1.len]; exact hg.1.2.2, fun p hp => (q _ hg.2).lst s (r1.rep _) hp⟩
  · exact hg.elim
/-- ** of great numbers -/
def CPowB (i j : Int) : Prop := 0 ≤ j ∧ (i.natAbs.log2 + 1 : Int) * j ≤ 100000000
theorem op_powB : OpR X (binaryOp .Pow) (rI CPowB fun i j => .int (i ^ j.toNat)) := opI fun i j _ _ _ _ _ hc q => by
  obtain ⟨h0, h1⟩ := hc
  refine pow_int h0 (Int.le_trans ?_ (Int.le_trans h1 (by decide))) q
  have b : Builtin.Int.intBits i ≤ i.natAbs.log2 + 1 := by
    unfold Builtin.Int.intBits
    split <;> omega
  exact Int.mul_le_mul_of_nonneg_right (by omega) h0
abbrev gPow : GD2 := gInt CPowB fun i j => i ^ j.toNat
abbrev gMod : GD2 := gInt (fun _ j => 0 < j) fun i j => i % j
/-- // by a positive number of less than 9000 bits -/
abbrev gDiv : GD2 := gInt CDivW fun i j => i / j
theorem op_gMod : OpD2 K (rI (fun _ j => 0 < j) fun i j => .int (i % j)) gMod := op_gInt
theorem op_gDiv : OpD2 K (rI CDivW fun i j => .int (i / j)) gDiv := op_gInt
theorem op_gPow : OpD2 K (rI CPowB fun i j => .int (i ^ j.toNat)) gPow := op_gInt
theorem de_add {wa wb : WE} (hK : B.K = X.K) (ha : DE X B a wa) (hb : DE X B b wb) : OE X B (.BinOp a .Add b pos) (wBin gAdd wa wb) := oe_bin (op_gAdd (K := B.K)) (by rw [hK]; exact pe_op op_addAll ha.pe hb.pe)
theorem de_sub {wa wb : WE} (ha : DE X B a wa) (hb : DE X B b wb) : OE X B (.BinOp a .Sub b pos) (wBin gSub wa wb) := oe_bin op_gSub.f (pe_op op_sub ha.pe hb.pe)
theorem de_mul {wa wb : WE} (ha : DE X B a wa) (hb : DE X B b wb) : OE X B (.BinOp a .Mult b pos) (wBin gMul wa wb) := oe_bin op_gMul.f (pe_op op_mulAll ha.pe hb.pe)
theorem de_mod {wa wb : WE} (ha : DE X B a wa) (hb : DE X B b wb) : OE X B (.BinOp a .Mod b pos) (wBin gMod wa wb) := oe_bin op_gMod.f (pe_op op_mod ha.pe hb.pe)
theorem de_div {wa wb : WE} (ha : DE X B a wa) (hb : DE X B b wb) : OE X B (.BinOp a .FloorDiv b pos) (wBin gDiv wa wb) := oe_bin op_gDiv.f (pe_op op_fdivW ha.pe hb.pe)
theorem de_pow {wa wb : WE} (ha : DE X B a wa) (hb : DE X B b wb) : OE X B (.BinOp a .Pow b pos) (wBin gPow wa wb) := oe_bin op_gPow.f (pe_op op_powB ha.pe hb.pe)
end
end DL

/-! DL: comparisons, subscripts, len, isinstance, displays. -/
namespace DL
open PySem PySem.Spec PyProof.Rows L2

/-! ### == over data -/
mutual
def D.py : D → PyData
  | .non => .none
  | .bl b => .bool b
  | .int i => .int i
  | .str x => .str x
  | .nd .lst cs => .list (D.pyL cs)
  | .nd .tup cs => .tuple (D.pyL cs)
  | _ => .dict []
def D.pyL : List D → List PyData
  | [] => []
  | c :: cs => D.py c :: D.pyL cs
end
mutual
/-- == may be asked of it -/
def D.ok : D → Bool
  | .non => true
  | .bl _ => true
  | .int _ => true
  | .str x => PyData.strOk x
  | .nd .lst cs => D.okL cs
  | .nd .tup cs => D.okL cs
  | _ => false
def D.okL : List D → Bool
  | [] => true
  | c :: cs => D.ok c && D.okL cs
end
def D.shaped (d : D) : Bool := d.ok && decide (d.py.depth ≤ 64)
def D.eqv (d e : D) : Bool := PyData.eqv d.py e.py
def D.eqvL (ds es : List D) : Bool := PyData.eqvAll (D.pyL ds) (D.pyL es)
mutual
theorem D.canLay : ∀ {d : D}, d.ok = true → d.py.canLay0 = true
  | .non, _ => by unfold D.py PyData.canLay0; rfl
  | .bl _, _ => by unfold D.py PyData.canLay0; rfl
  | .int _, _ => by unfold D.py PyData.canLay0; rfl
  | .str x, h => by unfold D.ok at h; unfold D.py PyData.canLay0; exact h
  | .nd .lst cs, h => by unfold D.ok at h; unfold D.py PyData.canLay0; exact D.canLayL h
  | .nd .tup cs, h => by unfold D.ok at h; unfold D.py PyData.canLay0; exact D.canLayL h
  | .nd .scr cs, h => by unfold D.ok at h; cases h
  | .nd (.dic _) cs, h => by unfold D.ok at h; cases h
  | .nd (.dit _) cs, h => by unfold D.ok at h; cases h
  | .nd (.ins _ _) cs, h => by unfold D.ok at h; cases h
  | .ty _, h => by unfold D.ok at h; cases h
  | .adr _, h => by unfold D.ok at h; cases h
theorem D.canLayL : ∀ {ds : List D}, D.okL ds = true → PyData.canLayAll0 (D.pyL ds) = true
  | [], _ => by unfold D.pyL PyData.canLayAll0; rfl
  | d :: ds, h => by
    unfold D.okL at h
    rw [Bool.and_eq_true] at h
    unfold D.pyL PyData.canLayAll0
    rw [D.canLay h.1, D.canLayL h.2]; rfl
end
theorem D.shaped_py {d : D} (h : d.shaped = true) : SeqAt.shaped d.py = true := by
  unfold D.shaped at h
  rw [Bool.and_eq_true] at h
  unfold SeqAt.shaped
  rw [D.canLay h.1, h.2]; rfl
mutual
theorem Rep.dp {K : PySem.W.Frag} {F : Hp} : ∀ {d : D} {v : V}, Rep K F d v → d.ok = true → Dp K F v d.py
  | .non, v, h, _ => by unfold Rep at h; subst h; unfold D.py; exact .non
  | .bl b, v, h, _ => by unfold Rep at h; subst h; unfold D.py; exact .bl b
  | .int i, v, h, _ => by unfold Rep at h; subst h; unfold D.py; exact .int i
  | .str x, v, h, _ => by unfold Rep at h; subst h; unfold D.py; exact .str x
  | .nd .lst cs, v, h, o => by
    unfold Rep at h
    obtain ⟨a, vs, rfl, n, r⟩ := h
    unfold D.ok at o; unfold D.py
    exact .lst (SqL.of n) (RepL.dp r o)
  | .nd .tup cs, v, h, o => by
    unfold Rep at h
    obtain ⟨a, vs, rfl, n, r⟩ := h
    unfold D.ok at o; unfold D.py
    exact .tup n (RepL.dp r o)
  | .nd .scr cs, _, _, h => by unfold D.ok at h; cases h
  | .nd (.dic _) cs, _, _, h => by unfold D.ok at h; cases h
  | .nd (.dit _) cs, _, _, h => by unfold D.ok at h; cases h
  | .nd (.ins _ _) cs, _, _, h => by unfold D.ok at h; cases h
  | .ty _, _, _, h => by unfold D.ok at h; cases h
  | .adr _, _, _, h => by unfold D.ok at h; cases h
theorem RepL.dp {K : PySem.W.Frag} {F : Hp} : ∀ {ds : List D} {vs : List V}, RepL K F ds vs → D.okL ds = true → DpAll K F vs (D.pyL ds)
  | [], vs, h, _ => by unfold RepL at h; subst h; unfold D.pyL; exact .nil
  | d :: ds, vs, h, o => by
    obtain ⟨v, r, rfl, h1, h2⟩ := h.cons_inv
    unfold D.okL at o
    rw [Bool.and_eq_true] at o
    unfold D.pyL
    exact .cons (Rep.dp h1 o.1) (RepL.dp h2 o.2)
end
theorem RdD.dp {K : PySem.W.Frag} {F H : Hp} (s : Same F H) {d : D} {v : V} (h : RdD K F H d v) (o : d.ok = true) : Dp K H v d.py := by
  cases d with
  | nd k ds =>
    obtain ⟨a, vs, rfl, n, r⟩ := h
    have r' := r.mono s
    cases k with
    | lst => unfold D.ok at o; unfold D.py; exact .lst (SqL.of n) (r'.dp o)
    | tup => unfold D.ok at o; unfold D.py; exact .tup n (r'.dp o)
    | _ => unfold D.ok at o; cases o
  | _ =>
    refine Rep.dp (Rep.mono s ?_) o
    exact h

/-! ### operators with a scalar answer -/
abbrev GS2 := D → D → (D → Prop) → Prop
def OpS2 (K : PySem.W.Frag) (r : R2) (g : GS2) : Prop := ∀ (F H : Hp) (x y : V) (dx dy : D) (R : D → Prop) (Q : VK), Same F H → RdD K F H dx x → RdD K F H dy y → g dx dy R → (∀ d v, R d → (∀ K F, Rep K F d v) → Q v H) → r x y H Q
section
variable {X : Cx} {B : Bs} {e a b c : Expr} {pos : Pos} {K : PySem.W.Frag}
/-- both looked at -/
def wS (g : GS2) (wa wb : WP) : WP := fun env Q => wa env fun ta => wb env fun tb => match ta.flat, tb.flat with
  | some da, some db => g da db fun d => Q (.fz d)
  | _, _ => False
theorem im_s {r : R2} {g : GS2} {wa wb : WP} (ho : OpS2 B.K r g) {σ : L2.St} {H : Hp} {Q : VK} (h : rdP B (wS g wa wb) σ H Q) : tOp r (rdP B wa) (rdP B wb) σ H Q := by
  obtain ⟨F, A, env, R, S, hw, q⟩ := h
  refine ⟨F, A, env, _, S, hw, fun ta h1 x vx => ?_⟩
  refine ⟨F, A, env, _, S, h1, fun tb h2 y vy => ?_⟩
  cases ex : ta.flat with
  | none => rw [ex] at h2; exact h2.elim
  | some da =>
    cases ey : tb.flat with
    | none => rw [ex, ey] at h2; exact h2.elim
    | some db =>
      rw [ex, ey] at h2
      exact ho F H x y da db _ Q S.sub (vx.rdD S.sub ex) (vy.rdD S.sub ey) h2 fun d v hd hv => q _ hd v (by unfold View; exact hv _ _)
/-- both as data -/
def wSE (g : GS2) (wa wb : WE) : WE := fun env Q => wa env fun da e1 => wb e1 fun db e2 => g da db fun d => Q d e2
theorem im_sE {r : R2} {g : GS2} {wa wb : WE} (ho : OpS2 B.K r g) {σ : L2.St} {H : Hp} {Q : VK} (h : rdE B (wSE g wa wb) σ H Q) : tOp r (rdE B wa) (rdE B wb) σ H Q := by
  obtain ⟨F, A, env, R, S, hw, q⟩ := h
  refine ⟨F, A, env, _, S, hw, fun da e1 h1 F1 H1 A1 x S1 p1 r1 => ?_⟩
  refine ⟨F1, A1, e1, _, S1, h1, fun db e2 h2 F2 H2 A2 y S2 p2 r2 => ?_⟩
  exact ho F2 H2 x y da db _ Q S2.sub ((r1.mono p2.fr).rdD S2.sub) (r2.rdD S2.sub) h2 fun d v hd hv => q d e2 hd F2 H2 A2 v S2 (p1.trans p2) (hv _ _)
/-- the left one a name, looked at late -/
def wSV (i : Nat) (g : GS2) (wb : WE) : WE := fun env Q => (∃ t, env[i]? = some t ∧ t ≠ .un) ∧ wb env fun db e2 => match e2[i]? with
  | some t => (match t.flat with
    | some da => g da db fun d => Q d e2
    | none => False)
  | none => False
theorem im_sv {i : Nat} {r : R2} {g : GS2} {wb : WE} (ho : OpS2 B.K r g) {σ : L2.St} {H : Hp} {Q : VK} (h : rdE B (wSV i g wb) σ H Q) : tOp r (tVar i) (rdE B wb) σ H Q := by
  obtain ⟨F, A, env, R, S, hw, q⟩ := h
  obtain ⟨⟨t, et, hu⟩, hw⟩ := hw
  obtain ⟨x, ex, _⟩ := S.get et hu
  refine ⟨x, ex, F, A, env, _, S, hw, fun db e2 h2 F2 H2 A2 y S2 p2 r2 => ?_⟩
  cases e2i : e2[i]? with
  | none => rw [e2i] at h2; exact h2.elim
  | some t2 =>
    rw [e2i] at h2
    dsimp only at h2
    cases ef : t2.flat with
    | none => rw [ef] at h2; exact h2.elim
    | some da =>
      rw [ef] at h2
      obtain ⟨x2, ex2, vx⟩ := S2.get e2i (by intro z; subst z; cases ef)
      rw [ex] at ex2
      cases ex2
      exact ho F2 H2 x y da db _ Q S2.sub (vx.rdD S2.sub ef) (r2.rdD S2.sub) h2 fun d v hd hv => q d e2 hd F2 H2 A2 v S2 p2 (hv _ _)
theorem im_PE {w : WP} {σ : L2.St} {H : Hp} {Q : VK} (h : rdE B (wPE w) σ H Q) : rdP B w σ H Q := by
  obtain ⟨F, A, env, R, S, hw, q⟩ := h
  refine ⟨F, A, env, _, S, hw, fun t ht v hv => ?_⟩
  cases t with
  | fz d =>
    unfold View at hv
    exact q d env ht F H A v S Step.refl hv
  | un => exact ht.elim
  | nd k cs => exact ht.elim
/-- ints compared -/
def gCmp (p : Int → Int → Bool) : GS2 := fun x y R => match x, y with
  | .int i, .int j => R (.bl (p i j))
  | _, _ => False
theorem op_gCmp {p : Int → Int → Bool} : OpS2 K (rI0 fun i j => .bl (p i j)) (gCmp p) := fun F H x y dx dy R Q s hx hy hg q => by
  unfold gCmp at hg
  split at hg
  · exact ⟨_, _, hx.int, hy.int, q _ _ hg fun _ _ => by unfold Rep; rfl⟩
  · exact hg.elim
def gEq : GS2 := fun x y R => x.shaped = true ∧ y.shaped = true ∧ R (.bl (x.eqv y))
def gNe : GS2 := fun x y R => x.shaped = true ∧ y.shaped = true ∧ R (.bl (!x.eqv y))
theorem op_gEq : OpS2 K (rEqD K) gEq := fun F H x y dx dy R Q s hx hy hg q => by
  obtain ⟨h1, h2, hg⟩ := hg
  have o1 : dx.ok = true := by unfold D.shaped at h1; rw [Bool.and_eq_true] at h1; exact h1.1
  have o2 : dy.ok = true := by unfold D.shaped at h2; rw [Bool.and_eq_true] at h2; exact h2.1
  exact ⟨_, _, hx.dp s o1, hy.dp s o2, D.shaped_py h1, D.shaped_py h2, q _ _ hg fun _ _ => by unfold Rep; rfl⟩
theorem op_gNe : OpS2 K (rNeD K) gNe := fun F H x y dx dy R Q s hx hy hg q => by
  obtain ⟨h1, h2, hg⟩ := hg
  have o1 : dx.ok = true := by unfold D.shaped at h1; rw [Bool.and_eq_true] at h1; exact h1.1
  have o2 : dy.ok = true := by unfold D.shaped at h2; rw [Bool.and_eq_true] at h2; exact h2.1
  exact ⟨_, _, hx.dp s o1, hy.dp s o2, D.shaped_py h1, D.shaped_py h2, q _ _ hg fun _ _ => by unfold Rep; rfl⟩
/-- is None -/
def D.isNon : D → Bool
  | .non => true
  | _ => false
theorem RdD.isNon {F H : Hp} {d : D} {v : V} (h : RdD K F H d v) : decide (v = .non) = d.isNon := by
  cases d with
  | non => rw [h.non]; rfl
  | nd k ds => obtain ⟨a, vs, rfl, _⟩ := h; rfl
  | _ => unfold RdD Rep at h; rw [h]; rfl
def gIsN : GS2 := fun x y R => y.isNon = true ∧ R (.bl x.isNon)
def gNotN : GS2 := fun x y R => y.isNon = true ∧ R (.bl (!x.isNon))
theorem op_gIsN : OpS2 K (fun x y H Q => y = .non ∧ Q (.bl (decide (x = .non))) H) gIsN := fun F H x y dx dy R Q s hx hy hg q => by
  obtain ⟨h1, hg⟩ := hg
  refine ⟨of_decide_eq_true (hy.isNon.trans h1), ?_⟩
  rw [hx.isNon]
  exact q _ _ hg fun _ _ => by unfold Rep; rfl
theorem op_gNotN : OpS2 K (fun x y H Q => y = .non ∧ Q (.bl (!decide (x = .non))) H) gNotN := fun F H x y dx dy R Q s hx hy hg q => by
  obtain ⟨h1, hg⟩ := hg
  refine ⟨of_decide_eq_true (hy.isNon.trans h1), ?_⟩
  rw [hx.isNon]
  exact q _ _ hg fun _ _ => by unfold Rep; rfl
/-- is, is not, of bools -/
def gIsB : GS2 := fun x y R => match x, y with
  | .bl a, .bl b => R (.bl (decide (a = b)))
  | _, _ => False
def gNotB : GS2 := fun x y R => match x, y with
  | .bl a, .bl b => R (.bl (!decide (a = b)))
  | _, _ => False
theorem op_gIsB : OpS2 K rIsB gIsB := fun F H x y dx dy R Q s hx hy hg q => by
  unfold gIsB at hg
  split at hg
  · rename_i a b
    unfold RdD Rep at hx hy
    exact ⟨a, b, hx, hy, q _ _ hg fun _ _ => by unfold Rep; rfl⟩
  · exact hg.elim
theorem op_gNotB : OpS2 K rNotB gNotB := fun F H x y dx dy R Q s hx hy hg q => by
  unfold gNotB at hg
  split at hg
  · rename_i a b
    unfold RdD Rep at hx hy
    exact ⟨a, b, hx, hy, q _ _ hg fun _ _ => by unfold Rep; rfl⟩
  · exact hg.elim
/-- in, not in: flat items -/
def D.flatD : D → Bool
  | .non => true
  | .bl _ => true
  | .int _ => true
  | .str _ => true
  | _ => false
def D.eq1 : D → D → Bool
  | .non, .non => true
  | .bl a, .bl b => a == b
  | .bl a, .int b => (if a then 1 else 0) == b
  | .int a, .bl b => a == (if b then 1 else 0)
  | .int a, .int b => a == b
  | .str a, .str b => a == b
  | _, _ => false
theorem Rep.flatV {F : Hp} {d : D} {v : V} (h : Rep K F d v) (f : d.flatD = true) : L2.flatV v = true := by
  cases d with
  | nd _ _ => cases f
  | ty _ => cases f
  | adr _ => cases f
  | _ => unfold Rep at h; subst h; rfl
theorem Rep.eqV {F F' : Hp} {d e : D} {v w : V} (h : Rep K F d v) (g : Rep K F' e w) (f : d.flatD = true) (f' : e.flatD = true) : L2.eqV v w = D.eq1 d e := by
  cases d with
  | nd _ _ => cases f
  | ty _ => cases f
  | adr _ => cases f
  | _ =>
    unfold Rep at h; subst h
    cases e with
    | nd _ _ => cases f'
    | ty _ => cases f'
    | adr _ => cases f'
    | _ => unfold Rep at g; subst g; rfl
theorem RepL.allFlat {F : Hp} : ∀ {ds : List D} {vs : List V}, RepL K F ds vs → ds.all D.flatD = true → vs.all L2.flatV = true
  | [], vs, h, _ => by unfold RepL at h; subst h; rfl
  | d :: ds, vs, h, o => by
    obtain ⟨v, r, rfl, h1, h2⟩ := h.cons_inv
    rw [List.all_cons, Bool.and_eq_true] at o
    rw [List.all_cons, h1.flatV o.1, RepL.allFlat h2 o.2]; rfl
theorem RepL.inV {F F' : Hp} {d : D} {v : V} (h : Rep K F' d v) (f : d.flatD = true) : ∀ {ds : List D} {vs : List V}, RepL K F ds vs → ds.all D.flatD = true → L2.inV v vs = ds.any fun e => D.eq1 e d
  | [], vs, h', _ => by unfold RepL at h'; subst h'; rfl
  | e :: ds, vs, h', o => by
    obtain ⟨w, r, rfl, h1, h2⟩ := h'.cons_inv
    rw [List.all_cons, Bool.and_eq_true] at o
    have ih := RepL.inV h f h2 o.2
    unfold L2.inV at ih ⊢
    rw [List.any_cons, List.any_cons, h1.eqV h o.1 f, ih]
def gIn (neg : Bool) : GS2 := fun x y R => match y with
  | .nd .lst ds => x.flatD = true ∧ ds.all D.flatD = true ∧ R (.bl (neg ^^ ds.any fun e => D.eq1 e x))
  | .nd .tup ds => x.flatD = true ∧ ds.all D.flatD = true ∧ R (.bl (neg ^^ ds.any fun e => D.eq1 e x))
  | _ => False
theorem RdD.flat {F H : Hp} {d : D} {v : V} (h : RdD K F H d v) (f : d.flatD = true) : Rep K F d v := by
  cases d with
  | nd _ _ => cases f
  | ty _ => cases f
  | adr _ => cases f
  | _ => exact h
theorem op_gIn {neg : Bool} : OpS2 K (rIn K neg) (gIn neg) := fun F H x y dx dy R Q s hx hy hg q => by
  unfold gIn at hg
  split at hg
  · obtain ⟨f, fs, hg⟩ := hg
    obtain ⟨a, vs, rfl, n, r⟩ := hy.lst
    refine ⟨a, vs, rfl, .inl (SqL.of n), (hx.flat f).flatV f, r.allFlat fs, ?_⟩
    rw [r.inV (hx.flat f) f fs]
    refine q _ _ hg fun _ _ => ?_
    unfold Rep
    cases neg <;> simp
  · obtain ⟨f, fs, hg⟩ := hg
    obtain ⟨a, vs, rfl, n, r⟩ := hy.tup
    refine ⟨a, vs, rfl, .inr n, (hx.flat f).flatV f, r.allFlat fs, ?_⟩
    rw [r.inV (hx.flat f) f fs]
    refine q _ _ hg fun _ _ => ?_
    unfold Rep
    cases neg <;> simp
  · exact hg.elim
end

/-- what a comparison's operator asks -/
inductive CmpG (X : Cx) : CmpOp → R2 → GS2 → Prop
  | lt : CmpG X .Lt (rI0 fun i j => .bl (decide (i < j))) (gCmp fun i j => decide (i < j))
  | le : CmpG X .LtE (rI0 fun i j => .bl (decide (i ≤ j))) (gCmp fun i j => decide (i ≤ j))
  | gt : CmpG X .Gt (rI0 fun i j => .bl (decide (j < i))) (gCmp fun i j => decide (j < i))
  | ge : CmpG X .GtE (rI0 fun i j => .bl (decide (j ≤ i))) (gCmp fun i j => decide (j ≤ i))
  | eq (hu : X.A.units + 64 < cLine) : CmpG X .Eq (rEqD X.K) gEq
  | ne (hu : X.A.units + 64 < cLine) : CmpG X .NotEq (rNeD X.K) gNe
  | isN : CmpG X .Is (fun x y H Q => y = .non ∧ Q (.bl (decide (x = .non))) H) gIsN
  | notN : CmpG X .IsNot (fun x y H Q => y = .non ∧ Q (.bl (!decide (x = .non))) H) gNotN
  | isB : CmpG X .Is rIsB gIsB
  | notB : CmpG X .IsNot rNotB gNotB
  | isIn : CmpG X .In (rIn X.K false) (gIn false)
  | notIn : CmpG X .NotIn (rIn X.K true) (gIn true)
section
variable {X : Cx} {B : Bs} {e a b c : Expr} {pos : Pos} {o o' : CmpOp} {r r' : R2} {g g' : GS2}
theorem CmpG.opr (h : CmpG X o r g) : OpR X (compareOp o) r := by
  cases h with
  | lt => exact op_lt
  | le => exact op_le
  | gt => exact op_gt
  | ge => exact op_ge
  | eq hu => exact op_eqD hu
  | ne hu => exact op_neD hu
  | isN => exact op_isN
  | notN => exact op_notN
  | isB => exact op_isBl
  | notB => exact op_notBl
  | isIn => exact op_in_seq
  | notIn => exact op_notIn_seq
theorem CmpG.s (h : CmpG X o r g) : OpS2 X.K r g := by
  cases h with
  | lt => exact op_gCmp
  | le => exact op_gCmp
  | gt => exact op_gCmp
  | ge => exact op_gCmp
  | eq hu => exact op_gEq
  | ne hu => exact op_gNe
  | isN => exact op_gIsN
  | notN => exact op_gNotN
  | isB => exact op_gIsB
  | notB => exact op_gNotB
  | isIn => exact op_gIn
  | notIn => exact op_gIn
theorem CmpG.sK (h : CmpG X o r g) (hK : B.K = X.K) : OpS2 B.K r g := by rw [hK]; exact h.s
/-- a test whose value's reading is known -/
theorem dt_of {t : TE} {w : WE} (h : PT X e (tTest t)) (i : ∀ {σ H Q}, rdE B w σ H Q → t σ H Q) : DT X B e (wET w) := ⟨pt_imp h fun σ H Q q => i (rdT_of q)⟩
theorem dt_ofP {t : TE} {w : WP} (h : PT X e (tTest t)) (i : ∀ {σ H Q}, rdP B w σ H Q → t σ H Q) : DT X B e (wET (wPE w)) := ⟨pt_imp h fun σ H Q q => i (im_PE (rdT_of q))⟩
variable {wa wb wc : WP} {ea eb : WE}
theorem pv_cmp (k : CmpG X o r g) (hK : B.K = X.K) (ha : PV X B a wa) (hb : PV X B b wb) (hm : behindInMarks o b = false) : PV X B (.Compare a [o] [b] pos) (wS g wa wb) := ⟨pe_imp (pe_cmpR k.opr ha.pe hb.pe hm) fun _ _ _ => im_s (k.sK hK)⟩
theorem dt_cmp (k : CmpG X o r g) (hK : B.K = X.K) (ha : PV X B a wa) (hb : PV X B b wb) (hm : behindInMarks o b = false) : DT X B (.Compare a [o] [b] pos) (wET (wPE (wS g wa wb))) := dt_ofP (pt_cmpR k.opr ha.pe hb.pe hm) (im_s (k.sK hK))
theorem de_cmpE (k : CmpG X o r g) (hK : B.K = X.K) (ha : DE X B a ea) (hb : DE X B b eb) (hm : behindInMarks o b = false) : DE X B (.Compare a [o] [b] pos) (wSE g ea eb) := ⟨pe_imp (pe_cmpR k.opr ha.pe hb.pe hm) fun _ _ _ => im_sE (k.sK hK)⟩
theorem dt_cmpE (k : CmpG X o r g) (hK : B.K = X.K) (ha : DE X B a ea) (hb : DE X B b eb) (hm : behindInMarks o b = false) : DT X B (.Compare a [o] [b] pos) (wET (wSE g ea eb)) := dt_of (pt_cmpR k.opr ha.pe hb.pe hm) (im_sE (k.sK hK))
section
variable (i : Nat) {x : Str} {p : Pos} (hb : DE X B b eb) (hm : behindInMarks o b = false) (hN : X.N[i]? = some x) (hv : Vis X.env.scope x) (hd : (x == ("__debug__" : Str)) = false) (hcd : (x == ("__classdict__" : Str)) = false)
theorem de_cmpV (k : CmpG X o r g) (hK : B.K = X.K) (i : Nat) (hb : DE X B b eb) (hm : behindInMarks o b = false) (hN : X.N[i]? = some x := by rfl) (hv : Vis X.env.scope x := by first | exact Or.inl rfl | exact Or.inr (Or.inl rfl) | exact Or.inr (Or.inr rfl))
    (hd : (x == ("__debug__" : Str)) = false := by decide) (hcd : (x == ("__classdict__" : Str)) = false := by decide) : DE X B (.Compare (.Name x p) [o] [b] pos) (wSV i g eb) := ⟨pe_imp (pe_cmpR k.opr (pe_var hN hv hd hcd) hb.pe hm) fun _ _ _ => im_sv (k.sK hK)⟩
theorem dt_cmpV (k : CmpG X o r g) (hK : B.K = X.K) (i : Nat) (hb : DE X B b eb) (hm : behindInMarks o b = false) (hN : X.N[i]? = some x := by rfl) (hv : Vis X.env.scope x := by first | exact Or.inl rfl | exact Or.inr (Or.inl rfl) | exact Or.inr (Or.inr rfl))
    (hd : (x == ("__debug__" : Str)) = false := by decide) (hcd : (x == ("__classdict__" : Str)) = false := by decide) : DT X B (.Compare (.Name x p) [o] [b] pos) (wET (wSV i g eb)) := dt_of (pt_cmpR k.opr (pe_var hN hv hd hcd) hb.pe hm) (im_sv (k.sK hK))
end
/-- a o b o' c -/
def wCh (g g' : GS2) (wa wb wc : WP) : WP := fun env Q => wa env fun ta => wb env fun tb => match ta.flat, tb.flat with
  | some da, some db => g da db fun d => (match d with
    | .bl c => if c = true then wc env fun tc => (match tc.flat with
      | some dc => g' db dc fun d => Q (.fz d)
      | none => False) else Q (.fz (.bl false))
    | _ => False)
  | _, _ => False
theorem im_ch (k : OpS2 B.K r g) (k' : OpS2 B.K r' g') {σ : L2.St} {H : Hp} {Q : VK} (h : rdP B (wCh g g' wa wb wc) σ H Q) : tChain r r' (rdP B wa) (rdP B wb) (rdP B wc) σ H Q := by
  obtain ⟨F, A, env, R, S, hw, q⟩ := h
  refine ⟨F, A, env, _, S, hw, fun ta h1 x vx => ?_⟩
  refine ⟨F, A, env, _, S, h1, fun tb h2 y vy => ?_⟩
  cases ex : ta.flat with
  | none => rw [ex] at h2; exact h2.elim
  | some da =>
    cases ey : tb.flat with
    | none => rw [ex, ey] at h2; exact h2.elim
    | some db =>
      rw [ex, ey] at h2
      refine k F H x y da db _ _ S.sub (vx.rdD S.sub ex) (vy.rdD S.sub ey) h2 fun d v hd hv => ?_
      cases d with
      | bl c =>
        refine ⟨c, by have := hv B.K F; unfold Rep at this; exact this, ?_⟩
        dsimp only at hd
        cases c with
        | true =>
          rw [if_pos rfl] at hd ⊢
          refine ⟨F, A, env, _, S, hd, fun tc h3 z vz => ?_⟩
          cases ez : tc.flat with
          | none => rw [ez] at h3; exact h3.elim
          | some dc =>
            rw [ez] at h3
            exact k' F H y z db dc _ Q S.sub (vy.rdD S.sub ey) (vz.rdD S.sub ez) h3 fun d v hd hv => q _ hd v (by unfold View; exact hv _ _)
        | false =>
          rw [if_neg Bool.false_ne_true] at hd ⊢
          exact q _ hd _ (by unfold View Rep; rfl)
      | _ => exact hd.elim
theorem pv_ch (k : CmpG X o r g) (k' : CmpG X o' r' g') (hK : B.K = X.K) (ha : PV X B a wa) (hb : PV X B b wb) (hc : PV X B c wc) (hm : lastMarks [o, o'] [b, c] = false := by with_unfolding_all rfl) : PV X B (.Compare a [o, o'] [b, c] pos) (wCh g g' wa wb wc) :=
  ⟨pe_imp (pe_chain k.opr k'.opr ha.pe hb.pe hc.pe hm) fun _ _ _ => im_ch (k.sK hK) (k'.sK hK)⟩
theorem dt_ch (k : CmpG X o r g) (k' : CmpG X o' r' g') (hK : B.K = X.K) (ha : PV X B a wa) (hb : PV X B b wb) (hc : PV X B c wc) (hm : lastMarks [o, o'] [b, c] = false := by with_unfolding_all rfl) : DT X B (.Compare a [o, o'] [b, c] pos) (wET (wPE (wCh g g' wa wb wc))) :=
  dt_ofP (pt_chain k.opr k'.opr ha.pe hb.pe hc.pe hm) (im_ch (k.sK hK) (k'.sK hK))

/-! ### and, or, not -/
variable {ta tb : WT} {rest : List Expr}
structure DW (X : Cx) (B : Bs) (e : Expr) (w : WT) : Prop where
  pw : PW X e (rdT B w)
theorem DW.dt {w : WT} (h : DW X B e w) : DT X B e w := ⟨h.pw.pt⟩
def wAnd (ta tb : WT) : WT := fun env Q => ta env fun c e1 => if c = true then tb e1 Q else Q false e1
def wOr (ta tb : WT) : WT := fun env Q => ta env fun c e1 => if c = true then Q true e1 else tb e1 Q
def wNot (ta : WT) : WT := fun env Q => ta env fun c e1 => Q (!c) e1
theorem dw_and1 (ha : DT X B a ta) : DW X B (.BoolOp .And [a] pos) ta := ⟨pw_and1 ha.pt⟩
theorem dw_or1 (ha : DT X B a ta) : DW X B (.BoolOp .Or [a] pos) ta := ⟨pw_or1 ha.pt⟩
theorem dw_and (ha : DT X B a ta) (hb : DW X B (.BoolOp .And (b :: rest) pos) tb) : DW X B (.BoolOp .And (a :: b :: rest) pos) (wAnd ta tb) := ⟨pw_imp (pw_and ha.pt hb.pw) fun σ H Q ⟨F, A, env, R, S, hw, q⟩ => by
  refine ⟨F, A, env, _, S, hw, fun c e1 h1 F1 H1 A1 S1 p1 => ?_⟩
  cases c with
  | true =>
    rw [if_pos rfl] at h1 ⊢
    exact ⟨F1, A1, e1, _, S1, h1, fun b env' hb F' H' A' S' p => q b env' hb F' H' A' S' (p1.trans p)⟩
  | false =>
    rw [if_neg Bool.false_ne_true] at h1 ⊢
    exact q false e1 h1 F1 H1 A1 S1 p1⟩
theorem dw_or (ha : DT X B a ta) (hb : DW X B (.BoolOp .Or (b :: rest) pos) tb) : DW X B (.BoolOp .Or (a :: b :: rest) pos) (wOr ta tb) := ⟨pw_imp (pw_or ha.pt hb.pw) fun σ H Q ⟨F, A, env, R, S, hw, q⟩ => by
  refine ⟨F, A, env, _, S, hw, fun c e1 h1 F1 H1 A1 S1 p1 => ?_⟩
  cases c with
  | true =>
    rw [if_pos rfl] at h1 ⊢
    exact q true e1 h1 F1 H1 A1 S1 p1
  | false =>
    rw [if_neg Bool.false_ne_true] at h1 ⊢
    exact ⟨F1, A1, e1, _, S1, h1, fun b env' hb F' H' A' S' p => q b env' hb F' H' A' S' (p1.trans p)⟩⟩
theorem dt_not (ha : DT X B a ta) : DT X B (.UnaryOp .Not a pos) (wNot ta) := ⟨pt_imp (pt_not ha.pt) fun σ H Q ⟨F, A, env, R, S, hw, q⟩ => by
  exact ⟨F, A, env, _, S, hw, fun c e1 h1 F1 H1 A1 S1 p1 => q _ e1 h1 F1 H1 A1 S1 p1⟩⟩
/-- .. as values -/
def wAndV (wa wb : WE) : WE := fun env Q => wa env fun d e1 => match d with
  | .bl c => if c = true then wb e1 Q else Q (.bl false) e1
  | _ => False
def wOrV (wa wb : WE) : WE := fun env Q => wa env fun d e1 => match d with
  | .bl c => if c = true then Q (.bl true) e1 else wb e1 Q
  | _ => False
def wNotV (wa : WE) : WE := fun env Q => wa env fun d e1 => match d with
  | .bl c => Q (.bl (!c)) e1
  | _ => False
theorem de_one {op : BoolOp} (h : DE X B a ea) : DE X B (.BoolOp op [a] pos) ea := ⟨pe_one h.pe⟩
theorem de_and (ha : DE X B a ea) (hb : DE X B (.BoolOp .And (b :: rest) pos) eb) : DE X B (.BoolOp .And (a :: b :: rest) pos) (wAndV ea eb) := ⟨pe_imp (pe_and ha.pe hb.pe) fun σ H Q ⟨F, A, env, R, S, hw, q⟩ => by
  refine ⟨F, A, env, _, S, hw, fun d e1 h1 F1 H1 A1 x S1 p1 r1 => ?_⟩
  cases d with
  | bl c =>
    unfold Rep at r1
    refine ⟨c, r1, ?_⟩
    dsimp only at h1
    cases c with
    | true =>
      rw [if_pos rfl] at h1 ⊢
      exact ⟨F1, A1, e1, _, S1, h1, fun d env' hb F' H' A' v S' p r => q d env' hb F' H' A' v S' (p1.trans p) r⟩
    | false =>
      rw [if_neg Bool.false_ne_true] at h1 ⊢
      exact q _ e1 h1 F1 H1 A1 _ S1 p1 (by unfold Rep; rfl)
  | _ => exact h1.elim⟩
theorem de_or (ha : DE X B a ea) (hb : DE X B (.BoolOp .Or (b :: rest) pos) eb) : DE X B (.BoolOp .Or (a :: b :: rest) pos) (wOrV ea eb) := ⟨pe_imp (pe_or ha.pe hb.pe) fun σ H Q ⟨F, A, env, R, S, hw, q⟩ => by
  refine ⟨F, A, env, _, S, hw, fun d e1 h1 F1 H1 A1 x S1 p1 r1 => ?_⟩
  cases d with
  | bl c =>
    unfold Rep at r1
    refine ⟨c, r1, ?_⟩
    dsimp only at h1
    cases c with
    | true =>
      rw [if_pos rfl] at h1 ⊢
      exact q _ e1 h1 F1 H1 A1 _ S1 p1 (by unfold Rep; rfl)
    | false =>
      rw [if_neg Bool.false_ne_true] at h1 ⊢
      exact ⟨F1, A1, e1, _, S1, h1, fun d env' hb F' H' A' v S' p r => q d env' hb F' H' A' v S' (p1.trans p) r⟩
  | _ => exact h1.elim⟩
theorem de_not (ha : DE X B a ea) : DE X B (.UnaryOp .Not a pos) (wNotV ea) := ⟨pe_imp (pe_not ha.pe) fun σ H Q ⟨F, A, env, R, S, hw, q⟩ => by
  refine ⟨F, A, env, _, S, hw, fun d e1 h1 F1 H1 A1 x S1 p1 r1 => ?_⟩
  cases d with
  | bl c =>
    unfold Rep at r1
    exact ⟨c, r1, q _ e1 h1 F1 H1 A1 _ S1 p1 (by unfold Rep; rfl)⟩
  | _ => exact h1.elim⟩
/-- a if t else b -/
def wIf (t : WT) (wa wb : WO) : WO := fun env Q => t env fun c e1 => if c = true then wa e1 Q else wb e1 Q
theorem oe_if {oa ob : WO} (ht : DT X B c ta) (ha : OE X B a oa) (hb : OE X B b ob) : OE X B (.IfExp c a b pos) (wIf ta oa ob) := ⟨pe_imp (pe_ifExp ht.pt ha.pe hb.pe) fun σ H Q ⟨F, A, env, R, S, hw, q⟩ => by
  refine ⟨F, A, env, _, S, hw, fun c e1 h1 F1 H1 A1 S1 p1 => ?_⟩
  cases c with
  | true =>
    rw [if_pos rfl] at h1 ⊢
    exact ⟨F1, A1, e1, _, S1, h1, fun t env' ht F' H' A' C v S' p ow d => q t env' ht F' H' A' C v S' (p1.trans p) ow d⟩
  | false =>
    rw [if_neg Bool.false_ne_true] at h1 ⊢
    exact ⟨F1, A1, e1, _, S1, h1, fun t env' ht F' H' A' C v S' p ow d => q t env' ht F' H' A' C v S' (p1.trans p) ow d⟩⟩
def wIfE (t : WT) (wa wb : WE) : WE := fun env Q => t env fun c e1 => if c = true then wa e1 Q else wb e1 Q
theorem de_if (ht : DT X B c ta) (ha : DE X B a ea) (hb : DE X B b eb) : DE X B (.IfExp c a b pos) (wIfE ta ea eb) := ⟨pe_imp (pe_ifExp ht.pt ha.pe hb.pe) fun σ H Q ⟨F, A, env, R, S, hw, q⟩ => by
  refine ⟨F, A, env, _, S, hw, fun c e1 h1 F1 H1 A1 S1 p1 => ?_⟩
  cases c with
  | true =>
    rw [if_pos rfl] at h1 ⊢
    exact ⟨F1, A1, e1, _, S1, h1, fun d env' hb F' H' A' v S' p r => q d env' hb F' H' A' v S' (p1.trans p) r⟩
  | false =>
    rw [if_neg Bool.false_ne_true] at h1 ⊢
    exact ⟨F1, A1, e1, _, S1, h1, fun d env' hb F' H' A' v S' p r => q d env' hb F' H' A' v S' (p1.trans p) r⟩⟩
end
end DL

/-! DL: subscripts, slices, len, isinstance, arguments, displays, calls of built-ins. -/
namespace DL
open PySem PySem.Spec PyProof.Rows L2

section
variable {X : Cx} {B : Bs} {e a b c : Expr} {pos : Pos} {K : PySem.W.Frag} {wa wb : WP} {ea eb : WE} {oa ob : WO}
/-! ### subscripts -/
def NK.isSeq : NK → Bool
  | .lst => true
  | .scr => true
  | .tup => true
  | _ => false
/-- the item of a tree at a place -/
def OT.ix (t i : OT) : Option OT := match t.out, i with
  | .nd .lst cs, .fz (.int j) => atI cs j
  | .nd .scr cs, .fz (.int j) => atI cs j
  | .nd .tup cs, .fz (.int j) => atI cs j
  | .fz (.str x), .fz (.int j) => if x.length ≤ sizeLine then (atI x.cps.toList j).map fun c => .fz (.str ⟨#[c]⟩) else none
  | _, _ => none
theorem atI_view {F H : Hp} {cs : List OT} {vs : List V} {j : Int} {c : OT} (r : ViewL K F H cs vs) (h : atI cs j = some c) : ∃ v, atI vs j = some v ∧ (c = .un ∨ View K F H c v) := by
  unfold atI at h ⊢
  rw [← r.len]
  obtain ⟨i, e1, e2⟩ := Option.bind_eq_some_iff.mp h
  obtain ⟨v, e3, e4⟩ := r.get e2
  exact ⟨v, by rw [e1]; exact e3, e4⟩
theorem ix_rel {F H : Hp} {t i c : OT} {x y : V} {Q : VK} (s : Same F H) (vx : View K F H t x) (vy : View K F H i y) (h : t.ix i = some c) (hu : c ≠ .un) (q : ∀ v, View K F H c v → Q v H) : rIx K x y H Q := by
  unfold OT.ix at h
  split at h
  · rename_i cs j e
    obtain ⟨a, vs, rfl, n, r⟩ := vx.out s e
    obtain ⟨v, e1, e2⟩ := atI_view r h
    unfold View Rep at vy; subst vy
    exact .inl ⟨a, vs, j, v, rfl, rfl, SqL.of n, e1, q v (e2.resolve_left hu)⟩
  · rename_i cs j e
    obtain ⟨a, vs, rfl, n, r⟩ := vx.out s e
    obtain ⟨v, e1, e2⟩ := atI_view r h
    unfold View Rep at vy; subst vy
    exact .inl ⟨a, vs, j, v, rfl, rfl, n, e1, q v (e2.resolve_left hu)⟩
  · rename_i cs j e
    obtain ⟨a, vs, rfl, n, r⟩ := vx.out s e
    obtain ⟨v, e1, e2⟩ := atI_view r h
    unfold View Rep at vy; subst vy
    exact .inr (.inl ⟨a, vs, j, v, rfl, rfl, n, e1, q v (e2.resolve_left hu)⟩)
  · rename_i z j e
    have r := vx.sc e
    unfold Rep at r; subst r
    unfold View Rep at vy; subst vy
    split at h
    · rename_i hz
      obtain ⟨c', e1, rfl⟩ := Option.map_eq_some_iff.mp h
      exact .inr (.inr ⟨z, j, c', rfl, rfl, hz, e1, q _ (by unfold View Rep; rfl)⟩)
    · cases h
  · cases h
def wIx (wa wb : WP) : WP := fun env Q => wa env fun t => wb env fun i => match t.ix i with
  | some .un => False
  | some c => Q c
  | none => False
theorem ix_case {Q : OT → Prop} {o : Option OT} (h : match o with
  | some .un => False
  | some c => Q c
  | none => False) : ∃ c, o = some c ∧ c ≠ .un ∧ Q c := by
  cases o with
  | none => exact h.elim
  | some c =>
    cases c with
    | un => exact h.elim
    | fz d => exact ⟨_, rfl, (fun z => nomatch z), h⟩
    | nd k cs => exact ⟨_, rfl, (fun z => nomatch z), h⟩
theorem pv_ix (hK : B.K = X.K) (ha : PV X B a wa) (hb : PV X B b wb) (hs : PlainIx b) : PV X B (.Subscript a b pos) (wIx wa wb) := ⟨pe_imp (pe_ix ix_seq ha.pe hb.pe hs) fun σ H Q ⟨F, A, env, R, S, hw, q⟩ => by
  refine ⟨F, A, env, _, S, hw, fun ta h1 x vx => ?_⟩
  refine ⟨F, A, env, _, S, h1, fun tb h2 y vy => ?_⟩
  obtain ⟨c, e, hu, h3⟩ := ix_case h2
  rw [← hK]
  exact ix_rel S.sub vx vy e hu fun v vv => q c h3 v vv⟩
/-- the base a name, looked at late; the item data -/
def wIxV (i : Nat) (eb : WE) : WE := fun env Q => (∃ t, env[i]? = some t ∧ t ≠ .un) ∧ eb env fun d e1 => match e1[i]? with
  | some t => (match t.ix (.fz d) with
    | some (.fz z) => Q z e1
    | _ => False)
  | none => False
theorem de_ixV (hK : B.K = X.K) (i : Nat) {x : Str} {p : Pos} (hb : DE X B b eb) (hs : PlainIx b) (hN : X.N[i]? = some x := by rfl) (hv : Vis X.env.scope x := by first | exact Or.inl rfl | exact Or.inr (Or.inl rfl) | exact Or.inr (Or.inr rfl))
    (hd : (x == ("__debug__" : Str)) = false := by decide) (hcd : (x == ("__classdict__" : Str)) = false := by decide) : DE X B (.Subscript (.Name x p) b pos) (wIxV i eb) := ⟨pe_imp (pe_ix ix_seq (pe_var hN hv hd hcd) hb.pe hs) fun σ H Q ⟨F, A, env, R, S, hw, q⟩ => by
  obtain ⟨⟨t, et, hu⟩, hw⟩ := hw
  obtain ⟨v, ev, _⟩ := S.get et hu
  refine ⟨v, ev, F, A, env, _, S, hw, fun d e1 h1 F1 H1 A1 y S1 p1 r1 => ?_⟩
  cases e1i : e1[i]? with
  | none => rw [e1i] at h1; exact h1.elim
  | some t1 =>
    rw [e1i] at h1
    dsimp only at h1
    cases ei : t1.ix (.fz d) with
    | none => rw [ei] at h1; exact h1.elim
    | some c =>
      rw [ei] at h1
      cases c with
      | fz z =>
        have hu1 : t1 ≠ .un := by
          intro w; subst w
          unfold OT.ix OT.out at ei
          cases ei
        obtain ⟨v1, ev1, vv⟩ := S1.get e1i hu1
        rw [ev] at ev1; cases ev1
        rw [← hK]
        exact ix_rel S1.sub vv (by unfold View; exact r1) ei (by intro w; cases w) fun w vw => q z e1 h1 F1 H1 A1 w S1 p1 (by unfold View at vw; exact vw)
      | un => exact h1.elim
      | nd k cs => exact h1.elim⟩
/-- both as data -/
def wIxE (ea eb : WE) : WE := fun env Q => ea env fun d e1 => eb e1 fun i e2 => match (OT.fz d).ix (.fz i) with
  | some (.fz z) => Q z e2
  | _ => False
theorem de_ixE (hK : B.K = X.K) (ha : DE X B a ea) (hb : DE X B b eb) (hs : PlainIx b) : DE X B (.Subscript a b pos) (wIxE ea eb) := ⟨pe_imp (pe_ix ix_seq ha.pe hb.pe hs) fun σ H Q ⟨F, A, env, R, S, hw, q⟩ => by
  refine ⟨F, A, env, _, S, hw, fun da e1 h1 F1 H1 A1 x S1 p1 r1 => ?_⟩
  refine ⟨F1, A1, e1, _, S1, h1, fun db e2 h2 F2 H2 A2 y S2 p2 r2 => ?_⟩
  cases ei : (OT.fz da).ix (.fz db) with
  | none => rw [ei] at h2; exact h2.elim
  | some c =>
    rw [ei] at h2
    cases c with
    | fz z =>
      rw [← hK]
      exact ix_rel S2.sub (by unfold View; exact r1.mono p2.fr) (by unfold View; exact r2) ei (by intro w; cases w) fun w vw => q z e2 h2 F2 H2 A2 w S2 (p1.trans p2) (by unfold View at vw; exact vw)
    | un => exact h2.elim
    | nd k cs => exact h2.elim⟩

/-! ### arguments -/
abbrev WAs := Env' → (List D → Env' → Prop) → Prop
abbrev WVs := Env' → (List OT → Prop) → Prop
def rdAs (B : Bs) (w : WAs) : TA := fun σ H Q => ∃ F A env R, SR B F H A env σ ∧ w env R ∧ ∀ ds env', R ds env' → ∀ F' H' A' vs, SR B F' H' A' env' σ → Step F H A F' H' A' → RepL B.K F' ds vs → Q vs H'
def rdVs (B : Bs) (w : WVs) : TA := fun σ H Q => ∃ F A env R, SR B F H A env σ ∧ w env R ∧ ∀ ts, R ts → ∀ vs, ViewL B.K F H ts vs → (∀ t ∈ ts, t ≠ .un) → Q vs H
structure DAs (X : Cx) (B : Bs) (es : List Expr) (w : WAs) : Prop where
  pa : PA X es (rdAs B w)
structure VAs (X : Cx) (B : Bs) (es : List Expr) (w : WVs) : Prop where
  pa : PA X es (rdVs B w)
theorem pa_imp {es : List Expr} {t t' : TA} (h : PA X es t) (i : ∀ {σ H Q}, t' σ H Q → t σ H Q) : PA X es t' := ⟨fun pos pins s σ H Q I q => h.run pos pins s σ H Q I (i q)⟩
def wNil : WAs := fun env Q => Q [] env
def wCons (ea : WE) (er : WAs) : WAs := fun env Q => ea env fun d e1 => er e1 fun ds e2 => Q (d :: ds) e2
def wVNil : WVs := fun _ Q => Q []
def wVCons (wa : WP) (wr : WVs) : WVs := fun env Q => wa env fun t => wr env fun ts => t ≠ .un ∧ Q (t :: ts)
variable {es : List Expr} {er : WAs} {wr : WVs}
theorem da_nil : DAs X B [] wNil := ⟨pa_imp pa_nil fun ⟨F, A, env, R, S, hw, q⟩ => q [] env hw F _ A [] S Step.refl RepL.nil⟩
theorem da_cons (ha : DE X B a ea) (hr : DAs X B es er) (hs : starEach (a :: es) X.env = (false, eval a X.env) :: starEach es X.env := by rfl) : DAs X B (a :: es) (wCons ea er) := ⟨pa_imp (pa_cons ha.pe hr.pa hs) fun ⟨F, A, env, R, S, hw, q⟩ => by
  refine ⟨F, A, env, _, S, hw, fun d e1 h1 F1 H1 A1 x S1 p1 r1 => ?_⟩
  refine ⟨F1, A1, e1, _, S1, h1, fun ds e2 h2 F2 H2 A2 vs S2 p2 r2 => ?_⟩
  exact q _ e2 h2 F2 H2 A2 _ S2 (p1.trans p2) (RepL.cons (r1.mono p2.fr) r2)⟩
theorem va_nil : VAs X B [] wVNil := ⟨pa_imp pa_nil fun ⟨F, A, env, R, S, hw, q⟩ => q [] hw [] (by unfold ViewL; rfl) (fun _ z => nomatch z)⟩
theorem va_cons (ha : PV X B a wa) (hr : VAs X B es wr) (hs : starEach (a :: es) X.env = (false, eval a X.env) :: starEach es X.env := by rfl) : VAs X B (a :: es) (wVCons wa wr) := ⟨pa_imp (pa_cons ha.pe hr.pa hs) fun ⟨F, A, env, R, S, hw, q⟩ => by
  refine ⟨F, A, env, _, S, hw, fun t h1 x v1 => ?_⟩
  refine ⟨F, A, env, _, S, h1, fun ts h2 vs v2 nu => ?_⟩
  exact q _ h2.2 _ (by unfold ViewL; exact ⟨x, vs, rfl, .inr v1, v2⟩) (List.forall_mem_cons.mpr ⟨h2.1, nu⟩)⟩

/-! ### calls of built-ins by values -/
def OpPN (K : PySem.W.Frag) (r : List V → Hp → VK → Prop) (g : List OT → (OT → Prop) → Prop) : Prop := ∀ (F H : Hp) (xs : List V) (ts : List OT) (R : OT → Prop) (Q : VK), Same F H → ViewL K F H ts xs → (∀ t ∈ ts, t ≠ .un) → g ts R → (∀ t, R t → NewV K F H Q t) → r xs H Q
def OpPS (K : PySem.W.Frag) (r : List V → Hp → VK → Prop) (g : List OT → (D → Prop) → Prop) : Prop := ∀ (F H : Hp) (xs : List V) (ts : List OT) (R : D → Prop) (Q : VK), Same F H → ViewL K F H ts xs → (∀ t ∈ ts, t ≠ .un) → g ts R → (∀ d v, R d → (∀ K F, Rep K F d v) → Q v H) → r xs H Q
def wFn (g : List OT → (D → Prop) → Prop) (wr : WVs) : WP := fun env Q => wr env fun ts => g ts fun d => Q (.fz d)
def wFnE (g : List OT → (D → Prop) → Prop) (er : WAs) : WE := fun env Q => er env fun ds e1 => g (ds.map .fz) fun d => Q d e1
def wFnN (g : List OT → (OT → Prop) → Prop) (wr : WVs) : WO := fun env Q => wr env fun ts => g ts fun t => Q t env
def wFnNE (g : List OT → (OT → Prop) → Prop) (er : WAs) : WO := fun env Q => er env fun ds e1 => g (ds.map .fz) fun t => Q t e1
theorem fz_ne {ds : List D} : ∀ t ∈ ds.map OT.fz, t ≠ .un := fun t ht => by
  obtain ⟨d, _, rfl⟩ := List.mem_map.mp ht
  exact fun z => nomatch z
variable {r : List V → Hp → VK → Prop} {g : List OT → (D → Prop) → Prop} {gn : List OT → (OT → Prop) → Prop}
theorem im_fn (ho : OpPS B.K r g) {σ : L2.St} {H : Hp} {Q : VK} (h : rdP B (wFn g wr) σ H Q) : tCB r (rdVs B wr) σ H Q := by
  obtain ⟨F, A, env, R, S, hw, q⟩ := h
  refine ⟨F, A, env, _, S, hw, fun ts h1 xs vx nu => ?_⟩
  exact ho F H xs ts _ Q S.sub vx nu h1 fun d v hd hv => q _ hd v (by unfold View; exact hv _ _)
theorem im_fnE (ho : OpPS B.K r g) {σ : L2.St} {H : Hp} {Q : VK} (h : rdE B (wFnE g er) σ H Q) : tCB r (rdAs B er) σ H Q := by
  obtain ⟨F, A, env, R, S, hw, q⟩ := h
  refine ⟨F, A, env, _, S, hw, fun ds e1 h1 F1 H1 A1 xs S1 p1 r1 => ?_⟩
  exact ho F1 H1 xs _ _ Q S1.sub (ViewL.fzs r1) fz_ne h1 fun d v hd hv => q _ e1 hd F1 H1 A1 v S1 p1 (hv _ _)
theorem im_fnN (ho : OpPN B.K r gn) {σ : L2.St} {H : Hp} {Q : VK} (h : rdO B (wFnN gn wr) σ H Q) : tCB r (rdVs B wr) σ H Q := by
  obtain ⟨F, A, env, R, S, hw, q⟩ := h
  refine ⟨F, A, env, _, S, hw, fun ts h1 xs vx nu => ?_⟩
  exact ho F H xs ts _ Q S.sub vx nu h1 fun t ht => S.newV fun F' H' A' C v S' p ow d => q t env ht F' H' A' C v S' p ow d
theorem im_fnNE (ho : OpPN B.K r gn) {σ : L2.St} {H : Hp} {Q : VK} (h : rdO B (wFnNE gn er) σ H Q) : tCB r (rdAs B er) σ H Q := by
  obtain ⟨F, A, env, R, S, hw, q⟩ := h
  refine ⟨F, A, env, _, S, hw, fun ds e1 h1 F1 H1 A1 xs S1 p1 r1 => ?_⟩
  exact ho F1 H1 xs _ _ Q S1.sub (ViewL.fzs r1) fz_ne h1 fun t ht => S1.newV fun F' H' A' C v S' p ow d => q t e1 ht F' H' A' C v S' (p1.trans p) ow d
theorem ViewL.one {F H : Hp} {t : OT} {xs : List V} (h : ViewL K F H [t] xs) (nu : ∀ u ∈ [t], u ≠ .un) : ∃ x, xs = [x] ∧ View K F H t x := by
  unfold ViewL at h
  obtain ⟨v, r, rfl, h1, h2⟩ := h
  unfold ViewL at h2
  subst h2
  exact ⟨v, rfl, h1.resolve_left (nu t (List.mem_singleton.mpr rfl))⟩
theorem ViewL.two {F H : Hp} {t u : OT} {xs : List V} (h : ViewL K F H [t, u] xs) (nu : ∀ z ∈ [t, u], z ≠ .un) : ∃ x y, xs = [x, y] ∧ View K F H t x ∧ View K F H u y := by
  unfold ViewL at h
  obtain ⟨v, r, rfl, h1, h2⟩ := h
  obtain ⟨y, rfl, h3⟩ := ViewL.one h2 fun z hz => nu z (List.mem_cons_of_mem _ hz)
  exact ⟨v, y, rfl, h1.resolve_left (nu t List.mem_cons_self), h3⟩

/-! len -/
def OT.size (t : OT) : Option Nat := match t.out with
  | .nd .lst cs => some cs.length
  | .nd .scr cs => some cs.length
  | .nd .tup cs => some cs.length
  | .fz (.str x) => if x.length ≤ sizeLine then some x.length else none
  | _ => none
def gLen (ts : List OT) (R : D → Prop) : Prop := match ts with
  | [t] => (match t.size with
    | some n => R (.int n)
    | none => False)
  | _ => False
theorem op_len : OpPS K (fun xs H Q => ∃ x n, xs = [x] ∧ LenV K x H n ∧ Q (.int n) H) gLen := fun F H xs ts R Q s vx nu hg q => by
  unfold gLen at hg
  split at hg
  · rename_i t
    obtain ⟨x, rfl, vt⟩ := vx.one nu
    cases es : t.size with
    | none => rw [es] at hg; exact hg.elim
    | some n =>
      rw [es] at hg
      refine ⟨x, n, rfl, ?_, q _ _ hg fun _ _ => by unfold Rep; rfl⟩
      unfold OT.size at es
      split at es
      · rename_i cs e
        cases es
        obtain ⟨a, vs, rfl, n, r⟩ := vt.out s e
        exact .inl ⟨vs, SqL.of n, r.len⟩
      · rename_i cs e
        cases es
        obtain ⟨a, vs, rfl, n, r⟩ := vt.out s e
        exact .inl ⟨vs, n, r.len⟩
      · rename_i cs e
        cases es
        obtain ⟨a, vs, rfl, n, r⟩ := vt.out s e
        exact .inr ⟨vs, n, r.len⟩
      · rename_i z e
        have r := vt.sc e
        unfold Rep at r; subst r
        split at es
        · rename_i hz
          cases es
          exact ⟨hz, rfl⟩
        · cases es
      · cases es
  · exact hg.elim
section
variable {p : Pos} (hg : Gl X "len") (hm : X.mg "len" = none)
theorem pv_len (hK : B.K = X.K) (hm : X.mg "len" = none) (ha : VAs X B [a] wr) (hg : Gl X "len" := by rfl) (he : starEach [a] X.env = (false, eval a X.env) :: starEach [] X.env := by rfl) : PV X B (.Call (.Name "len" p) [a] [] pos) (wFn gLen wr) :=
  ⟨pe_imp (pe_callB call_len hg hm boot_len ha.pa (he := he)) fun _ _ _ => by rw [← hK]; exact im_fn op_len⟩
theorem de_len (hK : B.K = X.K) (hm : X.mg "len" = none) (ha : DAs X B [a] er) (hg : Gl X "len" := by rfl) (he : starEach [a] X.env = (false, eval a X.env) :: starEach [] X.env := by rfl) : DE X B (.Call (.Name "len" p) [a] [] pos) (wFnE gLen er) :=
  ⟨pe_imp (pe_callB call_len hg hm boot_len ha.pa (he := he)) fun _ _ _ => by rw [← hK]; exact im_fnE op_len⟩
end

/-! isinstance against built-in types -/
def NK.tn : NK → Option String
  | .lst => some "list"
  | .tup => some "tuple"
  | .dic _ => some "dict"
  | _ => none
def D.tn : D → Option String
  | .non => some "NoneType"
  | .bl _ => some "bool"
  | .int _ => some "int"
  | .str _ => some "str"
  | .nd k _ => k.tn
  | _ => none
def OT.tn : OT → Option String
  | .fz d => d.tn
  | .nd k _ => k.tn
  | .un => none
/-- is a thing of the type n one of the type m -/
def isTy (n m : String) : Bool := decide (n = m) || (decide (n = "bool") && decide (m = "int"))
theorem TyX.tup {H : Hp} {a : Addr} {xs : List V} (h : SqT K H a xs) : TyX K H (.ref a) (.type "tuple") := by
  rcases h with (h | ⟨o, h⟩) | ⟨o, its, n, hk, hc, _⟩
  · exact .base (.tup h)
  · exact .fTuple h
  · exact .kTuple hk hc
theorem TyX.rd {H : Hp} {a : Addr} {kvs : List (Key × V)} (h : Rd H a (.dK kvs)) : TyX K H (.ref a) (.type "dict") := by
  rcases h with h | ⟨o, h⟩
  · exact .base (.dK h)
  · exact .fDict h
theorem NodeF.ty {H : Hp} {a : Addr} {vs : List V} {k : NK} {n : String} (h : NodeF K H a vs k) (e : k.tn = some n) : TyX K H (.ref a) (.type n) := by
  cases k with
  | lst => cases e; exact .base (.lst h)
  | scr => cases e
  | tup => cases e; exact TyX.tup h
  | dic ks => cases e; exact TyX.rd h.1
  | dit ks => cases e
  | ins C ns => cases e
theorem View.ty {F H : Hp} (s : Same F H) {t : OT} {v : V} {n : String} (h : View K F H t v) (e : t.tn = some n) : TyX K H v (.type n) := by
  cases t with
  | un => cases e
  | nd k cs =>
    unfold View at h
    obtain ⟨a, vs, rfl, n, r⟩ := h
    exact n.f.ty e
  | fz d =>
    unfold View at h
    cases d with
    | non => unfold Rep at h; subst h; cases e; exact .base .non
    | bl b => unfold Rep at h; subst h; cases e; exact .base (.bl b)
    | int b => unfold Rep at h; subst h; cases e; exact .base (.int b)
    | str b => unfold Rep at h; subst h; cases e; exact .base (.str b)
    | ty _ => cases e
    | adr _ => cases e
    | nd k ds =>
      unfold Rep at h
      obtain ⟨a, vs, rfl, n, r⟩ := h
      exact (n.mono s).ty e
/-- the types that are asked -/
inductive AskTy : String → Prop
  | list : AskTy "list" | tuple : AskTy "tuple" | int : AskTy "int" | bool : AskTy "bool" | str : AskTy "str" | dict : AskTy "dict"
theorem OT.tn_cases {t : OT} {n : String} (e : t.tn = some n) : n = "NoneType" ∨ n = "bool" ∨ n = "int" ∨ n = "str" ∨ n = "list" ∨ n = "tuple" ∨ n = "dict" := by
  have kk : ∀ k : NK, k.tn = some n → n = "list" ∨ n = "tuple" ∨ n = "dict" := fun k e => by
    cases k <;> cases e <;> simp
  cases t with
  | un => cases e
  | nd k cs => rcases kk k e with h | h | h <;> simp [h]
  | fz d =>
    cases d with
    | nd k cs => rcases kk k e with h | h | h <;> simp [h]
    | _ => cases e <;> simp
theorem kit_all {n m : String} (hn : n = "NoneType" ∨ n = "bool" ∨ n = "int" ∨ n = "str" ∨ n = "list" ∨ n = "tuple" ∨ n = "dict") (hm : AskTy m) : PySem.W.kitOne K (.type n) (.type m) = some (isTy n m) := by
  cases hm <;> rcases hn with rfl | rfl | rfl | rfl | rfl | rfl | rfl <;> exact kit_ty (by decide +kernel)
end
end DL

/-! DL: built-ins, displays, slices. -/
namespace DL
open PySem PySem.Spec PyProof.Rows L2
section
variable {X : Cx} {B : Bs} {e a b c : Expr} {pos p p2 p3 p4 : Pos} {K : PySem.W.Frag} {wa wb : WP} {ea eb : WE} {oa ob : WO} {es : List Expr} {er : WAs} {wr : WVs}
/-! ### isinstance -/
def wIsi (m : String) (wa : WP) : WP := fun env Q => wa env fun t => match t.tn with
  | some n => Q (.fz (.bl (isTy n m)))
  | none => False
theorem pv_isi {m : Str} {T : String} (ht : AskTy T) (hK : B.K = X.K) (hm : X.mg "isinstance" = none) (hm2 : X.mg m = none) (hv : bootBuiltins m = some (.type T)) (ha : PV X B a wa) (hg : Gl X "isinstance" := by rfl) (hg2 : Gl X m := by rfl) (hn : m ≠ "__name__" := by decide) (hd : (m == ("__debug__" : Str)) = false := by decide)
    (he : starEach [a, .Name m p2] X.env = (false, eval a X.env) :: starEach [.Name m p2] X.env := by rfl) (hpl : (backTo pos (starEach [.Name m p2] X.env)).any (·.1) = false := by rfl) :
    PV X B (.Call (.Name "isinstance" p) [a, .Name m p2] [] pos) (wIsi T wa) :=
  ⟨pe_imp (pe_callB call_isi hg hm (by decide +kernel) (pa_cons ha.pe (pa_cons (pe_bltn hg2 hm2 hv (v := .ty T) rfl hn hd) pa_nil) he) (he := he) (hpl := hpl)) fun σ H Q ⟨F, A, env, R, S, hw, q⟩ => by
  refine ⟨F, A, env, _, S, hw, fun t h1 x vx => ?_⟩
  cases et : t.tn with
  | none => rw [et] at h1; exact h1.elim
  | some n =>
    rw [et] at h1
    rw [← hK]
    exact ⟨x, .ty T, .type n, .type T, _, rfl, .ty T, vx.ty S.sub et, kit_all (OT.tn_cases et) ht, q _ h1 _ (by unfold View Rep; rfl)⟩⟩
def wIsi2 (m m' : String) (wa : WP) : WE := fun env Q => wa env fun t => match t.tn with
  | some n => Q (.bl (isTy n m || isTy n m')) env
  | none => False
theorem NodeF.tyGrow {H H' : Hp} (s : Same H H') {x : V} {t : Value} (h : ∀ {K}, TyX K H x t) : True := trivial
theorem View.grow {F H H' : Hp} (s : Same H H') : ∀ {t : OT} {v : V} {n : String}, Same F H → View K F H t v → t.tn = some n → TyX K H' v (.type n)
  | .un, _, _, _, _, e => by cases e
  | .fz d, v, n, f, h, e => by
    unfold View at h
    exact View.ty (F := F) (f.trans s) (t := .fz d) (by unfold View; exact h) e
  | .nd k cs, v, n, f, h, e => by
    unfold View at h
    obtain ⟨a, vs, rfl, nn, r⟩ := h
    exact (nn.f.mono s).ty e
theorem de_isi2 {m m' : Str} {T T' : String} (ht : AskTy T) (ht' : AskTy T') (hK : B.K = X.K) (hm : X.mg "isinstance" = none) (hm2 : X.mg m = none) (hv : bootBuiltins m = some (.type T)) (hm3 : X.mg m' = none) (hv3 : bootBuiltins m' = some (.type T')) (ha : PV X B a wa) {k : Nat}
    (hg : Gl X "isinstance" := by rfl) (hg2 : Gl X m := by rfl) (hg3 : Gl X m' := by rfl) (hn : m ≠ "__name__" := by decide) (hd : (m == ("__debug__" : Str)) = false := by decide) (hn3 : m' ≠ "__name__" := by decide) (hd3 : (m' == ("__debug__" : Str)) = false := by decide)
    (he : starEach [a, .Tuple [.Name m p2, .Name m' p3] k p4] X.env = (false, eval a X.env) :: starEach [.Tuple [.Name m p2, .Name m' p3] k p4] X.env := by rfl) (hpl : (backTo pos (starEach [.Tuple [.Name m p2, .Name m' p3] k p4] X.env)).any (·.1) = false := by rfl) :
    DE X B (.Call (.Name "isinstance" p) [a, .Tuple [.Name m p2, .Name m' p3] k p4] [] pos) (wIsi2 T T' wa) :=
  ⟨pe_imp (pe_callB call_isiT hg hm (by decide +kernel) (pa_cons ha.pe (pa_cons (pe_tup (pa_cons (pe_bltn hg2 hm2 hv (v := .ty T) rfl hn hd) (pa_cons (pe_bltn hg3 hm3 hv3 (v := .ty T') rfl hn3 hd3) pa_nil))) pa_nil) he) (he := he) (hpl := hpl)) fun σ H Q ⟨F, A, env, R, S, hw, q⟩ => by
  refine ⟨F, A, env, _, S, hw, fun t h1 x vx => ?_⟩
  cases et : t.tn with
  | none => rw [et] at h1; exact h1.elim
  | some n =>
    rw [et] at h1
    rw [← hK]
    refine ⟨by show 2 ≤ sizeLine; decide, fun tp hp => ?_⟩
    obtain ⟨S', p'⟩ := S.grow (Same.upd (o := .tup [.ty T, .ty T']) hp)
    have k1 := kit_all (K := B.K) (OT.tn_cases et) ht
    have k2 := kit_all (K := B.K) (OT.tn_cases et) ht'
    refine ⟨x, tp, _, .type n, [.type T, .type T'], isTy n T || isTy n T', rfl, upd_same, .cons (.ty T) (.cons (.ty T') .nil), vx.grow (Same.upd hp) S.sub et, ?_, q _ env h1 F _ A _ S' p' (by unfold Rep; rfl)⟩
    refine kitAny_cons k1 (fun z => ?_) fun z => by rw [z]; rfl
    rw [z, Bool.false_or]
    exact kitAny_cons k2 (fun y => by rw [y]; exact kitAny_nil) fun y => y⟩

/-! ### displays -/
/-- a tuple of data -/
def wTup (er : WAs) : WE := fun env Q => er env fun ds e1 => ds.length ≤ sizeLine ∧ Q (.nd .tup ds) e1
theorem de_tup {k : Nat} (h : DAs X B es er) : DE X B (.Tuple es k pos) (wTup er) := ⟨pe_imp (pe_tup h.pa) fun σ H Q ⟨F, A, env, R, S, hw, q⟩ => by
  refine ⟨F, A, env, _, S, hw, fun ds e1 h1 F1 H1 A1 xs S1 p1 r1 => ?_⟩
  refine ⟨by rw [← r1.len]; exact h1.1, fun tp hp => ?_⟩
  obtain ⟨S', p'⟩ := S1.addp (o := .tup xs) hp
  refine q _ e1 h1.2 _ _ A1 _ S' (p1.trans p') ?_
  unfold Rep
  exact ⟨tp, xs, rfl, SqT.of upd_same, r1.mono p'.fr⟩⟩
/-- a list of data, one's own -/
def wLst (er : WAs) : WO := fun env Q => er env fun ds e1 => ds.length ≤ sizeLine ∧ Q (.nd .lst (ds.map .fz)) e1
theorem oe_lst (h : DAs X B es er) : OE X B (.List es pos) (wLst er) := ⟨pe_imp (pe_lst h.pa) fun σ H Q ⟨F, A, env, R, S, hw, q⟩ => by
  refine ⟨F, A, env, _, S, hw, fun ds e1 h1 F1 H1 A1 xs S1 p1 r1 => ?_⟩
  refine ⟨by rw [← r1.len]; exact h1.1, fun tp hp => ?_⟩
  have n := S1.newV (Q := Q) (t := .nd .lst (ds.map .fz)) fun F' H' A' C v S' p ow d => q _ e1 h1.2 F' H' A' C v S' (p1.trans p) ow d
  exact n.lst S1.sub r1 hp⟩
/-! ### arguments with what one owns -/
abbrev WOs := Env' → (List OT → Env' → Prop) → Prop
def rdOs (B : Bs) (w : WOs) : TA := fun σ H Q => ∃ F A env R, SR B F H A env σ ∧ w env R ∧ ∀ ts env', R ts env' → ∀ F' H' A' C vs, SR B F' H' A' env' σ → Step F H A F' H' (fun b => A' b ∨ C b) → OwnL B.K F' H' ts vs C → (∀ b, C b → ¬ A' b) → Q vs H'
structure OAs (X : Cx) (B : Bs) (es : List Expr) (w : WOs) : Prop where
  pa : PA X es (rdOs B w)
def wONil : WOs := fun env Q => Q [] env
def wOCons (oa : WO) (wr : WOs) : WOs := fun env Q => oa env fun t e1 => wr e1 fun ts e2 => Q (t :: ts) e2
variable {ws : WOs}
theorem oa_nil : OAs X B [] wONil := ⟨pa_imp pa_nil fun ⟨F, A, env, R, S, hw, q⟩ => q [] env hw F _ A Nobody [] S (Step.refl.more fun _ z => z.elim) OwnL.nil fun _ z => z.elim⟩
theorem oa_cons (ha : OE X B a oa) (hr : OAs X B es ws) (hs : starEach (a :: es) X.env = (false, eval a X.env) :: starEach es X.env := by rfl) : OAs X B (a :: es) (wOCons oa ws) := ⟨pa_imp (pa_cons ha.pe hr.pa hs) fun ⟨F, A, env, R, S, hw, q⟩ => by
  refine ⟨F, A, env, _, S, hw, fun t e1 h1 F1 H1 A1 C1 x S1 p1 o1 d1 => ?_⟩
  refine ⟨F1, A1, e1, _, S1, h1, fun ts e2 h2 F2 H2 A2 C2 vs S2 p2 o2 d2 => ?_⟩
  obtain ⟨o1', n1⟩ := o1.step p2 d1
  have dd : ∀ b, C1 b → C2 b → False := fun b z y => n1 b z (.inr y)
  refine q _ e2 h2 F2 H2 A2 _ _ S2 ?_ (OwnL.cons o1' o2 dd) fun b z => z.elim (fun z y => n1 b z (.inl y)) (d2 b)
  have p12 := p1.trans (p2.from fun b z => .inl z)
  refine ⟨p12.fr, p12.keep, p12.new, fun b z => ?_⟩
  rcases z with z | z | z
  · exact p12.own b (.inl z)
  · exact p1.own b (.inr z)
  · exact p12.own b (.inr z)⟩
def wLstO (ws : WOs) : WO := fun env Q => ws env fun ts e1 => ts.length ≤ sizeLine ∧ Q (.nd .lst ts) e1
def wTupO (ws : WOs) : WO := fun env Q => ws env fun ts e1 => ts.length ≤ sizeLine ∧ Q (.nd .tup ts) e1
theorem own_new {F H : Hp} {A C : Addr → Prop} {env : Env'} {σ : L2.St} {ts : List OT} {vs : List V} {k : NK} {o : HO} {tp : Addr} (S : SR B F H A env σ) (ow : OwnL B.K F H ts vs C) (d : ∀ b, C b → ¬ A b) (hp : H tp = none) (hn : NodeO (L2.upd H tp o) tp vs k) :
    SR B F (L2.upd H tp o) A env σ ∧ Step F H (fun b => A b ∨ C b) F (L2.upd H tp o) (fun b => A b ∨ (b = tp ∨ C b)) ∧ Own B.K F (L2.upd H tp o) (.nd k ts) (.ref tp) (fun b => b = tp ∨ C b) ∧ ∀ b, (b = tp ∨ C b) → ¬ A b := by
  have g := Same.upd (o := o) hp
  obtain ⟨S', p'⟩ := S.grow g
  have nA : ¬ A tp := fun z => by
    obtain ⟨_, o, e⟩ := S.free tp z
    rw [hp] at e; cases e
  have nC : ¬ C tp := fun z => by
    obtain ⟨_, o, e⟩ := ow.free tp z
    rw [hp] at e; cases e
  refine ⟨S', ⟨Same.refl F, fun b x e _ => g b x e, fun _ z => .inl z, fun b z => ?_⟩, ?_, fun b z => ?_⟩
  · rcases z with z | rfl | z
    · exact .inl (.inl z)
    · exact .inr hp
    · exact .inl (.inr z)
  · unfold Own
    refine ⟨tp, vs, C, rfl, hn, S.sub.free hp, ow.mono (Same.refl F) (fun b hb => ?_), nC, fun b => Iff.rfl⟩
    obtain ⟨f, x, e⟩ := ow.free b hb
    exact ⟨f, (g b x e).trans e.symm⟩
  · rcases z with rfl | z
    · exact nA
    · exact d b z
theorem oe_lstO (h : OAs X B es ws) : OE X B (.List es pos) (wLstO ws) := ⟨pe_imp (pe_lst h.pa) fun σ H Q ⟨F, A, env, R, S, hw, q⟩ => by
  refine ⟨F, A, env, _, S, hw, fun ts e1 h1 F1 H1 A1 C1 xs S1 p1 o1 d1 => ?_⟩
  refine ⟨by rw [← o1.len]; exact h1.1, fun tp hp => ?_⟩
  obtain ⟨S2, p2, o2, d2⟩ := own_new (k := .lst) (o := .lst xs) S1 o1 d1 hp (show (L2.upd H1 tp (.lst xs)) tp = some (.lst xs) from upd_same)
  exact q _ e1 h1.2 F1 _ A1 _ _ S2 (p1.trans p2) o2 d2⟩
theorem oe_tupO {k : Nat} (h : OAs X B es ws) : OE X B (.Tuple es k pos) (wTupO ws) := ⟨pe_imp (pe_tup h.pa) fun σ H Q ⟨F, A, env, R, S, hw, q⟩ => by
  refine ⟨F, A, env, _, S, hw, fun ts e1 h1 F1 H1 A1 C1 xs S1 p1 o1 d1 => ?_⟩
  refine ⟨by rw [← o1.len]; exact h1.1, fun tp hp => ?_⟩
  obtain ⟨S2, p2, o2, d2⟩ := own_new (k := .tup) (o := .tup xs) S1 o1 d1 hp (show (L2.upd H1 tp (.tup xs)) tp = some (.tup xs) from upd_same)
  exact q _ e1 h1.2 F1 _ A1 _ _ S2 (p1.trans p2) o2 d2⟩
end
end DL

/-! DL: statements, targets, loops, comprehensions. -/
namespace DL
open PySem PySem.Spec PyProof.Rows L2

structure WEnds where
  nx : Env' → Prop
  rt : OT → Env' → Prop
  bk : Env' → Prop := fun _ => False
  ct : Env' → Prop := fun _ => False
abbrev WS := WEnds → Env' → Prop
def rdS (B : Bs) (w : WS) : TS := fun D σ H => ∃ (F : Hp) (A : Addr → Prop) (env : Env') (R : WEnds), SR B F H A env σ ∧ w R env ∧
  (∀ env', R.nx env' → ∀ F' H' A' σ', SR B F' H' A' env' σ' → Step F H A F' H' A' → D.nx σ' H') ∧
  (∀ env', R.bk env' → ∀ F' H' A' σ', SR B F' H' A' env' σ' → Step F H A F' H' A' → D.bk σ' H') ∧
  (∀ env', R.ct env' → ∀ F' H' A' σ', SR B F' H' A' env' σ' → Step F H A F' H' A' → D.ct σ' H') ∧
  ∀ t env', R.rt t env' → ∀ (F' H' : Hp) (A' C : Addr → Prop) (v : V) (σ' : L2.St), SR B F' H' A' env' σ' → Step F H A F' H' (fun b => A' b ∨ C b) → Own B.K F' H' t v C → (∀ b, C b → ¬ A' b) → D.rt v H'
structure DS (X : Cx) (B : Bs) (st : Stmt) (w : WS) : Prop where
  ps : PS X st (rdS B w)
structure DSs (X : Cx) (B : Bs) (st : List Stmt) (w : WS) : Prop where
  pss : PSs X st (rdS B w)
section
variable {X : Cx} {B : Bs} {e a b c : Expr} {pos p p2 p3 p4 : Pos} {K : PySem.W.Frag} {wa wb : WP} {ea eb : WE} {oa ob : WO} {es : List Expr} {er : WAs} {wr : WVs} {st : Stmt} {rest : List Stmt} {w u : WS} {wt : WT}
def wNext : WS := fun R env => R.nx env
def wSeq (w u : WS) : WS := fun R env => w { R with nx := u R } env
theorem dss_nil : DSs X B [] wNext := ⟨pss_imp pss_nil fun D σ H ⟨F, A, env, R, S, hw, q, _⟩ => q env hw F H A σ S Step.refl⟩
theorem dss_cons (h1 : DS X B st w) (h2 : DSs X B rest u) : DSs X B (st :: rest) (wSeq w u) := ⟨pss_imp (pss_cons h1.ps h2.pss) fun D σ H ⟨F, A, env, R, S, hw, q1, q2, q3, q4⟩ => by
  refine ⟨F, A, env, _, S, hw, fun e1 h1 F1 H1 A1 σ1 S1 p1 => ?_, q2, q3, q4⟩
  exact ⟨F1, A1, e1, R, S1, h1, fun env' h F' H' A' σ' S' p => q1 env' h F' H' A' σ' S' (p1.trans p), fun env' h F' H' A' σ' S' p => q2 env' h F' H' A' σ' S' (p1.trans p), fun env' h F' H' A' σ' S' p => q3 env' h F' H' A' σ' S' (p1.trans p),
    fun t env' h F' H' A' C v σ' S' p => q4 t env' h F' H' A' C v σ' S' (p1.trans p)⟩⟩
theorem dss_one (h1 : DS X B st w) : DSs X B [st] w := ⟨pss_one h1.ps⟩
theorem ds_pass : DS X B (.Pass pos) wNext := ⟨ps_imp ps_pass fun D σ H ⟨F, A, env, R, S, hw, q, _⟩ => q env hw F H A σ S Step.refl⟩
def wBreak : WS := fun R env => R.bk env
def wCont : WS := fun R env => R.ct env
theorem ds_break : DS X B (.Break pos) wBreak := ⟨ps_imp ps_break fun D σ H ⟨F, A, env, R, S, hw, _, q, _⟩ => q env hw F H A σ S Step.refl⟩
theorem ds_continue : DS X B (.Continue pos) wCont := ⟨ps_imp ps_continue fun D σ H ⟨F, A, env, R, S, hw, _, _, q, _⟩ => q env hw F H A σ S Step.refl⟩
/-- a statement that is never reached -/
def wNever : WS := fun _ _ => False
theorem ds_never : DS X B st wNever := ⟨ps_imp ps_never fun D σ H ⟨F, A, env, R, S, hw, _⟩ => hw⟩
theorem dss_never {sts : List Stmt} : DSs X B sts wNever := ⟨pss_imp pss_never fun D σ H ⟨F, A, env, R, S, hw, _⟩ => hw⟩
/-- an expression whose value is dropped -/
def wDrop (oa : WO) : WS := fun R env => oa env fun _ e1 => R.nx e1
theorem ds_expr (h : OE X B e oa) (hs : swapsWith e none pos.line X.env = pure false := by rfl) : DS X B (.Expr e pos) (wDrop oa) := ⟨ps_imp (ps_expr h.pe hs) fun D σ H ⟨F, A, env, R, S, hw, q, _⟩ => by
  exact ⟨F, A, env, _, S, hw, fun t e1 h1 F1 H1 A1 C v S1 p1 ow d => q e1 h1 F1 H1 A1 σ S1 (p1.less fun b z => .inl z)⟩⟩
def wRet (oa : WO) : WS := fun R env => oa env R.rt
theorem ds_ret (h : OE X B e oa) : DS X B (.Return (some e) pos) (wRet oa) := ⟨ps_imp (ps_ret h.pe) fun D σ H ⟨F, A, env, R, S, hw, _, _, _, q⟩ => by
  exact ⟨F, A, env, _, S, hw, fun t e1 h1 F1 H1 A1 C v S1 p1 ow d => q t e1 h1 F1 H1 A1 C v σ S1 p1 ow d⟩⟩
def wRetN : WS := fun R env => R.rt (.fz .non) env
theorem ds_retN : DS X B (.Return none pos) wRetN := ⟨ps_imp ps_retN fun D σ H ⟨F, A, env, R, S, hw, _, _, _, q⟩ => by
  exact q _ env hw F H A Nobody .non σ S (Step.refl.more fun _ z => z.elim) (Own.fz (by unfold Rep; rfl)) fun _ z => z.elim⟩
def wIfS (t : WT) (w u : WS) : WS := fun R env => t env fun c e1 => if c = true then w R e1 else u R e1
theorem ds_if {xs ys : List Stmt} (ht : DT X B c wt) (ha : DSs X B xs w) (hb : DSs X B ys u) : DS X B (.If c xs ys pos) (wIfS wt w u) := ⟨ps_imp (ps_if ht.pt ha.pss hb.pss) fun D σ H ⟨F, A, env, R, S, hw, q1, q2, q3, q4⟩ => by
  refine ⟨F, A, env, _, S, hw, fun c e1 h1 F1 H1 A1 S1 p1 => ?_⟩
  have fin : ∀ w : WS, w R e1 → rdS B w D σ H1 := fun w h => ⟨F1, A1, e1, R, S1, h, fun env' h F' H' A' σ' S' p => q1 env' h F' H' A' σ' S' (p1.trans p), fun env' h F' H' A' σ' S' p => q2 env' h F' H' A' σ' S' (p1.trans p), fun env' h F' H' A' σ' S' p => q3 env' h F' H' A' σ' S' (p1.trans p),
    fun t env' h F' H' A' C v σ' S' p => q4 t env' h F' H' A' C v σ' S' (p1.trans p)⟩
  cases c with
  | true => rw [if_pos rfl] at h1; show if true = true then _ else _; rw [if_pos rfl]; exact fin _ h1
  | false => rw [if_neg Bool.false_ne_true] at h1; show if false = true then _ else _; rw [if_neg Bool.false_ne_true]; exact fin _ h1⟩
/-- no pin stands at the slot -/
def Bs.open (B : Bs) (i : Nat) : Prop := ∀ p ∈ B.pin, p.1 ≠ i
theorem step_base {F H F' H' : Hp} {A A' C : Addr → Prop} {env : Env'} {σ : L2.St} (S : SR B F H A env σ) (p : Step F H A F' H' (fun b => A' b ∨ C b)) : ∀ b, C b → B.A0 b ∨ B.H0 b = none := S.base.base_of p
/-- name = e -/
def wSet (i : Nat) (oa : WO) : WS := fun R env => oa env fun t e1 => i < e1.length ∧ R.nx (e1.set i t)
theorem ds_set (i : Nat) {x : Str} (ho : B.open i) (hN : X.N.Nodup) (h : OE X B e oa) (hi : X.N[i]? = some x := by rfl) (hx : Loc X.env.scope x := by first | exact .inl rfl | exact .inr rfl) (hs : swapsWith e (some (.Name x p)) pos.line X.env = pure false := by rfl) (hf : X.fn x = true ∨ X.env.scope.names.lookup x = some .local := by first | exact .inl rfl | exact .inr rfl) :
    DS X B (.Assign [.Name x p] e pos) (wSet i oa) := ⟨ps_imp (ps_set hN hi hx h.pe hs hf) fun D σ H ⟨F, A, env, R, S, hw, q, _⟩ => by
  refine ⟨F, A, env, _, S, hw, fun t e1 h1 F1 H1 A1 C v S1 p1 ow d => ?_⟩
  obtain ⟨A2, S2, p2⟩ := S1.put h1.1 ow d (step_base S p1) ho
  exact q _ h1.2 F1 H1 A2 _ S2 (p1.trans p2)⟩
/-! ### targets -/
abbrev WG := D → Env' → (Env' → Prop) → Prop
abbrev WGs := List D → Env' → (Env' → Prop) → Prop
/-- only these slots differ -/
def Only (vs : List Nat) (σ σ' : L2.St) : Prop := σ'.length = σ.length ∧ ∀ j, j ∉ vs → σ'[j]? = σ[j]?
theorem Only.refl (vs : List Nat) (σ : L2.St) : Only vs σ σ := ⟨rfl, fun _ _ => rfl⟩
def rdG (B : Bs) (vs : List Nat) (w : WG) : TG := fun v σ H Q => ∃ F A env d R, SR B F H A env σ ∧ Rep B.K F d v ∧ w d env R ∧ ∀ env', R env' → ∀ A' σ', SR B F H A' env' σ' → Step F H A F H A' → Only vs σ σ' → Q σ' H
def rdGs (B : Bs) (vs : List Nat) (w : WGs) : TGs := fun us σ H Q => ∃ F A env ds R, SR B F H A env σ ∧ RepL B.K F ds us ∧ w ds env R ∧ ∀ env', R env' → ∀ A' σ', SR B F H A' env' σ' → Step F H A F H A' → Only vs σ σ' → Q σ' H
structure DGt (X : Cx) (B : Bs) (e : Expr) (vs : List Nat) (w : WG) : Prop where
  pg : PG X e (rdG B vs w)
structure DGs (X : Cx) (B : Bs) (es : List Expr) (vs : List Nat) (w : WGs) : Prop where
  pgs : PGs X es (rdGs B vs w)
theorem pg_imp {t t' : TG} (h : PG X e t) (i : ∀ {v σ H Q}, t' v σ H Q → t v σ H Q) : PG X e t' := ⟨fun pins s σ H v u Q I r q => h.run pins s σ H v u Q I r (i q)⟩
theorem pgs_imp {t t' : TGs} (h : PGs X es t) (i : ∀ {v σ H Q}, t' v σ H Q → t v σ H Q) : PGs X es t' := ⟨fun pins s σ H v u Q I r q => h.run pins s σ H v u Q I r (i q)⟩
theorem PG.or {t t' : TG} (h : PG X e t) (h' : PG X e t') : PG X e (fun v σ H Q => t v σ H Q ∨ t' v σ H Q) := ⟨fun pins s σ H v u Q I r q => q.elim (h.run pins s σ H v u Q I r) (h'.run pins s σ H v u Q I r)⟩
def gtName (i : Nat) : WG := fun d env Q => i < env.length ∧ Q (env.set i (.fz d))
theorem dg_name (i : Nat) {x : Str} (ho : B.open i) (hN : X.N.Nodup) (hi : X.N[i]? = some x := by rfl) (hx : Loc X.env.scope x := by first | exact .inl rfl | exact .inr rfl) (hf : X.fn x = true ∨ X.env.scope.names.lookup x = some .local := by first | exact .inl rfl | exact .inr rfl) :
    DGt X B (.Name x p) [i] (gtName i) := ⟨pg_imp (pg_name hN hi hx hf) fun {v σ _ _} ⟨F, A, env, d, R, S, r, hw, q⟩ => by
  obtain ⟨A', S', p'⟩ := S.putf hw.1 r ho
  exact q _ hw.2 A' _ S' p' ⟨List.length_set, fun j hj => List.getElem?_set_ne (fun z => hj (by simp [z]))⟩⟩
def gtNil : WGs := fun ds env Q => ds = [] ∧ Q env
def gtCons (g : WG) (gs : WGs) : WGs := fun ds env Q => match ds with
  | d :: r => g d env fun e1 => gs r e1 Q
  | [] => False
theorem dgs_nil : DGs X B [] [] gtNil := ⟨pgs_imp pgs_nil fun ⟨F, A, env, ds, R, S, r, hw, q⟩ => by
  obtain ⟨rfl, hw⟩ := hw
  unfold RepL at r; subst r
  exact ⟨rfl, q env hw A _ S Step.refl (Only.refl _ _)⟩⟩
theorem dgs_cons {vs vs' : List Nat} {g : WG} {gs : WGs} (h : DGt X B e vs g) (hr : DGs X B es vs' gs) (hs : (assignEach (e :: es) X.env).map (·.2) = assign e X.env :: (assignEach es X.env).map (·.2) := by rfl) : DGs X B (e :: es) (vs ++ vs') (gtCons g gs) := ⟨pgs_imp (pgs_cons h.pg hr.pgs hs) fun ⟨F, A, env, ds, R, S, r, hw, q⟩ => by
  cases ds with
  | nil => exact hw.elim
  | cons d ds =>
    obtain ⟨v, us, rfl, r1, r2⟩ := r.cons_inv
    refine ⟨v, us, rfl, F, A, env, d, _, S, r1, hw, fun e1 h1 A1 σ1 S1 p1 o1 => ?_⟩
    exact ⟨F, A1, e1, ds, R, S1, r2, h1, fun env' h A' σ' S' p o2 => q env' h A' σ' S' (p1.trans p) ⟨o2.1.trans o1.1, fun j hj => (o2.2 j fun z => hj (List.mem_append_right _ z)).trans (o1.2 j fun z => hj (List.mem_append_left _ z))⟩⟩⟩
/-- a, b, .. = a tuple or a list of that length -/
def gtSeq (n : Nat) (gs : WGs) : WG := fun d env Q => match d with
  | .nd .tup ds => ds.length = n ∧ gs ds env Q
  | .nd .lst ds => ds.length = n ∧ gs ds env Q
  | _ => False
theorem dg_seq {vs : List Nat} {n k : Nat} {gs : WGs} (hc : X.calm = true) (hK : B.K = X.K) (h : DGs X B es vs gs) (hn : (assignEach es X.env).length = n := by rfl) (hst : (assignEach es X.env).findIdx? (·.1) = none := by rfl) : DGt X B (.Tuple es k pos) vs (gtSeq n gs) :=
  ⟨pg_imp (PG.or (pg_tup hc h.pgs hn hst) (pg_lst hc h.pgs hn hst)) fun ⟨F, A, env, d, R, S, r, hw, q⟩ => by
  unfold gtSeq at hw
  split at hw
  · obtain ⟨a, us, rfl, n, r⟩ := (r.rdD S.sub).tup
    exact .inl ⟨a, us, rfl, by rw [← hK]; exact n, by rw [← r.len]; exact hw.1, F, A, env, _, R, S, r, hw.2, q⟩
  · obtain ⟨a, us, rfl, n, r⟩ := (r.rdD S.sub).lst
    exact .inr ⟨a, us, rfl, SqL.of n, by rw [← r.len]; exact hw.1, F, A, env, _, R, S, r, hw.2, q⟩
  · exact hw.elim⟩
/-- target = e -/
def wAsg (ea : WE) (g : WG) : WS := fun R env => ea env fun d e1 => g d e1 R.nx
theorem ds_asg {vs : List Nat} {g : WG} (h : DE X B e ea) (hg : DGt X B a vs g) (hs : swapsWithSole [a] e pos.line X.env = pure false := by rfl) (hw : swappedStores [a] e X.env = pure none := by rfl) (h1 : (assignEach [a] X.env).map (·.2) = [assign a X.env] := by rfl) :
    DS X B (.Assign [a] e pos) (wAsg ea g) := ⟨ps_imp (ps_asg h.pe hg.pg hs hw h1) fun D σ H ⟨F, A, env, R, S, hw, q, _⟩ => by
  refine ⟨F, A, env, _, S, hw, fun d e1 h1 F1 H1 A1 v S1 p1 r1 => ?_⟩
  exact ⟨F1, A1, e1, d, _, S1, r1, h1, fun env' h A' σ' S' p _ => q env' h F1 H1 A' σ' S' (p1.trans p)⟩⟩
/-- a, b = x, y -/
def wPar (i j : Nat) (er : WAs) : WS := fun R env => er env fun ds e1 => match ds with
  | [d, d'] => i < e1.length ∧ j < e1.length ∧ R.nx ((e1.set i (.fz d)).set j (.fz d'))
  | _ => False
theorem ds_par (i j : Nat) {x y : Str} {px py pt : Pos} {kt k2 pt2} (hoi : B.open i) (hoj : B.open j) (hc : X.calm = true) (hN : X.N.Nodup) (ha : DAs X B [a, b] er) (hi : X.N[i]? = some x := by rfl) (hj : X.N[j]? = some y := by rfl) (hij : i ≠ j := by decide)
    (hx : X.env.scope.names.lookup x = some .local := by rfl) (hy : X.env.scope.names.lookup y = some .local := by rfl)
    (hw : swappedStores [.Tuple [.Name x px, .Name y py] kt pt] (.Tuple [a, b] k2 pt2) X.env = pure (some [x, y]) := by rfl)
    (hs : swapsWithSole [.Tuple [.Name x px, .Name y py] kt pt] (.Tuple [a, b] k2 pt2) pos.line X.env = pure false := by rfl) :
    DS X B (.Assign [.Tuple [.Name x px, .Name y py] kt pt] (.Tuple [a, b] k2 pt2) pos) (wPar i j er) := ⟨ps_imp (ps_par hc hN hi hj hij hx hy ha.pa hw hs) fun D σ H ⟨F, A, env, R, S, hw, q, _⟩ => by
  refine ⟨F, A, env, _, S, hw, fun ds e1 h1 F1 H1 A1 vs S1 p1 r1 => ?_⟩
  split at h1
  · obtain ⟨v, r, rfl, ra, rb⟩ := r1.cons_inv
    obtain ⟨v', r, rfl, rc, rd⟩ := rb.cons_inv
    unfold RepL at rd; subst rd
    obtain ⟨A2, S2, p2⟩ := S1.putf h1.1 ra hoi
    obtain ⟨A3, S3, p3⟩ := S2.putf (i := j) (by rw [List.length_set]; exact h1.2.1) rc hoj
    exact ⟨v, v', rfl, q _ h1.2.2 F1 H1 A3 _ S3 ((p1.trans p2).trans p3)⟩
  · exact h1.elim⟩
/-- name op= e -/
def wAug (i : Nat) (g : GD2) (ea : WE) : WS := fun R env => match env[i]? with
  | some (.fz d) => ea env fun d' e1 => g d d' fun t => i < e1.length ∧ R.nx (e1.set i t)
  | _ => False
theorem ds_aug {op : Operator} {r : R2} {g : GD2} (hr : PIp X op r) (hf : OpF2 B.K r g) (i : Nat) {x : Str} (ho : B.open i) (hN : X.N.Nodup) (h : DE X B e ea) (hi : X.N[i]? = some x := by rfl) (hx : Loc X.env.scope x := by first | exact .inl rfl | exact .inr rfl) (hfn : X.fn x = true ∨ X.env.scope.names.lookup x = some .local := by first | exact .inl rfl | exact .inr rfl) :
    DS X B (.AugAssign (.Name x p) op e pos) (wAug i g ea) := ⟨ps_imp (ps_aug hN hi hx h.pe hr hfn) fun D σ H ⟨F, A, env, R, S, hw, q, _⟩ => by
  unfold wAug at hw
  split at hw
  · rename_i d ed
    obtain ⟨v, ev, rv⟩ := S.fz ed
    refine ⟨v, ev, F, A, env, _, S, hw, fun d' e1 h1 F1 H1 A1 y S1 p1 r1 => ?_⟩
    refine hf F1 H1 v y d d' _ _ S1.sub (rv.mono p1.fr) r1 h1 fun t ht => ?_
    exact S1.newV fun F' H' A' C z S' p' ow dd => by
      obtain ⟨A2, S2, p2⟩ := S'.put ht.1 ow dd (step_base S1 p') ho
      exact q _ ht.2 F' H' A2 _ S2 ((p1.trans p').trans p2)
  · exact hw.elim⟩
end
end DL

/-! DL: places within trees, what changes them. -/
namespace DL
open PySem PySem.Spec PyProof.Rows L2

def OT.at : List Nat → OT → Option OT
  | [], t => some t
  | j :: π, .nd _ cs => (cs[j]?).bind (OT.at π)
  | _ :: _, _ => none
def OT.put : List Nat → OT → OT → OT
  | [], n, _ => n
  | j :: π, n, .nd k cs => .nd k (cs.set j (OT.put π n (cs.getD j .un)))
  | _ :: _, _, t => t
def kids : HO → List V
  | .lst vs => vs
  | .tup vs => vs
  | .dK kvs => kvs.map (·.2)
  | .dT kvs => kvs.map (·.2)
  | .ins _ _ fs => fs.map (·.2)
  | _ => []
def kidsAt (H : Hp) (a : Addr) : List V := match H a with
  | some o => kids o
  | none => []
/-- what stands at a place -/
def fol (H : Hp) : List Nat → V → Option V
  | [], v => some v
  | j :: π, .ref a => ((kidsAt H a)[j]?).bind (fol H π)
  | _ :: _, _ => none
theorem zip_snd {α β : Type} : ∀ {ks : List α} {vs : List β}, ks.length = vs.length → (ks.zip vs).map (·.2) = vs
  | [], [], _ => rfl
  | [], _ :: _, h => by cases h
  | _ :: _, [], h => by cases h
  | k :: ks, v :: vs, h => by simp only [List.zip_cons_cons, List.map_cons]; rw [zip_snd (by simpa using h)]
theorem NodeO.kids {H : Hp} {a : Addr} {vs : List V} {k : NK} (h : NodeO H a vs k) : kidsAt H a = vs := by
  unfold kidsAt
  cases k with
  | scr => exact h.elim
  | lst => rw [show H a = some (.lst vs) from h]; rfl
  | tup => rw [show H a = some (.tup vs) from h]; rfl
  | dic ks => rw [h.1]; exact zip_snd h.2
  | dit ks => rw [h.1]; exact zip_snd h.2
  | ins C ns => obtain ⟨dx, e, l⟩ := h; rw [e]; exact zip_snd l
/-- THE DEEP FOCUS -/
theorem Own.dig {K : PySem.W.Frag} {F H : Hp} : ∀ {π : List Nat} {t t1 : OT} {v v1 : V} {A : Addr → Prop}, Own K F H t v A → t.at π = some t1 → fol H π v = some v1 →
    ∃ (B R : Addr → Prop), Own K F H t1 v1 B ∧ (∀ b, B b → R b → False) ∧ (∀ b, A b ↔ (B b ∨ R b)) ∧
      ∀ (F' H' : Hp) (t' : OT) (B' : Addr → Prop), Same F F' → (∀ b, R b → F' b = none ∧ H' b = H b) → Own K F' H' t' v1 B' → (∀ b, B' b → R b → False) → Own K F' H' (OT.put π t' t) v (fun b => B' b ∨ R b)
  | [], t, t1, v, v1, A, h, ht, hv => by
    cases (show some t = some t1 from ht)
    cases (show some v = some v1 from hv)
    refine ⟨A, Nobody, h, fun _ _ z => z, fun b => ⟨.inl, fun z => z.elim id fun z => z.elim⟩, fun F' H' t' B' s g h' d => ?_⟩
    exact h'.iff fun b => ⟨fun z => z.elim id fun z => z.elim, .inl⟩
  | j :: π, t, t1, v, v1, A, h, ht, hv => by
    cases t with
    | un => cases ht
    | fz d => cases ht
    | nd k cs =>
      unfold OT.at at ht
      obtain ⟨c, ec, ht⟩ := Option.bind_eq_some_iff.mp ht
      unfold Own at h
      obtain ⟨a, vs, B0, rfl, n, f, r, na, ea⟩ := h
      obtain ⟨w, Bj, Rj, ew, ow, dj, ej, put⟩ := r.focus ec
      unfold fol at hv
      rw [n.kids, ew] at hv
      obtain ⟨B, R', o1, d1, e1, put1⟩ := Own.dig ow ht hv
      refine ⟨B, fun b => b = a ∨ R' b ∨ Rj b, o1, fun b hb hr => ?_, fun b => ?_, fun F' H' t' B' s g h' d => ?_⟩
      · rcases hr with rfl | hr | hr
        · exact na ((ej b).mpr (.inl ((e1 b).mpr (.inl hb))))
        · exact d1 b hb hr
        · exact dj b ((e1 b).mpr (.inl hb)) hr
      · rw [ea b, ej b, e1 b]
        constructor
        · rintro (z | (z | z) | z)
          · exact .inr (.inl z)
          · exact .inl z
          · exact .inr (.inr (.inl z))
          · exact .inr (.inr (.inr z))
        · rintro (z | z | z | z)
          · exact .inr (.inl (.inl z))
          · exact .inl z
          · exact .inr (.inl (.inr z))
          · exact .inr (.inr z)
      · have q1 := put1 F' H' t' B' s (fun b hb => g b (.inr (.inl hb))) h' fun b hb hr => d b hb (.inr (.inl hr))
        have q2 := put F' H' _ w _ s (fun b hb => g b (.inr (.inr hb))) q1 fun b hb hr => by
          rcases hb with hb | hb
          · exact d b hb (.inr (.inr hr))
          · exact dj b ((e1 b).mpr (.inr hb)) hr
        rw [set_same ew] at q2
        have eg : cs.getD j .un = c := by rw [List.getD_eq_getElem?_getD, ec]; rfl
        unfold OT.put Own
        rw [eg]
        have ga := g a (.inl rfl)
        refine ⟨a, vs, _, rfl, n.at ga.2, ga.1, q2, fun z => ?_, fun b => ?_⟩
        · rcases z with (z | z) | z
          · exact d a z (.inl rfl)
          · exact na ((ej a).mpr (.inl ((e1 a).mpr (.inr z))))
          · exact na ((ej a).mpr (.inr z))
        · constructor
          · rintro (z | z | z | z)
            · exact .inr (.inl (.inl z))
            · exact .inl z
            · exact .inr (.inl (.inr z))
            · exact .inr (.inr z)
          · rintro (z | (z | z) | z)
            · exact .inr (.inl z)
            · exact .inl z
            · exact .inr (.inr (.inl z))
            · exact .inr (.inr (.inr z))
section
variable {B : Bs} {F H : Hp} {A C : Addr → Prop} {env : Env'} {σ : L2.St}
/-- a place of a slot, and what may be put there; C: what is owned besides -/
theorem SR.dig (S : SR B F H A env σ) {i : Nat} {t t1 : OT} {π : List Nat} {v v1 : V} (e : env[i]? = some t) (ev : σ[i]? = some (some v)) (ht : t.at π = some t1) (hv : fol H π v = some v1) (dC : ∀ b, C b → ¬ A b) :
    ∃ B1 R : Addr → Prop, Own B.K F H t1 v1 B1 ∧ (∀ b, A b ↔ (B1 b ∨ R b)) ∧ (∀ b, B1 b → R b → False) ∧
      ∀ (F' H' : Hp) (t' : OT) (B' : Addr → Prop), Step F H (fun b => B1 b ∨ C b) F' H' B' → Same F' H' → Own B.K F' H' t' v1 B' → (∀ b, C b → B.A0 b ∨ B.H0 b = none) →
        SR B F' H' (fun b => B' b ∨ R b) (env.set i (OT.put π t' t)) σ ∧ Step F H (fun b => A b ∨ C b) F' H' (fun b => B' b ∨ R b) := by
  obtain ⟨w, Bi, Ri, ew, ow, di, ei, put⟩ := S.own.focus e
  rw [vsOf_get ev] at ew
  cases ew
  obtain ⟨B1, R1, o1, d1, e1, put1⟩ := ow.dig ht hv
  have eA : ∀ b, A b ↔ (B1 b ∨ (R1 b ∨ Ri b)) := fun b => by rw [ei b, e1 b, or_assoc]
  have dR : ∀ b, B1 b → (R1 b ∨ Ri b) → False := fun b hb hr => by
    rcases hr with hr | hr
    · exact d1 b hb hr
    · exact di b ((e1 b).mpr (.inl hb)) hr
  refine ⟨B1, fun b => R1 b ∨ Ri b, o1, eA, dR, fun F' H' t' B' p s o' hC => ?_⟩
  have bes := p.beside (B := fun b => R1 b ∨ Ri b) (fun b hb => S.free b ((eA b).mpr (.inr hb))) (fun b hb z => by
    rcases z with z | z
    · exact dR b z hb
    · exact dC b z ((eA b).mpr (.inr hb)))
  have q1 := put1 F' H' t' B' p.fr (fun b hb => (bes b (.inl hb)).1) o' fun b hb hr => (bes b (.inl hr)).2 hb
  have q2 := put F' H' _ v _ p.fr (fun b hb => (bes b (.inr hb)).1) q1 fun b hb hr => by
    rcases hb with hb | hb
    · exact (bes b (.inr hr)).2 hb
    · exact di b ((e1 b).mpr (.inr hb)) hr
  rw [set_same (vsOf_get ev)] at q2
  have pA : Step F H (fun b => A b ∨ C b) F' H' (fun b => B' b ∨ (R1 b ∨ Ri b)) := by
    have p2 := p.from (A2 := fun b => A b ∨ C b) fun b z => z.elim (fun z => .inl ((eA b).mpr (.inl z))) .inr
    exact p2.more fun b z => .inl (.inl ((eA b).mpr (.inr z)))
  refine ⟨⟨q2.iff fun b => or_assoc.symm, fun j t2 ej => ?_, s, ?_, S.pin⟩, pA⟩
  · by_cases hj : i = j
    · subst hj
      exact .inr ⟨v, ev⟩
    · rw [List.getElem?_set_ne hj] at ej
      exact S.set j t2 ej
  · have b1 := S.base
    refine ⟨b1.fr.trans pA.fr, fun b o eb na => ?_, fun b h => ?_, fun b h => ?_⟩
    · refine pA.keep b o (b1.keep b o eb na) fun z => ?_
      rcases z with z | z
      · rcases b1.own b z with z | z
        · exact na z
        · rw [eb] at z; cases z
      · rcases hC b z with z | z
        · exact na z
        · rw [eb] at z; cases z
    · cases eb : B.H0 b with
      | none => exact .inr (.inl rfl)
      | some o =>
        by_cases ha : B.A0 b
        · exact .inr (.inr ha)
        · rcases pA.new b h with z | z | z | z
          · rcases b1.new b z with z | z | z
            · exact .inl z
            · rw [eb] at z; cases z
            · exact (ha z).elim
          · rw [b1.keep b o eb ha] at z; cases z
          · rcases b1.own b z with z | z
            · exact (ha z).elim
            · rw [eb] at z; cases z
          · rcases hC b z with z | z
            · exact (ha z).elim
            · rw [eb] at z; cases z
    · cases eb : B.H0 b with
      | none => exact .inr rfl
      | some o =>
        by_cases ha : B.A0 b
        · exact .inl ha
        · rcases pA.own b h with (z | z) | z
          · rcases b1.own b z with z | z
            · exact .inl z
            · rw [eb] at z; cases z
          · rcases hC b z with z | z
            · exact .inl z
            · rw [eb] at z; cases z
          · rw [b1.keep b o eb ha] at z; cases z
end

/-! ### places -/
abbrev WL := Env' → (Nat → List Nat → Prop) → Prop
/-- v stands at the place -/
def Place (H : Hp) (σ : L2.St) (i : Nat) (π : List Nat) (v : V) : Prop := ∃ v0, σ[i]? = some (some v0) ∧ fol H π v0 = some v
def rdL (B : Bs) (w : WL) : TE := fun σ H Q => ∃ F A env R, SR B F H A env σ ∧ w env R ∧ ∀ i π, R i π → ∀ v, Place H σ i π v → Q v H
structure PL (X : Cx) (B : Bs) (e : Expr) (w : WL) : Prop where
  pe : PE X e (rdL B w)
/-- the tree at a place -/
def atP (env : Env') (i : Nat) (π : List Nat) : Option OT := (env[i]?).bind (OT.at π)
def putP (env : Env') (i : Nat) (π : List Nat) (t : OT) : Env' := env.set i (OT.put π t (env.getD i .un))
theorem fol_app (H : Hp) : ∀ (π ρ : List Nat) (v : V), fol H (π ++ ρ) v = (fol H π v).bind (fol H ρ)
  | [], ρ, v => rfl
  | j :: π, ρ, v => by
    cases v with
    | ref a =>
      rw [List.cons_append]
      unfold fol
      cases (kidsAt H a)[j]? with
      | none => rfl
      | some w => exact fol_app H π ρ w
    | _ => rfl
theorem at_app : ∀ (π ρ : List Nat) (t : OT), OT.at (π ++ ρ) t = (OT.at π t).bind (OT.at ρ)
  | [], ρ, t => by show OT.at ρ t = (some t).bind (OT.at ρ); rfl
  | j :: π, ρ, t => by
    rw [List.cons_append]
    cases t with
    | nd k cs =>
      unfold OT.at
      cases cs[j]? with
      | none => rfl
      | some c => exact at_app π ρ c
    | un => rfl
    | fz d => rfl
theorem SR.place {B : Bs} {F H : Hp} {A : Addr → Prop} {env : Env'} {σ : L2.St} (S : SR B F H A env σ) {i : Nat} {π : List Nat} {t : OT} {v : V} (h : Place H σ i π v) (e : atP env i π = some t) : t = .un ∨ View B.K F H t v := by
  obtain ⟨v0, ev, ef⟩ := h
  unfold atP at e
  obtain ⟨t0, e0, e1⟩ := Option.bind_eq_some_iff.mp e
  obtain ⟨w, Bi, Ri, ew, ow, _⟩ := S.own.focus e0
  rw [vsOf_get ev] at ew
  cases ew
  obtain ⟨B1, R1, o1, _⟩ := ow.dig e1 ef
  exact o1.view
end DL

/-! DL: places as terms, mutators, loops, comprehensions. -/
namespace DL
open PySem PySem.Spec PyProof.Rows L2
section
variable {X : Cx} {B : Bs} {e a b c : Expr} {pos p p2 p3 p4 apos cpos : Pos} {K : PySem.W.Frag} {wa wb : WP} {ea eb : WE} {oa ob : WO} {es : List Expr} {er : WAs} {wr : WVs} {st : Stmt} {rest : List Stmt} {w u : WS} {wt : WT} {la lb : WL}
/-! ### places -/
def lName (i : Nat) : WL := fun env Q => (∃ t, env[i]? = some t ∧ t ≠ .un) ∧ Q i []
theorem pl_name (i : Nat) {x : Str} (hN : X.N[i]? = some x := by rfl) (hv : Vis X.env.scope x := by first | exact Or.inl rfl | exact Or.inr (Or.inl rfl) | exact Or.inr (Or.inr rfl)) (hd : (x == ("__debug__" : Str)) = false := by decide)
    (hcd : (x == ("__classdict__" : Str)) = false := by decide) : PL X B (.Name x pos) (lName i) := ⟨pe_imp (pe_var hN hv hd hcd) fun σ H Q ⟨F, A, env, R, S, hw, q⟩ => by
  obtain ⟨⟨t, et, hu⟩, hw⟩ := hw
  obtain ⟨v, ev, _⟩ := S.get et hu
  exact ⟨v, ev, q i [] hw v ⟨v, ev, rfl⟩⟩⟩
/-- an item of a list of one's own -/
def lIx (la : WL) (wb : WP) : WL := fun env Q => la env fun i π => wb env fun t => match atP env i π, t with
  | some (.nd .lst cs), .fz (.int z) => (match ixN cs.length z with
    | some k => Q i (π ++ [k])
    | none => False)
  | some (.nd .tup cs), .fz (.int z) => (match ixN cs.length z with
    | some k => Q i (π ++ [k])
    | none => False)
  | _, _ => False
theorem SR.node {B : Bs} {F H : Hp} {A : Addr → Prop} {env : Env'} {σ : L2.St} (S : SR B F H A env σ) {i : Nat} {π : List Nat} {k : NK} {cs : List OT} {v : V} (h : Place H σ i π v) (e : atP env i π = some (.nd k cs)) : ∃ a vs, v = .ref a ∧ NodeO H a vs k ∧ cs.length = vs.length := by
  rcases S.place h e with z | z
  · cases z
  · unfold View at z
    obtain ⟨a, vs, rfl, n, r⟩ := z
    exact ⟨a, vs, rfl, n, r.len⟩
theorem Place.kid {H : Hp} {σ : L2.St} {i : Nat} {π : List Nat} {a : Addr} {vs : List V} {k : NK} {j : Nat} {w : V} (h : Place H σ i π (.ref a)) (n : NodeO H a vs k) (e : vs[j]? = some w) : Place H σ i (π ++ [j]) w := by
  obtain ⟨v0, ev, ef⟩ := h
  refine ⟨v0, ev, ?_⟩
  rw [fol_app, ef]
  show fol H [j] (.ref a) = some w
  unfold fol
  rw [n.kids, e]; rfl
theorem atI_of {vs : List V} {z : Int} {k : Nat} {w : V} (h : ixN vs.length z = some k) (e : vs[k]? = some w) : atI vs z = some w := by
  unfold atI; rw [h]; exact e
theorem pl_ix (hK : B.K = X.K) (ha : PL X B a la) (hb : PV X B b wb) (hs : PlainIx b) : PL X B (.Subscript a b pos) (lIx la wb) := ⟨pe_imp (pe_ix ix_seq ha.pe hb.pe hs) fun σ H Q ⟨F, A, env, R, S, hw, q⟩ => by
  refine ⟨F, A, env, _, S, hw, fun i π h1 x px => ?_⟩
  refine ⟨F, A, env, _, S, h1, fun t h2 y vy => ?_⟩
  split at h2
  · rename_i cs z e0
    obtain ⟨a, vs, rfl, n, l⟩ := S.node px e0
    unfold View Rep at vy; subst vy
    split at h2
    · rename_i k ek
      rw [l] at ek
      have hk := (ixN_seq ek).2.1
      have ew : vs[k]? = some vs[k] := List.getElem?_eq_getElem hk
      exact .inl ⟨a, vs, z, _, rfl, rfl, SqL.of n, atI_of ek ew, q i _ h2 _ (px.kid n ew)⟩
    · exact h2.elim
  · rename_i cs z e0
    obtain ⟨a, vs, rfl, n, l⟩ := S.node px e0
    unfold View Rep at vy; subst vy
    split at h2
    · rename_i k ek
      rw [l] at ek
      have hk := (ixN_seq ek).2.1
      have ew : vs[k]? = some vs[k] := List.getElem?_eq_getElem hk
      exact .inr (.inl ⟨a, vs, z, _, rfl, rfl, SqT.of n, atI_of ek ew, q i _ h2 _ (px.kid n ew)⟩)
    · exact h2.elim
  · exact h2.elim⟩
/-- a place is looked at -/
def wPlc (la : WL) : WP := fun env Q => la env fun i π => match atP env i π with
  | some .un => False
  | some t => Q t
  | none => False
theorem PL.pv (h : PL X B e la) : PV X B e (wPlc la) := ⟨pe_imp h.pe fun σ H Q ⟨F, A, env, R, S, hw, q⟩ => by
  refine ⟨F, A, env, _, S, hw, fun i π h1 v pv => ?_⟩
  obtain ⟨t, e, hu, h3⟩ := ix_case h1
  exact q t h3 v ((S.place pv e).resolve_left hu)⟩

/-! ### a list of one's own is changed -/
/-- a builtin list method: the arguments data; what becomes of the items, what is handed back -/
abbrev GM := List D → List D → (D → List D → Prop) → Prop
/-- a method of a list: r by values, g by data; the items that stay keep their places or are dropped -/
structure OpM (K : PySem.W.Frag) (r : V → List V → Hp → VK → Prop) (g : List OT → List OT → (OT → List OT → Prop) → Prop) : Prop where
  run : ∀ (F H : Hp) (A1 C : Addr → Prop) (a : Addr) (vs us : List V) (cs ts : List OT) (R : OT → List OT → Prop) (Q : VK), Same F H → H a = some (.lst vs) → OwnL K F H cs vs A1 → OwnL K F H ts us C → (∀ b, A1 b → C b → False) → (∀ b, A1 b ∨ C b → b ≠ a) → g cs ts R →
    (∀ t cs', R t cs' → ∀ (vs' : List V) (v : V) (A2 C2 : Addr → Prop), OwnL K F (L2.upd H a (.lst vs')) cs' vs' A2 → Own K F (L2.upd H a (.lst vs')) t v C2 → (∀ b, A2 b → C2 b → False) → (∀ b, A2 b ∨ C2 b → A1 b ∨ C b) → Q v (L2.upd H a (.lst vs'))) → r (.ref a) us H Q
theorem OwnL.at {F H : Hp} {a : Addr} {o : HO} {cs : List OT} {vs : List V} {A1 : Addr → Prop} (h : OwnL K F H cs vs A1) (n : ∀ b, A1 b → b ≠ a) : OwnL K F (L2.upd H a o) cs vs A1 := h.mono (Same.refl F) fun b hb => ⟨(h.free b hb).1, upd_ne (n b hb)⟩
theorem Own.at {F H : Hp} {a : Addr} {o : HO} {t : OT} {v : V} {A1 : Addr → Prop} (h : Own K F H t v A1) (n : ∀ b, A1 b → b ≠ a) : Own K F (L2.upd H a o) t v A1 := h.mono (Same.refl F) fun b hb => ⟨(h.free b hb).1, upd_ne (n b hb)⟩
def gAppend (cs ts : List OT) (R : OT → List OT → Prop) : Prop := match ts with
  | [t] => cs.length < sizeLine ∧ R (.fz .non) (cs ++ [t])
  | _ => False
theorem op_append : OpM K rAppend gAppend := ⟨fun F H A1 C a vs us cs ts R Q s ha ow ot d ne hg q => by
  unfold gAppend at hg
  split at hg
  · rename_i t
    obtain ⟨v, r, B1, B2, rfl, o1, o2, d2, e2⟩ := ot.cons_inv
    have l := o2.len
    obtain rfl : r = [] := List.length_eq_zero_iff.mp l.symm
    unfold OwnL at o2
    refine ⟨a, vs, v, rfl, rfl, ha, by rw [← ow.len]; exact hg.1, ?_⟩
    have oc := (OwnL.cons o1 OwnL.nil fun b _ z => z.elim).iff (A' := B1) fun b => ⟨.inl, fun z => z.elim id fun z => z.elim⟩
    have dd : ∀ b, A1 b → B1 b → False := fun b z y => d b z ((e2 b).mpr (.inl y))
    refine q _ _ hg.2 _ _ (fun b => A1 b ∨ B1 b) Nobody (OwnL.at (OwnL.append ow oc dd) fun b z => ne b (z.imp id fun y => (e2 b).mpr (.inl y))) (Own.fz (by unfold Rep; rfl)) (fun _ _ z => z.elim) fun b z => ?_
    rcases z with (z | z) | z
    · exact .inl z
    · exact .inr ((e2 b).mpr (.inl z))
    · exact z.elim
  · exact hg.elim⟩
/-- the call of such a method at a place -/
def wMth (g : List OT → List OT → (OT → List OT → Prop) → Prop) (la : WL) (ws : WOs) : WO := fun env Q => la env fun i π => ws env fun ts e1 => match atP e1 i π with
  | some (.nd .lst cs) => g cs ts fun t cs' => Q t (putP e1 i π (.nd .lst cs'))
  | _ => False
end
end DL

/-! DL: methods at places, loops, comprehensions. -/
namespace DL
open PySem PySem.Spec PyProof.Rows L2
section
variable {X : Cx} {B : Bs} {e a b c : Expr} {pos p p2 p3 p4 apos cpos : Pos} {K : PySem.W.Frag} {wa wb : WP} {ea eb : WE} {oa ob : WO} {es : List Expr} {er : WAs} {wr : WVs} {st : Stmt} {rest : List Stmt} {w u : WS} {wt : WT} {la lb : WL} {ws : WOs}
theorem putP_eq {env : Env'} {i : Nat} {π : List Nat} {t0 n : OT} (e : env[i]? = some t0) : putP env i π n = env.set i (OT.put π n t0) := by
  unfold putP
  rw [List.getD_eq_getElem?_getD, e]; rfl
/-- THE CHANGE of a list of one's own at a place -/
theorem SR.mutL {r : V → List V → Hp → VK → Prop} {g : List OT → List OT → (OT → List OT → Prop) → Prop} (ho : OpM B.K r g) {F H : Hp} {A C : Addr → Prop} {env : Env'} {σ : L2.St} (S : SR B F H A env σ) {i : Nat} {π : List Nat} {cs ts : List OT} {v : V} {us : List V}
    (pl : Place H σ i π v) (e : atP env i π = some (.nd .lst cs)) (ot : OwnL B.K F H ts us C) (dC : ∀ b, C b → ¬ A b) (bC : ∀ b, C b → B.A0 b ∨ B.H0 b = none) {R : OT → List OT → Prop} {Q : VK} (hg : g cs ts R)
    (q : ∀ t cs', R t cs' → ∀ (H' : Hp) (A' C' : Addr → Prop) (z : V), SR B F H' A' (putP env i π (.nd .lst cs')) σ → Step F H (fun b => A b ∨ C b) F H' (fun b => A' b ∨ C' b) → Own B.K F H' t z C' → (∀ b, C' b → ¬ A' b) → Q z H') : r v us H Q := by
  obtain ⟨v0, ev, ef⟩ := pl
  unfold atP at e
  obtain ⟨t0, e0, e1⟩ := Option.bind_eq_some_iff.mp e
  obtain ⟨B1, Rr, o1, eA, d1, put⟩ := S.dig (C := C) e0 ev e1 ef dC
  unfold Own at o1
  obtain ⟨a, vs, Bc, rfl, n, f, oc, na, eB⟩ := o1
  have ha : A a := (eA a).mpr (.inl ((eB a).mpr (.inl rfl)))
  have cA : ∀ b, Bc b → A b := fun b z => (eA b).mpr (.inl ((eB b).mpr (.inr z)))
  have nCa : ¬ C a := fun z => dC a z ha
  refine ho.run F H Bc C a vs us cs ts R Q S.sub n oc ot (fun b z y => dC b y (cA b z)) (fun b z y => ?_) hg fun t cs' hR vs' z A2 C2 o2 oz d2 sub => ?_
  · subst y
    exact z.elim na nCa
  · have na2 : ¬ A2 a := fun y => (sub a (.inl y)).elim na nCa
    have nc2 : ¬ C2 a := fun y => (sub a (.inr y)).elim na nCa
    have own' : Own B.K F (L2.upd H a (.lst vs')) (.nd .lst cs') (.ref a) (fun b => b = a ∨ A2 b) := by
      unfold Own
      exact ⟨a, vs', A2, rfl, upd_same, f, o2, na2, fun b => Iff.rfl⟩
    have stp : Step F H (fun b => B1 b ∨ C b) F (L2.upd H a (.lst vs')) (fun b => b = a ∨ A2 b) := by
      refine ⟨Same.refl F, fun b o eb nb => ?_, fun b h => .inl h, fun b h => .inl ?_⟩
      · rw [upd_ne (by rintro rfl; exact nb (.inl ((eB b).mpr (.inl rfl))))]; exact eb
      · rcases h with rfl | h
        · exact .inl ((eB b).mpr (.inl rfl))
        · rcases sub b (.inl h) with y | y
          · exact .inl ((eB b).mpr (.inr y))
          · exact .inr y
    have sub' : Same F (L2.upd H a (.lst vs')) := fun b o eb => by
      rw [upd_ne (by rintro rfl; rw [f] at eb; cases eb)]; exact S.sub b o eb
    obtain ⟨S', p'⟩ := put F _ (.nd .lst cs') _ stp sub' own' bC
    rw [← putP_eq e0] at S'
    refine q t cs' hR _ _ C2 z S' ?_ oz fun b hb hr => ?_
    · exact p'.more fun b y => by
        rcases sub b (.inr y) with y | y
        · exact .inl (.inl (cA b y))
        · exact .inl (.inr y)
    · rcases hr with (rfl | hr) | hr
      · exact nc2 hb
      · exact d2 b hr hb
      · rcases sub b (.inr hb) with y | y
        · exact d1 b ((eB b).mpr (.inr y)) hr
        · exact dC b y ((eA b).mpr (.inr hr))
/-- x.m(..), x a name of a list of one's own -/
def wMthN (i : Nat) (g : List OT → List OT → (OT → List OT → Prop) → Prop) (ws : WOs) : WO := fun env Q => (∃ cs, env[i]? = some (.nd .lst cs)) ∧ ws env fun ts e1 => match e1[i]? with
  | some (.nd .lst cs) => g cs ts fun t cs' => Q t (e1.set i (.nd .lst cs'))
  | _ => False
theorem im_mthN {i : Nat} {r : V → List V → Hp → VK → Prop} {g : List OT → List OT → (OT → List OT → Prop) → Prop} (ho : OpM B.K r g) {σ : L2.St} {H : Hp} {Q : VK} (h : rdO B (wMthN i g ws) σ H Q) : tBM B.K "list" r (tVar i) (rdOs B ws) σ H Q := by
  obtain ⟨F, A, env, R, S, ⟨⟨cs0, e0⟩, hw⟩, q⟩ := h
  obtain ⟨v, ev, _⟩ := S.get e0 (fun z => nomatch z)
  obtain ⟨a, vs, rfl, n, _⟩ := S.node (π := []) ⟨v, ev, rfl⟩ (show atP env i [] = some (.nd .lst cs0) by unfold atP; rw [e0]; rfl)
  refine ⟨.ref a, ev, .inl ⟨rfl, vs, SqL.of n⟩, F, A, env, _, S, hw, fun ts e1 h1 F1 H1 A1 C1 us S1 p1 o1 d1 => ?_⟩
  split at h1
  · rename_i cs e1i
    refine S1.mutL ho (π := []) ⟨.ref a, ev, rfl⟩ (show atP e1 i [] = some (.nd .lst cs) by unfold atP; rw [e1i]; rfl) o1 d1 (step_base S p1) h1 fun t cs' hR H' A' C' z S' p' oz dz => ?_
    rw [putP_eq e1i] at S'
    exact q t _ hR F1 H' A' C' z S' (p1.trans p') oz dz
  · exact h1.elim
/-- a method without arguments -/
theorem im_mthN0 {i : Nat} {r : V → List V → Hp → VK → Prop} {g : List OT → List OT → (OT → List OT → Prop) → Prop} (ho : OpM B.K r g) {σ : L2.St} {H : Hp} {Q : VK} (h : rdO B (wMthN i g wONil) σ H Q) : tBM0 B.K "list" r (tVar i) σ H Q := by
  obtain ⟨x, ev, ty, h2⟩ := im_mthN (ws := wONil) ho h
  refine ⟨x, ev, ty, ?_⟩
  obtain ⟨F, A, env, R, S, hw, q⟩ := h2
  exact q [] env hw F H A Nobody [] S (Step.refl.more fun _ z => z.elim) OwnL.nil fun _ z => z.elim
section
variable {x : Str}
theorem oe_append (hK : B.K = X.K) (i : Nat) (ha : OAs X B [a] ws) (hN : X.N[i]? = some x := by rfl) (hv : Vis X.env.scope x := by first | exact Or.inl rfl | exact Or.inr (Or.inl rfl) | exact Or.inr (Or.inr rfl)) (hd : (x == ("__debug__" : Str)) = false := by decide)
    (hcd : (x == ("__classdict__" : Str)) = false := by decide) (hbase : attributeBase (.Name x p) "append" X.env (eval (.Name x p) X.env) = eval (.Name x p) X.env := by rfl)
    (hfew : ((backTo cpos (starEach [a] X.env)).all (fun x => !x.1) && (backToKw cpos (keywordEach [] X.env)).all (fun x => x.1.isSome) && decide ([a].length + ([] : List Keyword).length + (if ([] : List Keyword).isEmpty then 0 else 1) < 30)) = true := by rfl)
    (hline : (apos.endLine == cpos.line) = true := by rfl) (hs : starEach [a] X.env = (false, eval a X.env) :: starEach [] X.env := by rfl) : OE X B (.Call (.Attribute (.Name x p) "append" apos) [a] [] cpos) (wMthN i gAppend ws) :=
  ⟨pe_imp (pe_bm PySem.F.plainAttrs_list PySem.F.slot_list_append PySem.F.type_list_append mt_append (pe_var hN hv hd hcd) ha.pa hbase hfew hline hs) fun _ _ _ => by rw [← hK]; exact im_mthN op_append⟩
end

/-! ### what is walked -/
/-- J walks the data ds, in any state that comes of F -/
def IsWalk (B : Bs) (J : It) (ds : List D) (F : Hp) : Prop := ∀ (i : Nat) (F1 H1 : Hp) (A1 : Addr → Prop) (env : Env') (σ : L2.St), Same F F1 → SR B F1 H1 A1 env σ →
  (ds.length ≤ i → J.stop i H1) ∧ ∀ d, ds[i]? = some d → J.go i H1 ∧ ∀ x H2, J.yld i H1 x H2 → ∃ F2, SR B F2 H2 A1 env σ ∧ Step F1 H1 A1 F2 H2 A1 ∧ Rep B.K F2 d x
abbrev WI := Env' → (List D → Env' → Prop) → Prop
def rdI (B : Bs) (w : WI) : TI := fun σ H Q => ∃ F A env R, SR B F H A env σ ∧ w env R ∧ ∀ ds env', R ds env' → ∀ F' H' A' J, SR B F' H' A' env' σ → Step F H A F' H' A' → IsWalk B J ds F' → Q J H'
structure DIt (X : Cx) (B : Bs) (tg e : Expr) (w : WI) : Prop where
  pi : PI X tg e (rdI B w)
theorem pi_imp {tg : Expr} {t t' : TI} (h : PI X tg e t) (i : ∀ {σ H Q}, t' σ H Q → t σ H Q) : PI X tg e t' := ⟨fun pins s σ H R I q => h.run pins s σ H R I (i q)⟩
theorem pi_or {tg : Expr} {t t' : TI} (h : PI X tg e t) (h' : PI X tg e t') : PI X tg e (fun σ H Q => t σ H Q ∨ t' σ H Q) := ⟨fun pins s σ H R I q => q.elim (h.run pins s σ H R I) (h'.run pins s σ H R I)⟩
/-- a list, a tuple of data -/
def iSeq (ea : WE) : WI := fun env Q => ea env fun d e1 => match d with
  | .nd .lst ds => Q ds e1
  | .nd .tup ds => Q ds e1
  | .nd .scr ds => Q ds e1
  | _ => False
theorem walk_list {F : Hp} {a : Addr} {vs : List V} {ds : List D} (h : SqL B.K F a vs) (r : RepL B.K F ds vs) : IsWalk B (Itl B.K a) ds F := fun i F1 H1 A1 env σ s S => by
  have q := (s.trans S.sub).seq h
  refine ⟨fun hl => ⟨vs, q, by rw [← r.len]; exact hl⟩, fun d ed => ?_⟩
  obtain ⟨v, ev, rv⟩ := r.get ed
  refine ⟨⟨vs, v, q, ev⟩, fun x H2 y => ?_⟩
  obtain ⟨e2, y⟩ := y
  subst e2
  have := y vs q
  rw [ev] at this; cases this
  exact ⟨F1, S, Step.refl, rv.mono s⟩
theorem walk_tup {F : Hp} {a : Addr} {vs : List V} {ds : List D} (h : SqT B.K F a vs) (r : RepL B.K F ds vs) : IsWalk B (Itt B.K a) ds F := fun i F1 H1 A1 env σ s S => by
  have q := Same.tseq (s.trans S.sub) h
  refine ⟨fun hl => ⟨vs, q, by rw [← r.len]; exact hl⟩, fun d ed => ?_⟩
  obtain ⟨v, ev, rv⟩ := r.get ed
  refine ⟨⟨vs, v, q, ev⟩, fun x H2 y => ?_⟩
  obtain ⟨e2, y⟩ := y
  subst e2
  have := y vs q
  rw [ev] at this; cases this
  exact ⟨F1, S, Step.refl, rv.mono s⟩
/-- a list or a tuple, whichever it turns out to be -/
def iBoth (K : PySem.W.Frag) (tl : TE) : TI := fun σ H R => tl σ H fun x H1 => ∃ a, x = .ref a ∧ (((∃ xs, SqL K H1 a xs) ∧ R (Itl K a) H1) ∨ ((∃ xs, SqT K H1 a xs) ∧ R (Itt K a) H1))
theorem pi_both {tg l : Expr} {tl : TE} (hl : PE X l tl) : PI X tg l (iBoth X.K tl) := by
  refine ⟨fun pins s σ H R I h => ?_⟩
  refine thn (hl.run pins s σ H _ I h) fun v s1 ⟨x, H1, I1, r1, a, ex, q1⟩ => ?_
  subst ex
  cases r1
  rcases q1 with ⟨⟨xs, hq⟩, q⟩ | ⟨⟨xs, hq⟩, q⟩
  · obtain ⟨its, rv, pl, hz⟩ := I1.list hq
    refine wpAny_pyIter_list pl.isList ?_
    refine ⟨s1.heap.objs.size, [s1.heap.objs.size], _, _, H1, rfl, I1.kept (t' := s1.toks) fun b o z => Heap.get?_push_of_some _ z, turn_list a _, ⟨_, Heap.get?_push_size _ rfl, rfl, rfl⟩, fun b hb => ?_, q⟩
    have z : b = s1.heap.objs.size := by simpa using hb
    subst z
    exact I1.fpOk (Nat.le_refl _) (I1.hok.fresh (Nat.le_refl _))
  · obtain ⟨its, rv, pl, hz⟩ := I1.tuple hq
    refine wpAny_pyIter_tuple (show s1.heap.IsTuple a its.toArray from pl) ?_
    refine ⟨s1.heap.objs.size, [s1.heap.objs.size], _, _, H1, rfl, I1.kept (t' := s1.toks) fun b o z => Heap.get?_push_of_some _ z, turn_tuple a _, ⟨_, Heap.get?_push_size _ rfl, rfl, rfl⟩, fun b hb => ?_, q⟩
    have z : b = s1.heap.objs.size := by simpa using hb
    subst z
    exact I1.fpOk (Nat.le_refl _) (I1.hok.fresh (Nat.le_refl _))
theorem di_seq {tg : Expr} (hK : B.K = X.K) (h : DE X B e ea) : DIt X B tg e (iSeq ea) := ⟨pi_imp (pi_both h.pe) fun ⟨F, A, env, R, S, hw, q⟩ => by
  refine ⟨F, A, env, _, S, hw, fun d e1 h1 F1 H1 A1 v S1 p1 r1 => ?_⟩
  rw [← hK]
  split at h1
  · unfold Rep at r1
    obtain ⟨a, vs, rfl, n, r⟩ := r1
    exact ⟨a, rfl, .inl ⟨⟨vs, (Same.seq S1.sub (SqL.of n))⟩, q _ e1 h1 F1 H1 A1 _ S1 p1 (walk_list (SqL.of n) r)⟩⟩
  · unfold Rep at r1
    obtain ⟨a, vs, rfl, n, r⟩ := r1
    exact ⟨a, rfl, .inr ⟨⟨vs, (Same.tseq S1.sub n)⟩, q _ e1 h1 F1 H1 A1 _ S1 p1 (walk_tup n r)⟩⟩
  · unfold Rep at r1
    obtain ⟨a, vs, rfl, n, r⟩ := r1
    exact ⟨a, rfl, .inl ⟨⟨vs, (Same.seq S1.sub n)⟩, q _ e1 h1 F1 H1 A1 _ S1 p1 (walk_list n r)⟩⟩
  · exact h1.elim⟩
/-- range(n), range(a, b) -/
def rangeD (lo : Int) (n : Nat) : List D := (List.range n).map fun (k : Nat) => D.int (lo + (k : Int))
theorem rangeD_len (lo : Int) (n : Nat) : (rangeD lo n).length = n := by unfold rangeD; simp
theorem walk_range {F : Hp} {lo : Int} {n : Nat} : IsWalk B (Itr lo n) (rangeD lo n) F := fun i F1 H1 A1 env σ s S => by
  refine ⟨fun hl => by rw [rangeD_len] at hl; exact hl, fun d ed => ?_⟩
  have hi : i < n := by
    have := (List.getElem?_eq_some_iff.mp ed).1
    rw [rangeD_len] at this; exact this
  have e2 : (rangeD lo n)[i]? = some (.int (lo + (i : Int))) := by
    unfold rangeD
    rw [List.getElem?_map, List.getElem?_range hi]; rfl
  rw [e2] at ed
  cases ed
  refine ⟨hi, fun x H2 y => ?_⟩
  obtain ⟨rfl, rfl⟩ := y
  exact ⟨F1, S, Step.refl, by unfold Rep; rfl⟩
def Small62 (j : Int) : Prop := -(2 ^ 62) ≤ j ∧ j < 2 ^ 62
def iRange1 (er : WAs) : WI := fun env Q => er env fun ds e1 => match ds with
  | [.int j] => Small62 j ∧ Q (rangeD 0 j.toNat) e1
  | _ => False
def iRange2 (er : WAs) : WI := fun env Q => er env fun ds e1 => match ds with
  | [.int i, .int j] => Small62 i ∧ Small62 j ∧ Q (rangeD i (j - i).toNat) e1
  | _ => False
theorem di_range1 {tg : Expr} (hm : X.mg "range" = none) (ha : DAs X B [a] er) (hg : Gl X "range" := by rfl) (hs : starEach [a] X.env = [(false, eval a X.env)] := by rfl) : DIt X B tg (.Call (.Name "range" p) [a] [] pos) (iRange1 er) := ⟨pi_imp (pi_range1 hg hm ha.pa hs) fun ⟨F, A, env, R, S, hw, q⟩ => by
  refine ⟨F, A, env, _, S, hw, fun ds e1 h1 F1 H1 A1 vs S1 p1 r1 => ?_⟩
  split at h1
  · obtain ⟨v, r, rfl, ra, rb⟩ := r1.cons_inv
    unfold RepL at rb; subst rb
    unfold Rep at ra; subst ra
    exact ⟨_, rfl, h1.1.1, h1.1.2, q _ e1 h1.2 F1 H1 A1 _ S1 p1 walk_range⟩
  · exact h1.elim⟩
theorem di_range2 {tg : Expr} (hm : X.mg "range" = none) (ha : DAs X B [a, b] er) (hg : Gl X "range" := by rfl) (hs : starEach [a, b] X.env = [(false, eval a X.env), (false, eval b X.env)] := by rfl) (hs2 : starEach [b] X.env = [(false, eval b X.env)] := by rfl) : DIt X B tg (.Call (.Name "range" p) [a, b] [] pos) (iRange2 er) := ⟨pi_imp (pi_range2 hg hm ha.pa hs hs2) fun ⟨F, A, env, R, S, hw, q⟩ => by
  refine ⟨F, A, env, _, S, hw, fun ds e1 h1 F1 H1 A1 vs S1 p1 r1 => ?_⟩
  split at h1
  · obtain ⟨v, r, rfl, ra, rb⟩ := r1.cons_inv
    obtain ⟨v', r', rfl, rc, rd⟩ := rb.cons_inv
    unfold RepL at rd; subst rd
    unfold Rep at ra rc; subst ra rc
    exact ⟨_, _, rfl, ⟨h1.1.1, h1.1.2, h1.2.1.1, h1.2.1.2⟩, q _ e1 h1.2.2 F1 H1 A1 _ S1 p1 walk_range⟩
  · exact h1.elim⟩
/-- enumerate(xs), zip(xs, ys): lists of data -/
def enumD : Nat → List D → List D
  | _, [] => []
  | k, d :: ds => .nd .tup [.int (k : Int), d] :: enumD (k + 1) ds
theorem enumD_len : ∀ (k : Nat) (ds : List D), (enumD k ds).length = ds.length
  | _, [] => rfl
  | k, d :: ds => by unfold enumD; simp [enumD_len (k + 1) ds]
theorem enumD_get : ∀ (k : Nat) (ds : List D) (i : Nat) (z : D), (enumD k ds)[i]? = some z → ∃ d, ds[i]? = some d ∧ z = .nd .tup [.int ((k + i : Nat) : Int), d]
  | _, [], i, z, h => by unfold enumD at h; simp at h
  | k, d :: ds, 0, z, h => by unfold enumD at h; simp at h; exact ⟨d, rfl, by rw [← h]; rfl⟩
  | k, d :: ds, i + 1, z, h => by
    unfold enumD at h
    obtain ⟨d', e1, e2⟩ := enumD_get (k + 1) ds i z (by simpa using h)
    exact ⟨d', by simpa using e1, by rw [e2]; congr 4; omega⟩
theorem walk_new {F1 H1 : Hp} {A1 : Addr → Prop} {env : Env'} {σ : L2.St} {T : Addr} {ds : List D} {vs : List V} (S : SR B F1 H1 A1 env σ) (hT : H1 T = none) (r : RepL B.K F1 ds vs) :
    ∃ F2, SR B F2 (L2.upd H1 T (.tup vs)) A1 env σ ∧ Step F1 H1 A1 F2 (L2.upd H1 T (.tup vs)) A1 ∧ Rep B.K F2 (.nd .tup ds) (.ref T) := by
  obtain ⟨S', p'⟩ := S.addp (o := .tup vs) hT
  refine ⟨_, S', p', ?_⟩
  unfold Rep
  exact ⟨T, vs, rfl, SqT.of upd_same, r.mono p'.fr⟩
theorem walk_enum {F : Hp} {a : Addr} {vs : List V} {ds : List D} (h : SqL B.K F a vs) (r : RepL B.K F ds vs) : IsWalk B (Ite B.K a) (enumD 0 ds) F := fun i F1 H1 A1 env σ s S => by
  have q := (s.trans S.sub).seq h
  refine ⟨fun hl => ⟨vs, q, by rw [← r.len]; rw [enumD_len] at hl; exact hl⟩, fun z ez => ?_⟩
  obtain ⟨d, ed, rfl⟩ := enumD_get 0 ds i z ez
  obtain ⟨v, ev, rv⟩ := r.get ed
  refine ⟨⟨vs, v, q, ev⟩, fun x H2 y => ?_⟩
  obtain ⟨T, w, rfl, hT, rfl, y⟩ := y
  have := y vs q
  rw [ev] at this; cases this
  rw [Nat.zero_add]
  exact walk_new S hT (RepL.cons (by unfold Rep; rfl) (RepL.cons (rv.mono s) RepL.nil))
def iEnumD (er : WAs) : WI := fun env Q => er env fun ds e1 => match ds with
  | [.nd .lst xs] => Q (enumD 0 xs) e1
  | _ => False
theorem di_enum {elts : List Expr} {kk : Nat} {tpos : Pos} (hK : B.K = X.K) (hm : X.mg "enumerate" = none) (ha : DAs X B [a] er) (hg : Gl X "enumerate" := by rfl) (hs : starEach [a] X.env = [(false, eval a X.env)] := by rfl) : DIt X B (.Tuple elts kk tpos) (.Call (.Name "enumerate" p) [a] [] pos) (iEnumD er) := ⟨pi_imp (pi_enum hg hm ha.pa hs) fun ⟨F, A, env, R, S, hw, q⟩ => by
  refine ⟨F, A, env, _, S, hw, fun ds e1 h1 F1 H1 A1 vs S1 p1 r1 => ?_⟩
  rw [← hK]
  split at h1
  · obtain ⟨v, r, rfl, ra, rb⟩ := r1.cons_inv
    unfold RepL at rb; subst rb
    unfold Rep at ra
    obtain ⟨a, vs, rfl, n, r⟩ := ra
    exact ⟨a, vs, rfl, Same.seq S1.sub (SqL.of n), q _ e1 h1 F1 H1 A1 _ S1 p1 (walk_enum (SqL.of n) r)⟩
  · exact h1.elim⟩
def zipD : List D → List D → List D
  | x :: xs, y :: ys => .nd .tup [x, y] :: zipD xs ys
  | _, _ => []
theorem zipD_get : ∀ (xs ys : List D) (i : Nat) (z : D), (zipD xs ys)[i]? = some z → ∃ x y, xs[i]? = some x ∧ ys[i]? = some y ∧ z = .nd .tup [x, y]
  | [], ys, i, z, h => by unfold zipD at h; simp at h
  | x :: xs, [], i, z, h => by unfold zipD at h; simp at h
  | x :: xs, y :: ys, 0, z, h => by unfold zipD at h; simp at h; exact ⟨x, y, rfl, rfl, h.symm⟩
  | x :: xs, y :: ys, i + 1, z, h => by
    unfold zipD at h
    obtain ⟨x', y', e1, e2, e3⟩ := zipD_get xs ys i z (by simpa using h)
    exact ⟨x', y', by simpa using e1, by simpa using e2, e3⟩
theorem zipD_end : ∀ (xs ys : List D) (i : Nat), (zipD xs ys).length ≤ i → xs.length ≤ i ∨ ys.length ≤ i
  | [], ys, i, h => .inl (Nat.zero_le _)
  | x :: xs, [], i, h => .inr (Nat.zero_le _)
  | x :: xs, y :: ys, 0, h => by unfold zipD at h; simp at h
  | x :: xs, y :: ys, i + 1, h => by
    unfold zipD at h
    rcases zipD_end xs ys i (by simpa using h) with z | z
    · exact .inl (by simpa using z)
    · exact .inr (by simpa using z)
theorem walk_zip {F : Hp} {a b : Addr} {vs us : List V} {ds es : List D} (h : SqL B.K F a vs) (r : RepL B.K F ds vs) (h' : SqL B.K F b us) (r' : RepL B.K F es us) : IsWalk B (Itz B.K a b) (zipD ds es) F := fun i F1 H1 A1 env σ s S => by
  have q := (s.trans S.sub).seq h
  have q' := (s.trans S.sub).seq h'
  refine ⟨fun hl => ⟨vs, us, q, q', by rw [← r.len, ← r'.len]; exact zipD_end _ _ _ hl⟩, fun z ez => ?_⟩
  obtain ⟨d, d', ed, ed', rfl⟩ := zipD_get ds es i z ez
  obtain ⟨v, ev, rv⟩ := r.get ed
  obtain ⟨v', ev', rv'⟩ := r'.get ed'
  refine ⟨⟨vs, us, v, v', q, q', ev, ev'⟩, fun x H2 y => ?_⟩
  obtain ⟨T, w, w', rfl, hT, rfl, y, y'⟩ := y
  have := y vs q
  rw [ev] at this; cases this
  have := y' us q'
  rw [ev'] at this; cases this
  exact walk_new S hT (RepL.cons (rv.mono s) (RepL.cons (rv'.mono s) RepL.nil))
theorem walk_zipT {F : Hp} {a b : Addr} {vs us : List V} {ds es : List D} (h : SqT B.K F a vs) (r : RepL B.K F ds vs) (h' : SqT B.K F b us) (r' : RepL B.K F es us) : IsWalk B (RZ.ItzT B.K a b) (zipD ds es) F := fun i F1 H1 A1 env σ s S => by
  have q := Same.tseq (s.trans S.sub) h
  have q' := Same.tseq (s.trans S.sub) h'
  refine ⟨fun hl => ⟨vs, us, q, q', by rw [← r.len, ← r'.len]; exact zipD_end _ _ _ hl⟩, fun z ez => ?_⟩
  obtain ⟨d, d', ed, ed', rfl⟩ := zipD_get ds es i z ez
  obtain ⟨v, ev, rv⟩ := r.get ed
  obtain ⟨v', ev', rv'⟩ := r'.get ed'
  refine ⟨⟨vs, us, v, v', q, q', ev, ev'⟩, fun x H2 y => ?_⟩
  obtain ⟨T, w, w', rfl, hT, rfl, y, y'⟩ := y
  have := y vs q
  rw [ev] at this; cases this
  have := y' us q'
  rw [ev'] at this; cases this
  exact walk_new S hT (RepL.cons (rv.mono s) (RepL.cons (rv'.mono s) RepL.nil))
def iZipD (er : WAs) : WI := fun env Q => er env fun ds e1 => match ds with
  | [.nd .lst xs, .nd .lst ys] => Q (zipD xs ys) e1
  | [.nd .tup xs, .nd .tup ys] => Q (zipD xs ys) e1
  | _ => False
theorem di_zip {elts : List Expr} {kk : Nat} {tpos : Pos} (hK : B.K = X.K) (hm : X.mg "zip" = none) (ha : DAs X B [a, b] er) (hg : Gl X "zip" := by rfl) (hs : starEach [a, b] X.env = (false, eval a X.env) :: starEach [b] X.env := by rfl) (hpl : (backTo pos (starEach [b] X.env)).any (·.1) = false := by rfl) :
    DIt X B (.Tuple elts kk tpos) (.Call (.Name "zip" p) [a, b] [] pos) (iZipD er) := ⟨pi_imp (RZ.pi_zipA hg hm ha.pa hs hpl) fun ⟨F, A, env, R, S, hw, q⟩ => by
  refine ⟨F, A, env, _, S, hw, fun ds e1 h1 F1 H1 A1 vs S1 p1 r1 => ?_⟩
  rw [← hK]
  split at h1
  · obtain ⟨v, r, rfl, ra, rb⟩ := r1.cons_inv
    obtain ⟨v', r', rfl, rc, rd⟩ := rb.cons_inv
    unfold RepL at rd; subst rd
    unfold Rep at ra rc
    obtain ⟨a, vs, rfl, n, r⟩ := ra
    obtain ⟨b, us, rfl, n', r'⟩ := rc
    exact ⟨a, b, vs, us, rfl, .inl ⟨Same.seq S1.sub (SqL.of n), Same.seq S1.sub (SqL.of n'), q _ e1 h1 F1 H1 A1 _ S1 p1 (walk_zip (SqL.of n) r (SqL.of n') r')⟩⟩
  · obtain ⟨v, r, rfl, ra, rb⟩ := r1.cons_inv
    obtain ⟨v', r', rfl, rc, rd⟩ := rb.cons_inv
    unfold RepL at rd; subst rd
    unfold Rep at ra rc
    obtain ⟨a, vs, rfl, n, r⟩ := ra
    obtain ⟨b, us, rfl, n', r'⟩ := rc
    exact ⟨a, b, vs, us, rfl, .inr ⟨Same.tseq S1.sub n, Same.tseq S1.sub n', q _ e1 h1 F1 H1 A1 _ S1 p1 (walk_zipT n r n' r')⟩⟩
  · exact h1.elim⟩
/-- a text, sign by sign -/
def iStrD (ea : WE) : WI := fun env Q => ea env fun d e1 => match d with
  | .str x => Q (x.cps.toList.map fun c => .str ⟨#[c]⟩) e1
  | _ => False
theorem walk_str {F : Hp} {x : Str} : IsWalk B (Its x) (x.cps.toList.map fun c => .str ⟨#[c]⟩) F := fun i F1 H1 A1 env σ s S => by
  refine ⟨fun hl => by show x.cps.size ≤ i; simpa using hl, fun d ed => ?_⟩
  rw [List.getElem?_map] at ed
  obtain ⟨c, ec, rfl⟩ := Option.map_eq_some_iff.mp ed
  have hi := (List.getElem?_eq_some_iff.mp ec).1
  refine ⟨by show i < x.cps.size; simpa using hi, fun y H2 z => ?_⟩
  obtain ⟨rfl, c', e1, rfl⟩ := z
  rw [Array.getElem?_toList] at ec
  rw [e1] at ec; cases ec
  exact ⟨F1, S, Step.refl, by unfold Rep; rfl⟩
theorem di_str {tg : Expr} (h : DE X B e ea) : DIt X B tg e (iStrD ea) := ⟨pi_imp (pi_str h.pe) fun ⟨F, A, env, R, S, hw, q⟩ => by
  refine ⟨F, A, env, _, S, hw, fun d e1 h1 F1 H1 A1 v S1 p1 r1 => ?_⟩
  split at h1
  · unfold Rep at r1; subst r1
    exact ⟨_, rfl, q _ e1 h1 F1 H1 A1 _ S1 p1 walk_str⟩
  · exact h1.elim⟩

/-! ### for -/
def forD (g : WG) (wb : WS) (R : WEnds) : List D → Env' → Prop
  | [], env => R.nx env
  | d :: ds, env => g d env fun e1 => wb { R with nx := forD g wb R ds, ct := forD g wb R ds, bk := R.nx } e1
def wFor (wi : WI) (g : WG) (wb : WS) : WS := fun R env => wi env fun ds e1 => forD g wb R ds e1
theorem ds_for {tg : Expr} {vs : List Nat} {body : List Stmt} {wi : WI} {g : WG} (hp : PassesOwn (model X.prog X.w) X.A X.env X.xe) (hc : X.calm = true) (hi : DIt X B tg e wi) (hg : DGt X B tg vs g) (hb : DSs X B body w) (hs : ∀ x, foldedSetIterable e X.env x = pure x := by intro _; rfl) :
    DS X B (.For tg e body [] pos) (wFor wi g w) := ⟨ps_imp (ps_for hp hc hi.pi hg.pg hb.pss hs) fun D σ H ⟨F, A, env, R, S, hw, q1, q2, q3, q4⟩ => by
  refine ⟨F, A, env, _, S, hw, fun ds e1 h1 F1 H1 A1 J S1 p1 wk => ?_⟩
  refine ⟨fun i m σ H => m = ds.length - i ∧ i ≤ ds.length ∧ ∃ F2 A2 e2, Step F1 H1 A1 F2 H A2 ∧ SR B F2 H A2 e2 σ ∧ forD g w R (ds.drop i) e2, ⟨ds.length, by simp, Nat.zero_le _, F1, A1, e1, Step.refl, S1, h1⟩, ?_⟩
  rintro i m σ2 H2 ⟨rfl, hi, F2, A2, e2, p2, S2, h2⟩
  have wk2 := wk i F2 H2 A2 e2 σ2 p2.fr S2
  by_cases hlt : i < ds.length
  · have ed : ds[i]? = some ds[i] := List.getElem?_eq_getElem hlt
    obtain ⟨go, yl⟩ := wk2.2 _ ed
    rw [List.drop_eq_getElem_cons hlt] at h2
    refine .inr ⟨go, fun σ' H' => ∃ F3 A3 e3, Step F1 H1 A1 F3 H' A3 ∧ SR B F3 H' A3 e3 σ' ∧ forD g w R (ds.drop (i + 1)) e3, fun σ' H' ⟨F3, A3, e3, p3, S3, h3⟩ => ⟨ds.length - (i + 1), by omega, rfl, hlt, F3, A3, e3, p3, S3, h3⟩, fun x H' y => ?_⟩
    obtain ⟨F3, S3, p3, r3⟩ := yl x H' y
    refine ⟨F3, A2, e2, _, _, S3, r3, h2, fun e4 h4 A4 σ4 S4 p4 _ => ?_⟩
    have p14 := ((p2.trans p3).trans p4)
    refine ⟨F3, A4, e4, _, S4, h4, fun env' h F' H' A' σ' S' p => ⟨F', A', env', p14.trans p, S', h⟩, fun env' h F' H' A' σ' S' p => q1 env' h F' H' A' σ' S' (p1.trans (p14.trans p)),
      fun env' h F' H' A' σ' S' p => ⟨F', A', env', p14.trans p, S', h⟩, fun t env' h F' H' A' C v σ' S' p => q4 t env' h F' H' A' C v σ' S' (p1.trans (p14.trans p))⟩
  · have ei : i = ds.length := by omega
    subst ei
    rw [List.drop_length] at h2
    exact .inl ⟨wk2.1 (Nat.le_refl _), q1 e2 h2 F2 H2 A2 σ2 S2 (p1.trans p2)⟩⟩

/-! ### while -/
def whN (wt : WT) (wb : WS) (R : WEnds) : Nat → Env' → Prop
  | 0, _ => False
  | n + 1, env => wt env fun c e1 => if c = true then wb { R with nx := whN wt wb R n, ct := whN wt wb R n, bk := R.nx } e1 else R.nx e1
def wWhile (wt : WT) (wb : WS) : WS := fun R env => ∃ n, whN wt wb R n env
theorem ds_while {body : List Stmt} (hp : PassesOwn (model X.prog X.w) X.A X.env X.xe) (ht : DT X B c wt) (hb : DSs X B body w) : DS X B (.While c body [] pos) (wWhile wt w) := ⟨ps_imp (ps_while hp ht.pt hb.pss) fun D σ H ⟨F, A, env, R, S, ⟨n, hw⟩, q1, q2, q3, q4⟩ => by
  refine ⟨fun m σ1 H1 => ∃ F1 A1 e1, Step F H A F1 H1 A1 ∧ SR B F1 H1 A1 e1 σ1 ∧ whN wt w R m e1, ⟨n, F, A, env, Step.refl, S, hw⟩, ?_⟩
  rintro m σ1 H1 ⟨F1, A1, e1, p1, S1, h1⟩
  cases m with
  | zero => exact h1.elim
  | succ m =>
    refine ⟨F1, A1, e1, _, S1, h1, fun c e2 h2 F2 H2 A2 S2 p2 => ?_⟩
    cases c with
    | true =>
      rw [if_pos rfl] at h2
      show if true = true then _ else _
      rw [if_pos rfl]
      refine ⟨fun σ' H' => ∃ F3 A3 e3, Step F H A F3 H' A3 ∧ SR B F3 H' A3 e3 σ' ∧ whN wt w R m e3, fun σ' H' h => ⟨m, Nat.lt_succ_self _, h⟩, ?_⟩
      have p12 := p1.trans p2
      exact ⟨F2, A2, e2, _, S2, h2, fun env' h F' H' A' σ' S' p => ⟨F', A', env', p12.trans p, S', h⟩, fun env' h F' H' A' σ' S' p => q1 env' h F' H' A' σ' S' (p12.trans p),
        fun env' h F' H' A' σ' S' p => ⟨F', A', env', p12.trans p, S', h⟩, fun t env' h F' H' A' C v σ' S' p => q4 t env' h F' H' A' C v σ' S' (p12.trans p)⟩
    | false =>
      rw [if_neg Bool.false_ne_true] at h2
      show if false = true then _ else _
      rw [if_neg Bool.false_ne_true]
      exact q1 e2 h2 F2 H2 A2 σ1 S2 (p1.trans p2)⟩
end
end DL

/-! DL: comprehensions, defs and their calls, exceptions. -/
namespace DL
open PySem PySem.Spec PyProof.Rows L2
section
variable {X : Cx} {B : Bs} {e a b c : Expr} {pos p p2 p3 p4 apos cpos : Pos} {K : PySem.W.Frag} {wa wb : WP} {ea eb : WE} {oa ob : WO} {es : List Expr} {er : WAs} {wr : WVs} {st : Stmt} {rest : List Stmt} {w u : WS} {wt : WT} {la lb : WL} {ws : WOs}
/-! ### comprehensions -/
def unAt (env : Env') : List Nat → Env'
  | [] => env
  | i :: is => (unAt env is).set i .un
theorem OwnL.swap {F H : Hp} : ∀ {ts : List OT} {vs us : List V} {A : Addr → Prop}, OwnL K F H ts vs A → us.length = vs.length → (∀ (i : Nat) (t : OT), ts[i]? = some t → t = .un ∨ us[i]? = vs[i]?) → OwnL K F H ts us A
  | [], vs, us, A, h, l, _ => by
    unfold OwnL at h ⊢
    obtain ⟨rfl, h⟩ := h
    exact ⟨List.length_eq_zero_iff.mp l, h⟩
  | t :: ts, vs, us, A, h, l, g => by
    obtain ⟨v, r, B1, B2, rfl, h1, h2, d, e⟩ := h.cons_inv
    cases us with
    | nil => cases l
    | cons u us =>
      have ih := OwnL.swap (us := us) h2 (by simpa using l) fun i t' et => by simpa using g (i + 1) t' (by simpa using et)
      unfold OwnL
      refine ⟨u, us, B1, B2, rfl, ?_, ih, d, e⟩
      rcases g 0 t rfl with rfl | z
      · unfold Own at h1 ⊢; exact h1
      · have : u = v := by simpa using z
        rw [this]; exact h1
/-- slots that are not known may differ -/
theorem SR.slots {F H : Hp} {A : Addr → Prop} {env : Env'} {σ σ' : L2.St} (S : SR B F H A env σ) (l : σ'.length = σ.length) (g : ∀ (i : Nat) (t : OT), env[i]? = some t → t = .un ∨ σ'[i]? = σ[i]?) (hp : ∀ p ∈ B.pin, σ'[p.1]? = σ[p.1]?) : SR B F H A env σ' := by
  refine ⟨S.own.swap (by unfold vsOf; simp [l]) fun i t e => (g i t e).imp id fun z => by unfold vsOf; rw [List.getElem?_map, List.getElem?_map, z], fun i t e => ?_, S.sub, S.base, fun p h => (hp p h).trans (S.pin p h)⟩
  rcases g i t e with z | z
  · exact .inl z
  · rw [z]; exact S.set i t e
theorem unAt_len (env : Env') : ∀ is, (unAt env is).length = env.length
  | [] => rfl
  | i :: is => by unfold unAt; rw [List.length_set, unAt_len env is]
theorem unAt_get {env : Env'} {i : Nat} {t : OT} : ∀ {is : List Nat}, (unAt env is)[i]? = some t → t = .un ∨ (i ∉ is ∧ env[i]? = some t)
  | [], h => .inr ⟨by simp, h⟩
  | j :: is, h => by
    unfold unAt at h
    by_cases hj : j = i
    · subst hj
      by_cases hl : j < (unAt env is).length
      · rw [List.getElem?_set_self hl] at h
        exact .inl (Option.some.inj h).symm
      · rw [List.getElem?_eq_none (by simpa using hl)] at h; cases h
    · rw [List.getElem?_set_ne hj] at h
      rcases unAt_get h with z | ⟨z1, z2⟩
      · exact .inl z
      · exact .inr ⟨by simp only [List.mem_cons, not_or]; exact ⟨fun q => hj q.symm, z1⟩, z2⟩
theorem SR.unAt {F H : Hp} {A : Addr → Prop} {env : Env'} {σ : L2.St} (S : SR B F H A env σ) : ∀ is : List Nat, ∃ A', SR B F H A' (unAt env is) σ ∧ Step F H A F H A'
  | [] => ⟨A, S, Step.refl⟩
  | i :: is => by
    obtain ⟨A1, S1, p1⟩ := SR.unAt S is
    obtain ⟨A2, S2, p2⟩ := S1.forget (i := i)
    exact ⟨A2, S2, p1.trans p2⟩
theorem wipe_get {σ : L2.St} {i : Nat} : ∀ {vs : List Nat}, i ∉ vs → (wipe σ vs)[i]? = σ[i]?
  | [], _ => rfl
  | v :: vs, h => by
    unfold wipe
    simp only [List.mem_cons, not_or] at h
    rw [List.getElem?_set_ne (Ne.symm h.1), wipe_get h.2]
/-- no pin among these -/
def Bs.opens (B : Bs) (is : List Nat) : Prop := ∀ p ∈ B.pin, p.1 ∉ is
theorem SR.wiped {F H : Hp} {A : Addr → Prop} {env : Env'} {σ : L2.St} {vs : List Nat} (S : SR B F H A (DL.unAt env vs) σ) (hp : B.opens vs) : SR B F H A (DL.unAt env vs) (wipe σ vs) :=
  S.slots (wipe_length σ vs) (fun i t e => by
    rcases unAt_get e with z | ⟨z, _⟩
    · exact .inl z
    · exact .inr (wipe_get z)) fun p h => wipe_get (hp p h)
theorem SR.unwiped {F H : Hp} {A : Addr → Prop} {env : Env'} {σ σ2 : L2.St} {vs : List Nat} (S : SR B F H A (DL.unAt env vs) σ2) (h : wipe σ2 vs = wipe σ vs) (hp : B.opens vs) : SR B F H A (DL.unAt env vs) σ := by
  have g : ∀ i, i ∉ vs → σ[i]? = σ2[i]? := fun i hi => by
    rw [← wipe_get (σ := σ) hi, ← wipe_get (σ := σ2) hi, h]
  refine S.slots ?_ (fun i t e => ?_) fun p hp' => g _ (hp p hp')
  · rw [← wipe_length σ vs, ← wipe_length σ2 vs, h]
  · rcases unAt_get e with z | ⟨z, _⟩
    · exact .inl z
    · exact .inr (g i z)
theorem wipe_own {σ : L2.St} {i : Nat} : ∀ {vs : List Nat}, i ∈ vs → (wipe σ vs)[i]? = if i < σ.length then some none else none
  | [], h => by cases h
  | v :: vs, h => by
    unfold wipe
    by_cases hv : v = i
    · subst hv
      by_cases hl : v < σ.length
      · rw [if_pos hl, List.getElem?_set_self (by rw [wipe_length]; exact hl)]
      · rw [if_neg hl, List.getElem?_eq_none (by rw [List.length_set, wipe_length]; omega)]
    · rw [List.getElem?_set_ne hv]
      exact wipe_own (by
        rcases List.mem_cons.mp h with z | z
        · exact (hv z.symm).elim
        · exact z)
theorem Only.wipe {vs : List Nat} {σ σ' : L2.St} (o : Only vs σ σ') : L2.wipe σ' vs = L2.wipe σ vs := by
  refine List.ext_getElem? fun i => ?_
  by_cases hi : i ∈ vs
  · rw [wipe_own hi, wipe_own hi, o.1]
  · rw [wipe_get hi, wipe_get hi, o.2 i hi]
theorem wipe_wipe (σ : L2.St) (vs : List Nat) : wipe (wipe σ vs) vs = wipe σ vs := Only.wipe ⟨wipe_length σ vs, fun _ hj => wipe_get hj⟩
/-- the turns; own: the block's own slots -/
def lcD (vs : List Nat) (g : WG) (wt : WT) (we : WE) : List D → List D → Env' → (OT → Env' → Prop) → Prop
  | [], acc, env, Q => Q (.nd .lst (acc.map .fz)) env
  | d :: ds, acc, env, Q => g d env fun e1 => wt e1 fun c e2 => if c = true then we e2 fun z e3 => acc.length < sizeLine ∧ lcD vs g wt we ds (acc ++ [z]) (unAt e3 vs) Q else lcD vs g wt we ds acc (unAt e2 vs) Q
/-- what was known of these slots ahead is known again -/
def reAt (e0 : Env') : List Nat → Env' → Env'
  | [], e => e
  | i :: is, e => match e0[i]? with
    | some (.fz d) => (reAt e0 is e).set i (.fz d)
    | _ => reAt e0 is e
theorem reAt_len (e0 : Env') : ∀ (is : List Nat) (e : Env'), (reAt e0 is e).length = e.length
  | [], e => rfl
  | i :: is, e => by
    unfold reAt
    split
    · rw [List.length_set, reAt_len e0 is e]
    · exact reAt_len e0 is e
theorem SR.reAt {F H F0 H0 : Hp} {A A0 : Addr → Prop} {e0 env : Env'} {σ : L2.St} (S : SR B F H A env σ) (S0 : SR B F0 H0 A0 e0 σ) (s : Same F0 F) (l : e0.length = env.length) : ∀ (is : List Nat), B.opens is → ∃ A', SR B F H A' (DL.reAt e0 is env) σ ∧ Step F H A F H A'
  | [], _ => ⟨A, S, Step.refl⟩
  | i :: is, ho => by
    obtain ⟨A1, S1, p1⟩ := SR.reAt S S0 s l is fun p hp z => ho p hp (List.mem_cons_of_mem _ z)
    unfold DL.reAt
    split
    · rename_i d e
      obtain ⟨v, ev, rv⟩ := S0.fz e
      have hi : i < (DL.reAt e0 is env).length := by rw [reAt_len, ← l]; exact (List.getElem?_eq_some_iff.mp e).1
      obtain ⟨A2, S2, p2⟩ := S1.putf hi (rv.mono s) fun p hp z => ho p hp (by rw [z]; exact List.mem_cons_self)
      rw [set_same ev] at S2
      exact ⟨A2, S2, p1.trans p2⟩
    · exact ⟨A1, S1, p1⟩
def wLc (vs : List Nat) (wi : WI) (g : WG) (wt : WT) (we : WE) : WO := fun env Q => wi env fun ds e1 => lcD vs g wt we ds [] (unAt e1 vs) fun t e2 => Q t (reAt e1 vs e2)
structure DTs (X : Cx) (B : Bs) (ifs : List Expr) (w : WT) : Prop where
  pts : PTs X ifs (rdT B w)
def wYes : WT := fun env Q => Q true env
theorem dts_nil : DTs X B [] wYes := ⟨⟨fun pins s σ H Q I ⟨F, A, env, R, S, hw, q⟩ => pts_nil.run pins s σ H Q I (q true env hw F H A S Step.refl)⟩⟩
theorem dts_one (h : DT X B c wt) : DTs X B [c] wt := ⟨pts_one h.pt⟩
theorem im_lc {wi : WI} {g : WG} {we : WE} {vs : List Nat} (hop : B.opens vs) {σ : L2.St} {H : Hp} {Q : VK} (h : rdO B (wLc vs wi g wt we) σ H Q) : tLc (rdI B wi) (rdG B vs g) (rdT B wt) (rdE B we) vs σ H Q := by
  obtain ⟨F, A, env, R, S, hw, q⟩ := h
  refine ⟨F, A, env, _, S, hw, fun ds e1 h1 F1 H1 A1 J S1 p1 wk L hL => ?_⟩
  obtain ⟨S2, p2⟩ := S1.grow (Same.upd (o := .lst []) hL)
  obtain ⟨A2, S3, p3⟩ := S2.unAt vs
  have fL : F1 L = none := S1.sub.free hL
  have nA2 : ¬ A2 L := fun z => by
    rcases p3.own L z with y | y
    · obtain ⟨_, o, eo⟩ := S1.free L y
      rw [hL] at eo; cases eo
    · rw [upd_same] at y; cases y
  refine ⟨fun i m H => m = ds.length - i ∧ i ≤ ds.length ∧ ∃ F2 A2 e2 acc vs', Step F1 H1 A1 F2 H (fun b => A2 b ∨ b = L) ∧ SR B F2 H A2 (unAt e2 vs) σ ∧ H L = some (.lst vs') ∧ RepL B.K F2 acc vs' ∧ F2 L = none ∧ ¬ A2 L ∧ lcD vs g wt we (ds.drop i) acc (unAt e2 vs) (fun t e2 => R t (reAt e1 vs e2)),
    ⟨ds.length, by simp, Nat.zero_le _, F1, A2, e1, [], [], (p2.trans p3).more (fun b z => .inr (by rw [z]; exact hL)), S3, upd_same, RepL.nil, fL, nA2, h1⟩, ?_⟩
  rintro i m H2 ⟨rfl, hi, F2, A2', e2, acc, vs', p4, S4, eL, rL, fL2, nL, h2⟩
  have wk2 := wk i F2 H2 A2' _ σ p4.fr S4
  by_cases hlt : i < ds.length
  · have ed : ds[i]? = some ds[i] := List.getElem?_eq_getElem hlt
    obtain ⟨go, yl⟩ := wk2.2 _ ed
    rw [List.drop_eq_getElem_cons hlt] at h2
    refine .inr ⟨go, fun H' => ∃ F2 A2 e2 acc vs', Step F1 H1 A1 F2 H' (fun b => A2 b ∨ b = L) ∧ SR B F2 H' A2 (unAt e2 vs) σ ∧ H' L = some (.lst vs') ∧ RepL B.K F2 acc vs' ∧ F2 L = none ∧ ¬ A2 L ∧ lcD vs g wt we (ds.drop (i + 1)) acc (unAt e2 vs) (fun t e2 => R t (reAt e1 vs e2)),
      fun H' z => ⟨ds.length - (i + 1), by omega, rfl, hlt, z⟩, fun x H' y => ?_⟩
    obtain ⟨F3, S5, p5, r5⟩ := yl x H' y
    have S5w := S5.wiped hop
    -- the new list is untouched by steps from the owned
    have keepL : ∀ {Fa Ha Fb Hb : Hp} {Aa Ab : Addr → Prop} {us : List V}, Step Fa Ha Aa Fb Hb Ab → Ha L = some (.lst us) → Fa L = none → ¬ Aa L → Hb L = some (.lst us) ∧ Fb L = none ∧ ¬ Ab L := fun {Fa Ha Fb Hb Aa Ab us} st hl fl nl => by
      have bs := st.beside (B := fun b => b = L) (fun b hb => by subst hb; exact ⟨fl, _, hl⟩) (fun b hb => by subst hb; exact nl) L rfl
      exact ⟨bs.1.2.trans hl, bs.1.1, bs.2⟩
    obtain ⟨eL5, fL5, nL5⟩ := keepL p5 eL fL2 nL
    have ext : ∀ {Fb Hb : Hp} {Ab : Addr → Prop}, Step F2 H2 A2' Fb Hb Ab → Step F1 H1 A1 Fb Hb (fun b => Ab b ∨ b = L) := fun {Fb Hb Ab} st => (p4.trans (st.from fun b z => .inl z)).more fun b z => .inr (by rw [z]; exact hL)
    refine ⟨F3, A2', _, _, _, S5w, r5, h2, fun e6 h6 A6 σ6 S6 p6 on6 => ?_⟩
    have wz := on6.wipe
    refine ⟨wz.trans (wipe_wipe σ vs), ?_⟩
    refine ⟨F3, A6, e6, _, S6, h6, fun c e7 h7 F7 H7 A7 S7 p7 => ?_⟩
    obtain ⟨eL7, fL7, nL7⟩ := keepL (p6.trans p7) eL5 fL5 nL5
    have wz' : wipe σ6 vs = wipe σ vs := wz.trans (wipe_wipe σ vs)
    cases c with
    | true =>
      rw [if_pos rfl] at h7
      show if true = true then _ else _
      rw [if_pos rfl]
      refine ⟨F7, A7, e7, _, S7, h7, fun z e8 h8 F8 H8 A8 v S8 p8 r8 => ?_⟩
      obtain ⟨eL8, fL8, nL8⟩ := keepL p8 eL7 fL7 nL7
      obtain ⟨hz, h8⟩ := h8
      have rL8 := rL.mono ((p5.trans (p6.trans (p7.trans p8))).fr)
      refine ⟨vs', eL8, by rw [← rL.len]; exact hz, ?_⟩
      obtain ⟨A9, S9, p9⟩ := S8.unAt vs
      have S9' := S9.unwiped wz' hop
      have nL9 : ¬ A9 L := fun q => by
        rcases p9.own L q with q | q
        · exact nL8 q
        · rw [eL8] at q; cases q
      -- the list at L is written
      have st : Step F8 H8 (fun b => A9 b ∨ b = L) F8 (L2.upd H8 L (.lst (vs' ++ [v]))) (fun b => A9 b ∨ b = L) := ⟨Same.refl _, fun b o eb nb => by rw [upd_ne (fun q => nb (.inr q))]; exact eb, fun b q => .inl q, fun b q => .inl q⟩
      have big : Step F1 H1 A1 F8 (L2.upd H8 L (.lst (vs' ++ [v]))) (fun b => A9 b ∨ b = L) := by
        have s1 : Step F1 H1 A1 F8 H8 (fun b => A9 b ∨ b = L) := ext (p5.trans (p6.trans (p7.trans (p8.trans p9))))
        exact s1.trans st
      have S10 : SR B F8 (L2.upd H8 L (.lst (vs' ++ [v]))) A9 (unAt e8 vs) σ := by
        refine ⟨S9'.own.mono (Same.refl _) fun b hb => ⟨(S9'.free b hb).1, upd_ne (by rintro rfl; exact nL9 hb)⟩, S9'.set, fun b o eb => ?_, ?_, S9'.pin⟩
        · rw [upd_ne (by rintro rfl; rw [fL8] at eb; cases eb)]; exact S9'.sub b o eb
        · have bb := S1.base.trans big
          exact ⟨bb.fr, bb.keep, bb.new, fun b q => bb.own b (.inl q)⟩
      exact ⟨F8, A9, e8, acc ++ [z], vs' ++ [v], big, S10, upd_same, rL8.append (RepL.cons r8 RepL.nil), fL8, nL9, h8⟩
    | false =>
      rw [if_neg Bool.false_ne_true] at h7
      show if false = true then _ else _
      rw [if_neg Bool.false_ne_true]
      obtain ⟨A9, S9, p9⟩ := S7.unAt vs
      have S9' := S9.unwiped wz' hop
      have nL9 : ¬ A9 L := fun q => by
        rcases p9.own L q with q | q
        · exact nL7 q
        · rw [eL7] at q; cases q
      exact ⟨F7, A9, e7, acc, vs', ext (p5.trans (p6.trans (p7.trans p9))), S9', eL7, rL.mono ((p5.trans (p6.trans p7)).fr), fL7, nL9, h7⟩
  · have ei : i = ds.length := by omega
    subst ei
    rw [List.drop_length] at h2
    refine .inl ⟨wk2.1 (Nat.le_refl _), ?_⟩
    have ow : Own B.K F2 H2 (.nd .lst (acc.map .fz)) (.ref L) (fun b => b = L) := by
      unfold Own
      exact ⟨L, vs', Nobody, rfl, eL, fL2, OwnL.fzs rL, fun z => z, fun b => ⟨.inl, fun z => z.elim id fun z => z.elim⟩⟩
    obtain ⟨A5, S5, p5⟩ := S4.reAt S1 p4.fr (by rw [S4.len, S1.len]) vs hop
    have n5 : ¬ A5 L := fun z => by
      rcases p5.own L z with z | z
      · exact nL z
      · rw [eL] at z; cases z
    have p6 : Step F1 H1 A1 F2 H2 (fun b => A5 b ∨ b = L) := ⟨p4.fr, p4.keep, p4.new, fun b z => by
      rcases z with z | z
      · rcases p5.own b z with z | z
        · exact p4.own b (.inl z)
        · cases eh : H1 b with
          | none => exact .inr rfl
          | some o =>
            by_cases ha : A1 b
            · exact .inl ha
            · rw [p4.keep b o eh ha] at z; cases z
      · exact p4.own b (.inr z)⟩
    exact q _ _ h2 F2 H2 A5 _ _ S5 (p1.trans p6) ow fun b z y => by rw [z] at y; exact n5 y
end
end DL

/-! DL: defs, their promises, calls, raise. -/
namespace DL
open PySem PySem.Spec PyProof.Rows L2
section
variable {X : Cx} {B : Bs} {e a b c : Expr} {pos p p2 p3 p4 apos cpos : Pos} {K : PySem.W.Frag} {wa wb : WP} {ea eb : WE} {oa ob : WO} {es : List Expr} {er ek : WAs} {wr : WVs} {st : Stmt} {rest : List Stmt} {w u : WS} {wt : WT} {la lb : WL} {ws : WOs}
theorem oe_lc {elt tg iter : Expr} {ifs : List Expr} {scope : Scope} {own : List (Str × Nat)} {wi : WI} {g : WG} {we : WE} (hc : X.calm = true) (hN : X.N.Nodup) (hop : B.opens (own.map (·.2))) (ok : BlkOk X.N X.env.scope scope own) (hi : DIt X B tg iter wi)
    (hg : ∀ (s : Shared) (H : Hp) (C : Addr) (cl : List (Str × Addr)) (fp : List Addr), DGt (X.blk s H scope (compEnvC scope cl C X.env) fp) B tg (own.map (·.2)) g) (ht : ∀ (s : Shared) (H : Hp) (C : Addr) (cl : List (Str × Addr)) (fp : List Addr), DTs (X.blk s H scope (compEnvC scope cl C X.env) fp) B ifs wt)
    (he : ∀ (s : Shared) (H : Hp) (C : Addr) (cl : List (Str × Addr)) (fp : List Addr), DE (X.blk s H scope (compEnvC scope cl C X.env) fp) B elt we) (hs : ∀ x, foldedSetIterable iter X.env x = pure x := by intro _; rfl) :
    OE X B (.ListComp elt [⟨tg, iter, ifs, 0⟩] scope pos) (wLc (own.map (·.2)) wi g wt we) :=
  ⟨pe_imp (pe_lc hc hN hi.pi ok (fun s H C cl fp => (hg s H C cl fp).pg) (fun s H C cl fp => (ht s H C cl fp).pts) (fun s H C cl fp => (he s H C cl fp).pe) hs) fun _ _ _ => im_lc hop⟩
theorem ds_setLc {elt tg iter : Expr} {ifs : List Expr} {scope : Scope} {own : List (Str × Nat)} {wi : WI} {g : WG} {we : WE} {y : Str} {py : Pos} (i : Nat) (ho : B.open i) (hc : X.calm = true) (hN : X.N.Nodup) (hop : B.opens (own.map (·.2))) (ok : BlkOk X.N X.env.scope scope own) (hi : DIt X B tg iter wi)
    (hg : ∀ (s : Shared) (H : Hp) (C : Addr) (cl : List (Str × Addr)) (fp : List Addr), DGt (X.blk s H scope (compEnvC scope cl C X.env) fp) B tg (own.map (·.2)) g) (ht : ∀ (s : Shared) (H : Hp) (C : Addr) (cl : List (Str × Addr)) (fp : List Addr), DTs (X.blk s H scope (compEnvC scope cl C X.env) fp) B ifs wt)
    (he : ∀ (s : Shared) (H : Hp) (C : Addr) (cl : List (Str × Addr)) (fp : List Addr), DE (X.blk s H scope (compEnvC scope cl C X.env) fp) B elt we)
    (hsw : swapsWith (.ListComp elt [⟨tg, iter, ifs, 0⟩] scope pos) (some (.Name y py)) p.line X.env = pure true) (hy : X.N[i]? = some y := by rfl) (hyl : X.env.scope.names.lookup y = some .local := by rfl) (hs : ∀ x, foldedSetIterable iter X.env x = pure x := by intro _; rfl) :
    DS X B (.Assign [.Name y py] (.ListComp elt [⟨tg, iter, ifs, 0⟩] scope pos) p) (wSet i (wLc (own.map (·.2)) wi g wt we)) :=
  ⟨ps_imp (ps_setLc hc hN hy hyl hsw hi.pi ok (fun s H C cl fp => (hg s H C cl fp).pg) (fun s H C cl fp => (ht s H C cl fp).pts) (fun s H C cl fp => (he s H C cl fp).pe) hs) fun D σ H ⟨F, A, env, R, S, hw, q, _⟩ => by
  refine im_lc hop ⟨F, A, env, _, S, hw, fun t e1 h1 F1 H1 A1 C v S1 p1 ow d => ?_⟩
  obtain ⟨A2, S2, p2⟩ := S1.put h1.1 ow d (step_base S p1) ho
  exact q _ h1.2 F1 H1 A2 _ S2 (p1.trans p2)⟩

/-! ### exceptions, promises -/
structure Exn where
  name : Str
  fs : Option (List Str × List D) := none
def ExnOk (K : PySem.W.Frag) (F H : Hp) (x : Exn) (cls : Value) (d : Option Addr) : Prop := cls = .ref (He.ga K x.name) ∧ match x.fs with
  | none => d = none
  | some (ns, ds) => ∃ a vs, d = some a ∧ H a = some (.xd (ns.zip vs)) ∧ ns.length = vs.length ∧ RepL K F ds vs
abbrev XQ := Exn → Env' → Prop
def wxD (B : Bs) (xq : XQ) : WX := fun cls d σ H => ∃ F A env x, SR B F H A env σ ∧ ExnOk B.K F H x cls d ∧ xq x env
abbrev noX : XQ := fun _ _ => False
abbrev FSpec := List OT → (OT → OT → Prop) → (Exn → OT → Prop) → Prop
def spD (K : PySem.W.Frag) (sp : FSpec) : Sp := fun vs H Q E => ∃ (F : Hp) (S : Addr → Prop) (args : List OT) (R : OT → OT → Prop) (RX : Exn → OT → Prop), Same F H ∧ OwnL K F H args vs S ∧ (∀ t ∈ args, t ≠ .un) ∧ sp args R RX ∧
  (∀ r t0, R r t0 → ∀ (F' H' : Hp) (S' C : Addr → Prop) (v : V), Step F H S F' H' (fun b => S' b ∨ C b) → Same F' H' → Own K F' H' t0 (vs.headD .non) S' → Own K F' H' r v C → (∀ b, C b → ¬ S' b) → Q v H') ∧
  (∀ x t0, RX x t0 → ∀ (F' H' : Hp) (S' : Addr → Prop) (cls : Value) (d : Option Addr), Step F H S F' H' S' → Same F' H' → Own K F' H' t0 (vs.headD .non) S' → ExnOk K F' H' x cls d → E cls d H')
theorem takesNo : Takes X (wxD B noX) := Takes.imp takes0 fun _ _ _ _ ⟨_, _, _, _, _, _, z⟩ => z
/-- a step that owned nothing of these slots -/
theorem SR.after {F H F' H' : Hp} {A S' : Addr → Prop} {env : Env'} {σ : L2.St} (S : SR B F H A env σ) (p : Step F H Nobody F' H' S') (s : Same F' H') : SR B F' H' A env σ ∧ Step F H A F' H' (fun b => A b ∨ S' b) ∧ ∀ b, S' b → ¬ A b := by
  have bes := p.beside (B := A) S.free fun _ _ z => z
  have p2 : Step F H A F' H' (fun b => A b ∨ S' b) := by
    have q := p.from (A2 := A) fun _ z => z.elim
    exact ⟨q.fr, q.keep, q.new, fun b z => z.elim .inl (q.own b)⟩
  exact ⟨⟨S.own.mono p.fr fun b hb => (bes b hb).1, S.set, s, S.base.trans (p2.less fun b z => .inl z), S.pin⟩, p2, fun b z y => (bes b y).2 z⟩
section
variable {sp : FSpec} {k : Nat} {f : Addr} {fd : FuncData} {ps : List Str} {x : Str} {dvs : List V} {ds : List Value} {dfl : List D} {xq : XQ}
/-- a promise, from data -/
theorem sp_fz {F H : Hp} {A : Addr → Prop} {env : Env'} {σ : L2.St} {vs : List V} {as : List D} {Q : VK} {R : OT → Env' → Prop} (S : SR B F H A env σ) (r : RepL B.K F as vs) (h : sp (as.map .fz) (fun r _ => R r env) (fun x _ => xq x env))
    (q : ∀ t, R t env → ∀ (F' H' : Hp) (A' C : Addr → Prop) (v : V), SR B F' H' A' env σ → Step F H A F' H' (fun b => A' b ∨ C b) → Own B.K F' H' t v C → (∀ b, C b → ¬ A' b) → Q v H') : spD B.K sp vs H Q (L2.WE (wxD B xq) σ) := by
  refine ⟨F, Nobody, as.map .fz, _, _, S.sub, OwnL.fzs r, fz_ne, h, fun t t0 ht F' H' S' C v p s o0 ow d => ?_, fun x t0 hx F' H' S' cls d p s o0 hk => ?_⟩
  · have p0 : Step F H Nobody F' H' C := p.less fun b z => .inr z
    obtain ⟨S2, p2, d2⟩ := S.after p0 s
    exact q t ht F' H' A C v S2 p2 ow d2
  · obtain ⟨S2, p2, d2⟩ := S.after p s
    exact ⟨F', A, env, x, S2, hk, hx⟩
def wCall (sp : FSpec) (xq : XQ) (dfl : List D) (er : WAs) : WO := fun env Q => er env fun as e1 => sp ((as ++ dfl).map .fz) (fun r _ => Q r e1) fun x _ => xq x e1
theorem oe_call (G : FnOk X.prog X.w X.K X.mg X.base (L2.CX X.prog X.w) k f fd ps (spD X.K sp)) (hr : Room k X.A) (hm : X.mg x = some (.ref f)) (hk : PySem.W.keepIn X.K (.ref f) = true) (hb : L2.Binds X.K fd ps ds) (hd : Vals dvs ds) (hdf : ∀ F, RepL X.K F dfl dvs) (hK : B.K = X.K)
    (tk : Takes X (wxD B xq)) (ha : DAs X B (e :: es) er) (hg : Gl X x := by rfl) (hdb : (x == ("__debug__" : Str)) = false := by decide) (he : starEach (e :: es) X.env = (false, eval e X.env) :: starEach es X.env := by rfl) (hpl : (backTo pos (starEach es X.env)).any (·.1) = false := by rfl) :
    OE X B (.Call (.Name x p) (e :: es) [] pos) (wCall sp xq dfl er) := ⟨pe_imp (pe_callSD G hr hg hm hk hb hd (passAt tk) ha.pa hdb he hpl) fun σ H Q ⟨F, A, env, R, S, hw, q⟩ => by
  refine ⟨F, A, env, _, S, hw, fun as e1 h1 F1 H1 A1 vs S1 p1 r1 => ?_⟩
  rw [← hK]
  refine sp_fz S1 (r1.append (by have := hdf F1; rw [← hK] at this; exact this)) h1 fun t ht F' H' A' C v S' p' ow d => ?_
  exact q t e1 ht F' H' A' C v S' (p1.trans p') ow d⟩
/-- the first argument a name whose tree is lent -/
def wCallB (i : Nat) (sp : FSpec) (xq : XQ) (dfl : List D) (er : WAs) : WO := fun env Q => (∃ t, env[i]? = some t ∧ t ≠ .un) ∧ er env fun as e1 => match e1[i]? with
  | some t => t ≠ .un ∧ sp (t :: (as ++ dfl).map .fz) (fun r t0 => Q r (e1.set i t0)) fun x t0 => xq x (e1.set i t0)
  | none => False
theorem sp_lent {F H : Hp} {A : Addr → Prop} {env : Env'} {σ : L2.St} {i : Nat} {v : V} {t : OT} {vs : List V} {as : List D} {Q : VK} {R : OT → Env' → Prop} (S : SR B F H A env σ) (ev : σ[i]? = some (some v)) (et : env[i]? = some t) (hu : t ≠ .un) (r : RepL B.K F as vs)
    (h : sp (t :: as.map .fz) (fun r t0 => R r (env.set i t0)) (fun x t0 => xq x (env.set i t0)))
    (q : ∀ t0 r, R r (env.set i t0) → ∀ (F' H' : Hp) (A' C : Addr → Prop) (v : V), SR B F' H' A' (env.set i t0) σ → Step F H A F' H' (fun b => A' b ∨ C b) → Own B.K F' H' r v C → (∀ b, C b → ¬ A' b) → Q v H') : spD B.K sp (v :: vs) H Q (L2.WE (wxD B xq) σ) := by
  obtain ⟨B1, Rr, o1, eA, d1, put⟩ := S.dig (C := Nobody) (π := []) et ev rfl rfl fun _ z => z.elim
  have oArgs : OwnL B.K F H (t :: as.map .fz) (v :: vs) B1 := (OwnL.cons o1 (OwnL.fzs r) fun _ _ z => z).iff fun b => ⟨.inl, fun z => z.elim id fun z => z.elim⟩
  refine ⟨F, B1, _, _, _, S.sub, oArgs, List.forall_mem_cons.mpr ⟨hu, fz_ne⟩, h, fun r t0 hr F' H' S' C v' p s o0 ow d => ?_, fun x t0 hx F' H' S' cls d p s o0 hk => ?_⟩
  · obtain ⟨S2, p2⟩ := put F' H' t0 S' ((p.less fun b z => .inl z).from fun b z => .inl z) s o0 fun _ z => z.elim
    have p3 : Step F H A F' H' (fun b => S' b ∨ Rr b) := p2.from fun b z => z.elim id fun z => z.elim
    refine q t0 r hr F' H' _ C v' S2 (p3.more fun b z => ?_) ow fun b z y => ?_
    · exact (p.own b (.inr z)).imp (fun w => (eA b).mpr (.inl w)) id
    · rcases y with y | y
      · exact d b z y
      · rcases p.own b (.inr z) with w | w
        · exact d1 b w y
        · obtain ⟨_, o, eo⟩ := S.free b ((eA b).mpr (.inr y))
          rw [w] at eo; cases eo
  · obtain ⟨S2, p2⟩ := put F' H' t0 S' (p.from fun b z => .inl z) s o0 fun _ z => z.elim
    exact ⟨F', _, _, x, S2, hk, hx⟩
theorem oe_callB (G : FnOk X.prog X.w X.K X.mg X.base (L2.CX X.prog X.w) k f fd ps (spD X.K sp)) (hr : Room k X.A) (hm : X.mg x = some (.ref f)) (hk : PySem.W.keepIn X.K (.ref f) = true) (hb : L2.Binds X.K fd ps ds) (hd : Vals dvs ds) (hdf : ∀ F, RepL X.K F dfl dvs) (hK : B.K = X.K)
    (tk : Takes X (wxD B xq)) (i : Nat) {y : Str} (ha : DAs X B es er) (hN : X.N[i]? = some y := by rfl) (hv : Vis X.env.scope y := by first | exact Or.inl rfl | exact Or.inr (Or.inl rfl) | exact Or.inr (Or.inr rfl)) (hg : Gl X x := by rfl) (hdb : (x == ("__debug__" : Str)) = false := by decide) (hd2 : (y == ("__debug__" : Str)) = false := by decide)
    (hcd : (y == ("__classdict__" : Str)) = false := by decide) (he : starEach (.Name y p2 :: es) X.env = (false, eval (.Name y p2) X.env) :: starEach es X.env := by rfl) (hpl : (backTo pos (starEach es X.env)).any (·.1) = false := by rfl) :
    OE X B (.Call (.Name x p) (.Name y p2 :: es) [] pos) (wCallB i sp xq dfl er) := ⟨pe_imp (pe_callSD G hr hg hm hk hb hd (passAt tk) (pa_cons (pe_var hN hv hd2 hcd) ha.pa he) hdb he hpl) fun σ H Q ⟨F, A, env, R, S, ⟨⟨t, et, hu⟩, hw⟩, q⟩ => by
  obtain ⟨v, ev, _⟩ := S.get et hu
  refine ⟨v, ev, F, A, env, _, S, hw, fun as e1 h1 F1 H1 A1 vs S1 p1 r1 => ?_⟩
  rw [← hK]
  cases e1i : e1[i]? with
  | none => rw [e1i] at h1; exact h1.elim
  | some t1 =>
    rw [e1i] at h1
    refine sp_lent (R := R) S1 ev e1i h1.1 (r1.append (by have := hdf F1; rw [← hK] at this; exact this)) h1.2 fun t0 r hr F' H' A' C v S' p' ow d => ?_
    exact q r _ hr F' H' A' C v S' (p1.trans p') ow d⟩
/-- keywords: g puts the positional values and the keywords' in the parameters' order -/
structure DKs (X : Cx) (B : Bs) (kws : List Keyword) (w : WAs) : Prop where
  pk : PK X kws (rdAs B w)
theorem pk_imp {kws : List Keyword} {t t' : TA} (h : PK X kws t) (i : ∀ {σ H Q}, t' σ H Q → t σ H Q) : PK X kws t' := ⟨fun pos pins s σ H Q I q => h.run pos pins s σ H Q I (i q)⟩
theorem dk_nil : DKs X B [] wNil := ⟨pk_imp pk_nil fun ⟨F, A, env, R, S, hw, q⟩ => q [] env hw F _ A [] S Step.refl RepL.nil⟩
theorem dk_cons {kws : List Keyword} {nm : Option Str} {kpos : Pos} (ha : DE X B a ea) (hr : DKs X B kws er) : DKs X B (⟨nm, a, kpos⟩ :: kws) (wCons ea er) := ⟨pk_imp (pk_cons ha.pe hr.pk) fun ⟨F, A, env, R, S, hw, q⟩ => by
  refine ⟨F, A, env, _, S, hw, fun d e1 h1 F1 H1 A1 x S1 p1 r1 => ?_⟩
  refine ⟨F1, A1, e1, _, S1, h1, fun ds e2 h2 F2 H2 A2 vs S2 p2 r2 => ?_⟩
  exact q _ e2 h2 F2 H2 A2 _ S2 (p1.trans p2) (RepL.cons (r1.mono p2.fr) r2)⟩
end
end
end DL

/-! DL: keyword calls, raise, try, the body of a def. -/
namespace DL
open PySem PySem.Spec PyProof.Rows L2
section
variable {X : Cx} {B : Bs} {e a b c : Expr} {pos p p2 p3 p4 apos cpos : Pos} {K : PySem.W.Frag} {wa wb : WP} {ea eb : WE} {oa ob : WO} {es : List Expr} {er ek : WAs} {wr : WVs} {st : Stmt} {rest : List Stmt} {w u : WS} {wt : WT} {la lb : WL} {ws : WOs}
section
variable {sp : FSpec} {k n : Nat} {f : Addr} {fd : FuncData} {ps ks : List Str} {x : Str} {xq : XQ} {kws : List Keyword} {g : List Value → List Value → List Value} {gV : List V → List V → List V} {gD : List D → List D → List D}
/-- f(e, .., k = v, ..) where what is raised is wished for at the slots -/
def tCallNS (n m : Nat) (sp : Sp) (gV : List V → List V → List V) (E : L2.St → XK) (t tk : TA) : TE := fun σ H Q => t σ H fun vs H1 => tk σ H1 fun zs H2 => vs.length = n ∧ zs.length = m ∧ sp (gV vs zs) H2 Q (E σ)
theorem run_fnNS {sp : Sp} {E : L2.St → XK} {pins : List (Addr × Obj)} {σ : L2.St} {H : Hp} {s : Shared} {Q : VK} {us ws : List Value} {vs zs : List V} (F : FnOk X.prog X.w X.K X.mg X.base (L2.CX X.prog X.w) k f fd ps sp) (hr : Room k X.A) (hb : KBn X.K fd ps n ks g gV) (hx : PassesAt (L2.CX X.prog X.w) X σ (E σ))
    (I : Inv X pins σ H s) (r : Vals vs us) (rz : Vals zs ws) (l1 : vs.length = n) (l2 : zs.length = ks.length) (h : sp (gV vs zs) H Q (E σ)) : wpAny (model X.prog X.w) X.A (call (.ref f) us (ks.zip ws)) (EP X pins σ Q) X.xe s := by
  have r2 := hb.rel r rz
  refine wpAny_call (codeAny_mono (F.run X.A X.stack s H ⟨us, ks.zip ws⟩ (g us ws) (gV vs zs) Q (E σ) hr I.env0 (hb.to s us ws I.kIn (r.length.symm.trans l1) (rz.length.symm.trans l2)) r2 h) fun r s' hq => ?_)
  cases r with
  | error e => exact hx pins H s e s' I hq
  | ok fl =>
    cases fl with
    | ret u => exact I.after hq
    | next => exact False.elim hq
    | brk => exact False.elim hq
    | cont => exact False.elim hq
theorem pe_callNS {sp : Sp} {E : L2.St → XK} {t tk : TA} (F : FnOk X.prog X.w X.K X.mg X.base (L2.CX X.prog X.w) k f fd ps sp) (hr : Room k X.A) (hg : Gl X x) (hm : X.mg x = some (.ref f)) (hk : PySem.W.keepIn X.K (.ref f) = true) (hb : KBn X.K fd ps n ks g gV) (hx : ∀ σ, PassesAt (L2.CX X.prog X.w) X σ (E σ))
    (ha : PA X (e :: es) t) (hkw : PK X kws tk) (hall : (backToKw pos (keywordEach kws X.env)).all (·.1.isSome) = true) (hks : (backToKw pos (keywordEach kws X.env)).filterMap (·.1) = ks)
    (hdb : (x == ("__debug__" : Str)) = false) (he : starEach (e :: es) X.env = (false, eval e X.env) :: starEach es X.env)
    (hpl : ((backTo pos (starEach (e :: es) X.env)).any (·.1) || (backToKw pos (keywordEach kws X.env)).any (·.1.isNone)) = false) :
    PE X (.Call (.Name x p) (e :: es) kws pos) (tCallNS n ks.length sp gV E t tk) := by
  refine ⟨fun pins s σ H Q I h => ?_⟩
  refine wpAny_Call_Name_kw (ld_glob I hg hm ?_ hdb)
  refine PySem.W.callWith_KW (h₀ := X.base) I.ok.mod.kin hk hall (thn (ha.run pos pins s σ H _ I h) fun us s1 ⟨vs, H1, I1, r, q⟩ => ?_) hpl he
  refine thn (hkw.run pos pins s1 σ H1 _ I1 q) fun ws s2 ⟨zs, H2, I2, rz, l1, l2, q2⟩ => ⟨I2.kIn, ?_⟩
  rw [hks]
  exact run_fnNS F hr hb (hx σ) I2 r rz l1 l2 q2
def wCallK (n m : Nat) (sp : FSpec) (xq : XQ) (gD : List D → List D → List D) (er ek : WAs) : WO := fun env Q => er env fun as e1 => ek e1 fun bs e2 => as.length = n ∧ bs.length = m ∧ sp ((gD as bs).map .fz) (fun r _ => Q r e2) fun x _ => xq x e2
theorem oe_callK (G : FnOk X.prog X.w X.K X.mg X.base (L2.CX X.prog X.w) k f fd ps (spD X.K sp)) (hr : Room k X.A) (hm : X.mg x = some (.ref f)) (hk : PySem.W.keepIn X.K (.ref f) = true) (hb : KBn X.K fd ps n ks g gV)
    (hgD : ∀ F as bs vs zs, as.length = n → bs.length = ks.length → RepL X.K F as vs → RepL X.K F bs zs → RepL X.K F (gD as bs) (gV vs zs)) (hK : B.K = X.K)
    (tk : Takes X (wxD B xq)) (ha : DAs X B (e :: es) er) (hkw : DKs X B kws ek) (hg : Gl X x := by rfl) (hall : (backToKw pos (keywordEach kws X.env)).all (·.1.isSome) = true := by rfl) (hks : (backToKw pos (keywordEach kws X.env)).filterMap (·.1) = ks := by rfl)
    (hdb : (x == ("__debug__" : Str)) = false := by decide) (he : starEach (e :: es) X.env = (false, eval e X.env) :: starEach es X.env := by rfl)
    (hpl : ((backTo pos (starEach (e :: es) X.env)).any (·.1) || (backToKw pos (keywordEach kws X.env)).any (·.1.isNone)) = false := by rfl) :
    OE X B (.Call (.Name x p) (e :: es) kws pos) (wCallK n ks.length sp xq gD er ek) := ⟨pe_imp (pe_callNS G hr hg hm hk hb (passAt tk) ha.pa hkw.pk hall hks hdb he hpl) fun σ H Q ⟨F, A, env, R, S, hw, q⟩ => by
  refine ⟨F, A, env, _, S, hw, fun as e1 h1 F1 H1 A1 vs S1 p1 r1 => ?_⟩
  refine ⟨F1, A1, e1, _, S1, h1, fun bs e2 h2 F2 H2 A2 zs S2 p2 r2 => ?_⟩
  obtain ⟨l1, l2, h2⟩ := h2
  refine ⟨by rw [← r1.len]; exact l1, by rw [← r2.len]; exact l2, ?_⟩
  rw [← hK]
  refine sp_fz S2 (by have := hgD F2 as bs vs zs l1 l2 (by rw [← hK]; exact r1.mono p2.fr) (by rw [← hK]; exact r2); rw [← hK] at this; exact this) h2 fun t ht F' H' A' C v S' p' ow d => ?_
  exact q t e2 ht F' H' A' C v S' ((p1.trans p2).trans p') ow d⟩
end

/-! ### raise -/
/-- raise C('..') , C an own class over ValueError without fields -/
def wRaise (xq : XQ) (nm : Str) : WS := fun _ env => xq ⟨nm, none⟩ env
theorem ds_raise {xq : XQ} {nm m : Str} {j : Nat} (hc : X.calm = true) (tk : Takes X (wxD B xq)) (hK : B.K = X.K) (hm : X.mg nm = some (.ref (He.ga X.K nm))) (hx : (He.Fa.exc nm).ok X.K = true) (hg : Gl X nm := by rfl) (hdb : (nm == ("__debug__" : Str)) = false := by decide) :
    DS X B (.Raise (some (.Call (.Name nm p) [.Constant (.str m) j p2] [] p3)) none pos) (wRaise xq nm) := by
  obtain ⟨h1, h2, h3, h4⟩ := He.exc_ok hx
  refine ⟨ps_imp (ps_raise hc tk (pmk_own PySem.F.excBase_ValueError h1 hm h2 (raises_own h3 h4) hg hdb)) fun D σ H ⟨F, A, env, R, S, hw, _⟩ => ?_⟩
  exact ⟨F, A, env, _, S, ⟨by rw [hK], rfl⟩, hw⟩

/-! ### the body of a def -/
def pinOf (own : Bool) (vs : List V) : List (Nat × V) := match own, vs with
  | true, v :: _ => [(0, v)]
  | _, _ => []
/-- what became of the first argument, where it was lent -/
def t0 (own : Bool) (env : Env') : OT := if own then env.getD 0 .un else .un
theorem OwnL.uns {F H : Hp} : ∀ n : Nat, OwnL K F H (List.replicate n .un) (List.replicate n .non) Nobody
  | 0 => OwnL.nil
  | n + 1 => (OwnL.cons (A := Nobody) (B := Nobody) (by unfold Own; exact fun _ z => z) (OwnL.uns n) fun _ z => z.elim).iff fun b => ⟨fun z => z.elim, fun z => z.elim id id⟩
theorem SR.head {F H : Hp} {A : Addr → Prop} {env : Env'} {σ : L2.St} {own : Bool} {vs : List V} (S : SR B F H A env σ) (hp : B.pin = pinOf own vs) (hv : own = true → vs ≠ []) : ∃ S' : Addr → Prop, (∀ b, S' b → A b) ∧ Own B.K F H (t0 own env) (vs.headD .non) S' := by
  cases own with
  | false => exact ⟨Nobody, fun _ z => z.elim, by unfold t0; rw [if_neg (by decide)]; unfold Own; exact fun _ z => z⟩
  | true =>
    cases vs with
    | nil => exact (hv rfl rfl).elim
    | cons v r =>
      have pin := S.pin (0, v) (by rw [hp]; exact List.mem_singleton.mpr rfl)
      unfold t0
      rw [if_pos rfl]
      cases env with
      | nil => exact ⟨Nobody, fun _ z => z.elim, by show Own B.K F H .un _ _; unfold Own; exact fun _ z => z⟩
      | cons t ts =>
        obtain ⟨w, B1, R, ew, ow, _, ea, _⟩ := S.own.focus (i := 0) (t := t) rfl
        rw [vsOf_get pin] at ew
        cases ew
        exact ⟨B1, fun b z => (ea b).mpr (.inl z), ow⟩
theorem fn_ok {P : Program} {wd : World} {K : PySem.W.Frag} {mg : Str → Option Value} {base : Heap} {x qual : Str} {params : Arguments} {body : List Stmt} {scope : Scope} {dvs : List V} {kws : List (Str × V)} {f : Addr} {fd : FuncData}
    {N ps : List Str} {k : Nat} {sp : FSpec} {wb : XQ → WS} (F : FunD K x qual params body scope dvs kws f fd) (S : FnScope N ps scope) (own : Bool) (hps : own = true → ps ≠ []) (len : ∀ args R RX, sp args R RX → args.length = ps.length)
    (hbody : ∀ (cdv : Value) (A : Around) (outer : List Env) (s : Shared) (H : Hp) (E : XK) (B : Bs) (xq : XQ), Room k (A.deeper (envOfC qual scope s.heap.objs.size f cdv)) → B.K = K → (∀ i, (own && i == 0) = false → B.open i) → (∀ is, (own && is.contains 0) = false → B.opens is) →
      Takes (cxOf (L2.CX P wd) P wd K mg base N qual scope f cdv A outer s H E) (wxD B xq) → DSs (cxOf (L2.CX P wd) P wd K mg base N qual scope f cdv A outer s H E) B body (wb xq))
    (pure : ∀ args R RX, sp args R RX → wb (fun x env => RX x (t0 own env)) { nx := fun env => R (.fz .non) (t0 own env), rt := fun t env => R t (t0 own env) } (args ++ List.replicate (N.length - args.length) .un)) :
    FnOk P wd K mg base (L2.CX P wd) (k + 1) f fd ps (spD K sp) := by
  refine F.ok S (fun vs H Q E h => ?_) fun cdv A outer s H vs Q E hr h => ?_
  · obtain ⟨F0, S0, args, R, RX, s0, ow, nu, hs, _⟩ := h
    rw [← ow.len]; exact len _ _ _ hs
  · obtain ⟨F0, S0, args, R, RX, s0, ow, nu, hs, q, qx⟩ := h
    have hv : own = true → vs ≠ [] := fun e z => by
      have l1 := ow.len
      rw [z, len _ _ _ hs] at l1
      exact hps e (List.length_eq_zero_iff.mp l1)
    let B : Bs := ⟨K, F0, H, S0, pinOf own vs⟩
    have hp0 : ∀ p ∈ B.pin, own = true ∧ p.1 = 0 := fun p hp => by
      have hp' : p ∈ pinOf own vs := hp
      cases own with
      | false => cases vs <;> cases hp'
      | true => cases vs with
        | nil => cases hp'
        | cons v r => rw [List.mem_singleton.mp (show p ∈ [(0, v)] from hp')]; exact ⟨rfl, rfl⟩
    have tk : Takes (cxOf (L2.CX P wd) P wd K mg base N qual scope f cdv A outer s H E) (wxD B fun x env => RX x (t0 own env)) := by
      refine Takes.imp (takes_of (E := E) rfl rfl rfl rfl) fun cls d σ H' ⟨F', A', env, x, S', hk, hx⟩ => ?_
      obtain ⟨S2, sub, o2⟩ := S'.head (own := own) (vs := vs) rfl hv
      exact qx x _ hx F' H' S2 cls d (S'.base.less sub) S'.sub o2 hk
    refine ⟨_, (hbody cdv A outer s H E B (fun x env => RX x (t0 own env)) hr rfl (fun i hi p hp z => ?_) (fun is hi p hp z => ?_) tk).pss, ?_⟩
    · obtain ⟨e1, e2⟩ := hp0 p hp
      rw [e2] at z
      rw [e1, ← z] at hi
      cases hi
    · obtain ⟨e1, e2⟩ := hp0 p hp
      rw [e2] at z
      rw [e1, Bool.true_and] at hi
      have := List.contains_iff_mem.mpr z
      rw [this] at hi; cases hi
    · have hl := ow.len
      have S1 : SR B F0 H S0 (args ++ List.replicate (N.length - args.length) .un) (L2.start N vs) := by
        refine ⟨?_, fun i t e => ?_, s0, Step.refl, fun p hp => ?_⟩
        · have o2 := (OwnL.append ow (OwnL.uns (F := F0) (H := H) (K := K) (N.length - args.length)) fun _ _ z => z).iff (A' := S0) fun b => ⟨.inl, fun z => z.elim id fun z => z.elim⟩
          have e2 : vsOf (L2.start N vs) = vs ++ List.replicate (N.length - args.length) .non := by
            unfold vsOf L2.start
            rw [List.map_append, List.map_map, List.map_replicate, hl]
            congr 1
            have : ((fun o : Option V => o.getD .non) ∘ some) = id := rfl
            rw [this]; simp
          rw [e2]; exact o2
        · by_cases hi : i < args.length
          · rw [List.getElem?_append_left hi] at e
            have hi' : i < vs.length := by rw [← hl]; exact hi
            refine .inr ⟨vs[i], ?_⟩
            unfold L2.start
            rw [List.getElem?_append_left (by simpa using hi'), List.getElem?_map, List.getElem?_eq_getElem hi']; rfl
          · rw [List.getElem?_append_right (Nat.le_of_not_lt hi), List.getElem?_replicate] at e
            split at e
            · exact .inl (Option.some.inj e).symm
            · cases e
        · have hp' : p ∈ pinOf own vs := hp
          cases own with
          | false => cases vs <;> cases hp'
          | true => cases vs with
            | nil => cases hp'
            | cons v r => rw [List.mem_singleton.mp (show p ∈ [(0, v)] from hp')]; rfl
      refine ⟨F0, S0, _, _, S1, pure args R RX hs, fun env' h F' H' A' σ' S' p' => ?_, fun _ z => z.elim, fun _ z => z.elim, fun t env' h F' H' A' C v σ' S' p' o1 d1 => ?_⟩
      · obtain ⟨S2, sub, o2⟩ := S'.head (own := own) (vs := vs) rfl hv
        refine q _ _ h F' H' S2 Nobody .non ((p'.less sub).more fun _ z => z.elim) S'.sub o2 (Own.fz (by unfold Rep; rfl)) fun _ z => z.elim
      · obtain ⟨S2, sub, o2⟩ := S'.head (own := own) (vs := vs) rfl hv
        exact q _ _ h F' H' S2 C v (p'.less fun b z => z.imp (sub b) id) S'.sub o2 o1 fun b z y => d1 b z (sub b y)
end
end DL

/-! DL: more built-ins. -/
namespace DL
open PySem PySem.Spec PyProof.Rows L2
section
variable {X : Cx} {B : Bs} {e a b c : Expr} {pos p p2 p3 p4 apos cpos : Pos} {K : PySem.W.Frag} {wa wb : WP} {ea eb : WE} {oa ob : WO} {es : List Expr} {er ek : WAs} {wr : WVs} {st : Stmt} {rest : List Stmt} {w u : WS} {wt : WT} {la lb : WL} {ws : WOs}
/-! lists of bools, of ints -/
def D.bools : List D → Option (List Bool)
  | [] => some []
  | .bl b :: r => (D.bools r).map (b :: ·)
  | _ => none
def D.ints : List D → Option (List Int)
  | [] => some []
  | .int b :: r => (D.ints r).map (b :: ·)
  | _ => none
theorem bools_map : ∀ bs : List Bool, D.bools (bs.map .bl) = some bs
  | [] => rfl
  | b :: bs => by rw [List.map_cons]; unfold D.bools; rw [bools_map bs]; rfl
theorem ints_map : ∀ bs : List Int, D.ints (bs.map .int) = some bs
  | [] => rfl
  | b :: bs => by rw [List.map_cons]; unfold D.ints; rw [ints_map bs]; rfl
theorem RepL.bools {F : Hp} : ∀ {ds : List D} {vs : List V} {bs : List Bool}, RepL K F ds vs → D.bools ds = some bs → vs = bs.map V.bl
  | [], vs, bs, h, e => by
    cases (show some [] = some bs from e)
    unfold RepL at h; rw [h]; rfl
  | d :: ds, vs, bs, h, e => by
    obtain ⟨v, r, rfl, h1, h2⟩ := h.cons_inv
    cases d with
    | bl b =>
      obtain ⟨bs', e1, rfl⟩ := Option.map_eq_some_iff.mp (show (D.bools ds).map (b :: ·) = some bs from e)
      unfold Rep at h1
      rw [h1, RepL.bools h2 e1]; rfl
    | _ => cases (show (none : Option (List Bool)) = some bs from e)
theorem RepL.ints {F : Hp} : ∀ {ds : List D} {vs : List V} {bs : List Int}, RepL K F ds vs → D.ints ds = some bs → vs = bs.map V.int
  | [], vs, bs, h, e => by
    cases (show some [] = some bs from e)
    unfold RepL at h; rw [h]; rfl
  | d :: ds, vs, bs, h, e => by
    obtain ⟨v, r, rfl, h1, h2⟩ := h.cons_inv
    cases d with
    | int b =>
      obtain ⟨bs', e1, rfl⟩ := Option.map_eq_some_iff.mp (show (D.ints ds).map (b :: ·) = some bs from e)
      unfold Rep at h1
      rw [h1, RepL.ints h2 e1]; rfl
    | _ => cases (show (none : Option (List Int)) = some bs from e)
/-- functions of one list of data with a scalar answer -/
def gL1 (h : List D → Option D) (ts : List OT) (R : D → Prop) : Prop := match ts with
  | [t] => (match t.flat with
    | some (.nd .lst ds) => (match h ds with
      | some d => R d
      | none => False)
    | _ => False)
  | _ => False
theorem op_gL1 {h : List D → Option D} {r : List V → Hp → VK → Prop} (hr : ∀ (F H : Hp) (a : Addr) (vs : List V) (ds : List D) (d : D) (Q : VK), H a = some (.lst vs) → RepL K F ds vs → h ds = some d → (∀ v, (∀ K F, Rep K F d v) → Q v H) → r [.ref a] H Q) : OpPS K r (gL1 h) := fun F H xs ts R Q s vx nu hg q => by
  unfold gL1 at hg
  split at hg
  · rename_i t
    obtain ⟨x, rfl, vt⟩ := vx.one nu
    split at hg
    · rename_i ds ef
      obtain ⟨a, vs, rfl, n, rr⟩ := (vt.rdD s ef).lst
      split at hg
      · rename_i d ed
        exact hr F H a vs ds d Q n rr ed fun v hv => q d v hg hv
      · exact hg.elim
    · exact hg.elim
  · exact hg.elim
def hAll (ds : List D) : Option D := (D.bools ds).map fun bs => .bl (bs.all id)
def hAny (ds : List D) : Option D := (D.bools ds).map fun bs => .bl (bs.any id)
def hSum (ds : List D) : Option D := (D.ints ds).map fun ns => .int ns.sum
def maxI (n : Int) (ns : List Int) : Int := ns.foldl max n
def minI (n : Int) (ns : List Int) : Int := ns.foldl min n
def hMax (ds : List D) : Option D := match D.ints ds with
  | some (n :: ns) => some (.int (maxI n ns))
  | _ => none
def hMin (ds : List D) : Option D := match D.ints ds with
  | some (n :: ns) => some (.int (minI n ns))
  | _ => none
theorem maxI_is : ∀ (ns : List Int) (n : Int), (maxI n ns = n ∨ maxI n ns ∈ ns) ∧ n ≤ maxI n ns ∧ ∀ y ∈ ns, y ≤ maxI n ns
  | [], n => ⟨.inl rfl, Int.le_refl _, fun _ h => nomatch h⟩
  | m :: ns, n => by
    obtain ⟨h1, h2, h3⟩ := maxI_is ns (max n m)
    have e : maxI n (m :: ns) = maxI (max n m) ns := rfl
    rw [e]
    refine ⟨?_, by omega, fun y hy => ?_⟩
    · rcases h1 with h1 | h1
      · by_cases hm : m ≤ n
        · left; rw [h1]; omega
        · right; rw [h1]; have : max n m = m := by omega
          rw [this]; exact List.mem_cons_self
      · right; exact List.mem_cons_of_mem _ h1
    · rcases List.mem_cons.mp hy with rfl | hy
      · omega
      · exact h3 y hy
theorem maxI_uniq {n m : Int} {ns : List Int} (h1 : m ∈ n :: ns) (h2 : ∀ y ∈ n :: ns, y ≤ m) : m = maxI n ns := by
  obtain ⟨g1, g2, g3⟩ := maxI_is ns n
  have a : m ≤ maxI n ns := by
    rcases List.mem_cons.mp h1 with rfl | h
    · exact g2
    · exact g3 m h
  have b : maxI n ns ≤ m := by
    rcases g1 with g | g
    · rw [g]; exact h2 n List.mem_cons_self
    · exact h2 _ (List.mem_cons_of_mem _ g)
  omega
theorem minI_is : ∀ (ns : List Int) (n : Int), (minI n ns = n ∨ minI n ns ∈ ns) ∧ minI n ns ≤ n ∧ ∀ y ∈ ns, minI n ns ≤ y
  | [], n => ⟨.inl rfl, Int.le_refl _, fun _ h => nomatch h⟩
  | m :: ns, n => by
    obtain ⟨h1, h2, h3⟩ := minI_is ns (min n m)
    have e : minI n (m :: ns) = minI (min n m) ns := rfl
    rw [e]
    refine ⟨?_, by omega, fun y hy => ?_⟩
    · rcases h1 with h1 | h1
      · by_cases hm : n ≤ m
        · left; rw [h1]; omega
        · right; rw [h1]; have : min n m = m := by omega
          rw [this]; exact List.mem_cons_self
      · right; exact List.mem_cons_of_mem _ h1
    · rcases List.mem_cons.mp hy with rfl | hy
      · omega
      · exact h3 y hy
theorem minI_uniq {n m : Int} {ns : List Int} (h1 : m ∈ n :: ns) (h2 : ∀ y ∈ n :: ns, m ≤ y) : m = minI n ns := by
  obtain ⟨g1, g2, g3⟩ := minI_is ns n
  have a : minI n ns ≤ m := by
    rcases List.mem_cons.mp h1 with rfl | h
    · exact g2
    · exact g3 m h
  have b : m ≤ minI n ns := by
    rcases g1 with g | g
    · rw [g]; exact h2 n List.mem_cons_self
    · exact h2 _ (List.mem_cons_of_mem _ g)
  omega
theorem op_all : OpPS K (rAll K) (gL1 hAll) := op_gL1 fun F H a vs ds d Q n r e q => by
  obtain ⟨bs, e1, rfl⟩ := Option.map_eq_some_iff.mp e
  exact ⟨a, bs, rfl, SqL.of (by rw [n, r.bools e1]), q _ fun _ _ => by unfold Rep; rfl⟩
theorem op_any : OpPS K (rAny K) (gL1 hAny) := op_gL1 fun F H a vs ds d Q n r e q => by
  obtain ⟨bs, e1, rfl⟩ := Option.map_eq_some_iff.mp e
  exact ⟨a, bs, rfl, SqL.of (by rw [n, r.bools e1]), q _ fun _ _ => by unfold Rep; rfl⟩
theorem op_sum : OpPS K (rSum K) (gL1 hSum) := op_gL1 fun F H a vs ds d Q n r e q => by
  obtain ⟨bs, e1, rfl⟩ := Option.map_eq_some_iff.mp e
  exact ⟨a, bs, rfl, SqL.of (by rw [n, r.ints e1]), q _ fun _ _ => by unfold Rep; rfl⟩
theorem op_max : OpPS K (rMax K) (gL1 hMax) := op_gL1 fun F H a vs ds d Q n r e q => by
  unfold hMax at e
  split at e
  · rename_i n0 ns e1
    cases e
    refine ⟨a, n0 :: ns, rfl, SqL.of (by rw [n, r.ints e1]), Nat.succ_pos _, fun m h1 h2 => ?_⟩
    rw [maxI_uniq h1 h2]
    exact q _ fun _ _ => by unfold Rep; rfl
  · cases e
theorem op_min : OpPS K (rMin K) (gL1 hMin) := op_gL1 fun F H a vs ds d Q n r e q => by
  unfold hMin at e
  split at e
  · rename_i n0 ns e1
    cases e
    refine ⟨a, n0 :: ns, rfl, SqL.of (by rw [n, r.ints e1]), Nat.succ_pos _, fun m h1 h2 => ?_⟩
    rw [minI_uniq h1 h2]
    exact q _ fun _ _ => by unfold Rep; rfl
  · cases e
/-- two ints -/
def gI2 (f : Int → Int → Int) (ts : List OT) (R : D → Prop) : Prop := match ts with
  | [.fz (.int i), .fz (.int j)] => R (.int (f i j))
  | _ => False
theorem op_gI2 {f g : Int → Int → Int} (e : ∀ i j, f i j = g i j) : OpPS K (fun xs H Q => ∃ i j, xs = [.int i, .int j] ∧ Q (.int (f i j)) H) (gI2 g) := fun F H xs ts R Q s vx nu hg q => by
  unfold gI2 at hg
  split at hg
  · obtain ⟨x, y, rfl, h1, h2⟩ := vx.two nu
    unfold View Rep at h1 h2
    subst h1 h2
    exact ⟨_, _, rfl, by rw [e]; exact q _ _ hg fun _ _ => by unfold Rep; rfl⟩
  · exact hg.elim
/-- int(n), int(flag) -/
def gToInt (ts : List OT) (R : D → Prop) : Prop := match ts with
  | [.fz (.int i)] => R (.int i)
  | [.fz (.bl k)] => R (.int (if k then 1 else 0))
  | _ => False
theorem op_toInt : OpPS K (fun xs H Q => (∃ i, xs = [.int i] ∧ Q (.int i) H) ∨ ∃ k, xs = [.bl k] ∧ Q (.int (if k then 1 else 0)) H) gToInt := fun F H xs ts R Q s vx nu hg q => by
  unfold gToInt at hg
  split at hg
  · obtain ⟨x, rfl, h1⟩ := vx.one nu
    unfold View Rep at h1
    subst h1
    exact .inl ⟨_, rfl, q _ _ hg fun _ _ => by unfold Rep; rfl⟩
  · obtain ⟨x, rfl, h1⟩ := vx.one nu
    unfold View Rep at h1
    subst h1
    exact .inr ⟨_, rfl, q _ _ hg fun _ _ => by unfold Rep; rfl⟩
  · exact hg.elim
/-- list(x), tuple(x): of data -/
def gToList (ts : List OT) (R : OT → Prop) : Prop := match ts with
  | [t] => (match t.flat with
    | some (.nd .lst ds) => R (.nd .lst (ds.map .fz))
    | some (.nd .tup ds) => R (.nd .lst (ds.map .fz))
    | some (.nd .scr ds) => R (.nd .lst (ds.map .fz))
    | _ => False)
  | _ => False
theorem op_toList : OpPN K (fun xs H Q => ∃ p ys, xs = [.ref p] ∧ (SqL K H p ys ∨ SqT K H p ys) ∧ ∀ l, H l = none → Q (.ref l) (L2.upd H l (.lst ys))) gToList := fun F H xs ts R Q s vx nu hg q => by
  unfold gToList at hg
  split at hg
  · rename_i t
    obtain ⟨x, rfl, vt⟩ := vx.one nu
    split at hg
    · rename_i ds ef
      obtain ⟨a, vs, rfl, n, rr⟩ := (vt.rdD s ef).lst
      exact ⟨a, vs, rfl, .inl (SqL.of n), fun l hl => (q _ hg).lst s rr hl⟩
    · rename_i ds ef
      obtain ⟨a, vs, rfl, n, rr⟩ := (vt.rdD s ef).tup
      exact ⟨a, vs, rfl, .inr n, fun l hl => (q _ hg).lst s rr hl⟩
    · rename_i ds ef
      obtain ⟨a, vs, rfl, n, rr⟩ := (show ∃ a vs, x = .ref a ∧ NodeF K H a vs .scr ∧ RepL K F ds vs from vt.rdD s ef)
      exact ⟨a, vs, rfl, .inl n, fun l hl => (q _ hg).lst s rr hl⟩
    · exact hg.elim
  · exact hg.elim
/-- the calls -/
theorem pv_fn {id : String} {r : List V → Hp → VK → Prop} {g : List OT → (D → Prop) → Prop} {x : Str} (hK : B.K = X.K) (ho : OpPS X.K r g) (hc : CallR X (.builtin id) r) (hv : bootBuiltins x = some (.builtin id)) (hm : X.mg x = none) (ha : VAs X B (a :: es) wr) (hg : Gl X x := by rfl) (hn : x ≠ "__name__" := by decide) (hd : (x == ("__debug__" : Str)) = false := by decide)
    (he : starEach (a :: es) X.env = (false, eval a X.env) :: starEach es X.env := by rfl) (hpl : (backTo pos (starEach es X.env)).any (·.1) = false := by rfl) : PV X B (.Call (.Name x p) (a :: es) [] pos) (wFn g wr) :=
  ⟨pe_imp (pe_callB hc hg hm hv ha.pa hn hd he hpl) fun _ _ _ => im_fn (by rw [hK]; exact ho)⟩
theorem de_fn {id : String} {r : List V → Hp → VK → Prop} {g : List OT → (D → Prop) → Prop} {x : Str} (hK : B.K = X.K) (ho : OpPS X.K r g) (hc : CallR X (.builtin id) r) (hv : bootBuiltins x = some (.builtin id)) (hm : X.mg x = none) (ha : DAs X B (a :: es) er) (hg : Gl X x := by rfl) (hn : x ≠ "__name__" := by decide) (hd : (x == ("__debug__" : Str)) = false := by decide)
    (he : starEach (a :: es) X.env = (false, eval a X.env) :: starEach es X.env := by rfl) (hpl : (backTo pos (starEach es X.env)).any (·.1) = false := by rfl) : DE X B (.Call (.Name x p) (a :: es) [] pos) (wFnE g er) :=
  ⟨pe_imp (pe_callB hc hg hm hv ha.pa hn hd he hpl) fun _ _ _ => im_fnE (by rw [hK]; exact ho)⟩
theorem de_ty {T : String} {r : List V → Hp → VK → Prop} {g : List OT → (D → Prop) → Prop} {x : Str} (hK : B.K = X.K) (ho : OpPS X.K r g) (hc : CallR X (.type T) r) (hv : bootBuiltins x = some (.type T)) (hm : X.mg x = none) (ha : DAs X B (a :: es) er) (hg : Gl X x := by rfl) (hn : x ≠ "__name__" := by decide) (hd : (x == ("__debug__" : Str)) = false := by decide)
    (he : starEach (a :: es) X.env = (false, eval a X.env) :: starEach es X.env := by rfl) (hpl : (backTo pos (starEach es X.env)).any (·.1) = false := by rfl) : DE X B (.Call (.Name x p) (a :: es) [] pos) (wFnE g er) :=
  ⟨pe_imp (pe_callTy hc hg hm hv ha.pa hn hd he hpl) fun _ _ _ => im_fnE (by rw [hK]; exact ho)⟩
theorem oe_tyV {T : String} {r : List V → Hp → VK → Prop} {g : List OT → (OT → Prop) → Prop} {x : Str} (hK : B.K = X.K) (ho : OpPN X.K r g) (hc : CallR X (.type T) r) (hv : bootBuiltins x = some (.type T)) (hm : X.mg x = none) (ha : VAs X B (a :: es) wr) (hg : Gl X x := by rfl) (hn : x ≠ "__name__" := by decide) (hd : (x == ("__debug__" : Str)) = false := by decide)
    (he : starEach (a :: es) X.env = (false, eval a X.env) :: starEach es X.env := by rfl) (hpl : (backTo pos (starEach es X.env)).any (·.1) = false := by rfl) : OE X B (.Call (.Name x p) (a :: es) [] pos) (wFnN g wr) :=
  ⟨pe_imp (pe_callTy hc hg hm hv ha.pa hn hd he hpl) fun _ _ _ => im_fnN (by rw [hK]; exact ho)⟩
theorem oe_tyE {T : String} {r : List V → Hp → VK → Prop} {g : List OT → (OT → Prop) → Prop} {x : Str} (hK : B.K = X.K) (ho : OpPN X.K r g) (hc : CallR X (.type T) r) (hv : bootBuiltins x = some (.type T)) (hm : X.mg x = none) (ha : DAs X B (a :: es) er) (hg : Gl X x := by rfl) (hn : x ≠ "__name__" := by decide) (hd : (x == ("__debug__" : Str)) = false := by decide)
    (he : starEach (a :: es) X.env = (false, eval a X.env) :: starEach es X.env := by rfl) (hpl : (backTo pos (starEach es X.env)).any (·.1) = false := by rfl) : OE X B (.Call (.Name x p) (a :: es) [] pos) (wFnNE g er) :=
  ⟨pe_imp (pe_callTy hc hg hm hv ha.pa hn hd he hpl) fun _ _ _ => im_fnNE (by rw [hK]; exact ho)⟩
/-! max(xs, default=d) of ints -/
def rMaxD (K : PySem.W.Frag) : List V → List V → Hp → VK → Prop := fun vs zs H Q => ∃ (a : Addr) (ns : List Int) (d : V), vs = [.ref a] ∧ zs = [d] ∧ SqL K H a (ns.map V.int) ∧ Q (match ns with
  | [] => d
  | n :: r => .int (maxI n r)) H
theorem readsAll_ints {h : Heap} : ∀ {ns : List Int} {us : List Value}, Vals (ns.map V.int) us → ∃ as, ReadsAll h us (ns.map PyData.int) as
  | [], _, r => by cases r; exact ⟨_, ReadsAll.nil⟩
  | n :: ns, us, r => by
    rw [List.map_cons] at r
    cases r with
    | cons r1 r2 =>
      obtain ⟨t, rfl⟩ := r1
      obtain ⟨as, h2⟩ := readsAll_ints (h := h) r2
      exact ⟨_, ReadsAll.cons (Reads.int n t) h2⟩
theorem maxOf_int (ns : List Int) : ∀ n : Int, PySem.W.maxOf n ns = maxI n ns := by
  unfold PySem.W.maxOf maxI
  induction ns with
  | nil => intro n; rfl
  | cons m ns ih =>
    intro n
    rw [List.foldl_cons, List.foldl_cons]
    have e : (if PySem.W.DatumOrd.lt n m = true then m else n) = max n m := by
      show (if decide (n < m) = true then m else n) = max n m
      by_cases h : n < m
      · rw [if_pos (decide_eq_true h)]; omega
      · rw [if_neg (by simpa using h)]; omega
    rw [e]; exact ih _
theorem cr_maxD (hc : X.calm = true) (hu : X.A.units + 64 < cLine) : CallRK X (.builtin "max") [Str.ofString "default"] (rMaxD X.K) := by
  intro pins s σ H vs zs us wv Q I r rz h
  obtain ⟨a, ns, d, rfl, rfl, hs, q⟩ := h
  obtain ⟨its, rv, hl, _⟩ := I.list hs
  rw [Vals.ref1 r]
  obtain ⟨u, rfl, rd⟩ := rz.one
  refine PySem.W.max_list_datum_default (α := Int) (xs := ns) (I.ok.hd hc) hl.isList (show PySem.W.HoldAll s.heap its ns from DL.readsAll_ints rv) (by show X.A.units + 1 + 0 < cLine; omega) (fun e h' tk hk => ?_) fun y ys i v h' tk e hi hv hk => ?_
  · subst e
    exact ⟨d, H, I.kept hk, rd, q⟩
  · subst e
    rw [maxOf_int] at hv
    obtain ⟨as, hv⟩ := hv
    cases hv
    exact ⟨.int _, H, I.kept hk, ⟨_, rfl⟩, q⟩
def wMaxD (er ek : WAs) : WE := fun env Q => er env fun as e1 => ek e1 fun bs e2 => match as, bs with
  | [.nd .lst ds], [d] => (match D.ints ds with
    | some [] => Q d e2
    | some (n :: r) => Q (.int (maxI n r)) e2
    | none => False)
  | _, _ => False
theorem de_maxD {nm : Option Str} {kpos : Pos} (hK : B.K = X.K) (hc : X.calm = true) (hu : X.A.units + 64 < cLine) (hm : X.mg "max" = none) (ha : DAs X B [a] er) (hk : DKs X B [⟨nm, b, kpos⟩] ek) (hg : Gl X "max" := by rfl)
    (he : backTo pos (starEach [a] X.env) = (false, eval a X.env) :: backTo pos (starEach [] X.env) := by rfl) (hpl : (backTo pos (starEach [a] X.env)).any (·.1) = false := by rfl)
    (hall : (backToKw pos (keywordEach [⟨nm, b, kpos⟩] X.env)).all (·.1.isSome) = true := by rfl) (hnone : (backToKw pos (keywordEach [⟨nm, b, kpos⟩] X.env)).any (·.1.isNone) = false := by rfl) (hks : (backToKw pos (keywordEach [⟨nm, b, kpos⟩] X.env)).filterMap (·.1) = [Str.ofString "default"] := by rfl) :
    DE X B (.Call (.Name "max" p) [a] [⟨nm, b, kpos⟩] pos) (wMaxD er ek) := ⟨pe_imp (pe_callBK (cr_maxD hc hu) hg hm (by decide +kernel) ha.pa hk.pk (he := he) (hpl := hpl) (hall := hall) (hnone := hnone) (hks := hks)) fun σ H Q ⟨F, A, env, R, S, hw, q⟩ => by
  refine ⟨F, A, env, _, S, hw, fun as e1 h1 F1 H1 A1 vs S1 p1 r1 => ?_⟩
  refine ⟨F1, A1, e1, _, S1, h1, fun bs e2 h2 F2 H2 A2 zs S2 p2 r2 => ?_⟩
  split at h2
  · rename_i ds d
    obtain ⟨v, r, rfl, ra, rb⟩ := (r1.mono p2.fr).cons_inv
    unfold RepL at rb; subst rb
    obtain ⟨v', r', rfl, rc, rd⟩ := r2.cons_inv
    unfold RepL at rd; subst rd
    unfold Rep at ra
    obtain ⟨a, us, rfl, n, rr⟩ := ra
    have n2 : H2 a = some (.lst us) := S2.sub _ _ n
    split at h2
    · rename_i ei
      exact ⟨a, [], v', rfl, rfl, SqL.of (by rw [n2, rr.ints ei]), q d e2 h2 F2 H2 A2 v' S2 (p1.trans p2) rc⟩
    · rename_i m ms ei
      exact ⟨a, m :: ms, v', rfl, rfl, SqL.of (by rw [n2, rr.ints ei]), q _ e2 h2 F2 H2 A2 _ S2 (p1.trans p2) (by unfold Rep; rfl)⟩
    · exact h2.elim
  · exact h2.elim⟩
/-! ### slices -/
def cutD {α : Type} (xs : List α) (lo hi : Option Int) : List α := (xs.drop (HT.sIx xs.length 0 lo)).take (HT.sIx xs.length xs.length hi - HT.sIx xs.length 0 lo)
abbrev WPt := Env' → (Option Int → Prop) → Prop
def rdPt (B : Bs) (w : WPt) : TO := fun σ H Q => ∃ F A env R, SR B F H A env σ ∧ w env R ∧ ∀ o, R o → Q o H
structure DPt (X : Cx) (B : Bs) (e : Option Expr) (w : WPt) : Prop where
  po : PO X e (rdPt B w)
theorem po_imp {e : Option Expr} {t t' : TO} (h : PO X e t) (i : ∀ {σ H Q}, t' σ H Q → t σ H Q) : PO X e t' := ⟨fun pins s σ H Q I q => h.run pins s σ H Q I (i q)⟩
def wNoPt : WPt := fun _ Q => Q none
def wPt (wa : WP) : WPt := fun env Q => wa env fun t => match t with
  | .fz (.int i) => Q (some i)
  | _ => False
theorem dp_none : DPt X B none wNoPt := ⟨po_imp po_none fun ⟨F, A, env, R, S, hw, q⟩ => q none hw⟩
theorem dp_some (h : PV X B a wa) : DPt X B (some a) (wPt wa) := ⟨po_imp (po_some h.pe) fun ⟨F, A, env, R, S, hw, q⟩ => by
  refine ⟨F, A, env, _, S, hw, fun t h1 v vv => ?_⟩
  split at h1
  · unfold View Rep at vv; subst vv
    exact ⟨_, rfl, q _ h1⟩
  · exact h1.elim⟩
def OT.cut (t : OT) (lo hi : Option Int) : Option OT := match t with
  | .fz (.nd .lst ds) => some (.nd .lst ((cutD ds lo hi).map .fz))
  | .fz (.nd .tup ds) => some (.fz (.nd .tup (cutD ds lo hi)))
  | .nd .lst cs => (OT.dsOf cs).map fun ds => .nd .lst ((cutD ds lo hi).map .fz)
  | _ => none
def rSlB (K : PySem.W.Frag) : V → Option Int → Option Int → Hp → VK → Prop := fun x lo hi H Q => rSlL K x lo hi H Q ∨ rSlA K x lo hi H Q
theorem sl_both : SlR X (rSlB X.K) := sl_list.or sl_tupA
theorem RepL.cut {F : Hp} {ds : List D} {vs : List V} (r : RepL K F ds vs) (lo hi : Option Int) : RepL K F (cutD ds lo hi) (cutV vs lo hi) := by
  unfold cutD cutV
  rw [r.len]
  exact (r.drop _).take _
def wSl (wa : WP) (wl wh : WPt) : WO := fun env Q => wa env fun t => wl env fun lo => wh env fun hi => match t.cut lo hi with
  | some t' => Q t' env
  | none => False
theorem cutD_all {α : Type} {xs : List α} {lo hi : Option Int} (h : HT.sIx xs.length 0 lo = 0 ∧ HT.sIx xs.length xs.length hi = xs.length) : cutD xs lo hi = xs := by
  unfold cutD
  rw [h.1, h.2]; simp
theorem oe_slice {lo hi : Option Expr} {wl wh : WPt} (hK : B.K = X.K) (ha : PV X B a wa) (hl : DPt X B lo wl) (hh : DPt X B hi wh) : OE X B (.Subscript a (.Slice lo hi none p2) pos) (wSl wa wl wh) := ⟨pe_imp (pe_slice sl_both ha.pe hl.po hh.po) fun σ H Q ⟨F, A, env, R, S, hw, q⟩ => by
  refine ⟨F, A, env, _, S, hw, fun t h1 x vx => ?_⟩
  refine ⟨F, A, env, _, S, h1, fun l h2 => ?_⟩
  refine ⟨F, A, env, _, S, h2, fun h h3 => ?_⟩
  rw [← hK]
  have fin : ∀ t', R t' env → NewV B.K F H Q t' := fun t' ht => S.newV fun F' H' A' C v S' p ow d => q t' env ht F' H' A' C v S' p ow d
  cases ec : t.cut l h with
  | none => rw [ec] at h3; exact h3.elim
  | some t' =>
    rw [ec] at h3
    unfold OT.cut at ec
    split at ec
    · rename_i ds
      cases ec
      unfold View Rep at vx
      obtain ⟨a, vs, rfl, n, r⟩ := vx
      exact .inl ⟨a, vs, rfl, SqL.of (S.sub _ _ n), fun p hp => (fin _ h3).lst S.sub (r.cut l h) hp⟩
    · rename_i ds
      cases ec
      unfold View at vx
      have vx0 := vx
      unfold Rep at vx
      obtain ⟨a, vs, rfl, n, r⟩ := vx
      refine .inr ⟨a, vs, rfl, Same.tseq S.sub n, fun w => ?_, fun _ p hp => (fin _ h3).tup S.sub (r.cut l h) hp⟩
      have f0 := fin _ h3
      rw [cutD_all (by rw [r.len]; exact w)] at f0
      exact f0.fz S.sub vx0
    · rename_i cs
      obtain ⟨ds, ed, rfl⟩ := Option.map_eq_some_iff.mp ec
      unfold View at vx
      obtain ⟨a, vs, rfl, n, r⟩ := vx
      exact .inl ⟨a, vs, rfl, SqL.of n, fun p hp => (fin _ h3).lst S.sub ((RepL.ofView r ed).cut l h) hp⟩
    · cases ec⟩
/-! ### x[i] = v at a place -/
def rSetM : V → List V → Hp → VK → Prop := fun o us H Q => match us with
  | [i, v] => rSetL o i v H fun H' => Q .non H'
  | _ => False
def gSetM (cs ts : List OT) (R : OT → List OT → Prop) : Prop := match ts with
  | [.fz (.int z), t] => (match ixN cs.length z with
    | some k => R (.fz .non) (cs.set k t)
    | none => False)
  | _ => False
theorem op_set : OpM K rSetM gSetM := ⟨fun F H A1 C a vs us cs ts R Q s ha ow ot d ne hg q => by
  unfold gSetM at hg
  split at hg
  · rename_i z t
    obtain ⟨v1, r1, B1, B2, rfl, o1, o2, d2, e2⟩ := ot.cons_inv
    obtain ⟨v, r, B3, B4, rfl, o3, o4, d4, e4⟩ := o2.cons_inv
    have l := o4.len
    obtain rfl : r = [] := List.length_eq_zero_iff.mp l.symm
    unfold Own at o1
    have e1 := o1.1
    unfold Rep at e1; subst e1
    split at hg
    · rename_i k ek
      have hk := (ixN_seq ek).2.1
      have ec : cs[k]? = some cs[k] := List.getElem?_eq_getElem hk
      obtain ⟨w, Bk, Rk, ew, owk, dk, eA, put⟩ := ow.focus ec
      have b3C : ∀ b, B3 b → C b := fun b hb => (e2 b).mpr (.inr ((e4 b).mpr (.inl hb)))
      refine ⟨a, vs, z, k, rfl, rfl, ha, by rw [← ow.len]; exact ek, ?_⟩
      have o5 := put F H t v B3 (Same.refl F) (fun b hb => ⟨(ow.free b ((eA b).mpr (.inr hb))).1, rfl⟩) o3 fun b hb hr => d b ((eA b).mpr (.inr hr)) (b3C b hb)
      refine q _ _ hg _ .non (fun b => B3 b ∨ Rk b) Nobody (OwnL.at o5 fun b hb => ne b (hb.symm.imp (fun y => (eA b).mpr (.inr y)) (b3C b))) (Own.fz (by unfold Rep; rfl)) (fun _ _ y => y.elim) fun b hb => ?_
      rcases hb with (hb | hb) | hb
      · exact .inr (b3C b hb)
      · exact .inl ((eA b).mpr (.inr hb))
      · exact hb.elim
    · exact hg.elim
  · exact hg.elim⟩
def wSetIx (oa : WO) (la : WL) (wb : WP) : WS := fun R env => oa env fun t e1 => la e1 fun i π => wb e1 fun z => match atP e1 i π with
  | some (.nd .lst cs) => z ≠ .un ∧ gSetM cs [z, t] fun _ cs' => R.nx (putP e1 i π (.nd .lst cs'))
  | _ => False
theorem ds_setix {tpos : Pos} (ho : OE X B e oa) (hl : PL X B a la) (hb : PV X B b wb)
    (hs : swapsWithSole [.Subscript a b tpos] e pos.line X.env = pure false := by rfl) (hw : swappedStores [.Subscript a b tpos] e X.env = pure none := by rfl) (h1 : (assignEach [.Subscript a b tpos] X.env).map (·.2) = [assign (.Subscript a b tpos) X.env] := by rfl)
    (hx : ∀ v, assign (.Subscript a b tpos) X.env v = (do
      let ov ← holding [v] (eval a X.env)
      let iv ← holding [v, ov] (eval b X.env)
      standAt tpos
      holding [v, ov, iv] (setItem ov iv v)
      release [v, ov, iv] []) := by intro _; rfl) : DS X B (.Assign [.Subscript a b tpos] e pos) (wSetIx oa la wb) :=
  ⟨ps_imp (ps_asg ho.pe (pg_sub hl.pe hb.pe set_list hx) hs hw h1) fun D σ H ⟨F, A, env, R, S, hw, q, _⟩ => by
  refine ⟨F, A, env, _, S, hw, fun t e1 h1 F1 H1 A1 C v S1 p1 ow d => ?_⟩
  refine ⟨F1, A1, e1, _, S1, h1, fun i π h2 o po => ?_⟩
  refine ⟨F1, A1, e1, _, S1, h2, fun z h3 y vy => ?_⟩
  split at h3
  · rename_i cs ecs
    obtain ⟨hu, h3⟩ := h3
    have fin := S1.mutL (B := B) (r := rSetM) (g := gSetM) op_set (ts := [z, t]) (us := [y, v]) (C := C) po ecs ?_ d (step_base S p1) (R := fun _ cs' => R.nx (putP e1 i π (.nd .lst cs'))) (Q := fun _ H' => D.nx σ H') h3 fun t' cs' hR H' A' C' z' S' p' _ _ => q _ hR F1 H' A' σ S' (p1.trans (p'.less fun b w => .inl w))
    · exact fin
    · have hz : ∃ k, z = .fz (.int k) := by
        unfold gSetM at h3
        split at h3
        · rename_i heq; injection heq with e1 e2; exact ⟨_, e1⟩
        · exact h3.elim
      obtain ⟨k, rfl⟩ := hz
      unfold View at vy
      exact (OwnL.cons (Own.fz vy) (OwnL.cons ow OwnL.nil fun _ _ z => z) fun _ z _ => z).iff fun b => ⟨fun z => .inr (.inl z), fun z => z.elim (fun z => z.elim) fun z => z.elim id fun z => z.elim⟩
  · exact h3.elim⟩
end
end DL

/-! DL: a def as callers know it. -/
namespace DL
open PySem PySem.Spec PyProof.Rows L2
/-- the def nm of the module: its promise, at a level -/
structure CF (P : Program) (wd : World) (K : PySem.W.Frag) (mg : Str → Option Value) (base : Heap) (k : Nat) (nm : Str) (ps : List Str) (sp : FSpec) : Prop where
  ex : ∃ fd, FnOk P wd K mg base (L2.CX P wd) k (He.ga K nm) fd ps (spD K sp) ∧ L2.Binds K fd ps []
  gm : mg nm = some (.ref (He.ga K nm))
  kp : PySem.W.keepIn K (.ref (He.ga K nm)) = true
/-- the same called in a form: n positional values, keywords ks, put in order by gD -/
structure CFK (P : Program) (wd : World) (K : PySem.W.Frag) (mg : Str → Option Value) (base : Heap) (k : Nat) (nm : Str) (ps : List Str) (sp : FSpec) (n : Nat) (ks : List Str) (gD : List D → List D → List D) : Prop where
  ex : ∃ fd g gV, FnOk P wd K mg base (L2.CX P wd) k (He.ga K nm) fd ps (spD K sp) ∧ KBn K fd ps n ks g gV ∧ ∀ F as bs vs zs, as.length = n → bs.length = ks.length → RepL K F as vs → RepL K F bs zs → RepL K F (gD as bs) (gV vs zs)
  gm : mg nm = some (.ref (He.ga K nm))
  kp : PySem.W.keepIn K (.ref (He.ga K nm)) = true
/-- called with n values, the others by their defaults -/
structure CFD (P : Program) (wd : World) (K : PySem.W.Frag) (mg : Str → Option Value) (base : Heap) (k : Nat) (nm : Str) (ps : List Str) (sp : FSpec) (dfl : List D) : Prop where
  ex : ∃ fd dvs ds, FnOk P wd K mg base (L2.CX P wd) k (He.ga K nm) fd ps (spD K sp) ∧ L2.Binds K fd ps ds ∧ Vals dvs ds ∧ ∀ F, RepL K F dfl dvs
  gm : mg nm = some (.ref (He.ga K nm))
  kp : PySem.W.keepIn K (.ref (He.ga K nm)) = true
section
variable {X : Cx} {B : Bs} {e a b c : Expr} {pos p p2 p3 p4 apos cpos : Pos} {K : PySem.W.Frag} {wa wb : WP} {ea eb : WE} {oa ob : WO} {es : List Expr} {er ek : WAs} {wr : WVs} {st : Stmt} {rest : List Stmt} {w u : WS} {wt : WT} {la lb : WL} {ws : WOs}
variable {sp : FSpec} {k k' n : Nat} {ps ks : List Str} {x : Str} {xq : XQ} {kws : List Keyword} {gD : List D → List D → List D} {dfl : List D}
theorem CF.d (C : CF X.prog X.w X.K X.mg X.base k x ps sp) : CFD X.prog X.w X.K X.mg X.base k x ps sp [] := by
  obtain ⟨⟨fd, G, hb⟩, gm, kp⟩ := C
  exact ⟨⟨fd, [], [], G, hb, .nil, fun _ => RepL.nil⟩, gm, kp⟩
theorem oe_callD (C : CFD X.prog X.w X.K X.mg X.base k' x ps sp dfl) (hr : Room k X.A) (hK : B.K = X.K) (tk : Takes X (wxD B xq)) (ha : DAs X B (e :: es) er) (hkk : k' ≤ k := by decide) (hg : Gl X x := by rfl) (hdb : (x == ("__debug__" : Str)) = false := by decide)
    (he : starEach (e :: es) X.env = (false, eval e X.env) :: starEach es X.env := by rfl) (hpl : (backTo pos (starEach es X.env)).any (·.1) = false := by rfl) : OE X B (.Call (.Name x p) (e :: es) [] pos) (wCall sp xq dfl er) := by
  obtain ⟨⟨fd, dvs, ds, G, hb, hd, hdf⟩, gm, kp⟩ := C
  exact oe_call G (hr.mono hkk) gm kp hb hd hdf hK tk ha hg hdb he hpl
theorem oe_callF (C : CF X.prog X.w X.K X.mg X.base k' x ps sp) (hr : Room k X.A) (hK : B.K = X.K) (tk : Takes X (wxD B xq)) (ha : DAs X B (e :: es) er) (hkk : k' ≤ k := by decide) (hg : Gl X x := by rfl) (hdb : (x == ("__debug__" : Str)) = false := by decide)
    (he : starEach (e :: es) X.env = (false, eval e X.env) :: starEach es X.env := by rfl) (hpl : (backTo pos (starEach es X.env)).any (·.1) = false := by rfl) : OE X B (.Call (.Name x p) (e :: es) [] pos) (wCall sp xq [] er) := oe_callD C.d hr hK tk ha hkk hg hdb he hpl
theorem oe_lend {y : Str} (C : CF X.prog X.w X.K X.mg X.base k' x ps sp) (hr : Room k X.A) (hK : B.K = X.K) (tk : Takes X (wxD B xq)) (i : Nat) (ha : DAs X B es er) (hkk : k' ≤ k := by decide) (hN : X.N[i]? = some y := by rfl) (hv : Vis X.env.scope y := by first | exact Or.inl rfl | exact Or.inr (Or.inl rfl) | exact Or.inr (Or.inr rfl)) (hg : Gl X x := by rfl) (hdb : (x == ("__debug__" : Str)) = false := by decide) (hd2 : (y == ("__debug__" : Str)) = false := by decide)
    (hcd : (y == ("__classdict__" : Str)) = false := by decide) (he : starEach (.Name y p2 :: es) X.env = (false, eval (.Name y p2) X.env) :: starEach es X.env := by rfl) (hpl : (backTo pos (starEach es X.env)).any (·.1) = false := by rfl) :
    OE X B (.Call (.Name x p) (.Name y p2 :: es) [] pos) (wCallB i sp xq [] er) := by
  obtain ⟨⟨fd, dvs, ds, G, hb, hd, hdf⟩, gm, kp⟩ := C.d
  exact oe_callB G (hr.mono hkk) gm kp hb hd hdf hK tk i ha hN hv hg hdb hd2 hcd he hpl
theorem oe_kw (C : CFK X.prog X.w X.K X.mg X.base k' x ps sp n ks gD) (hr : Room k X.A) (hK : B.K = X.K) (tk : Takes X (wxD B xq)) (ha : DAs X B (e :: es) er) (hkw : DKs X B kws ek) (hkk : k' ≤ k := by decide) (hg : Gl X x := by rfl) (hall : (backToKw pos (keywordEach kws X.env)).all (·.1.isSome) = true := by rfl) (hks : (backToKw pos (keywordEach kws X.env)).filterMap (·.1) = ks := by rfl)
    (hdb : (x == ("__debug__" : Str)) = false := by decide) (he : starEach (e :: es) X.env = (false, eval e X.env) :: starEach es X.env := by rfl)
    (hpl : ((backTo pos (starEach (e :: es) X.env)).any (·.1) || (backToKw pos (keywordEach kws X.env)).any (·.1.isNone)) = false := by rfl) : OE X B (.Call (.Name x p) (e :: es) kws pos) (wCallK n ks.length sp xq gD er ek) := by
  obtain ⟨⟨fd, g, gV, G, hb, hgD⟩, gm, kp⟩ := C
  exact oe_callK G (hr.mono hkk) gm kp hb hgD hK tk ha hkw hg hall hks hdb he hpl
/-- the first argument a tree of one's own, given away -/
def wCallG (sp : FSpec) (xq : XQ) (oa : WO) (er : WAs) : WO := fun env Q => oa env fun t e1 => er e1 fun as e2 => t ≠ .un ∧ sp (t :: as.map .fz) (fun r _ => Q r e2) fun x _ => xq x e2
theorem SR.afterS {F H F' H' : Hp} {A C S' : Addr → Prop} {env : Env'} {σ : L2.St} (S : SR B F H A env σ) (p : Step F H C F' H' S') (s : Same F' H') (d : ∀ b, C b → ¬ A b) (bC : ∀ b, C b → B.A0 b ∨ B.H0 b = none) :
    SR B F' H' A env σ ∧ Step F H (fun b => A b ∨ C b) F' H' (fun b => A b ∨ S' b) ∧ ∀ b, S' b → ¬ A b := by
  have bes := p.beside (B := A) S.free fun b z y => d b y z
  have p2 : Step F H (fun b => A b ∨ C b) F' H' (fun b => A b ∨ S' b) := by
    have q := p.from (A2 := fun b => A b ∨ C b) fun _ z => .inr z
    exact ⟨q.fr, q.keep, q.new, fun b z => z.elim (fun z => .inl (.inl z)) (q.own b)⟩
  exact ⟨⟨S.own.mono p.fr fun b hb => (bes b hb).1, S.set, s, ((S.base.more bC).trans p2).less fun b z => .inl z, S.pin⟩, p2, fun b z y => (bes b y).2 z⟩
theorem oe_give (C : CF X.prog X.w X.K X.mg X.base k' x ps sp) (hr : Room k X.A) (hK : B.K = X.K) (tk : Takes X (wxD B xq)) (ho : OE X B e oa) (ha : DAs X B es er) (hkk : k' ≤ k := by decide) (hg : Gl X x := by rfl) (hdb : (x == ("__debug__" : Str)) = false := by decide)
    (he : starEach (e :: es) X.env = (false, eval e X.env) :: starEach es X.env := by rfl) (hpl : (backTo pos (starEach es X.env)).any (·.1) = false := by rfl) : OE X B (.Call (.Name x p) (e :: es) [] pos) (wCallG sp xq oa er) := by
  obtain ⟨⟨fd, G, hb⟩, gm, kp⟩ := C
  refine ⟨pe_imp (pe_callSD (G.mono hkk) hr hg gm kp hb .nil (passAt tk) (pa_cons ho.pe ha.pa he) hdb he hpl) fun σ H Q ⟨F, A, env, R, S, hw, q⟩ => ?_⟩
  refine ⟨F, A, env, _, S, hw, fun t e1 h1 F1 H1 A1 C1 v S1 p1 o1 d1 => ?_⟩
  refine ⟨F1, A1, e1, _, S1, h1, fun as e2 h2 F2 H2 A2 vs S2 p2 r2 => ?_⟩
  obtain ⟨hu, h2⟩ := h2
  obtain ⟨o2, d2⟩ := o1.step p2 d1
  have bC := step_base S p1
  rw [← hK, List.append_nil]
  have oArgs : OwnL B.K F2 H2 (t :: as.map .fz) (v :: vs) C1 := (OwnL.cons o2 (OwnL.fzs r2) fun _ _ z => z).iff fun b => ⟨.inl, fun z => z.elim id fun z => z.elim⟩
  have p12 : Step F H A F2 H2 (fun b => A2 b ∨ C1 b) := (p1.trans (p2.from fun b z => .inl z)).more fun b z => p1.own b (.inr z)
  refine ⟨F2, C1, _, _, _, S2.sub, oArgs, List.forall_mem_cons.mpr ⟨hu, fz_ne⟩, h2, fun r t0 hr F' H' S' C v' p s o0 ow d => ?_, fun x t0 hx F' H' S' cls dd p s o0 hk => ?_⟩
  · obtain ⟨S3, p3, d3⟩ := S2.afterS (p.less fun b z => .inr z) s d2 bC
    exact q r e2 hr F' H' A2 C v' S3 (p12.trans p3) ow d3
  · obtain ⟨S3, p3, d3⟩ := S2.afterS p s d2 bC
    exact ⟨F', A2, e2, x, S3, hk, hx⟩
theorem PIp.of_opr {op : Operator} {r : R2} (h : OpR X (inplaceOp op) r) : PIp X op r := h
def rIAddAll : R2 := fun x y H Q => (rI0 (fun i j => .int (i + j)) x y H Q) ∨ (∃ i j, x = .str i ∧ y = .str j ∧ i.length + j.length ≤ sizeLine ∧ Q (.str (i ++ j)) H)
theorem iop_addAll : OpR X (inplaceOp .Add) rIAddAll := (iop_add).or iop_add_str
def gIAdd : GD2 := fun x y R => match x, y with
  | .int i, .int j => R (.fz (.int (i + j)))
  | .str i, .str j => i.length + j.length ≤ sizeLine ∧ R (.fz (.str (i ++ j)))
  | _, _ => False
theorem op_gIAdd : OpF2 K rIAddAll gIAdd := fun F H x y dx dy R Q s hx hy hg q => by
  unfold gIAdd at hg
  split at hg
  · exact .inl ⟨_, _, (hx.rdD s).int, (hy.rdD s).int, (q _ hg).sc s fun _ _ => by unfold Rep; rfl⟩
  · exact .inr ⟨_, _, (hx.rdD s).str, (hy.rdD s).str, hg.1, (q _ hg.2).sc s fun _ _ => by unfold Rep; rfl⟩
  · exact hg.elim
theorem op_max2 : OpPS K (fun xs H Q => ∃ i j, xs = [.int i, .int j] ∧ Q (.int (if j > i then j else i)) H) (gI2 max) := op_gI2 fun i j => by
  show (if j > i then j else i) = max i j
  split <;> omega
theorem op_min2 : OpPS K (fun xs H Q => ∃ i j, xs = [.int i, .int j] ∧ Q (.int (if j < i then j else i)) H) (gI2 min) := op_gI2 fun i j => by
  show (if j < i then j else i) = min i j
  split <;> omega
/-- -n -/
def wNeg (wa : WP) : WP := fun env Q => wa env fun t => match t with
  | .fz (.int i) => Q (.fz (.int (-i)))
  | _ => False
theorem pv_neg (ha : PV X B a wa) : PV X B (.UnaryOp .USub a pos) (wNeg wa) := ⟨pe_imp (pe_un un_neg ha.pe) fun σ H Q ⟨F, A, env, R, S, hw, q⟩ => by
  refine ⟨F, A, env, _, S, hw, fun t h1 v vv => ?_⟩
  split at h1
  · unfold View Rep at vv; subst vv
    exact ⟨_, rfl, q _ h1 _ (by unfold View Rep; rfl)⟩
  · exact h1.elim⟩
theorem Room.hu {k : Nat} {A : Around} (r : Room k A) : A.units + 64 < cLine := r.units
end
end DL

/-! DL: defs of the head, the law's end. -/
namespace DL
open PySem PySem.Spec PyProof.Rows L2
/-- values put into another order -/
def pickL {α : Type} (l : List α) : List Nat → List α
  | [] => []
  | i :: is => (match l[i]? with
    | some x => [x]
    | none => []) ++ pickL l is
theorem Vals.get {vs : List V} {us : List Value} (h : Vals vs us) : ∀ i : Nat, (vs[i]? = none ∧ us[i]? = none) ∨ ∃ v u, vs[i]? = some v ∧ us[i]? = some u ∧ RelV v u := by
  induction h with
  | nil => exact fun i => .inl ⟨rfl, rfl⟩
  | cons r _ ih =>
    intro i
    cases i with
    | zero => exact .inr ⟨_, _, rfl, rfl, r⟩
    | succ i => simpa using ih i
theorem Vals.app {vs ws : List V} {us xs : List Value} (h : Vals vs us) (k : Vals ws xs) : Vals (vs ++ ws) (us ++ xs) := by
  induction h with
  | nil => exact k
  | cons r _ ih => exact .cons r ih
theorem Vals.pick {vs : List V} {us : List Value} (h : Vals vs us) : ∀ is : List Nat, Vals (pickL vs is) (pickL us is)
  | [] => .nil
  | i :: is => by
    unfold pickL
    rcases DL.Vals.get h i with ⟨e1, e2⟩ | ⟨v, u, e1, e2, r⟩
    · rw [e1, e2]; exact Vals.pick h is
    · rw [e1, e2]; exact .cons r (Vals.pick h is)
theorem RepL.pick {K : PySem.W.Frag} {F : Hp} {ds : List D} {vs : List V} (h : RepL K F ds vs) : ∀ is : List Nat, RepL K F (pickL ds is) (pickL vs is)
  | [] => RepL.nil
  | i :: is => by
    unfold pickL
    cases e : ds[i]? with
    | none =>
      have : vs[i]? = none := List.getElem?_eq_none (by rw [← h.len]; exact List.getElem?_eq_none_iff.mp e)
      rw [this]
      exact RepL.pick h is
    | some d =>
      obtain ⟨v, ev, r⟩ := h.get e
      rw [ev]
      exact RepL.cons r (RepL.pick h is)
section
variable {P : Program} {wd : World} {K : PySem.W.Frag} {mg : Str → Option Value} {base : Heap} {k : Nat} {nm : Str} {ps : List Str} {sp : FSpec} {params : Arguments} {body : List Stmt} {scope : Scope} {kws : List (Str × V)} {fd : FuncData}
theorem cf_of (F : FunD K nm nm params body scope [] kws (He.ga K nm) fd) (G : FnOk P wd K mg base (L2.CX P wd) k (He.ga K nm) fd ps (spD K sp)) (gm : mg nm = some (.ref (He.ga K nm)))
    (h : ∀ (kV doc pm : Value) (an : Option Addr) (cdv ct : Value) (us : List Value), us.length = ps.length → bindArgs (PySem.W.fnOf nm nm params body scope .none kV doc pm an cdv ct) ⟨us, []⟩ = pure (ps.zip us)) : CF P wd K mg base k nm ps sp := ⟨⟨fd, G, F.bindsN h⟩, gm, F.kp⟩
theorem cfd_of (F : FunD K nm nm params body scope [] kws (He.ga K nm) fd) (G : FnOk P wd K mg base (L2.CX P wd) k (He.ga K nm) fd ps (spD K sp)) (gm : mg nm = some (.ref (He.ga K nm))) (n : Nat) (dfl : List D) (hdf : ∀ F, RepL K F dfl (kws.map (·.2))) (hk : kws ≠ []) (hn : n + kws.length = ps.length)
    (h : ∀ (D : Addr) (doc pm : Value) (an : Option Addr) (cdv ct : Value) (us ks : List Value), us.length = n → ks.length = kws.length →
      KwChain D ((kws.map (·.1)).zip ks) (bindArgs (PySem.W.fnOf nm nm params body scope .none (.ref D) doc pm an cdv ct) ⟨us, []⟩) (ps.zip (us ++ ks))) : CFD P wd K mg base k nm ps sp dfl := by
  obtain ⟨ds, hv, hb⟩ := F.binds0 n hk hn h
  exact ⟨⟨fd, _, ds, G, hb, hv, hdf⟩, gm, F.kp⟩
theorem cfk_of (F : FunD K nm nm params body scope [] kws (He.ga K nm) fd) (G : FnOk P wd K mg base (L2.CX P wd) k (He.ga K nm) fd ps (spD K sp)) (gm : mg nm = some (.ref (He.ga K nm))) (n : Nat) (ks : List Str) (ms : List (Str × V)) (md : List D) (is : List Nat) (hmd : ∀ F, RepL K F md (ms.map (·.2))) (hk : kws ≠ []) (hms : ∀ q ∈ ms, q ∈ kws)
    (h : ∀ (D : Addr) (doc pm : Value) (an : Option Addr) (cdv ct : Value) (us mv ws : List Value), us.length = n → mv.length = ms.length → ws.length = ks.length →
      KwChain D ((ms.map (·.1)).zip mv) (bindArgs (PySem.W.fnOf nm nm params body scope .none (.ref D) doc pm an cdv ct) ⟨us, ks.zip ws⟩) (ps.zip (pickL (us ++ (mv ++ ws)) is))) : CFK P wd K mg base k nm ps sp n ks fun as bs => pickL (as ++ (md ++ bs)) is := by
  obtain ⟨mv, hb⟩ := F.kbinds0 n ks ms (fun us mv ws => pickL (us ++ (mv ++ ws)) is) hk hms (fun h1 h2 h3 => DL.Vals.pick (DL.Vals.app h1 (DL.Vals.app h2 h3)) is) h
  exact ⟨⟨fd, _, _, G, hb, fun F as bs vs zs _ _ r1 r2 => (r1.append ((hmd F).append r2)).pick is⟩, gm, F.kp⟩
theorem rep_ints {F : Hp} : ∀ ns : List Int, RepL K F (ns.map .int) (ns.map V.int)
  | [] => RepL.nil
  | n :: ns => by
    rw [List.map_cons, List.map_cons]
    exact RepL.cons (by unfold Rep; rfl) (rep_ints ns)
/-- the law's end -/
theorem walk_ofD {l : PySem.W.OpenLaw} {n k : Nat} {q : Program} {loose : List Str} {XP : (Str → Option Value) → Heap → Prop} {YP : World → Heap → Prop} {d : DefRec} {x : Str} {sp : FSpec}
    (hn : l.most = some n) (hn2 : n ≤ sizeLine) (hdf : d.params.defaults = []) (hr : Room k callerA)
    (F : ∀ (w : World) (mg : Str → Option Value) (fa : Addr) (h : Heap), YP w h → h.Ns mainGlobals mg → mg d.name = some (.ref fa) →
      ∃ (K : PySem.W.Frag) (fd : FuncData), K.In h ∧ (∀ (s : Shared) (u : Value), BindsTo s fd ⟨[u], []⟩ [(x, u)]) ∧
        ∀ base : Heap, K.In base → base.Ns mainGlobals mg → FnOk l.prog w K mg base (L2.CX l.prog w) k fa fd [x] (spD K sp))
    (hsp : ∀ (ns : List Int) (R : OT → OT → Prop) (RX : Exn → OT → Prop), ns.length ≤ n → (∀ t, R (.fz (.bl true)) t) → sp [.fz (.nd .scr (ns.map .int))] R RX) :
    PySem.W.WalkO q loose XP YP l.row.toRowW d [] (fun f vs => PySem.call f vs) := by
  refine Att.attach_call hn hdf fun w s₀ s₁ mg mb fa o pm cd doc a vs ns G Y ho hd hcd hmg hobj hints hlen hg => ?_
  obtain ⟨K, fd, KX, hb, hF⟩ := F w mg fa _ Y G.T.g hmg
  refine law_call KX G.T.g G.T.b G.T.builtins G.T.nolimit hg hobj hints (Nat.le_trans hlen hn2) hr hF hb (fun H hO hS => ?_) fun H e s' h => ?_
  · refine ⟨H, Nobody, [.fz (.nd .scr (ns.map .int))], fun r _ => r = .fz (.bl true), fun _ _ => False, Same.refl H, OwnL.fzs (ds := [.nd .scr (ns.map .int)]) (RepL.cons ?_ RepL.nil), fz_ne (ds := [.nd .scr (ns.map .int)]), hsp ns _ _ hlen fun _ => rfl, fun r t0 hr F' H' S' C v _ _ _ ow _ => ?_, fun _ _ z => z.elim⟩
    · unfold Rep
      exact ⟨a, ns.map V.int, rfl, hS, rep_ints ns⟩
    · subst hr
      unfold Own at ow
      have := ow.1
      unfold Rep at this
      exact this
  · obtain ⟨_, _, _, _, _, _, _, _, _, _, _, _, z⟩ := h
    exact z.elim
end
end DL

/-! DL: slices whose bounds are reckoned. -/
namespace DL
open PySem PySem.Spec PyProof.Rows L2
section
variable {X : Cx} {B : Bs} {e a b c : Expr} {pos p p2 p3 p4 apos cpos : Pos} {K : PySem.W.Frag} {wa wb : WP} {ea eb : WE} {oa ob : WO} {es : List Expr} {er ek : WAs} {wr : WVs} {st : Stmt} {rest : List Stmt} {w u : WS} {wt : WT} {la lb : WL} {ws : WOs}
abbrev WPtE := Env' → (Option Int → Env' → Prop) → Prop
def rdPtE (B : Bs) (w : WPtE) : TO := fun σ H Q => ∃ F A env R, SR B F H A env σ ∧ w env R ∧ ∀ o env', R o env' → ∀ F' H' A', SR B F' H' A' env' σ → Step F H A F' H' A' → Q o H'
structure DPtE (X : Cx) (B : Bs) (e : Option Expr) (w : WPtE) : Prop where
  po : PO X e (rdPtE B w)
def wNoPtE : WPtE := fun env Q => Q none env
def wPtE (w : WE) : WPtE := fun env Q => w env fun d e1 => match d with
  | .int i => Q (some i) e1
  | _ => False
theorem dpe_none : DPtE X B none wNoPtE := ⟨po_imp po_none fun ⟨F, A, env, R, S, hw, q⟩ => q none env hw F _ A S Step.refl⟩
theorem dpe_some (h : DE X B a ea) : DPtE X B (some a) (wPtE ea) := ⟨po_imp (po_some h.pe) fun ⟨F, A, env, R, S, hw, q⟩ => by
  refine ⟨F, A, env, _, S, hw, fun d e1 h1 F1 H1 A1 v S1 p1 r1 => ?_⟩
  split at h1
  · unfold Rep at r1; subst r1
    exact ⟨_, rfl, q _ e1 h1 F1 H1 A1 S1 p1⟩
  · exact h1.elim⟩
def wSlE (ea : WE) (wl wh : WPtE) : WO := fun env Q => ea env fun d e1 => wl e1 fun lo e2 => wh e2 fun hi e3 => match OT.cut (.fz d) lo hi with
  | some t => Q t e3
  | none => False
theorem oe_sliceE {lo hi : Option Expr} {wl wh : WPtE} (hK : B.K = X.K) (ha : DE X B a ea) (hl : DPtE X B lo wl) (hh : DPtE X B hi wh) : OE X B (.Subscript a (.Slice lo hi none p2) pos) (wSlE ea wl wh) := ⟨pe_imp (pe_slice sl_both ha.pe hl.po hh.po) fun σ H Q ⟨F, A, env, R, S, hw, q⟩ => by
  refine ⟨F, A, env, _, S, hw, fun d e1 h1 F1 H1 A1 x S1 p1 r1 => ?_⟩
  refine ⟨F1, A1, e1, _, S1, h1, fun l e2 h2 F2 H2 A2 S2 p2 => ?_⟩
  refine ⟨F2, A2, e2, _, S2, h2, fun h e3 h3 F3 H3 A3 S3 p3 => ?_⟩
  rw [← hK]
  have r3 := (r1.mono p2.fr).mono p3.fr
  have fin : ∀ t', R t' e3 → NewV B.K F3 H3 Q t' := fun t' ht => S3.newV fun F' H' A' C v S' p ow d => q t' e3 ht F' H' A' C v S' (((p1.trans p2).trans p3).trans p) ow d
  cases ec : OT.cut (.fz d) l h with
  | none => rw [ec] at h3; exact h3.elim
  | some t' =>
    rw [ec] at h3
    unfold OT.cut at ec
    split at ec
    · rename_i ds e0
      cases e0
      cases ec
      unfold Rep at r3
      obtain ⟨a, vs, rfl, n, r⟩ := r3
      exact .inl ⟨a, vs, rfl, SqL.of (S3.sub _ _ n), fun p hp => (fin _ h3).lst S3.sub (r.cut l h) hp⟩
    · rename_i ds e0
      cases e0
      cases ec
      have vx0 := r3
      unfold Rep at r3
      obtain ⟨a, vs, rfl, n, r⟩ := r3
      refine .inr ⟨a, vs, rfl, Same.tseq S3.sub n, fun w => ?_, fun _ p hp => (fin _ h3).tup S3.sub (r.cut l h) hp⟩
      have f0 := fin _ h3
      rw [cutD_all (by rw [r.len]; exact w)] at f0
      exact f0.fz S3.sub vx0
    · rename_i cs e0
      cases e0
    · cases ec⟩
end
end DL

/-! DL: walks over a list of one's own, which stays one's own. -/
namespace DL
open PySem PySem.Spec PyProof.Rows L2
section
variable {X : Cx} {B : Bs} {e a b c : Expr} {pos p p2 p3 p4 apos cpos : Pos} {K : PySem.W.Frag} {wa wb : WP} {ea eb : WE} {oa ob : WO} {es : List Expr} {er ek : WAs} {wr : WVs} {st : Stmt} {rest : List Stmt} {w u : WS} {wt : WT} {la lb : WL} {ws : WOs}
theorem own_walk {F H : Hp} {A : Addr → Prop} {env : Env'} {σ : L2.St} {j : Nat} {cs : List OT} {ds : List D} {a : Addr} (S : SR B F H A env σ) (e : env[j]? = some (.nd .lst cs)) (ev : σ[j]? = some (some (.ref a))) (hd : OT.dsOf cs = some ds) : ∃ vs, H a = some (.lst vs) ∧ RepL B.K F ds vs := by
  obtain ⟨v, ev2, hv⟩ := S.get e (by intro z; cases z)
  rw [ev] at ev2
  cases ev2
  unfold View at hv
  obtain ⟨a', vs, e1, n, r⟩ := hv
  cases e1
  exact ⟨vs, n, RepL.ofView r hd⟩
theorem own_ref {F H : Hp} {A : Addr → Prop} {env : Env'} {σ : L2.St} {j : Nat} {cs : List OT} (S : SR B F H A env σ) (e : env[j]? = some (.nd .lst cs)) : ∃ a, σ[j]? = some (some (.ref a)) := by
  obtain ⟨v, ev, hv⟩ := S.get e (by intro z; cases z)
  unfold View at hv
  obtain ⟨a, vs, e1, n, r⟩ := hv
  cases e1
  exact ⟨a, ev⟩
/-! ### for -/
def Bs.pinned (B : Bs) (j : Nat) (v : V) : Bs := { B with pin := (j, v) :: B.pin }
theorem SR.topin {F H : Hp} {A : Addr → Prop} {env : Env'} {σ : L2.St} {j : Nat} {v : V} (S : SR B F H A env σ) (e : σ[j]? = some (some v)) : SR (B.pinned j v) F H A env σ :=
  ⟨S.own, S.set, S.sub, S.base, fun p hp => by
    rcases List.mem_cons.mp (show p ∈ (j, v) :: B.pin from hp) with rfl | hp
    · exact e
    · exact S.pin p hp⟩
theorem SR.unpin {F H : Hp} {A : Addr → Prop} {env : Env'} {σ : L2.St} {j : Nat} {v : V} (S : SR (B.pinned j v) F H A env σ) : SR B F H A env σ ∧ σ[j]? = some (some v) :=
  ⟨⟨S.own, S.set, S.sub, S.base, fun p hp => S.pin p (List.mem_cons_of_mem _ hp)⟩, S.pin (j, v) List.mem_cons_self⟩
/-- what is known of B' within such a loop -/
structure PinB (B B' : Bs) (j : Nat) : Prop where
  K : B'.K = B.K
  op : ∀ i, i ≠ j → B.open i → B'.open i
  ops : ∀ is : List Nat, j ∉ is → B.opens is → B'.opens is
  tk : ∀ {X : Cx} {xq : XQ}, Takes X (wxD B xq) → Takes X (wxD B' xq)
theorem PinB.of (B : Bs) (j : Nat) (v : V) : PinB B (B.pinned j v) j where
  K := rfl
  op := fun i hi ho p hp => by
    rcases List.mem_cons.mp (show p ∈ (j, v) :: B.pin from hp) with rfl | hp
    · exact fun z => hi z.symm
    · exact ho p hp
  ops := fun is hi ho p hp => by
    rcases List.mem_cons.mp (show p ∈ (j, v) :: B.pin from hp) with rfl | hp
    · exact hi
    · exact ho p hp
  tk := fun tk => Takes.imp tk fun cls d σ H ⟨F, A, env, x, S, hk, hx⟩ => ⟨F, A, env, x, S.unpin.1, hk, hx⟩
theorem PinB.hp {B B' : Bs} {j : Nat} (pb : PinB B B' j) {f : Nat → Bool} (h : ∀ i, f i = false → B.open i) : ∀ i, (f i || i == j) = false → B'.open i := fun i e => by
  rw [Bool.or_eq_false_iff] at e
  exact pb.op i (fun z => by rw [z] at e; simp at e) (h i e.1)
theorem PinB.hps {B B' : Bs} {j : Nat} (pb : PinB B B' j) {f : List Nat → Bool} (h : ∀ is, f is = false → B.opens is) : ∀ is : List Nat, (f is || is.contains j) = false → B'.opens is := fun is e => by
  rw [Bool.or_eq_false_iff] at e
  exact pb.ops is (fun z => by
    have := List.contains_iff_mem.mpr z
    rw [this] at e; cases e.2) (h is e.1)
def forO (j : Nat) (cs : List OT) (g : WG) (wb : WS) (R : WEnds) : List D → Env' → Prop
  | [], env => env[j]? = some (.nd .lst cs) ∧ R.nx env
  | d :: ds, env => env[j]? = some (.nd .lst cs) ∧ g d env fun e1 => wb { R with nx := forO j cs g wb R ds, ct := forO j cs g wb R ds, bk := R.nx } e1
/-- for .. in a name of a list of one's own -/
def wForO (j : Nat) (g : WG) (wb : WS) : WS := fun R env => match env[j]? with
  | some (.nd .lst cs) => (match OT.dsOf cs with
    | some ds => forO j cs g wb R ds env
    | none => False)
  | _ => False
theorem ds_forO {tg : Expr} {vs : List Nat} {body : List Stmt} {g : WG} (j : Nat) {y : Str} (hp : PassesOwn (model X.prog X.w) X.A X.env X.xe) (hc : X.calm = true) (hK : B.K = X.K)
    (hg : ∀ B' : Bs, PinB B B' j → DGt X B' tg vs g) (hb : ∀ B' : Bs, PinB B B' j → DSs X B' body w) (hN : X.N[j]? = some y := by rfl) (hv : Vis X.env.scope y := by first | exact Or.inl rfl | exact Or.inr (Or.inl rfl) | exact Or.inr (Or.inr rfl)) (hd : (y == ("__debug__" : Str)) = false := by decide)
    (hcd : (y == ("__classdict__" : Str)) = false := by decide) (hs : ∀ x, foldedSetIterable (.Name y p2) X.env x = pure x := by intro _; rfl) :
    DS X B (.For tg (.Name y p2) body [] pos) (wForO j g w) := by
  have pg : PG X tg (fun v σ H Q => ∃ a, rdG (B.pinned j (.ref a)) vs g v σ H Q) := ⟨fun pins s σ H v u Q I r ⟨a, h⟩ => (hg _ (PinB.of B j (.ref a))).pg.run pins s σ H v u Q I r h⟩
  have pb : PSs X body (fun D σ H => ∃ a, rdS (B.pinned j (.ref a)) w D σ H) := ⟨fun pins s σ H D I ⟨a, h⟩ => (hb _ (PinB.of B j (.ref a))).pss.run pins s σ H D I h⟩
  refine ⟨ps_imp (ps_for hp hc (pi_both (pe_var hN hv hd hcd)) pg pb hs) fun D σ H ⟨F, A, env, R, S, hw, q1, q2, q3, q4⟩ => ?_⟩
  unfold wForO at hw
  split at hw
  · rename_i cs ej
    split at hw
    · rename_i ds ed0
      obtain ⟨a, ev⟩ := own_ref S ej
      obtain ⟨vs0, n0, r0⟩ := own_walk S ej ev ed0
      refine ⟨.ref a, ev, a, rfl, .inl ⟨⟨vs0, SqL.of n0⟩, ?_⟩⟩
      have S0 := S.topin ev
      refine ⟨fun i m σ H1 => m = ds.length - i ∧ i ≤ ds.length ∧ ∃ F2 A2 e2, Step F H A F2 H1 A2 ∧ SR (B.pinned j (.ref a)) F2 H1 A2 e2 σ ∧ forO j cs g w R (ds.drop i) e2, ⟨ds.length, by simp, Nat.zero_le _, F, A, env, Step.refl, S0, hw⟩, ?_⟩
      rintro i m σ2 H2 ⟨rfl, hi, F2, A2, e2, p2, S2, h2⟩
      by_cases hlt : i < ds.length
      · have ed : ds[i]? = some ds[i] := List.getElem?_eq_getElem hlt
        rw [List.drop_eq_getElem_cons hlt] at h2
        obtain ⟨ej2, h2⟩ := h2
        obtain ⟨vs2, n2, r2⟩ := own_walk S2 ej2 S2.unpin.2 ed0
        obtain ⟨v, ev2, rv⟩ := r2.get ed
        rw [← hK]
        refine .inr ⟨⟨vs2, v, SqL.of n2, ev2⟩, fun σ' H' => ∃ F3 A3 e3, Step F H A F3 H' A3 ∧ SR (B.pinned j (.ref a)) F3 H' A3 e3 σ' ∧ forO j cs g w R (ds.drop (i + 1)) e3, fun σ' H' ⟨F3, A3, e3, p3, S3, h3⟩ => ⟨ds.length - (i + 1), by omega, rfl, hlt, F3, A3, e3, p3, S3, h3⟩, fun x H' y => ?_⟩
        obtain ⟨e5, y⟩ := y
        subst e5
        have := y vs2 (SqL.of n2)
        rw [ev2] at this; cases this
        refine ⟨a, F2, A2, e2, _, _, S2, rv, h2, fun e4 h4 A4 σ4 S4 p4 _ => ?_⟩
        have p14 := p2.trans p4
        refine ⟨a, F2, A4, e4, _, S4, h4, fun env' h F' H' A' σ' S' p => ⟨F', A', env', p14.trans p, S', h⟩, fun env' h F' H' A' σ' S' p => q1 env' h F' H' A' σ' S'.unpin.1 (p14.trans p),
          fun env' h F' H' A' σ' S' p => ⟨F', A', env', p14.trans p, S', h⟩, fun t env' h F' H' A' C v σ' S' p => q4 t env' h F' H' A' C v σ' S'.unpin.1 (p14.trans p)⟩
      · have ei : i = ds.length := by omega
        subst ei
        rw [List.drop_length] at h2
        obtain ⟨ej2, h2⟩ := h2
        obtain ⟨vs2, n2, r2⟩ := own_walk S2 ej2 S2.unpin.2 ed0
        rw [← hK]
        exact .inl ⟨⟨vs2, SqL.of n2, by rw [← r2.len]; exact Nat.le_refl _⟩, q1 e2 h2 F2 H2 A2 σ2 S2.unpin.1 p2⟩
    · exact hw.elim
  · exact hw.elim
/-! ### comprehensions -/
def lcO (j : Nat) (cs : List OT) (vs : List Nat) (g : WG) (wt : WT) (we : WE) : List D → List D → Env' → (OT → Env' → Prop) → Prop
  | [], acc, env, Q => env[j]? = some (.nd .lst cs) ∧ Q (.nd .lst (acc.map .fz)) env
  | d :: ds, acc, env, Q => env[j]? = some (.nd .lst cs) ∧ g d env fun e1 => wt e1 fun c e2 => if c = true then we e2 fun z e3 => acc.length < sizeLine ∧ lcO j cs vs g wt we ds (acc ++ [z]) (unAt e3 vs) Q else lcO j cs vs g wt we ds acc (unAt e2 vs) Q
/-- a comprehension over a name of a list of one's own -/
def wLcO (vs : List Nat) (j : Nat) (g : WG) (wt : WT) (we : WE) : WO := fun env Q => match env[j]? with
  | some (.nd .lst cs) => (match OT.dsOf cs with
    | some ds => lcO j cs vs g wt we ds [] (unAt env vs) fun t e2 => Q t (reAt env vs e2)
    | none => False)
  | _ => False
theorem im_lcO {g : WG} {we : WE} {vs : List Nat} {j : Nat} (hop : B.opens vs) {σ : L2.St} {H : Hp} {Q : VK} (h : rdO B (wLcO vs j g wt we) σ H Q) : tLc (iBoth B.K (tVar j)) (rdG B vs g) (rdT B wt) (rdE B we) vs σ H Q := by
  obtain ⟨F, A, env, R, S, hw, q⟩ := h
  unfold wLcO at hw
  split at hw
  case h_2 => exact hw.elim
  rename_i cs ej
  split at hw
  case h_2 => exact hw.elim
  rename_i ds ed0
  obtain ⟨a, ev⟩ := own_ref S ej
  obtain ⟨vs0, n0, r0⟩ := own_walk S ej ev ed0
  refine ⟨.ref a, ev, a, rfl, .inl ⟨⟨vs0, SqL.of n0⟩, fun L hL => ?_⟩⟩
  have S := S
  have p1 : Step F H A F H A := Step.refl
  have h1 := hw
  obtain ⟨S2, p2⟩ := S.grow (Same.upd (o := .lst []) hL)
  obtain ⟨A2, S3, p3⟩ := S2.unAt vs
  have fL : F L = none := S.sub.free hL
  have nA2 : ¬ A2 L := fun z => by
    rcases p3.own L z with y | y
    · obtain ⟨_, o, eo⟩ := S.free L y
      rw [hL] at eo; cases eo
    · rw [upd_same] at y; cases y
  refine ⟨fun i m Hz => m = ds.length - i ∧ i ≤ ds.length ∧ ∃ F2 A2 e2 acc vs', Step F H A F2 Hz (fun b => A2 b ∨ b = L) ∧ SR B F2 Hz A2 (unAt e2 vs) σ ∧ Hz L = some (.lst vs') ∧ RepL B.K F2 acc vs' ∧ F2 L = none ∧ ¬ A2 L ∧ lcO j cs vs g wt we (ds.drop i) acc (unAt e2 vs) (fun t e2 => R t (reAt env vs e2)),
    ⟨ds.length, by simp, Nat.zero_le _, F, A2, env, [], [], (p2.trans p3).more (fun b z => .inr (by rw [z]; exact hL)), S3, upd_same, RepL.nil, fL, nA2, h1⟩, ?_⟩
  rintro i m H2 ⟨rfl, hi, F2, A2', e2, acc, vs', p4, S4, eL, rL, fL2, nL, h2⟩
  by_cases hlt : i < ds.length
  · have ed : ds[i]? = some ds[i] := List.getElem?_eq_getElem hlt
    rw [List.drop_eq_getElem_cons hlt] at h2
    obtain ⟨ej2, h2⟩ := h2
    obtain ⟨vs2, n2, r2⟩ := own_walk S4 ej2 ev ed0
    obtain ⟨v0, ev2, rv⟩ := r2.get ed
    refine .inr ⟨⟨vs2, v0, SqL.of n2, ev2⟩, fun H' => ∃ F2 A2 e2 acc vs', Step F H A F2 H' (fun b => A2 b ∨ b = L) ∧ SR B F2 H' A2 (unAt e2 vs) σ ∧ H' L = some (.lst vs') ∧ RepL B.K F2 acc vs' ∧ F2 L = none ∧ ¬ A2 L ∧ lcO j cs vs g wt we (ds.drop (i + 1)) acc (unAt e2 vs) (fun t e2 => R t (reAt env vs e2)),
      fun H' z => ⟨ds.length - (i + 1), by omega, rfl, hlt, z⟩, fun x H' y => ?_⟩
    obtain ⟨e5, y⟩ := y
    subst e5
    have y2 := y vs2 (SqL.of n2)
    rw [ev2] at y2; cases y2
    obtain ⟨F3, S5, p5, r5⟩ : ∃ F3, SR B F3 H' A2' (unAt e2 vs) σ ∧ Step F2 H' A2' F3 H' A2' ∧ Rep B.K F3 ds[i] v0 := ⟨F2, S4, Step.refl, rv⟩
    have S5w := S5.wiped hop
    -- the new list is untouched by steps from the owned
    have keepL : ∀ {Fa Ha Fb Hb : Hp} {Aa Ab : Addr → Prop} {us : List V}, Step Fa Ha Aa Fb Hb Ab → Ha L = some (.lst us) → Fa L = none → ¬ Aa L → Hb L = some (.lst us) ∧ Fb L = none ∧ ¬ Ab L := fun {Fa Ha Fb Hb Aa Ab us} st hl fl nl => by
      have bs := st.beside (B := fun b => b = L) (fun b hb => by subst hb; exact ⟨fl, _, hl⟩) (fun b hb => by subst hb; exact nl) L rfl
      exact ⟨bs.1.2.trans hl, bs.1.1, bs.2⟩
    obtain ⟨eL5, fL5, nL5⟩ := keepL p5 eL fL2 nL
    have ext : ∀ {Fb Hb : Hp} {Ab : Addr → Prop}, Step F2 H' A2' Fb Hb Ab → Step F H A Fb Hb (fun b => Ab b ∨ b = L) := fun {Fb Hb Ab} st => (p4.trans (st.from fun b z => .inl z)).more fun b z => .inr (by rw [z]; exact hL)
    refine ⟨F3, A2', _, _, _, S5w, r5, h2, fun e6 h6 A6 σ6 S6 p6 on6 => ?_⟩
    have wz := on6.wipe
    refine ⟨wz.trans (wipe_wipe σ vs), ?_⟩
    refine ⟨F3, A6, e6, _, S6, h6, fun c e7 h7 F7 H7 A7 S7 p7 => ?_⟩
    obtain ⟨eL7, fL7, nL7⟩ := keepL (p6.trans p7) eL5 fL5 nL5
    have wz' : wipe σ6 vs = wipe σ vs := wz.trans (wipe_wipe σ vs)
    cases c with
    | true =>
      rw [if_pos rfl] at h7
      show if true = true then _ else _
      rw [if_pos rfl]
      refine ⟨F7, A7, e7, _, S7, h7, fun z e8 h8 F8 H8 A8 v S8 p8 r8 => ?_⟩
      obtain ⟨eL8, fL8, nL8⟩ := keepL p8 eL7 fL7 nL7
      obtain ⟨hz, h8⟩ := h8
      have rL8 := rL.mono ((p5.trans (p6.trans (p7.trans p8))).fr)
      refine ⟨vs', eL8, by rw [← rL.len]; exact hz, ?_⟩
      obtain ⟨A9, S9, p9⟩ := S8.unAt vs
      have S9' := S9.unwiped wz' hop
      have nL9 : ¬ A9 L := fun q => by
        rcases p9.own L q with q | q
        · exact nL8 q
        · rw [eL8] at q; cases q
      -- the list at L is written
      have st : Step F8 H8 (fun b => A9 b ∨ b = L) F8 (L2.upd H8 L (.lst (vs' ++ [v]))) (fun b => A9 b ∨ b = L) := ⟨Same.refl _, fun b o eb nb => by rw [upd_ne (fun q => nb (.inr q))]; exact eb, fun b q => .inl q, fun b q => .inl q⟩
      have big : Step F H A F8 (L2.upd H8 L (.lst (vs' ++ [v]))) (fun b => A9 b ∨ b = L) := by
        have s1 : Step F H A F8 H8 (fun b => A9 b ∨ b = L) := ext (p5.trans (p6.trans (p7.trans (p8.trans p9))))
        exact s1.trans st
      have S10 : SR B F8 (L2.upd H8 L (.lst (vs' ++ [v]))) A9 (unAt e8 vs) σ := by
        refine ⟨S9'.own.mono (Same.refl _) fun b hb => ⟨(S9'.free b hb).1, upd_ne (by rintro rfl; exact nL9 hb)⟩, S9'.set, fun b o eb => ?_, ?_, S9'.pin⟩
        · rw [upd_ne (by rintro rfl; rw [fL8] at eb; cases eb)]; exact S9'.sub b o eb
        · have bb := S.base.trans big
          exact ⟨bb.fr, bb.keep, bb.new, fun b q => bb.own b (.inl q)⟩
      exact ⟨F8, A9, e8, acc ++ [z], vs' ++ [v], big, S10, upd_same, rL8.append (RepL.cons r8 RepL.nil), fL8, nL9, h8⟩
    | false =>
      rw [if_neg Bool.false_ne_true] at h7
      show if false = true then _ else _
      rw [if_neg Bool.false_ne_true]
      obtain ⟨A9, S9, p9⟩ := S7.unAt vs
      have S9' := S9.unwiped wz' hop
      have nL9 : ¬ A9 L := fun q => by
        rcases p9.own L q with q | q
        · exact nL7 q
        · rw [eL7] at q; cases q
      exact ⟨F7, A9, e7, acc, vs', ext (p5.trans (p6.trans (p7.trans p9))), S9', eL7, rL.mono ((p5.trans (p6.trans p7)).fr), fL7, nL9, h7⟩
  · have ei : i = ds.length := by omega
    subst ei
    rw [List.drop_length] at h2
    obtain ⟨ej2, h2⟩ := h2
    obtain ⟨vs2, n2, r2⟩ := own_walk S4 ej2 ev ed0
    refine .inl ⟨⟨vs2, SqL.of n2, by rw [← r2.len]; exact Nat.le_refl _⟩, ?_⟩
    have ow : Own B.K F2 H2 (.nd .lst (acc.map .fz)) (.ref L) (fun b => b = L) := by
      unfold Own
      exact ⟨L, vs', Nobody, rfl, eL, fL2, OwnL.fzs rL, fun z => z, fun b => ⟨.inl, fun z => z.elim id fun z => z.elim⟩⟩
    obtain ⟨A5, S5, p5⟩ := S4.reAt S p4.fr (by rw [S4.len, S.len]) vs hop
    have n5 : ¬ A5 L := fun z => by
      rcases p5.own L z with z | z
      · exact nL z
      · rw [eL] at z; cases z
    have p6 : Step F H A F2 H2 (fun b => A5 b ∨ b = L) := ⟨p4.fr, p4.keep, p4.new, fun b z => by
      rcases z with z | z
      · rcases p5.own b z with z | z
        · exact p4.own b (.inl z)
        · cases eh : H b with
          | none => exact .inr rfl
          | some o =>
            by_cases ha : A b
            · exact .inl ha
            · rw [p4.keep b o eh ha] at z; cases z
      · exact p4.own b (.inr z)⟩
    exact q _ _ h2 F2 H2 A5 _ _ S5 (p1.trans p6) ow fun b z y => by rw [z] at y; exact n5 y
theorem oe_lcO {elt tg : Expr} {ifs : List Expr} {scope : Scope} {own : List (Str × Nat)} {g : WG} {we : WE} (j : Nat) {y : Str} (hc : X.calm = true) (hNd : X.N.Nodup) (hop : B.opens (own.map (·.2))) (ok : BlkOk X.N X.env.scope scope own) (hK : B.K = X.K)
    (hg : ∀ (s : Shared) (H : Hp) (C : Addr) (cl : List (Str × Addr)) (fp : List Addr), DGt (X.blk s H scope (compEnvC scope cl C X.env) fp) B tg (own.map (·.2)) g) (ht : ∀ (s : Shared) (H : Hp) (C : Addr) (cl : List (Str × Addr)) (fp : List Addr), DTs (X.blk s H scope (compEnvC scope cl C X.env) fp) B ifs wt)
    (he : ∀ (s : Shared) (H : Hp) (C : Addr) (cl : List (Str × Addr)) (fp : List Addr), DE (X.blk s H scope (compEnvC scope cl C X.env) fp) B elt we) (hN : X.N[j]? = some y := by rfl) (hv : Vis X.env.scope y := by first | exact Or.inl rfl | exact Or.inr (Or.inl rfl) | exact Or.inr (Or.inr rfl)) (hd : (y == ("__debug__" : Str)) = false := by decide)
    (hcd : (y == ("__classdict__" : Str)) = false := by decide) (hs : ∀ x, foldedSetIterable (.Name y p2) X.env x = pure x := by intro _; rfl) :
    OE X B (.ListComp elt [⟨tg, .Name y p2, ifs, 0⟩] scope pos) (wLcO (own.map (·.2)) j g wt we) :=
  ⟨pe_imp (pe_lc hc hNd (pi_both (pe_var hN hv hd hcd)) ok (fun s H C cl fp => (hg s H C cl fp).pg) (fun s H C cl fp => (ht s H C cl fp).pts) (fun s H C cl fp => (he s H C cl fp).pe) hs) fun _ _ _ h => by rw [← hK]; exact im_lcO hop h⟩
theorem ds_setLcO {elt tg : Expr} {ifs : List Expr} {scope : Scope} {own : List (Str × Nat)} {g : WG} {we : WE} {z : Str} {py : Pos} (i j : Nat) {y : Str} (ho : B.open i) (hc : X.calm = true) (hNd : X.N.Nodup) (hop : B.opens (own.map (·.2))) (ok : BlkOk X.N X.env.scope scope own) (hK : B.K = X.K)
    (hg : ∀ (s : Shared) (H : Hp) (C : Addr) (cl : List (Str × Addr)) (fp : List Addr), DGt (X.blk s H scope (compEnvC scope cl C X.env) fp) B tg (own.map (·.2)) g) (ht : ∀ (s : Shared) (H : Hp) (C : Addr) (cl : List (Str × Addr)) (fp : List Addr), DTs (X.blk s H scope (compEnvC scope cl C X.env) fp) B ifs wt)
    (he : ∀ (s : Shared) (H : Hp) (C : Addr) (cl : List (Str × Addr)) (fp : List Addr), DE (X.blk s H scope (compEnvC scope cl C X.env) fp) B elt we)
    (hsw : swapsWith (.ListComp elt [⟨tg, .Name y p2, ifs, 0⟩] scope pos) (some (.Name z py)) p.line X.env = pure true) (hz : X.N[i]? = some z := by rfl) (hzl : X.env.scope.names.lookup z = some .local := by rfl) (hN : X.N[j]? = some y := by rfl) (hv : Vis X.env.scope y := by first | exact Or.inl rfl | exact Or.inr (Or.inl rfl) | exact Or.inr (Or.inr rfl)) (hd : (y == ("__debug__" : Str)) = false := by decide)
    (hcd : (y == ("__classdict__" : Str)) = false := by decide) (hs : ∀ x, foldedSetIterable (.Name y p2) X.env x = pure x := by intro _; rfl) :
    DS X B (.Assign [.Name z py] (.ListComp elt [⟨tg, .Name y p2, ifs, 0⟩] scope pos) p) (wSet i (wLcO (own.map (·.2)) j g wt we)) :=
  ⟨ps_imp (ps_setLc hc hNd hz hzl hsw (pi_both (pe_var hN hv hd hcd)) ok (fun s H C cl fp => (hg s H C cl fp).pg) (fun s H C cl fp => (ht s H C cl fp).pts) (fun s H C cl fp => (he s H C cl fp).pe) hs) fun D σ H ⟨F, A, env, R, S, hw, q, _⟩ => by
  rw [← hK]
  refine im_lcO hop ⟨F, A, env, _, S, hw, fun t e1 h1 F1 H1 A1 C v S1 p1 ow d => ?_⟩
  obtain ⟨A2, S2, p2⟩ := S1.put h1.1 ow d (step_base S p1) ho
  exact q _ h1.2 F1 H1 A2 _ S2 (p1.trans p2)⟩
end
end DL

/-! DL: more methods of lists of one's own. -/
namespace DL
open PySem PySem.Spec PyProof.Rows L2
theorem OwnL.split {K : PySem.W.Frag} {F H : Hp} : ∀ {ts us : List OT} {ws : List V} {A : Addr → Prop}, OwnL K F H (ts ++ us) ws A → ∃ v1 v2 A1 A2, ws = v1 ++ v2 ∧ v1.length = ts.length ∧ OwnL K F H ts v1 A1 ∧ OwnL K F H us v2 A2 ∧ (∀ b, A1 b → A2 b → False) ∧ ∀ b, A b ↔ (A1 b ∨ A2 b)
  | [], us, ws, A, h => ⟨[], ws, Nobody, A, rfl, rfl, OwnL.nil, h, fun _ z => z.elim, fun b => ⟨.inr, fun z => z.elim (fun z => z.elim) id⟩⟩
  | t :: ts, us, ws, A, h => by
    obtain ⟨v, r, B1, B2, rfl, h1, h2, d1, e1⟩ := OwnL.cons_inv (ts := ts ++ us) h
    obtain ⟨v1, v2, A1, A2, rfl, l, h3, h4, d2, e2⟩ := OwnL.split h2
    refine ⟨v :: v1, v2, fun b => B1 b ∨ A1 b, A2, rfl, by simp [l], OwnL.cons h1 h3 fun b z y => d1 b z ((e2 b).mpr (.inl y)), h4, fun b z y => ?_, fun b => ?_⟩
    · rcases z with z | z
      · exact d1 b z ((e2 b).mpr (.inr y))
      · exact d2 b z y
    · rw [e1 b, e2 b, or_assoc]
theorem OwnL.rev {K : PySem.W.Frag} {F H : Hp} : ∀ {ts : List OT} {vs : List V} {A : Addr → Prop}, OwnL K F H ts vs A → OwnL K F H ts.reverse vs.reverse A
  | [], vs, A, h => by
    have l := h.len
    obtain rfl : vs = [] := List.length_eq_zero_iff.mp l.symm
    exact h
  | t :: ts, vs, A, h => by
    obtain ⟨v, r, B1, B2, rfl, h1, h2, d1, e1⟩ := h.cons_inv
    rw [List.reverse_cons, List.reverse_cons]
    have one : OwnL K F H [t] [v] B1 := (OwnL.cons h1 OwnL.nil fun _ _ z => z.elim).iff fun b => ⟨.inl, fun z => z.elim id fun z => z.elim⟩
    exact (OwnL.append (OwnL.rev h2) one fun b z y => d1 b y z).iff fun b => by rw [e1 b]; exact Or.comm
section
variable {X : Cx} {B : Bs} {e a b c : Expr} {pos p p2 p3 p4 apos cpos : Pos} {K : PySem.W.Frag} {wa wb : WP} {ea eb : WE} {oa ob : WO} {es : List Expr} {er ek : WAs} {wr : WVs} {st : Stmt} {rest : List Stmt} {w u : WS} {wt : WT} {la lb : WL} {ws : WOs}
def gReverse (cs ts : List OT) (R : OT → List OT → Prop) : Prop := ts = [] ∧ R (.fz .non) cs.reverse
theorem op_reverse : OpM K rReverse gReverse := ⟨fun F H A1 C a vs us cs ts R Q s ha ow ot d ne hg q => by
  obtain ⟨rfl, hg⟩ := hg
  have l := ot.len
  obtain rfl : us = [] := List.length_eq_zero_iff.mp l.symm
  refine ⟨a, vs, rfl, rfl, ha, ?_⟩
  exact q _ _ hg _ _ A1 Nobody (OwnL.at ow.rev fun b z => ne b (.inl z)) (Own.fz (by unfold Rep; rfl)) (fun _ _ z => z.elim) fun b z => z.elim .inl fun z => z.elim⟩
def gClear (cs ts : List OT) (R : OT → List OT → Prop) : Prop := ts = [] ∧ R (.fz .non) []
theorem op_clear : OpM K rClear gClear := ⟨fun F H A1 C a vs us cs ts R Q s ha ow ot d ne hg q => by
  obtain ⟨rfl, hg⟩ := hg
  have l := ot.len
  obtain rfl : us = [] := List.length_eq_zero_iff.mp l.symm
  refine ⟨a, vs, rfl, rfl, ha, ?_⟩
  exact q _ _ hg _ _ Nobody Nobody OwnL.nil (Own.fz (by unfold Rep; rfl)) (fun _ _ z => z.elim) fun b z => z.elim (fun z => z.elim) fun z => z.elim⟩
def gPop (cs ts : List OT) (R : OT → List OT → Prop) : Prop := ts = [] ∧ ∃ cs' t, cs = cs' ++ [t] ∧ t ≠ .un ∧ R t cs'
theorem op_pop : OpM K rPop gPop := ⟨fun F H A1 C a vs us cs ts R Q s ha ow ot d ne hg q => by
  obtain ⟨rfl, cs', t, rfl, nu, hg⟩ := hg
  have l := ot.len
  obtain rfl : us = [] := List.length_eq_zero_iff.mp l.symm
  obtain ⟨v1, v2, B1, B2, rfl, l1, o1, o2, d1, e1⟩ := OwnL.split ow
  obtain ⟨v, r, B3, B4, rfl, o3, o4, d3, e3⟩ := o2.cons_inv
  have l4 := o4.len
  obtain rfl : r = [] := List.length_eq_zero_iff.mp l4.symm
  have n4 : ∀ b, ¬ B4 b := fun b z => by unfold OwnL at o4; exact o4.2 b z
  refine ⟨a, v1 ++ [v], v, rfl, rfl, ha, by simp, ?_⟩
  rw [List.dropLast_concat]
  refine q _ _ hg _ _ B1 B3 (OwnL.at o1 fun b z => ne b (.inl ((e1 b).mpr (.inl z)))) (Own.at o3 fun b z => ne b (.inl ((e1 b).mpr (.inr ((e3 b).mpr (.inl z)))))) (fun b z y => d1 b z ((e3 b).mpr (.inl y))) fun b z => .inl ?_
  rcases z with z | z
  · exact (e1 b).mpr (.inl z)
  · exact (e1 b).mpr (.inr ((e3 b).mpr (.inl z)))⟩
/-- xs.insert(i, t), i from 0 on -/
def gInsertA (cs ts : List OT) (R : OT → List OT → Prop) : Prop := match ts with
  | [.fz (.int i), t] => (cs.length < sizeLine ∧ 0 ≤ i ∧ i < 2 ^ 63) ∧ R (.fz .non) (cs.take i.toNat ++ [t] ++ cs.drop i.toNat)
  | _ => False
theorem op_insertA : OpM K (fun x vs H Q => ∃ (l : Addr) (xs : List V) (i : Int) (y : V), x = .ref l ∧ vs = [.int i, y] ∧ H l = some (.lst xs) ∧ xs.length < sizeLine ∧ 0 ≤ i ∧ i < 2 ^ 63 ∧
    Q .non (upd H l (.lst (xs.take i.toNat ++ [y] ++ xs.drop i.toNat)))) gInsertA := ⟨fun F H A1 C a vs us cs ts R Q s ha ow ot d ne hg q => by
  unfold gInsertA at hg
  split at hg
  · rename_i i t
    obtain ⟨v0, r0, B1, B2, rfl, o1, o2, d2, e2⟩ := ot.cons_inv
    unfold Own at o1
    have e0 := o1.1
    unfold Rep at e0; subst e0
    obtain ⟨v, r, B3, B4, rfl, o3, o4, d3, e3⟩ := o2.cons_inv
    have l4 := o4.len
    obtain rfl : r = [] := List.length_eq_zero_iff.mp l4.symm
    have b3C : ∀ b, B3 b → C b := fun b z => (e2 b).mpr (.inr ((e3 b).mpr (.inl z)))
    obtain ⟨⟨g1, g2, g3⟩, hg⟩ := hg
    refine ⟨a, vs, i, v, rfl, rfl, ha, by rw [← ow.len]; exact g1, g2, g3, ?_⟩
    have ow2 := ow
    rw [← List.take_append_drop i.toNat cs] at ow2
    obtain ⟨v1, v2, C1, C2, ev, l1, p1, p2, dp, ep⟩ := OwnL.split ow2
    have lv : (cs.take i.toNat).length = (vs.take i.toNat).length := by rw [List.length_take, List.length_take, ow.len]
    have t1 : vs.take i.toNat = v1 := by
      have h := congrArg (List.take v1.length) ev
      rw [List.take_left, l1, lv, List.length_take] at h
      rw [← h]
      by_cases q : i.toNat ≤ vs.length
      · rw [Nat.min_eq_left q]
      · rw [Nat.min_eq_right (by omega), List.take_of_length_le (by omega), List.take_of_length_le (Nat.le_refl _)]
    have t2 : vs.drop i.toNat = v2 := by
      have h := List.take_append_drop i.toNat vs
      rw [t1] at h
      exact List.append_cancel_left (h.trans ev)
    have one : OwnL K F H [t] [v] B3 := (OwnL.cons o3 OwnL.nil fun _ _ z => z.elim).iff fun b => ⟨.inl, fun z => z.elim id fun z => z.elim⟩
    have dA : ∀ b, C1 b → B3 b → False := fun b z y => d b ((ep b).mpr (.inl z)) (b3C b y)
    have dB : ∀ b, (C1 b ∨ B3 b) → C2 b → False := fun b z y => z.elim (fun z => dp b z y) fun z => d b ((ep b).mpr (.inr y)) (b3C b z)
    have all := OwnL.append (OwnL.append p1 one dA) p2 dB
    rw [t1, t2]
    refine q _ _ hg _ _ (fun b => (C1 b ∨ B3 b) ∨ C2 b) Nobody (OwnL.at all fun b z => ne b ?_) (Own.fz (by unfold Rep; rfl)) (fun _ _ z => z.elim) fun b z => ?_
    · rcases z with (z | z) | z
      · exact .inl ((ep b).mpr (.inl z))
      · exact .inr (b3C b z)
      · exact .inl ((ep b).mpr (.inr z))
    · rcases z with ((z | z) | z) | z
      · exact .inl ((ep b).mpr (.inl z))
      · exact .inr (b3C b z)
      · exact .inl ((ep b).mpr (.inr z))
      · exact z.elim
  · exact hg.elim⟩
section
variable {x : Str}
theorem oe_reverse (hK : B.K = X.K) (i : Nat) (hN : X.N[i]? = some x := by rfl) (hv : Vis X.env.scope x := by first | exact Or.inl rfl | exact Or.inr (Or.inl rfl) | exact Or.inr (Or.inr rfl)) (hd : (x == ("__debug__" : Str)) = false := by decide)
    (hcd : (x == ("__classdict__" : Str)) = false := by decide) (hbase : attributeBase (.Name x p) "reverse" X.env (eval (.Name x p) X.env) = eval (.Name x p) X.env := by rfl) (hline : (apos.endLine == cpos.line) = true := by rfl) : OE X B (.Call (.Attribute (.Name x p) "reverse" apos) [] [] cpos) (wMthN i gReverse wONil) :=
  ⟨pe_imp (pe_bm0 PySem.F.plainAttrs_list PySem.F.slot_list_reverse PySem.F.type_list_reverse mt_reverse (pe_var hN hv hd hcd) hbase hline) fun _ _ _ => by rw [← hK]; exact im_mthN0 op_reverse⟩
theorem oe_clear (hK : B.K = X.K) (i : Nat) (hN : X.N[i]? = some x := by rfl) (hv : Vis X.env.scope x := by first | exact Or.inl rfl | exact Or.inr (Or.inl rfl) | exact Or.inr (Or.inr rfl)) (hd : (x == ("__debug__" : Str)) = false := by decide)
    (hcd : (x == ("__classdict__" : Str)) = false := by decide) (hbase : attributeBase (.Name x p) "clear" X.env (eval (.Name x p) X.env) = eval (.Name x p) X.env := by rfl) (hline : (apos.endLine == cpos.line) = true := by rfl) : OE X B (.Call (.Attribute (.Name x p) "clear" apos) [] [] cpos) (wMthN i gClear wONil) :=
  ⟨pe_imp (pe_bm0 PySem.F.plainAttrs_list PySem.F.slot_list_clear PySem.F.type_list_clear mt_clear (pe_var hN hv hd hcd) hbase hline) fun _ _ _ => by rw [← hK]; exact im_mthN0 op_clear⟩
theorem oe_pop (hK : B.K = X.K) (i : Nat) (hN : X.N[i]? = some x := by rfl) (hv : Vis X.env.scope x := by first | exact Or.inl rfl | exact Or.inr (Or.inl rfl) | exact Or.inr (Or.inr rfl)) (hd : (x == ("__debug__" : Str)) = false := by decide)
    (hcd : (x == ("__classdict__" : Str)) = false := by decide) (hbase : attributeBase (.Name x p) "pop" X.env (eval (.Name x p) X.env) = eval (.Name x p) X.env := by rfl) (hline : (apos.endLine == cpos.line) = true := by rfl) : OE X B (.Call (.Attribute (.Name x p) "pop" apos) [] [] cpos) (wMthN i gPop wONil) :=
  ⟨pe_imp (pe_bm0 PySem.F.plainAttrs_list PySem.F.slot_list_pop PySem.F.type_list_pop mt_pop (pe_var hN hv hd hcd) hbase hline) fun _ _ _ => by rw [← hK]; exact im_mthN0 op_pop⟩
theorem oe_insertA (hK : B.K = X.K) (i : Nat) (ha : OAs X B [a, b] ws) (hN : X.N[i]? = some x := by rfl) (hv : Vis X.env.scope x := by first | exact Or.inl rfl | exact Or.inr (Or.inl rfl) | exact Or.inr (Or.inr rfl)) (hd : (x == ("__debug__" : Str)) = false := by decide)
    (hcd : (x == ("__classdict__" : Str)) = false := by decide) (hbase : attributeBase (.Name x p) "insert" X.env (eval (.Name x p) X.env) = eval (.Name x p) X.env := by rfl)
    (hfew : ((backTo cpos (starEach [a, b] X.env)).all (fun x => !x.1) && (backToKw cpos (keywordEach [] X.env)).all (fun x => x.1.isSome) && decide ([a, b].length + ([] : List Keyword).length + (if ([] : List Keyword).isEmpty then 0 else 1) < 30)) = true := by rfl)
    (hline : (apos.endLine == cpos.line) = true := by rfl) (hs : starEach [a, b] X.env = (false, eval a X.env) :: starEach [b] X.env := by rfl) (hpl : (backTo cpos (starEach [b] X.env)).any (·.1) = false := by rfl) : OE X B (.Call (.Attribute (.Name x p) "insert" apos) [a, b] [] cpos) (wMthN i gInsertA ws) :=
  ⟨pe_imp (pe_bm PySem.F.plainAttrs_list PySem.F.slot_list_insert PySem.F.type_list_insert mt_insert (pe_var hN hv hd hcd) ha.pa hbase hfew hline hs hpl) fun _ _ _ => by rw [← hK]; exact im_mthN op_insertA⟩
end
end
end DL

/-! DL: copies turned about, calls that only look, methods at places, list(range), len(set), pop(i). -/
namespace DL
open PySem PySem.Spec PyProof.Rows L2
section
variable {X : Cx} {B : Bs} {e a b c : Expr} {pos p p2 p3 p4 apos cpos : Pos} {K : PySem.W.Frag} {wa wb : WP} {ea eb : WE} {oa ob : WO} {es : List Expr} {er ek : WAs} {wr : WVs} {st : Stmt} {rest : List Stmt} {w u : WS} {wt : WT} {la lb : WL} {ws : WOs}
/-! ### xs[::-1] -/
def wRev (ea : WE) : WO := fun env Q => ea env fun d e1 => match d with
  | .nd .lst ds => Q (.nd .lst (ds.reverse.map .fz)) e1
  | _ => False
theorem oe_rev {n : Nat} (hK : B.K = X.K) (ha : DE X B a ea) : OE X B (.Subscript a (.Slice none none (some (.UnaryOp .USub (.Constant (.int 1) n p) p2)) p3) pos) (wRev ea) := ⟨pe_imp (pe_revL ha.pe) fun σ H Q ⟨F, A, env, R, S, hw, q⟩ => by
  refine ⟨F, A, env, _, S, hw, fun d e1 h1 F1 H1 A1 x S1 p1 r1 => ?_⟩
  split at h1
  · rename_i ds
    rw [← hK]
    unfold Rep at r1
    obtain ⟨a, vs, rfl, n, r⟩ := r1
    refine ⟨a, vs, rfl, SqL.of (S1.sub _ _ n), fun p hp => ?_⟩
    have fin : NewV B.K F1 H1 Q (.nd .lst (ds.reverse.map .fz)) := S1.newV fun F' H' A' C v S' p ow d => q _ e1 h1 F' H' A' C v S' (p1.trans p) ow d
    exact fin.lst S1.sub r.reverse hp
  · exact h1.elim⟩

/-! ### a call that only looks, and tells no cell -/
def D.sca : D → Bool
  | .nd _ _ => false
  | .adr _ => false
  | _ => true
theorem Rep.sca {F F' : Hp} {d : D} {v : V} (h : Rep K F d v) (s : d.sca = true) : Rep K F' d v := by
  cases d with
  | nd k cs => cases s
  | adr a => cases s
  | _ => unfold Rep at h ⊢; exact h
def wPeek (sp : FSpec) (xq : XQ) (wr : WVs) : WO := fun env Q => wr env fun ts => OT.wholeL ts = true ∧ sp ((ts.map OT.frz).map .fz) (fun r _ => ∃ d, r = .fz d ∧ d.sca = true ∧ Q r env) fun x _ => x.fs = none ∧ xq x env
variable {sp : FSpec} {k k' n : Nat} {ps ks : List Str} {x : Str} {xq : XQ}
theorem oe_peek (C : CF X.prog X.w X.K X.mg X.base k' x ps sp) (hr : Room k X.A) (hK : B.K = X.K) (tk : Takes X (wxD B xq)) (ha : VAs X B (e :: es) wr) (hkk : k' ≤ k := by decide) (hg : Gl X x := by rfl) (hdb : (x == ("__debug__" : Str)) = false := by decide)
    (he : starEach (e :: es) X.env = (false, eval e X.env) :: starEach es X.env := by rfl) (hpl : (backTo pos (starEach es X.env)).any (·.1) = false := by rfl) : OE X B (.Call (.Name x p) (e :: es) [] pos) (wPeek sp xq wr) := by
  obtain ⟨⟨fd, G, hb⟩, gm, kp⟩ := C
  refine ⟨pe_imp (pe_callSD (G.mono hkk) hr hg gm kp hb .nil (passAt tk) ha.pa hdb he hpl) fun σ H Q ⟨F, A, env, R, S, hw, q⟩ => ?_⟩
  refine ⟨F, A, env, _, S, hw, fun ts hts vs vw nu => ?_⟩
  rw [← hK]
  show spD B.K sp (vs ++ []) H Q (L2.WE (wxD B xq) σ)
  rw [List.append_nil]
  obtain ⟨hwh, hsp⟩ := hts
  have rl := vw.rep S.sub hwh
  rw [OT.frzL_map] at rl
  refine ⟨H, Nobody, _, _, _, Same.refl H, OwnL.fzs rl, fz_ne, hsp, fun t t0 ht F' H' S' C v p s o0 ow d => ?_, fun x t0 hx F' H' S' cls d p s o0 hk => ?_⟩
  · obtain ⟨d0, rfl, sc, hR⟩ := ht
    obtain ⟨S2, p2⟩ := S.grow (p.fr.trans s)
    unfold Own at ow
    exact q _ env hR F H' A Nobody v S2 (p2.more fun _ z => z.elim) (Own.fz (ow.1.sca sc)) fun _ z => z.elim
  · obtain ⟨S2, p2⟩ := S.grow (p.fr.trans s)
    refine ⟨F, A, env, x, S2, ?_, hx.2⟩
    unfold ExnOk at hk ⊢
    rw [hx.1] at hk ⊢
    exact hk

/-! ### a method without arguments, at a place -/
theorem im_mthP0 {r : V → List V → Hp → VK → Prop} {g : List OT → List OT → (OT → List OT → Prop) → Prop} (ho : OpM B.K r g) {σ : L2.St} {H : Hp} {Q : VK} (h : rdO B (wMth g la wONil) σ H Q) : tBM0 B.K "list" r (rdL B la) σ H Q := by
  obtain ⟨F, A, env, R, S, hw, q⟩ := h
  refine ⟨F, A, env, _, S, hw, fun i π h1 v pl => ?_⟩
  unfold wONil at h1
  dsimp only at h1
  split at h1
  · rename_i cs e1
    obtain ⟨a, vs, rfl, n, l⟩ := S.node pl e1
    refine ⟨.inl ⟨rfl, vs, SqL.of n⟩, S.mutL ho pl e1 OwnL.nil (fun _ z => z.elim) (fun _ z => z.elim) h1 fun t cs' hR H' A' C' z S' p' oz dz => ?_⟩
    exact q t _ hR F H' A' C' z S' (p'.from fun b z => z.elim id fun z => z.elim) oz dz
  · exact h1.elim
theorem oe_clearP (hK : B.K = X.K) (ha : PL X B a la) (hbase : attributeBase a "clear" X.env (eval a X.env) = eval a X.env := by rfl) (hline : (apos.endLine == cpos.line) = true := by rfl) : OE X B (.Call (.Attribute a "clear" apos) [] [] cpos) (wMth gClear la wONil) :=
  ⟨pe_imp (pe_bm0 PySem.F.plainAttrs_list PySem.F.slot_list_clear PySem.F.type_list_clear mt_clear ha.pe hbase hline) fun _ _ _ => by rw [← hK]; exact im_mthP0 op_clear⟩

/-! ### list(range(..)) -/
theorem rgV_rep {F : Hp} (a b : Int) : RepL K F (rangeD a (b - a).toNat) (rgV a b) := by
  unfold rangeD rgV
  generalize (b - a).toNat = n
  induction List.range n with
  | nil => exact RepL.nil
  | cons x xs ih =>
    rw [List.map_cons, List.map_cons]
    exact RepL.cons (by unfold Rep; rfl) ih
def RgS (i j : Int) : Prop := -(2 ^ 62) ≤ i ∧ i < 2 ^ 62 ∧ -(2 ^ 62) ≤ j ∧ j < 2 ^ 62 ∧ (j - i).toNat ≤ 2 ^ 24
def wListRg1 (ea : WE) : WO := fun env Q => ea env fun d e1 => match d with
  | .int j => RgS 0 j ∧ Q (.nd .lst ((rangeD 0 j.toNat).map .fz)) e1
  | _ => False
theorem oe_listRg1 (hK : B.K = X.K) (hm : X.mg "list" = none) (hm2 : X.mg "range" = none) (ha : DE X B a ea) (hc : X.calm = true := by rfl) (hg : Gl X "list" := by rfl) (hg2 : Gl X "range" := by rfl)
    (n1 : starEach [.Call (.Name "range" p2) [a] [] p3] X.env = (false, eval (.Call (.Name "range" p2) [a] [] p3) X.env) :: starEach [] X.env := by rfl) (n2 : starEach [a] X.env = (false, eval a X.env) :: starEach [] X.env := by rfl) :
    OE X B (.Call (.Name "list" p) [.Call (.Name "range" p2) [a] [] p3] [] pos) (wListRg1 ea) := ⟨pe_imp (pe_listRg hc hg hm (prg_1 hg2 hm2 ha.pe n2) n1) fun σ H Q ⟨F, A, env, R, S, hw, q⟩ => by
  refine ⟨F, A, env, _, S, hw, fun d e1 h1 F1 H1 A1 x S1 p1 r1 => ?_⟩
  split at h1
  · rename_i j
    unfold Rep at r1; subst r1
    obtain ⟨g, h1⟩ := h1
    refine ⟨j, rfl, g, fun p hp => ?_⟩
    have fin : NewV B.K F1 H1 Q (.nd .lst ((rangeD 0 j.toNat).map .fz)) := S1.newV fun F' H' A' C v S' p ow d => q _ e1 h1 F' H' A' C v S' (p1.trans p) ow d
    have r := rgV_rep (K := B.K) (F := F1) 0 j
    rw [Int.sub_zero] at r
    exact fin.lst S1.sub r hp
  · exact h1.elim⟩

/-! ### len(set(xs)), distinct ints -/
def wLenSet (ea : WE) : WE := fun env Q => ea env fun d e1 => match d with
  | .nd .lst ds => ∃ is, D.ints ds = some is ∧ is.Nodup ∧ is.length ≤ 4000 ∧ Q (.int (ds.length : Nat)) e1
  | _ => False
theorem ints_len : ∀ {ds : List D} {is : List Int}, D.ints ds = some is → is.length = ds.length
  | [], is, e => by cases e; rfl
  | d :: ds, is, e => by
    cases d with
    | int i =>
      unfold D.ints at e
      cases e2 : D.ints ds with
      | none => rw [e2] at e; cases e
      | some js => rw [e2] at e; cases e; simp [ints_len e2]
    | _ => cases e
theorem de_lenSet (hK : B.K = X.K) (hm : X.mg "len" = none) (hm2 : X.mg "set" = none) (ha : DE X B a ea) (hc : X.calm = true := by rfl) (hg : Gl X "len" := by rfl) (hg2 : Gl X "set" := by rfl)
    (na : starEach [a] X.env = (false, eval a X.env) :: starEach [] X.env := by rfl) : DE X B (.Call (.Name "len" p) [.Call (.Name "set" p2) [a] [] p3] [] pos) (wLenSet ea) := ⟨pe_imp (RZ.pe_lenSetI hg hm hg2 hm2 ha.pe hc na) fun σ H Q ⟨F, A, env, R, S, hw, q⟩ => by
  refine ⟨F, A, env, _, S, hw, fun d e1 h1 F1 H1 A1 x S1 p1 r1 => ?_⟩
  split at h1
  · rename_i ds
    obtain ⟨is, ei, nd, le, h1⟩ := h1
    rw [← hK]
    unfold Rep at r1
    obtain ⟨a, vs, rfl, n, r⟩ := r1
    have ev := r.ints ei
    subst ev
    refine ⟨a, is, rfl, SqL.of (S1.sub _ _ n), nd, le, ?_⟩
    exact q _ e1 h1 F1 H1 A1 _ S1 p1 (by unfold Rep; rw [ints_len ei])
  · exact h1.elim⟩

/-! ### xs.pop(i) -/
def gPopA (cs ts : List OT) (R : OT → List OT → Prop) : Prop := match ts with
  | [.fz (.int i)] => -(2 ^ 63) ≤ i ∧ i < 2 ^ 63 ∧ ∃ k t, seqIndex? i cs.length = some k ∧ cs[k]? = some t ∧ t ≠ .un ∧ R t (cs.eraseIdx k)
  | _ => False
theorem op_popA : OpM K rPopAt gPopA := ⟨fun F H A1 C a vs us cs ts R Q s ha ow ot d ne hg q => by
  unfold gPopA at hg
  split at hg
  · rename_i i
    obtain ⟨h1, h2, k, t, hk, et, nu, hR⟩ := hg
    obtain ⟨v0, r0, B1, B2, rfl, o1, o2, d2, e2⟩ := ot.cons_inv
    unfold Own at o1
    have e0 := o1.1
    unfold Rep at e0; subst e0
    have l2 := o2.len
    obtain rfl : r0 = [] := List.length_eq_zero_iff.mp l2.symm
    have kl : k < cs.length := (List.getElem?_eq_some_iff.mp et).1
    have ek : cs[k] = t := (List.getElem?_eq_some_iff.mp et).2
    have split : cs = cs.take k ++ ([t] ++ cs.drop (k + 1)) := by
      rw [← ek, List.singleton_append, ← List.drop_eq_getElem_cons kl, List.take_append_drop]
    have lv := ow.len
    have ow0 := ow
    rw [split] at ow
    obtain ⟨v1, v2, C1, C2, rfl, l1, p1, p2, dp, ep⟩ := OwnL.split ow
    obtain ⟨v3, v4, C3, C4, rfl, l3, p3, p4, dp2, ep2⟩ := OwnL.split p2
    obtain ⟨v, r, B3, B4, rfl, o3, o4, d3, e3⟩ := p3.cons_inv
    have l4 := o4.len
    obtain rfl : r = [] := List.length_eq_zero_iff.mp l4.symm
    have lk : v1.length = k := by rw [l1, List.length_take]; omega
    have n4 : ∀ b, ¬ B4 b := fun b z => by unfold OwnL at o4; exact o4.2 b z
    refine ⟨a, v1 ++ ([v] ++ v4), i, k, v, rfl, rfl, ha, h1, h2, by rw [← lv]; exact hk, by rw [List.getElem?_append_right (by omega), lk, Nat.sub_self]; rfl, ?_⟩
    have e1 : cs.eraseIdx k = cs.take k ++ cs.drop (k + 1) := List.eraseIdx_eq_take_drop_succ cs k
    have ev : (v1 ++ ([v] ++ v4)).eraseIdx k = v1 ++ v4 := by
      rw [List.eraseIdx_append_of_length_le (by omega), lk, Nat.sub_self]; rfl
    rw [ev]
    rw [e1] at hR
    have inA : ∀ b, C1 b ∨ B3 b ∨ C4 b → A1 b := fun b z => (ep b).mpr (z.imp id fun z => (ep2 b).mpr (z.imp (fun z => (e3 b).mpr (.inl z)) id))
    have all := OwnL.append p1 p4 fun b z y => dp b z ((ep2 b).mpr (.inr y))
    refine q _ _ hR _ _ (fun b => C1 b ∨ C4 b) B3 (OwnL.at all fun b z => ne b (.inl (inA b (z.imp id .inr)))) (Own.at o3 fun b z => ne b (.inl (inA b (.inr (.inl z))))) (fun b z y => ?_) fun b z => .inl (inA b ?_)
    · rcases z with z | z
      · exact dp b z ((ep2 b).mpr (.inl ((e3 b).mpr (.inl y))))
      · exact dp2 b ((e3 b).mpr (.inl y)) z
    · rcases z with (z | z) | z
      · exact .inl z
      · exact .inr (.inr z)
      · exact .inr (.inl z)
  · exact hg.elim⟩
theorem oe_popA (hK : B.K = X.K) (i : Nat) (ha : OAs X B [a] ws) (hN : X.N[i]? = some x := by rfl) (hv : Vis X.env.scope x := by first | exact Or.inl rfl | exact Or.inr (Or.inl rfl) | exact Or.inr (Or.inr rfl)) (hd : (x == ("__debug__" : Str)) = false := by decide)
    (hcd : (x == ("__classdict__" : Str)) = false := by decide) (hbase : attributeBase (.Name x p) "pop" X.env (eval (.Name x p) X.env) = eval (.Name x p) X.env := by rfl)
    (hfew : ((backTo cpos (starEach [a] X.env)).all (fun x => !x.1) && (backToKw cpos (keywordEach [] X.env)).all (fun x => x.1.isSome) && decide ([a].length + ([] : List Keyword).length + (if ([] : List Keyword).isEmpty then 0 else 1) < 30)) = true := by rfl)
    (hline : (apos.endLine == cpos.line) = true := by rfl) (hs : starEach [a] X.env = (false, eval a X.env) :: starEach [] X.env := by rfl) : OE X B (.Call (.Attribute (.Name x p) "pop" apos) [a] [] cpos) (wMthN i gPopA ws) :=
  ⟨pe_imp (pe_bm PySem.F.plainAttrs_list PySem.F.slot_list_pop PySem.F.type_list_pop mt_popAt (pe_var hN hv hd hcd) ha.pa hbase hfew hline hs) fun _ _ _ => by rw [← hK]; exact im_mthN op_popA⟩
end
end DL

/-! DL: range downwards. -/
namespace DL
open PySem PySem.Spec PyProof.Rows L2
section
variable {X : Cx} {B : Bs} {e a b c : Expr} {pos p p2 p3 p4 apos cpos : Pos} {K : PySem.W.Frag} {wa wb : WP} {ea eb : WE} {oa ob : WO} {es : List Expr} {er ek : WAs} {wr : WVs} {st : Stmt} {rest : List Stmt} {w u : WS} {wt : WT} {la lb : WL} {ws : WOs}
def downD (hi : Int) (n : Nat) : List D := (List.range n).map fun (k : Nat) => D.int (hi - (k : Int))
theorem downD_len (hi : Int) (n : Nat) : (downD hi n).length = n := by unfold downD; simp
theorem walk_down {F : Hp} {hi : Int} {n : Nat} : IsWalk B (Itc hi (-1) n) (downD hi n) F := fun i F1 H1 A1 env σ s S => by
  refine ⟨fun hl => by rw [downD_len] at hl; exact hl, fun d ed => ?_⟩
  have h0 : i < n := by
    have := (List.getElem?_eq_some_iff.mp ed).1
    rw [downD_len] at this; exact this
  have e2 : (downD hi n)[i]? = some (.int (hi - (i : Int))) := by
    unfold downD
    rw [List.getElem?_map, List.getElem?_range h0]; rfl
  rw [e2] at ed
  cases ed
  refine ⟨h0, fun x H2 y => ?_⟩
  obtain ⟨rfl, rfl⟩ := y
  exact ⟨F1, S, Step.refl, by unfold Rep; rw [show hi + (i : Int) * (-1) = hi - i by omega]⟩
def iRangeDn (er : WAs) : WI := fun env Q => er env fun ds e1 => match ds with
  | [.int i, .int j, .int c] => c = -1 ∧ Small62 i ∧ Small62 j ∧ Q (downD i (i - j).toNat) e1
  | _ => False
theorem di_rangeDn {tg : Expr} (hm : X.mg "range" = none) (ha : DAs X B [a, b, c] er) (hg : Gl X "range" := by rfl) (hs : starEach [a, b, c] X.env = (false, eval a X.env) :: starEach [b, c] X.env := by rfl) (hpl : (backTo pos (starEach [b, c] X.env)).any (·.1) = false := by rfl) :
    DIt X B tg (.Call (.Name "range" p) [a, b, c] [] pos) (iRangeDn er) := ⟨pi_imp (pi_range3 hg hm ha.pa hs hpl) fun ⟨F, A, env, R, S, hw, q⟩ => by
  refine ⟨F, A, env, _, S, hw, fun ds e1 h1 F1 H1 A1 vs S1 p1 r1 => ?_⟩
  split at h1
  · obtain ⟨v, r, rfl, ra, rb⟩ := r1.cons_inv
    obtain ⟨v', r', rfl, rc, rd⟩ := rb.cons_inv
    obtain ⟨v2, r2, rfl, re, rf⟩ := rd.cons_inv
    unfold RepL at rf; subst rf
    unfold Rep at ra rc re; subst ra rc re
    obtain ⟨rfl, h2, h3, h1⟩ := h1
    exact ⟨_, _, _, _, rfl, RgC.neg h2.1 h2.2 h3.1 h3.2, q _ e1 h1 F1 H1 A1 _ S1 p1 walk_down⟩
  · exact h1.elim⟩
end
end DL

/-! DL: *x, y = a list; remove; sorted of ints. -/
namespace DL
open PySem PySem.Spec PyProof.Rows L2
/-! ### *x, y = xs -/
theorem vals_snoc : ∀ {xs : List V} {l : V} {us : List Value}, Vals (xs ++ [l]) us → ∃ us' u, us = us' ++ [u] ∧ Vals xs us' ∧ RelV l u
  | [], l, us, h => by
    cases h with
    | cons r rr => cases rr; exact ⟨[], _, rfl, .nil, r⟩
  | x :: xs, l, us, h => by
    cases h with
    | cons r rr =>
      obtain ⟨us', u, rfl, v, q⟩ := vals_snoc rr
      exact ⟨_ :: us', u, rfl, .cons r v, q⟩
theorem starL2 {prog : Program} {w : World} {A : Around} {E : Value → Shared → Prop} {s : Shared} {l : Addr} {items : Array Value} {mids lasts : List Value} {Q : List Value → Shared → Prop} (hl : s.heap.IsList l items) (hh : A.handled = none) (hn : 1 ≤ items.size) (hz : items.size ≤ 16384)
    (h2 : items.toList.take (items.size - 1) = mids) (h3 : items.toList.drop (items.size - 1) = lasts)
    (h : ∀ (h' : Heap) tk, (∀ b o, b ≠ s.heap.objs.size → s.heap.get? b = some o → h'.get? b = some o) → Q ([.ref h'.objs.size] ++ lasts) { s with heap := h'.push { cls := .type "list", data := .seq mids.toArray }, toks := tk }) : wpAny (model prog w) A (unpackItems (.ref l) 2 (some 0)) Q E s := by
  subst h2 h3
  have hlt : l ≠ s.heap.objs.size := by obtain ⟨o, ho, _⟩ := hl; exact Nat.ne_of_lt (Heap.lt_size ho)
  unfold unpackItems
  refine wpAny_bind ?_
  unfold notIterableAtAll
  refine wpAny_bind (wpAny_specialOf hl.typeIs slot_list_iter.lookup ?_)
  refine wpAny_pure ?_
  simp only [Bool.false_eq_true, if_false]
  refine wpAny_bind (wpAny_holding (wpAny_pyIter_list hl ?_))
  refine wpAny_bind (wpAny_holding (PySem.W.kun_draw hlt 0 0 _ _ ⟨_, Heap.get?_push_size _ rfl, rfl, rfl⟩ (hl.push _) (by omega) fun h₁ hit₁ hs₁ => ?_))
  have hl₁ : h₁.IsList l items := (hl.push _).extBut hs₁.extBut hlt
  rw [Nat.zero_add] at hit₁
  have hit₁' := hit₁
  obtain ⟨oi, hoi, _⟩ := hit₁'
  have hl₁' := hl₁
  obtain ⟨ol, hol, _⟩ := hl₁'
  rw [List.drop_zero]
  rw [if_neg (show ¬ ((items.toList.take 0).length < 0) by omega)]
  refine wpAny_bind (wpAny_holding (PySem.W.kun_collect (s := { s with heap := h₁ }) (T := "list_iterator") (.inr (.inr (.inl rfl))) (Walks.list (A := A.in1) hh s.heap.objs.size l hlt items) (fun j u st => st.1.typeIs) (k := 0) (by omega) ⟨hit₁, hl₁⟩ (Heap.lt_size hoi) (Heap.lt_size hol) (fun h₂ tk hk => ?_) (by rw [sizeLine_eq]; omega)))
  have hrl : (items.toList.drop 0).length = items.size := by rw [List.drop_zero, Array.length_toList]
  show wpAny _ _ (if (items.toList.drop 0).length < 2 - 1 - 0 then _ else _) _ _ _
  rw [if_neg (by rw [hrl]; omega)]
  show wpAny _ _ (newList ((items.toList.drop 0).take ((items.toList.drop 0).length - (2 - 1 - 0))) >>= fun d => pure (items.toList.take 0 ++ [d] ++ (items.toList.drop 0).drop ((items.toList.drop 0).length - (2 - 1 - 0)))) _ _ _
  rw [hrl]
  show wpAny _ _ (newList (items.toList.take (items.size - 1)) >>= fun d => pure ([] ++ [d] ++ items.toList.drop (items.size - 1))) _ _ _
  have he : ∀ b o, b ≠ s.heap.objs.size → s.heap.get? b = some o → h₂.get? b = some o := fun b o hb e => hk b o hb (hs₁.extBut b o hb (Heap.get?_push_of_some _ e))
  refine wpAny_bind (wpAny_newList ?_ (by rw [List.length_take, Array.length_toList, sizeLine_eq]; omega))
  exact wpAny_pure (h h₂ tk he)
/-- *x, y = a list: a new list, the last item -/
def gStar2 (K : PySem.W.Frag) (i j : Nat) : TG := fun v σ H Q => ∃ a xs l, v = .ref a ∧ SqL K H a (xs ++ [l]) ∧ xs.length + 1 ≤ 16384 ∧ ∀ q, H q = none → Q ((σ.set i (some (.ref q))).set j (some l)) (upd H q (.lst xs))
section
variable {X : Cx} {B : Bs} {e a b c : Expr} {pos p p2 p3 p4 apos cpos : Pos} {K : PySem.W.Frag} {wa wb : WP} {ea eb : WE} {oa ob : WO} {es : List Expr} {er ek : WAs} {wr : WVs} {st : Stmt} {rest : List Stmt} {w u : WS} {wt : WT} {la lb : WL} {ws : WOs}
theorem pg_star2 {i j k : Nat} {x y : Str} {px sp py : Pos} (hc : X.calm = true) (hN : X.N.Nodup) (hi : X.N[i]? = some x) (hj : X.N[j]? = some y) (hx : Loc X.env.scope x) (hy : Loc X.env.scope y) (hf : X.fn x = true ∨ X.env.scope.names.lookup x = some .local) (hg : X.fn y = true ∨ X.env.scope.names.lookup y = some .local) :
    PG X (.Tuple [.Starred (.Name x px) sp, .Name y py] k pos) (gStar2 X.K i j) := by
  refine ⟨fun pins s σ H v u Q I r hw => ?_⟩
  obtain ⟨a, xs, l, rfl, hq, hl, hw⟩ := hw
  cases r
  obtain ⟨its, rv, pl, hz⟩ := I.list hq
  obtain ⟨us, u, rfl, v1, ru⟩ := vals_snoc rv
  have ll := v1.length
  have hsz : (us ++ [u]).toArray.size = us.length + 1 := by simp
  rw [assign_Tuple]
  refine wpAny_bind (wpAny_standAt ?_)
  unfold unpack
  refine wpAny_bind (wpAny_holding (starL2 pl.isList (I.ok.hd hc) (by rw [hsz]; omega) (by rw [hsz]; omega) (mids := us) (lasts := [u]) (by rw [hsz]; simp) (by rw [hsz]; simp) fun h' tk he => ?_))
  have I1 : Inv X pins σ H { s with heap := h', toks := tk } := I.kept fun b o e => he b o (Nat.ne_of_lt (Heap.lt_size e)) e
  have I2 : Inv X pins σ (upd H h'.objs.size (.lst xs)) { s with heap := h'.push { cls := .type "list", data := .seq us.toArray }, toks := tk } :=
    I1.laid (t' := tk) (fun b u e => Heap.get?_push_of_some _ e) (Nat.le_refl _) (show ObjOk X.prog X.w _ _ _ (.lst xs) from ⟨by rw [sizeLine_eq]; omega, us, 0, v1, Heap.get?_push_size _ rfl⟩)
  have g := pgs_cons (pg_name (pos := px) hN hi hx hf) (pgs_cons (pg_name (pos := py) hN hj hy hg) pgs_nil)
  exact g.run pins _ σ _ [.ref h'.objs.size, l] _ Q I2 (.cons rfl (.cons ru .nil)) ⟨_, _, rfl, _, _, rfl, rfl, hw _ (I1.hok.fresh (Nat.le_refl _))⟩
/-- *x, y = e -/
def wStar2 (i j : Nat) (ea : WE) : WS := fun R env => ea env fun d e1 => match d with
  | .nd .lst ds => ∃ xs l, ds = xs ++ [l] ∧ xs.length + 1 ≤ 16384 ∧ i < e1.length ∧ j < e1.length ∧ i ≠ j ∧ R.nx ((e1.set i (.nd .lst (xs.map .fz))).set j (.fz l))
  | _ => False
theorem RepL.snoc_inv {F : Hp} : ∀ {ds : List D} {d : D} {vs : List V}, RepL K F (ds ++ [d]) vs → ∃ us u, vs = us ++ [u] ∧ RepL K F ds us ∧ Rep K F d u
  | [], d, vs, h => by
    obtain ⟨v, r, rfl, h1, h2⟩ := RepL.cons_inv (ds := []) h
    unfold RepL at h2; subst h2
    exact ⟨[], v, rfl, RepL.nil, h1⟩
  | x :: ds, d, vs, h => by
    obtain ⟨v, r, rfl, h1, h2⟩ := RepL.cons_inv (ds := ds ++ [d]) h
    obtain ⟨us, u, rfl, h3, h4⟩ := RepL.snoc_inv h2
    exact ⟨v :: us, u, rfl, RepL.cons h1 h3, h4⟩
theorem ds_star2 (i j : Nat) {k : Nat} {x y : Str} {px sp py tpos : Pos} (hoi : B.open i) (hoj : B.open j) (hc : X.calm = true) (hK : B.K = X.K) (hN : X.N.Nodup) (h : DE X B e ea) (hi : X.N[i]? = some x := by rfl) (hj : X.N[j]? = some y := by rfl) (hx : Loc X.env.scope x := by first | exact .inl rfl | exact .inr rfl) (hy : Loc X.env.scope y := by first | exact .inl rfl | exact .inr rfl)
    (hf : X.fn x = true ∨ X.env.scope.names.lookup x = some .local := by first | exact .inl rfl | exact .inr rfl) (hg : X.fn y = true ∨ X.env.scope.names.lookup y = some .local := by first | exact .inl rfl | exact .inr rfl)
    (hs : swapsWithSole [.Tuple [.Starred (.Name x px) sp, .Name y py] k tpos] e pos.line X.env = pure false := by rfl) (hw : swappedStores [.Tuple [.Starred (.Name x px) sp, .Name y py] k tpos] e X.env = pure none := by rfl) (h1 : (assignEach [.Tuple [.Starred (.Name x px) sp, .Name y py] k tpos] X.env).map (·.2) = [assign (.Tuple [.Starred (.Name x px) sp, .Name y py] k tpos) X.env] := by rfl) :
    DS X B (.Assign [.Tuple [.Starred (.Name x px) sp, .Name y py] k tpos] e pos) (wStar2 i j ea) := ⟨ps_imp (ps_asg h.pe (pg_star2 hc hN hi hj hx hy hf hg) hs hw h1) fun D σ H ⟨F, A, env, R, S, hw, q, _⟩ => by
  refine ⟨F, A, env, _, S, hw, fun d e1 h1 F1 H1 A1 v S1 p1 r1 => ?_⟩
  split at h1
  · rename_i ds
    obtain ⟨xs, l, rfl, hl, hi', hj', ij, h1⟩ := h1
    unfold Rep at r1
    obtain ⟨a, vs, rfl, n, r⟩ := r1
    obtain ⟨us, u, rfl, ru, rl⟩ := RepL.snoc_inv r
    refine ⟨a, us, u, rfl, by rw [← hK]; exact SqL.of (S1.sub _ _ n), by rw [← ru.len]; exact hl, fun p hp => ?_⟩
    have fin : NewV B.K F1 H1 (fun v H' => D.nx ((σ.set i (some v)).set j (some u)) H') (.nd .lst (xs.map .fz)) := S1.newV fun F' H' A' C v S' p ow dj => by
      obtain ⟨A2, S2, p2⟩ := S'.put hi' ow dj (step_base S1 p) hoi
      obtain ⟨A3, S3, p3⟩ := S2.putf (d := l) (v := u) (by rw [List.length_set]; exact hj') (rl.mono p.fr) hoj
      exact q _ h1 F' H' A3 _ S3 ((p1.trans (p.trans p2)).trans p3)
    exact fin.lst S1.sub ru hp
  · exact h1.elim⟩
/-! ### sorted(xs), whole numbers -/
def gSortI (ts : List OT) (R : OT → Prop) : Prop := match ts with
  | [t] => match t.flat with
    | some (.nd .lst ds) => ∃ ns, D.ints ds = some ns ∧ ∀ ns' : List Int, ns'.Perm ns → ns'.Pairwise (· ≤ ·) → R (.nd .lst ((ns'.map D.int).map .fz))
    | _ => False
  | _ => False
theorem ints_rep {F : Hp} : ∀ ns : List Int, RepL K F (ns.map D.int) (ns.map V.int)
  | [] => RepL.nil
  | n :: ns => RepL.cons (by unfold Rep; rfl) (ints_rep ns)
theorem op_gSortI : OpPN K (rSortedI K) gSortI := fun F H xs ts R Q s vx nu hg q => by
  unfold gSortI at hg
  split at hg
  · rename_i t
    obtain ⟨x, rfl, vt⟩ := vx.one nu
    split at hg
    · rename_i ds ef
      obtain ⟨a, vs, rfl, n, rr⟩ := (vt.rdD s ef).lst
      obtain ⟨ns, ei, hg⟩ := hg
      have ev := rr.ints ei
      subst ev
      exact ⟨a, ns, rfl, SqL.of n, fun ns' p pm pw hp => (q _ (hg ns' pm pw)).lst s (ints_rep ns') hp⟩
    · exact hg.elim
  · exact hg.elim
theorem oe_sortI {x : Str} (hx : x = "sorted") (hK : B.K = X.K) (hm : X.mg x = none) (ha : DAs X B (a :: es) er) (hg : Gl X x := by rfl) (hv : bootBuiltins x = some (.builtin "sorted") := by first | rfl | decide +kernel) (hn : x ≠ "__name__" := by decide) (hd : (x == ("__debug__" : Str)) = false := by decide)
    (he : starEach (a :: es) X.env = (false, eval a X.env) :: starEach es X.env := by rfl) (hpl : (backTo pos (starEach es X.env)).any (·.1) = false := by rfl) : OE X B (.Call (.Name x p) (a :: es) [] pos) (wFnNE gSortI er) :=
  ⟨pe_imp (pe_callB cr_sortedI hg hm hv ha.pa hn hd he hpl) fun _ _ _ => im_fnNE (by rw [hK]; exact op_gSortI)⟩
/-! ### xs.extend(ys), xs.remove(n) -/
def gExtendA (cs ts : List OT) (R : OT → List OT → Prop) : Prop := match ts with
  | [.nd .lst cs2] => cs.length + cs2.length ≤ sizeLine ∧ R (.fz .non) (cs ++ cs2)
  | _ => False
theorem op_extendA : OpM K rExtend gExtendA := ⟨fun F H A1 C a vs us cs ts R Q s ha ow ot d ne hg q => by
  unfold gExtendA at hg
  split at hg
  · rename_i cs2
    obtain ⟨v, r, B1, B2, rfl, o1, o2, d2, e2⟩ := ot.cons_inv
    have l := o2.len
    obtain rfl : r = [] := List.length_eq_zero_iff.mp l.symm
    unfold Own at o1
    obtain ⟨b, ws, A2, rfl, nb, fb, ow2, nin, eqA⟩ := o1
    have hb : H b = some (.lst ws) := nb
    have inC : ∀ c, A2 c → C c := fun c z => (e2 c).mpr (.inl ((eqA c).mpr (.inr z)))
    refine ⟨a, b, vs, ws, rfl, rfl, ha, hb, by rw [← ow.len, ← ow2.len]; exact hg.1, ?_⟩
    have all := OwnL.append ow ow2 fun c z y => d c z (inC c y)
    refine q _ _ hg.2 _ _ (fun c => A1 c ∨ A2 c) Nobody (OwnL.at all fun c z => ne c (z.imp id (inC c))) (Own.fz (by unfold Rep; rfl)) (fun _ _ z => z.elim) fun c z => ?_
    rcases z with (z | z) | z
    · exact .inl z
    · exact .inr (inC c z)
    · exact z.elim
  · exact hg.elim⟩
section
variable {x : Str}
theorem oe_extendA (hK : B.K = X.K) (i : Nat) (ha : OAs X B [a] ws) (hN : X.N[i]? = some x := by rfl) (hv : Vis X.env.scope x := by first | exact Or.inl rfl | exact Or.inr (Or.inl rfl) | exact Or.inr (Or.inr rfl)) (hd : (x == ("__debug__" : Str)) = false := by decide)
    (hcd : (x == ("__classdict__" : Str)) = false := by decide) (hbase : attributeBase (.Name x p) "extend" X.env (eval (.Name x p) X.env) = eval (.Name x p) X.env := by rfl)
    (hfew : ((backTo cpos (starEach [a] X.env)).all (fun x => !x.1) && (backToKw cpos (keywordEach [] X.env)).all (fun x => x.1.isSome) && decide ([a].length + ([] : List Keyword).length + (if ([] : List Keyword).isEmpty then 0 else 1) < 30)) = true := by rfl)
    (hline : (apos.endLine == cpos.line) = true := by rfl) (hs : starEach [a] X.env = (false, eval a X.env) :: starEach [] X.env := by rfl) : OE X B (.Call (.Attribute (.Name x p) "extend" apos) [a] [] cpos) (wMthN i gExtendA ws) :=
  ⟨pe_imp (pe_bm PySem.F.plainAttrs_list PySem.F.slot_list_extend PySem.F.type_list_extend mt_extend (pe_var hN hv hd hcd) ha.pa hbase hfew hline hs) fun _ _ _ => by rw [← hK]; exact im_mthN op_extendA⟩
end
/-- the items are ints, the first like it goes -/
def gRemoveA (cs ts : List OT) (R : OT → List OT → Prop) : Prop := match ts with
  | [.fz (.int k)] => ∃ (ns : List Int) (j : Nat), cs = (ns.map D.int).map .fz ∧ ns[j]? = some k ∧ (∀ m : Nat, m < j → ns[m]? ≠ some k) ∧ R (.fz .non) (((ns.eraseIdx j).map D.int).map .fz)
  | _ => False
theorem own_ints {F H : Hp} : ∀ {ns : List Int} {vs : List V} {A : Addr → Prop}, OwnL K F H ((ns.map D.int).map .fz) vs A → vs = ns.map V.int ∧ ∀ b, ¬ A b
  | [], vs, A, h => by unfold OwnL at h; exact h
  | n :: ns, vs, A, h => by
    obtain ⟨v, r, B1, B2, rfl, h1, h2, d1, e1⟩ := OwnL.cons_inv (ts := (ns.map D.int).map OT.fz) h
    obtain ⟨rfl, n2⟩ := own_ints h2
    unfold Own at h1
    have h3 := h1.1
    unfold Rep at h3; subst h3
    exact ⟨rfl, fun b z => ((e1 b).mp z).elim (h1.2 b) (n2 b)⟩
theorem op_removeA : OpM K rRemI gRemoveA := ⟨fun F H A1 C a vs us cs ts R Q s ha ow ot d ne hg q => by
  unfold gRemoveA at hg
  split at hg
  · rename_i k
    obtain ⟨ns, j, rfl, h1, h2, hR⟩ := hg
    obtain ⟨v0, r0, B1, B2, rfl, o1, o2, d2, e2⟩ := ot.cons_inv
    have l2 := o2.len
    obtain rfl : r0 = [] := List.length_eq_zero_iff.mp l2.symm
    unfold Own at o1
    have e0 := o1.1
    unfold Rep at e0; subst e0
    obtain ⟨rfl, nA⟩ := own_ints ow
    refine ⟨a, ns, k, j, rfl, rfl, ha, h1, h2, ?_⟩
    exact q _ _ hR _ _ Nobody Nobody (OwnL.fzs (ints_rep (ns.eraseIdx j))) (Own.fz (by unfold Rep; rfl)) (fun _ _ z => z.elim) fun b z => z.elim (fun z => z.elim) fun z => z.elim
  · exact hg.elim⟩
section
variable {x : Str}
theorem oe_removeA (hK : B.K = X.K) (i : Nat) (ha : OAs X B [a] ws) (hN : X.N[i]? = some x := by rfl) (hv : Vis X.env.scope x := by first | exact Or.inl rfl | exact Or.inr (Or.inl rfl) | exact Or.inr (Or.inr rfl)) (hd : (x == ("__debug__" : Str)) = false := by decide)
    (hcd : (x == ("__classdict__" : Str)) = false := by decide) (hbase : attributeBase (.Name x p) "remove" X.env (eval (.Name x p) X.env) = eval (.Name x p) X.env := by rfl)
    (hfew : ((backTo cpos (starEach [a] X.env)).all (fun x => !x.1) && (backToKw cpos (keywordEach [] X.env)).all (fun x => x.1.isSome) && decide ([a].length + ([] : List Keyword).length + (if ([] : List Keyword).isEmpty then 0 else 1) < 30)) = true := by rfl)
    (hline : (apos.endLine == cpos.line) = true := by rfl) (hs : starEach [a] X.env = (false, eval a X.env) :: starEach [] X.env := by rfl) : OE X B (.Call (.Attribute (.Name x p) "remove" apos) [a] [] cpos) (wMthN i gRemoveA ws) :=
  ⟨pe_imp (pe_bm PySem.F.plainAttrs_list PySem.F.slot_list_remove PySem.F.type_list_remove mt_remove (pe_var hN hv hd hcd) ha.pa hbase hfew hline hs) fun _ _ _ => by rw [← hK]; exact im_mthN op_removeA⟩
end
end
end DL

/-! DL: tuple(..), dicts of one's own that hold data. -/
namespace DL
open PySem PySem.Spec PyProof.Rows L2
section
variable {X : Cx} {B : Bs} {e a b c : Expr} {pos p p2 p3 p4 apos cpos : Pos} {K : PySem.W.Frag} {wa wb : WP} {ea eb : WE} {oa ob : WO} {es : List Expr} {er ek : WAs} {wr : WVs} {st : Stmt} {rest : List Stmt} {w u : WS} {wt : WT} {la lb : WL} {ws : WOs}
theorem hu1 {n : Nat} (h : n + 64 < cLine) : n + 1 < cLine := by omega
/-! ### tuple(xs) -/
def wTupOf (wa : WE) : WO := fun env Q => wa env fun d e1 => match d with
  | .nd .lst ds => Q (.fz (.nd .tup ds)) e1
  | .nd .tup ds => Q (.fz (.nd .tup ds)) e1
  | _ => False
theorem oe_tupleOf (hK : B.K = X.K) (hm : X.mg "tuple" = none) (ha : DE X B a ea) (hg : Gl X "tuple" := by rfl) (na : starEach [a] X.env = (false, eval a X.env) :: starEach [] X.env := by rfl) :
    OE X B (.Call (.Name "tuple" p) [a] [] pos) (wTupOf ea) := ⟨pe_imp (pe_tupleOf hg hm ha.pe na) fun σ H Q ⟨F, A, env, R, S, hw, q⟩ => by
  refine ⟨F, A, env, _, S, hw, fun d e1 h1 F1 H1 A1 x S1 p1 r1 => ?_⟩
  split at h1
  · rename_i ds
    obtain ⟨l, vs, rfl, n, r⟩ := (r1.rdD S1.sub).lst
    refine .inl ⟨l, vs, rfl, by rw [← hK]; exact SqL.of n, fun z hz => ?_⟩
    exact (S1.newV (t := .fz (.nd .tup ds)) (Q := Q) fun F' H' A' C v S' p' ow d' => q _ e1 h1 F' H' A' C v S' (p1.trans p') ow d').tup S1.sub r hz
  · rename_i ds
    have hr := r1
    obtain ⟨l, vs, rfl, n, r⟩ := (r1.rdD S1.sub).tup
    refine .inr ⟨l, vs, rfl, by rw [← hK]; exact n, ?_⟩
    exact (S1.newV (t := .fz (.nd .tup ds)) (Q := Q) fun F' H' A' C v S' p' ow d' => q _ e1 h1 F' H' A' C v S' (p1.trans p') ow d').fz S1.sub hr
  · exact h1.elim⟩
/-! ### {} -/
def wDNew : WO := fun env Q => Q (.nd (.dic []) []) env
theorem oe_dnew : OE X B (.Dict [] [] pos) wDNew := ⟨pe_imp pe_dnewK fun σ H Q ⟨F, A, env, R, S, hw, q⟩ => by
  intro a ha
  refine (S.newV (t := .nd (.dic []) []) (Q := Q) fun F' H' A' C v S' p' ow d' => q _ env hw F' H' A' C v S' p' ow d') F _ (fun b => b = a) _ (Same.refl F) (Same.upd ha) (S.sub.trans (Same.upd ha)) (fun _ z => .inl z) ?_ fun b e => by rw [e]; exact ha
  unfold Own
  exact ⟨a, [], Nobody, rfl, ⟨upd_same, rfl⟩, S.sub.free ha, OwnL.nil, fun z => z, fun b => ⟨.inl, fun z => z.elim id fun z => z.elim⟩⟩⟩
/-! ### k in d -/
def D.key : D → Option Key
  | .int i => some (.inl i)
  | .str x => some (.inr x)
  | _ => none
theorem RdD.key {F H : Hp} {d : D} {k : Key} {v : V} (h : RdD K F H d v) (e : d.key = some k) : v = kV k := by
  cases d with
  | int i => cases e; exact h.int
  | str i => cases e; exact h.str
  | _ => cases e
def rInD (neg : Bool) : R2 := fun x y H Q => ∃ a o, y = .ref a ∧ DGet H a x o ∧ Q (.bl (neg ^^ o.isSome)) H
theorem op_inD (hu : X.A.units + 1 < cLine) : OpR X (compareOp .In) (rInD false) := by
  intro pins s σ H x y v u Q I rx ry h
  obtain ⟨a, o, rfl, g, q⟩ := h
  cases (show u = Value.ref a from ry)
  exact d_in hu I g rx fun s' I' => ⟨.bl o.isSome, H, I', rfl, by simpa using q⟩
theorem op_notInD (hu : X.A.units + 1 < cLine) : OpR X (compareOp .NotIn) (rInD true) := by
  intro pins s σ H x y v u Q I rx ry h
  obtain ⟨a, o, rfl, g, q⟩ := h
  cases (show u = Value.ref a from ry)
  exact d_notIn hu I g rx fun s' I' => ⟨.bl (!o.isSome), H, I', rfl, by simpa using q⟩
def hasK {κ : Type} [DecidableEq κ] (ks : List κ) (k : κ) : Bool := ks.any fun j => decide (j = k)
theorem valV_zip {κ : Type} [DecidableEq κ] {k : κ} : ∀ {ks : List κ} {vs : List V}, ks.length = vs.length → (valV (ks.zip vs) k).isSome = hasK ks k
  | [], vs, _ => by cases vs <;> rfl
  | k0 :: ks, [], h => by cases h
  | k0 :: ks, v :: vs, h => by
    have ih := valV_zip (k := k) (ks := ks) (vs := vs) (by simpa using h)
    unfold hasK at ih ⊢
    rw [List.zip_cons_cons, List.any_cons]
    by_cases e : k0 = k
    · rw [valV_pos e]; simp [e]
    · rw [valV_neg e, ih]; simp [e]
def gInD (neg : Bool) : GS2 := fun x y R => match x.key, y with
  | some k, .nd (.dic ks) _ => R (.bl (neg ^^ hasK ks k))
  | _, _ => False
theorem op_gInD {neg : Bool} : OpS2 K (rInD neg) (gInD neg) := fun F H x y dx dy R Q s hx hy hg q => by
  unfold gInD at hg
  split at hg
  · rename_i k ks cs ek
    obtain ⟨a, vs, rfl, n, r⟩ := hy
    obtain ⟨n1, n2⟩ := n
    refine ⟨a, _, rfl, .inl ⟨ks.zip vs, k, n1, hx.key ek, rfl⟩, ?_⟩
    rw [valV_zip n2]
    exact q _ _ hg fun _ _ => by unfold Rep; rfl
  · exact hg.elim
theorem pv_inD (hu : X.A.units + 1 < cLine) (hK : B.K = X.K) (ha : PV X B a wa) (hb : PV X B b wb) (hm : behindInMarks .In b = false) : PV X B (.Compare a [.In] [b] pos) (wS (gInD false) wa wb) := ⟨pe_imp (pe_cmpR (op_inD hu) ha.pe hb.pe hm) fun _ _ _ => im_s op_gInD⟩
theorem dt_inD (hu : X.A.units + 1 < cLine) (hK : B.K = X.K) (ha : PV X B a wa) (hb : PV X B b wb) (hm : behindInMarks .In b = false) : DT X B (.Compare a [.In] [b] pos) (wET (wPE (wS (gInD false) wa wb))) := dt_ofP (pt_cmpR (op_inD hu) ha.pe hb.pe hm) (im_s op_gInD)
theorem pv_notInD (hu : X.A.units + 1 < cLine) (hK : B.K = X.K) (ha : PV X B a wa) (hb : PV X B b wb) (hm : behindInMarks .NotIn b = false) : PV X B (.Compare a [.NotIn] [b] pos) (wS (gInD true) wa wb) := ⟨pe_imp (pe_cmpR (op_notInD hu) ha.pe hb.pe hm) fun _ _ _ => im_s op_gInD⟩
theorem dt_notInD (hu : X.A.units + 1 < cLine) (hK : B.K = X.K) (ha : PV X B a wa) (hb : PV X B b wb) (hm : behindInMarks .NotIn b = false) : DT X B (.Compare a [.NotIn] [b] pos) (wET (wPE (wS (gInD true) wa wb))) := dt_ofP (pt_cmpR (op_notInD hu) ha.pe hb.pe hm) (im_s op_gInD)
/-! ### d[k] = v, d a name of a dict of one's own that holds data -/
def putKs (ks : List Key) (k : Key) : List Key := if hasK ks k then ks else ks ++ [k]
def putDs {α : Type} (ks : List Key) (ds : List α) (k : Key) (d : α) : List α := if hasK ks k then (ks.zip ds).map fun q => if q.1 = k then d else q.2 else ds ++ [d]
theorem zip_map_if {k : Key} {v : V} : ∀ {ks : List Key} {vs : List V}, ks.length = vs.length → ks.zip ((ks.zip vs).map fun q => if q.1 = k then v else q.2) = (ks.zip vs).map fun q => if q.1 = k then (q.1, v) else q
  | [], [], _ => rfl
  | [], _ :: _, h => by cases h
  | _ :: _, [], h => by cases h
  | k0 :: ks, v0 :: vs, h => by
    simp only [List.zip_cons_cons, List.map_cons]
    rw [zip_map_if (by simpa using h)]
    by_cases e : k0 = k <;> simp [e]
theorem putK_zip {ks : List Key} {vs : List V} {k : Key} {v : V} (l : ks.length = vs.length) : putK (ks.zip vs) k v = (putKs ks k).zip (putDs ks vs k v) ∧ (putKs ks k).length = (putDs ks vs k v).length := by
  have h1 := valV_any k (ks.zip vs)
  rw [valV_zip l] at h1
  unfold putK putKs putDs
  rw [h1]
  by_cases e : hasK ks k = true
  · rw [if_pos e, if_pos e, if_pos e]
    exact ⟨(zip_map_if l).symm, by simp [l]⟩
  · rw [if_neg e, if_neg e, if_neg e]
    exact ⟨by rw [List.zip_append l]; rfl, by simp [l]⟩
theorem RepL.putDs {F : Hp} {k : Key} {d : D} {v : V} (h : Rep K F d v) {ks : List Key} {ds : List D} {vs : List V} (l : ks.length = vs.length) (r : RepL K F ds vs) : RepL K F (putDs ks ds k d) (putDs ks vs k v) := by
  unfold DL.putDs
  split
  · have : ∀ (ks : List Key) (ds : List D) (vs : List V), ks.length = vs.length → RepL K F ds vs → RepL K F ((ks.zip ds).map fun q => if q.1 = k then d else q.2) ((ks.zip vs).map fun q => if q.1 = k then v else q.2) := by
      intro ks
      induction ks with
      | nil => intro ds vs l r; simp; exact RepL.nil
      | cons k0 ks ih =>
        intro ds vs l r
        cases ds with
        | nil => unfold RepL at r; subst r; cases l
        | cons d0 ds =>
          obtain ⟨v0, vs', rfl, h1, h2⟩ := r.cons_inv
          simp only [List.zip_cons_cons, List.map_cons]
          refine RepL.cons ?_ (ih ds vs' (by simpa using l) h2)
          split
          · exact h
          · exact h1
    exact this ks ds vs l r
  · exact r.append (RepL.cons h RepL.nil)
theorem SR.mutD {F H : Hp} {A : Addr → Prop} {env : Env'} {σ : L2.St} (S : SR B F H A env σ) {i : Nat} {ks : List Key} {cs : List OT} {ds : List D} {v : V} (e : env[i]? = some (.nd (.dic ks) cs)) (ec : OT.dsOf cs = some ds) (ev : σ[i]? = some (some v)) :
    ∃ a vs, v = .ref a ∧ H a = some (.dK (ks.zip vs)) ∧ ks.length = vs.length ∧ RepL B.K F ds vs ∧ ∀ ks' ds' vs', ks'.length = vs'.length → RepL B.K F ds' vs' →
      ∃ A', SR B F (L2.upd H a (.dK (ks'.zip vs'))) A' (env.set i (.nd (.dic ks') (ds'.map .fz))) σ ∧ Step F H A F (L2.upd H a (.dK (ks'.zip vs'))) A' := by
  obtain ⟨B1, Rr, o1, eA, d1, put⟩ := S.dig (C := Nobody) (π := []) e ev (show some _ = some _ from rfl) rfl (fun _ z => z.elim)
  have rl : ∃ a vs, v = .ref a ∧ NodeO H a vs (.dic ks) ∧ RepL B.K F ds vs := by
    rcases o1.view with z | z
    · cases z
    · unfold View at z
      obtain ⟨a', vs', ea, n', r⟩ := z
      exact ⟨a', vs', ea, n', RepL.ofView r ec⟩
  obtain ⟨a0, vs0, e0, n0, rl⟩ := rl
  unfold Own at o1
  obtain ⟨a, vs, Bc, ea, n, f, oc, na, eB⟩ := o1
  subst ea
  injection e0 with e0
  subst e0
  refine ⟨a, vs0, rfl, n0.1, n0.2, rl, fun ks' ds' vs' l' r' => ?_⟩
  have own' : Own B.K F (L2.upd H a (.dK (ks'.zip vs'))) (.nd (.dic ks') (ds'.map .fz)) (.ref a) (fun b => b = a) := by
    unfold Own
    exact ⟨a, vs', Nobody, rfl, ⟨upd_same, l'⟩, f, OwnL.fzs r', fun z => z, fun b => ⟨.inl, fun z => z.elim id fun z => z.elim⟩⟩
  have stp : Step F H (fun b => B1 b ∨ Nobody b) F (L2.upd H a (.dK (ks'.zip vs'))) (fun b => b = a) := by
    refine ⟨Same.refl F, fun b o eb nb => ?_, fun b h => .inl h, fun b h => .inl ?_⟩
    · rw [upd_ne (by rintro rfl; exact nb (.inl ((eB b).mpr (.inl rfl))))]; exact eb
    · subst h; exact .inl ((eB _).mpr (.inl rfl))
  have sub' : Same F (L2.upd H a (.dK (ks'.zip vs'))) := fun b o eb => by
    rw [upd_ne (by rintro rfl; rw [f] at eb; cases eb)]; exact S.sub b o eb
  obtain ⟨S', p'⟩ := put F _ (.nd (.dic ks') (ds'.map .fz)) _ stp sub' own' fun _ z => z.elim
  exact ⟨_, S', p'.from fun b z => z.elim (fun z => z) fun z => z.elim⟩
/-- d[k] = v -/
def wDPut (i : Nat) (wv : WE) (wk : WP) : WS := fun R env => wv env fun d e1 => match e1[i]? with
  | some (.nd (.dic ks) cs) => ks.length < sizeLine ∧ wk e1 fun z => match z.flat.bind D.key, OT.dsOf cs with
    | some k, some ds => R.nx (e1.set i (.nd (.dic (putKs ks k)) ((putDs ks ds k d).map .fz)))
    | _, _ => False
  | _ => False
theorem ds_dput {x : Str} {tpos : Pos} (hu : X.A.units + 1 < cLine) (hK : B.K = X.K) (i : Nat) (hv : DE X B e ea) (hb : PV X B b wb) (hN : X.N[i]? = some x := by rfl) (hvs : Vis X.env.scope x := by first | exact Or.inl rfl | exact Or.inr (Or.inl rfl) | exact Or.inr (Or.inr rfl)) (hd : (x == ("__debug__" : Str)) = false := by decide)
    (hcd : (x == ("__classdict__" : Str)) = false := by decide) (hs : swapsWith e (some (.Subscript (.Name x p) b tpos)) pos.line X.env = pure false := by rfl) :
    DS X B (.Assign [.Subscript (.Name x p) b tpos] e pos) (wDPut i ea wb) := ⟨ps_imp (ps_dput hu (pe_var hN hvs hd hcd) hb.pe hv.pe hs) fun D σ H ⟨F, A, env, R, S, hw, q, _⟩ => by
  refine ⟨F, A, env, _, S, hw, fun d e1 h1 F1 H1 A1 v S1 p1 rv => ?_⟩
  split at h1
  · rename_i ks cs ei
    obtain ⟨hl, h1⟩ := h1
    obtain ⟨y, ey, vy⟩ := S1.get ei (fun z => nomatch z)
    refine ⟨y, ey, F1, A1, e1, _, S1, h1, fun z h3 w vw => ?_⟩
    split at h3
    · rename_i k ds ek ec
      obtain ⟨fd, ef, ek⟩ := Option.bind_eq_some_iff.mp ek
      obtain ⟨l, vs, rfl, eH, ll, rl, put⟩ := S1.mutD ei ec ey
      have hw := (vw.rdD S1.sub ef).key ek
      subst hw
      obtain ⟨e2, l2⟩ := putK_zip (k := k) (v := v) ll
      obtain ⟨A2, S2, p2⟩ := put (putKs ks k) (putDs ks ds k d) (putDs ks vs k v) l2 (RepL.putDs rv ll rl)
      refine ⟨l, _, rfl, DPut.k eH (by rw [List.length_zip, ← ll, Nat.min_self]; exact hl), ?_⟩
      rw [e2]
      exact q _ h3 _ _ _ _ S2 (p1.trans p2)
    · exact h3.elim
  · exact h1.elim⟩
end
end DL

/-! what the program's and the laws' things are, as data -/
namespace Lw
open PySem PySem.Spec PyProof.Rows L2 DL
/-! ### small numbers -/
def Sm (n : Nat) (i : Int) : Prop := i.natAbs < 2 ^ n
theorem Sm.mono {n m : Nat} {i : Int} (h : Sm n i) (l : n ≤ m := by omega) : Sm m i := Nat.lt_of_lt_of_le h (Nat.pow_le_pow_right (by decide) l)
theorem Sm.mul {n m : Nat} {i j : Int} (h : Sm n i) (k : Sm m j) : Sm (n + m) (i * j) := by
  unfold Sm at *
  rw [Int.natAbs_mul, Nat.pow_add]
  exact Nat.mul_lt_mul'' h k
theorem Sm.add {n : Nat} {i j : Int} (h : Sm n i) (k : Sm n j) : Sm (n + 1) (i + j) := by
  unfold Sm at *
  rw [Nat.pow_succ]
  omega
theorem Sm.of {n : Nat} {i : Int} (h : -(2 ^ n : Nat) < i ∧ i < (2 ^ n : Nat)) : Sm n i := by unfold Sm; omega
theorem Sm.pow {n : Nat} {i : Int} (h : Sm n i) (k : Nat) (hk : 0 < k) : Sm (n * k) (i ^ k) := by
  unfold Sm at *
  rw [Int.natAbs_pow, Nat.pow_mul]
  exact Nat.pow_lt_pow_left h (by omega)
theorem Sm.log {n : Nat} {i : Int} (h : Sm n i) : i.natAbs.log2 ≤ n := by
  by_cases z : i.natAbs = 0
  · rw [z, Nat.log2_zero]; exact Nat.zero_le _
  · exact Nat.le_of_lt ((Nat.log2_lt z).mpr h)
theorem Sm.mulB {n m : Nat} {i j : Int} (h : Sm n i) (k : Sm m j) (l : n + m < 100000000 := by omega) : CMulB i j := by
  have := h.log; have := k.log
  unfold CMulB; omega
theorem Sm.divW {n : Nat} {i j : Int} (h : Sm n j) (p : 0 < j) (l : n < 9000 := by omega) : CDivW i j := by
  have := h.log
  unfold CDivW
  refine ⟨p, ?_⟩
  omega
theorem Sm.powB {n : Nat} {i j : Int} (h : Sm n i) (h0 : 0 ≤ j) (l : ((n : Int) + 1) * j ≤ 100000000) : CPowB i j := by
  have := h.log
  exact ⟨h0, Int.le_trans (Int.mul_le_mul_of_nonneg_right (by omega) h0) l⟩
/-! ### things -/
def fr (q : Int × Int) : D := .nd .tup [.int q.1, .int q.2]
def frs (ps : List (Int × Int)) : List D := ps.map fr
def planD (ps : List (Int × Int)) : D := .nd .lst (frs ps)
def planO (ps : List (Int × Int)) : OT := .nd .lst ((frs ps).map .fz)
def numsD (ns : List Int) : List D := ns.map .int
def optD : Option Int → D
  | none => .non
  | some n => .int n
theorem fr_inj {p q : Int × Int} (h : fr p = fr q) : p = q := by
  cases p; cases q
  unfold fr at h
  cases h; rfl
theorem frs_inj : ∀ {ps qs : List (Int × Int)}, frs ps = frs qs → ps = qs
  | [], [], _ => rfl
  | [], q :: qs, h => nomatch h
  | p :: ps, [], h => nomatch h
  | p :: ps, q :: qs, h => by
    unfold frs at h
    rw [List.map_cons, List.map_cons, List.cons.injEq] at h
    rw [fr_inj h.1, frs_inj h.2]
theorem planD_inj {ps qs : List (Int × Int)} (h : planD ps = planD qs) : ps = qs := by
  unfold planD at h
  exact frs_inj (D.nd.inj h).2
def FrOk (q : Int × Int) : Prop := (2 ≤ q.1 ∧ q.1 ≤ 400) ∧ 1 ≤ q.2 ∧ q.2 ≤ 20
def PlOk (ps : List (Int × Int)) : Prop := ps.length ≤ 8 ∧ ∀ q ∈ ps, FrOk q
def ApOk : Option Int → Prop
  | none => True
  | some n => 1 ≤ n ∧ n ≤ 10000
theorem frs_drop (ps : List (Int × Int)) (k : Nat) : frs (ps.drop k) = (frs ps).drop k := by unfold frs; rw [List.map_drop]
theorem frs_take (ps : List (Int × Int)) (k : Nat) : frs (ps.take k) = (frs ps).take k := by unfold frs; rw [List.map_take]
theorem frs_append (ps qs : List (Int × Int)) : frs (ps ++ qs) = frs ps ++ frs qs := by unfold frs; rw [List.map_append]
theorem frs_snoc (ps : List (Int × Int)) (q : Int × Int) : (frs ps).map OT.fz ++ [.fz (fr q)] = (frs (ps ++ [q])).map OT.fz := by
  unfold frs
  rw [List.map_append, List.map_append]; rfl
theorem frs_len (ps : List (Int × Int)) : (frs ps).length = ps.length := by unfold frs; rw [List.length_map]
/-! ### the shape of a thing -/
/-- of the kinds that a thing may be -/
def plainD : D → Bool
  | .non => true
  | .bl _ => true
  | .int _ => true
  | .str _ => true
  | .nd .lst _ => true
  | .nd .tup _ => true
  | .nd (.dic _) _ => true
  | _ => false
def kidsD : D → List D
  | .nd _ cs => cs
  | _ => []
def plain1 (d : D) : Bool := plainD d && (kidsD d).all plainD
def plain2 (d : D) : Bool := plainD d && (kidsD d).all plain1
theorem plain1_plain {d : D} (h : plain1 d = true) : plainD d = true := by unfold plain1 at h; exact (Bool.and_eq_true _ _ ▸ h).1
theorem plain2_plain {d : D} (h : plain2 d = true) : plainD d = true := by unfold plain2 at h; exact (Bool.and_eq_true _ _ ▸ h).1
theorem plain1_kid {d e : D} (h : plain1 d = true) (he : e ∈ kidsD d) : plainD e = true := by
  unfold plain1 at h
  rw [Bool.and_eq_true] at h
  exact List.all_eq_true.mp h.2 e he
theorem plain2_kid {d e : D} (h : plain2 d = true) (he : e ∈ kidsD d) : plain1 e = true := by
  unfold plain2 at h
  rw [Bool.and_eq_true] at h
  exact List.all_eq_true.mp h.2 e he
/-! ### steps -/
section
variable {g : WG} {we : WE} {wb w u : WS} {wt : WT} {R : WEnds} {env : Env'}
theorem cut (h : ∀ N : Env' → Prop, (∀ e, u R e → N e) → w { R with nx := N } env) : wSeq w u R env := h (u R) fun _ z => z
theorem ifS {t : WT} (h : ∀ W U : Env' → Prop, (∀ e, w R e → W e) → (∀ e, u R e → U e) → t env fun c e1 => if c = true then W e1 else U e1) : wIfS t w u R env := h (w R) (u R) (fun _ z => z) fun _ z => z
theorem ifT {p a b : Prop} [Decidable p] (h : p) (k : a) : if decide p = true then a else b := by rw [decide_eq_true h, if_pos rfl]; exact k
theorem ifF {p a b : Prop} [Decidable p] (h : ¬ p) (k : b) : if decide p = true then a else b := by rw [decide_eq_false h, if_neg Bool.false_ne_true]; exact k
theorem ifNT {p a b : Prop} [Decidable p] (h : p) (k : b) : if (!decide p) = true then a else b := by rw [decide_eq_true h, if_neg (by decide)]; exact k
theorem ifNF {p a b : Prop} [Decidable p] (h : ¬ p) (k : a) : if (!decide p) = true then a else b := by rw [decide_eq_false h, if_pos (by decide)]; exact k
/-- a comprehension without an if, whose item is f of the thing -/
theorem lc_pure {vs : List Nat} {Q : OT → Env' → Prop} (I : Env' → Prop) (f : D → D) : ∀ (ds acc : List D) (env : Env'), I env → (∀ d ∈ ds, ∀ env Q', I env → (∀ e', I (unAt e' vs) → Q' (f d) e') → g d env fun e1 => we e1 Q') → acc.length + ds.length ≤ sizeLine →
    (∀ e', I e' → Q (.nd .lst ((acc ++ ds.map f).map .fz)) e') → lcD vs g wYes we ds acc env Q
  | [], acc, env, hI, _, _, q => by
    unfold lcD
    have := q env hI
    rwa [List.map_nil, List.append_nil] at this
  | d :: ds, acc, env, hI, hs, hl, q => by
    unfold lcD
    rw [List.length_cons] at hl
    refine hs d List.mem_cons_self env _ hI fun e' h' => ?_
    refine ⟨by omega, lc_pure I f ds (acc ++ [f d]) _ h' (fun x hx => hs x (List.mem_cons_of_mem _ hx)) (by rw [List.length_append, List.length_singleton]; omega) fun e2 h2 => ?_⟩
    have := q e2 h2
    rwa [List.map_cons, List.append_cons] at this
/-- .. with an invariant of what is left and what was found -/
theorem lc_inv {vs : List Nat} {Q : OT → Env' → Prop} (I : List D → List D → Env' → Prop) (hs : ∀ d ds acc env (N : D → Env' → Prop), I (d :: ds) acc env → (∀ z e', I ds (acc ++ [z]) (unAt e' vs) → N z e') → g d env fun e1 => we e1 N) (he : ∀ acc e', I [] acc e' → Q (.nd .lst (acc.map .fz)) e') :
    ∀ (ds acc : List D) (env : Env'), I ds acc env → acc.length + ds.length ≤ sizeLine → lcD vs g wYes we ds acc env Q
  | [], acc, env, hI, _ => by unfold lcD; exact he acc env hI
  | d :: ds, acc, env, hI, hl => by
    unfold lcD
    rw [List.length_cons] at hl
    refine hs d ds acc env _ hI fun z e' h' => ⟨by omega, lc_inv I hs he ds (acc ++ [z]) _ h' (by rw [List.length_append, List.length_singleton]; omega)⟩
theorem for_inv (I : List D → Env' → Prop) (hs : ∀ d ds env (N : Env' → Prop), (∀ e, I ds e → N e) → I (d :: ds) env → g d env fun e1 => wb { R with nx := N, ct := N, bk := R.nx } e1) (he : ∀ env, I [] env → R.nx env) : ∀ (ds : List D) (env : Env'), I ds env → forD g wb R ds env
  | [], env, h => by unfold forD; exact he env h
  | d :: ds, env, h => by
    unfold forD
    exact hs d ds env _ (fun e h' => for_inv I hs he ds e h') h
theorem wh_inv (I : Nat → Env' → Prop) (hs : ∀ n env (N : Env' → Prop), (∀ m e, m < n → I m e → N e) → I n env → wt env fun c e1 => if c = true then wb { R with nx := N, ct := N, bk := R.nx } e1 else R.nx e1) : ∀ (k n : Nat) (env : Env'), n < k → I n env → whN wt wb R k env
  | 0, n, env, h, _ => by omega
  | k + 1, n, env, h, hI => by
    unfold whN
    exact hs n env _ (fun m e hm h' => wh_inv I hs k m e (by omega) h') hI
theorem while_inv (I : Nat → Env' → Prop) (n : Nat) (h : I n env) (hs : ∀ n env (N : Env' → Prop), (∀ m e, m < n → I m e → N e) → I n env → wt env fun c e1 => if c = true then wb { R with nx := N, ct := N, bk := R.nx } e1 else R.nx e1) : wWhile wt wb R env := ⟨n + 1, wh_inv I hs (n + 1) n env (Nat.lt_succ_self n) h⟩
end
/-! ### subscripts at given places -/
theorem ixN_nat {n k : Nat} (h : k < n) : ixN n (k : Int) = some k := by
  unfold ixN
  rw [if_pos (by omega), if_pos (by omega)]; rfl
theorem atI_nat {α : Type} {xs : List α} {k : Nat} {x : α} (h : xs[k]? = some x) : atI xs (k : Int) = some x := by
  unfold atI
  rw [ixN_nat (List.getElem?_eq_some_iff.mp h).1]
  exact h
theorem flat_nd' (k : NK) (cs : List OT) : (OT.nd k cs).flat = (OT.dsOf cs).map (D.nd k ·) := rfl
theorem dsOf_nil : OT.dsOf [] = some [] := rfl
theorem dsOf_cons (d : D) (cs : List OT) : OT.dsOf (.fz d :: cs) = (OT.dsOf cs).map (d :: ·) := rfl
theorem map_frz_fz (ds : List D) : (ds.map OT.fz).map OT.frz = ds := by
  rw [List.map_map]
  have : (OT.frz ∘ OT.fz) = id := funext fun d => OT.frz_fz d
  rw [this]; simp
theorem ixN30 : ixN 3 0 = some 0 := by decide
theorem ixN31 : ixN 3 1 = some 1 := by decide
theorem ixN32 : ixN 3 2 = some 2 := by decide
theorem at_nil (t : OT) : OT.at [] t = some t := by unfold OT.at; rfl
theorem put_nil (t u : OT) : OT.put [] t u = t := by unfold OT.put; rfl
theorem atP_nil (env : Env') (i : Nat) : atP env i [] = env[i]? := by
  unfold atP
  cases env[i]? with
  | none => rfl
  | some t => exact at_nil t
theorem putP_nil (env : Env') (i : Nat) (t : OT) : putP env i [] t = env.set i t := by unfold putP; rw [put_nil]
theorem ix_scr {ns : List Int} {k : Int} (h0 : 0 ≤ k) (h : k < ns.length) : ∃ c, OT.ix (.fz (.nd .scr (numsD ns))) (.fz (.int k)) = some (.fz (.int c)) := by
  obtain ⟨n, rfl⟩ := Int.eq_ofNat_of_zero_le h0
  have hn : n < ns.length := by omega
  refine ⟨ns[n], atI_nat (xs := (numsD ns).map OT.fz) ?_⟩
  unfold numsD
  rw [List.getElem?_map, List.getElem?_map, List.getElem?_eq_getElem hn]; rfl
theorem ixo0 (a : OT) (cs : List OT) : OT.ix (.nd .lst (a :: cs)) (.fz (.int 0)) = some a := atI_nat (xs := a :: cs) (k := 0) rfl
theorem ixo1 (a b : OT) (cs : List OT) : OT.ix (.nd .lst (a :: b :: cs)) (.fz (.int 1)) = some b := atI_nat (xs := a :: b :: cs) (k := 1) rfl
theorem ixo2 (a b c : OT) (cs : List OT) : OT.ix (.nd .lst (a :: b :: c :: cs)) (.fz (.int 2)) = some c := atI_nat (xs := a :: b :: c :: cs) (k := 2) rfl
theorem ixt0 (a : D) (cs : List D) : OT.ix (.fz (.nd .tup (a :: cs))) (.fz (.int 0)) = some (.fz a) := atI_nat (xs := (a :: cs).map OT.fz) (k := 0) rfl
theorem ixt1 (a b : D) (cs : List D) : OT.ix (.fz (.nd .tup (a :: b :: cs))) (.fz (.int 1)) = some (.fz b) := atI_nat (xs := (a :: b :: cs).map OT.fz) (k := 1) rfl
theorem ixl0 (a : D) (cs : List D) : OT.ix (.fz (.nd .lst (a :: cs))) (.fz (.int 0)) = some (.fz a) := atI_nat (xs := (a :: cs).map OT.fz) (k := 0) rfl
theorem ixl1 (a b : D) (cs : List D) : OT.ix (.fz (.nd .lst (a :: b :: cs))) (.fz (.int 1)) = some (.fz b) := atI_nat (xs := (a :: b :: cs).map OT.fz) (k := 1) rfl
end Lw

/-! == of data -/
namespace Lw
open PySem PySem.Spec PyProof.Rows L2 DL
def sh : Nat → D → Bool
  | _, .non => true
  | _, .bl _ => true
  | _, .int _ => true
  | _, .str x => PyData.strOk x
  | n + 1, .nd .lst cs => cs.all (sh n)
  | n + 1, .nd .tup cs => cs.all (sh n)
  | _, _ => false
theorem okL_all : ∀ cs : List D, (∀ c ∈ cs, c.ok = true) → D.okL cs = true
  | [], _ => by unfold D.okL; rfl
  | c :: cs, h => by
    unfold D.okL
    rw [h c List.mem_cons_self, okL_all cs fun x hx => h x (List.mem_cons_of_mem _ hx)]; rfl
theorem depthAll_le {n : Nat} : ∀ cs : List D, (∀ c ∈ cs, c.py.depth ≤ n) → PyData.depthAll (D.pyL cs) ≤ n
  | [], _ => by unfold D.pyL PyData.depthAll; exact Nat.zero_le _
  | c :: cs, h => by
    unfold D.pyL PyData.depthAll
    have h1 := h c List.mem_cons_self
    have h2 := depthAll_le cs fun x hx => h x (List.mem_cons_of_mem _ hx)
    omega
theorem sh_ok : ∀ (n : Nat) (d : D), sh n d = true → d.ok = true ∧ d.py.depth ≤ n
  | n, .non, _ => by unfold D.ok D.py PyData.depth; exact ⟨rfl, Nat.zero_le _⟩
  | n, .bl _, _ => by unfold D.ok D.py PyData.depth; exact ⟨rfl, Nat.zero_le _⟩
  | n, .int _, _ => by unfold D.ok D.py PyData.depth; exact ⟨rfl, Nat.zero_le _⟩
  | n, .str x, h => by unfold sh at h; unfold D.ok D.py PyData.depth; exact ⟨h, Nat.zero_le _⟩
  | n + 1, .nd .lst cs, h => by
    unfold sh at h
    have := fun c hc => sh_ok n c (List.all_eq_true.mp h c hc)
    unfold D.ok D.py PyData.depth
    exact ⟨okL_all cs fun c hc => (this c hc).1, by have := depthAll_le cs fun c hc => (this c hc).2; omega⟩
  | n + 1, .nd .tup cs, h => by
    unfold sh at h
    have := fun c hc => sh_ok n c (List.all_eq_true.mp h c hc)
    unfold D.ok D.py PyData.depth
    exact ⟨okL_all cs fun c hc => (this c hc).1, by have := depthAll_le cs fun c hc => (this c hc).2; omega⟩
  | 0, .nd k cs, h => by cases k <;> (unfold sh at h; cases h)
  | n + 1, .nd .scr cs, h => by unfold sh at h; cases h
  | n + 1, .nd (.dic _) cs, h => by unfold sh at h; cases h
  | n + 1, .nd (.dit _) cs, h => by unfold sh at h; cases h
  | n + 1, .nd (.ins _ _) cs, h => by unfold sh at h; cases h
  | n, .ty _, h => by cases n <;> (unfold sh at h; cases h)
  | n, .adr _, h => by cases n <;> (unfold sh at h; cases h)
theorem shaped_of {d : D} (n : Nat) (h : sh n d = true) (hn : n ≤ 64 := by decide) : d.shaped = true := by
  have := sh_ok n d h
  unfold D.shaped
  rw [this.1, decide_eq_true (by omega : d.py.depth ≤ 64)]; rfl
theorem shaped_int (i : Int) : (D.int i).shaped = true := shaped_of 0 rfl
theorem shaped_bl (b : Bool) : (D.bl b).shaped = true := shaped_of 0 rfl
theorem shaped_non : D.non.shaped = true := shaped_of 0 rfl
theorem shaped_lnil : (D.nd .lst []).shaped = true := shaped_of 1 rfl
theorem isNon_non : D.non.isNon = true := rfl
/-! the same without truths -/
def nb : Nat → D → Bool
  | _, .non => true
  | _, .int _ => true
  | _, .str x => PyData.strOk x
  | n + 1, .nd .lst cs => cs.all (nb n)
  | n + 1, .nd .tup cs => cs.all (nb n)
  | _, _ => false
theorem nb_sh : ∀ (n : Nat) (d : D), nb n d = true → sh n d = true
  | n, .non, _ => by unfold sh; rfl
  | n, .bl _, h => by cases n <;> (unfold nb at h; cases h)
  | n, .int _, _ => by unfold sh; rfl
  | n, .str x, h => by unfold nb at h; unfold sh; exact h
  | n + 1, .nd .lst cs, h => by
    unfold nb at h; unfold sh
    exact List.all_eq_true.mpr fun c hc => nb_sh n c (List.all_eq_true.mp h c hc)
  | n + 1, .nd .tup cs, h => by
    unfold nb at h; unfold sh
    exact List.all_eq_true.mpr fun c hc => nb_sh n c (List.all_eq_true.mp h c hc)
  | 0, .nd k cs, h => by cases k <;> (unfold nb at h; cases h)
  | n + 1, .nd .scr cs, h => by unfold nb at h; cases h
  | n + 1, .nd (.dic _) cs, h => by unfold nb at h; cases h
  | n + 1, .nd (.dit _) cs, h => by unfold nb at h; cases h
  | n + 1, .nd (.ins _ _) cs, h => by unfold nb at h; cases h
  | n, .ty _, h => by cases n <;> (unfold nb at h; cases h)
  | n, .adr _, h => by cases n <;> (unfold nb at h; cases h)
theorem shaped_nb {d : D} (n : Nat) (h : nb n d = true) (hn : n ≤ 64 := by decide) : d.shaped = true := shaped_of n (nb_sh n d h) hn
theorem eqv_int (i j : Int) : (D.int i).eqv (.int j) = decide (i = j) := by
  unfold D.eqv D.py PyData.eqv; rfl
theorem eqv_bl (i j : Bool) : (D.bl i).eqv (.bl j) = (i == j) := by
  unfold D.eqv D.py PyData.eqv; rfl
theorem eqv_refl {d : D} (h : d.ok = true) : d.eqv d = true := by
  unfold D.eqv
  exact PySem.SeqAt.eqv_refl d.py (D.canLay h)
theorem eqvL_cons (x y : D) (xs ys : List D) : D.eqvL (x :: xs) (y :: ys) = (x.eqv y && D.eqvL xs ys) := by
  rw [D.eqvL, D.pyL, D.pyL, PyData.eqvAll]; rfl
theorem eqv_lst (xs ys : List D) : (D.nd .lst xs).eqv (.nd .lst ys) = D.eqvL xs ys := by
  unfold D.eqv D.py PyData.eqv; rfl
theorem eqv_tup (xs ys : List D) : (D.nd .tup xs).eqv (.nd .tup ys) = D.eqvL xs ys := by
  unfold D.eqv D.py PyData.eqv; rfl
theorem eqvL_nil : D.eqvL [] [] = true := by unfold D.eqvL D.pyL PyData.eqvAll; rfl
theorem eqvL_cn (x : D) (xs : List D) : D.eqvL (x :: xs) [] = false := by unfold D.eqvL D.pyL PyData.eqvAll; rfl
theorem eqvL_nc (x : D) (xs : List D) : D.eqvL [] (x :: xs) = false := by unfold D.eqvL D.pyL PyData.eqvAll; rfl
theorem eqvL_eq {n : Nat} (ih : ∀ d e : D, nb n d = true → nb n e = true → d.eqv e = true → d = e) : ∀ xs ys : List D, xs.all (nb n) = true → ys.all (nb n) = true → D.eqvL xs ys = true → xs = ys
  | [], [], _, _, _ => rfl
  | [], y :: ys, _, _, h => by rw [eqvL_nc] at h; cases h
  | x :: xs, [], _, _, h => by rw [eqvL_cn] at h; cases h
  | x :: xs, y :: ys, hx, hy, h => by
    rw [List.all_cons, Bool.and_eq_true] at hx hy
    rw [eqvL_cons, Bool.and_eq_true] at h
    rw [ih x y hx.1 hy.1 h.1, eqvL_eq ih xs ys hx.2 hy.2 h.2]
theorem eqv_kind {k : NK} {cs : List D} {e : D} {n : Nat} (hk : k = .lst ∨ k = .tup) (he : nb (n + 1) e = true) (h : (D.nd k cs).eqv e = true) : ∃ cs', e = .nd k cs' := by
  rcases hk with rfl | rfl
  · cases e with
    | nd k' cs' => cases k' <;> first | exact ⟨_, rfl⟩ | (unfold D.eqv D.py PyData.eqv at h; cases h)
    | _ => unfold D.eqv D.py PyData.eqv at h; cases h
  · cases e with
    | nd k' cs' => cases k' <;> first | exact ⟨_, rfl⟩ | (unfold D.eqv D.py PyData.eqv at h; cases h)
    | _ => unfold D.eqv D.py PyData.eqv at h; cases h
theorem eqv_eq : ∀ (n : Nat) (d e : D), nb n d = true → nb n e = true → d.eqv e = true → d = e
  | 0, d, e, hd, he, h => by
    cases d with
    | nd k cs => cases k <;> (unfold nb at hd; cases hd)
    | bl b => unfold nb at hd; cases hd
    | ty _ => unfold nb at hd; cases hd
    | adr _ => unfold nb at hd; cases hd
    | non => cases e with
      | non => rfl
      | nd k cs => cases k <;> (unfold nb at he; cases he)
      | _ => unfold D.eqv D.py PyData.eqv at h; cases h
    | int i => cases e with
      | int j => rw [eqv_int] at h; rw [of_decide_eq_true h]
      | nd k cs => cases k <;> (unfold nb at he; cases he)
      | non => unfold D.eqv D.py PyData.eqv at h; cases h
      | str s => unfold D.eqv D.py PyData.eqv at h; cases h
      | bl b => unfold nb at he; cases he
      | ty t => unfold nb at he; cases he
      | adr a => unfold nb at he; cases he
    | str s => cases e with
      | str s' => unfold D.eqv D.py PyData.eqv at h; rw [eq_of_beq h]
      | nd k cs => cases k <;> (unfold nb at he; cases he)
      | non => unfold D.eqv D.py PyData.eqv at h; cases h
      | int s => unfold D.eqv D.py PyData.eqv at h; cases h
      | bl b => unfold nb at he; cases he
      | ty t => unfold nb at he; cases he
      | adr a => unfold nb at he; cases he
  | n + 1, d, e, hd, he, h => by
    cases d with
    | nd k cs =>
      cases k with
      | lst =>
        obtain ⟨cs', rfl⟩ := eqv_kind (.inl rfl) he h
        unfold nb at hd he
        rw [eqv_lst] at h
        rw [eqvL_eq (eqv_eq n) cs cs' hd he h]
      | tup =>
        obtain ⟨cs', rfl⟩ := eqv_kind (.inr rfl) he h
        unfold nb at hd he
        rw [eqv_tup] at h
        rw [eqvL_eq (eqv_eq n) cs cs' hd he h]
      | _ => unfold nb at hd; cases hd
    | bl b => unfold nb at hd; cases hd
    | ty _ => unfold nb at hd; cases hd
    | adr _ => unfold nb at hd; cases hd
    | non => cases e with
      | non => rfl
      | nd k cs => cases k <;> (unfold D.eqv D.py PyData.eqv at h; cases h)
      | _ => unfold D.eqv D.py PyData.eqv at h; cases h
    | int i => cases e with
      | int j => rw [eqv_int] at h; rw [of_decide_eq_true h]
      | nd k cs => cases k <;> (unfold D.eqv D.py PyData.eqv at h; cases h)
      | bl b => unfold nb at he; cases he
      | _ => unfold D.eqv D.py PyData.eqv at h; cases h
    | str s => cases e with
      | str s' => unfold D.eqv D.py PyData.eqv at h; rw [eq_of_beq h]
      | nd k cs => cases k <;> (unfold D.eqv D.py PyData.eqv at h; cases h)
      | _ => unfold D.eqv D.py PyData.eqv at h; cases h
theorem nb_ok {n : Nat} {d : D} (h : nb n d = true) : d.ok = true := (sh_ok n d (nb_sh n d h)).1
theorem eqv_iff {n : Nat} {d e : D} (hd : nb n d = true) (he : nb n e = true) : d.eqv e = true ↔ d = e := ⟨eqv_eq n d e hd he, fun h => h ▸ eqv_refl (nb_ok hd)⟩
theorem rangeD_zero (lo : Int) : rangeD lo 0 = [] := rfl
theorem rangeD_succ (lo : Int) (n : Nat) : rangeD lo (n + 1) = .int lo :: rangeD (lo + 1) n := by
  unfold rangeD
  rw [List.range_succ_eq_map, List.map_cons, List.map_map]
  congr 1
  · simp
  · refine List.map_congr_left fun i _ => ?_
    simp only [Function.comp, Nat.succ_eq_add_one]
    congr 1
    rw [Int.natCast_add]
    omega
theorem sIx_some {n d : Nat} {k : Int} (h0 : 0 ≤ k) : HT.sIx n d (some k) = min k.toNat n := by
  unfold HT.sIx
  simp only
  split <;> omega
theorem cutD_take {α : Type} (xs : List α) {k : Int} (h0 : 0 ≤ k) : DL.cutD xs none (some k) = xs.take k.toNat := by
  unfold DL.cutD
  rw [sIx_some h0, show HT.sIx xs.length 0 none = 0 from rfl, List.drop_zero, Nat.sub_zero]
  by_cases h : k.toNat ≤ xs.length
  · rw [Nat.min_eq_left h]
  · rw [Nat.min_eq_right (by omega), List.take_of_length_le (Nat.le_refl _), List.take_of_length_le (by omega)]
theorem cutD_drop {α : Type} (xs : List α) {k : Int} (h0 : 0 ≤ k) : DL.cutD xs (some k) none = xs.drop k.toNat := by
  unfold DL.cutD
  rw [sIx_some h0, show HT.sIx xs.length xs.length none = xs.length from rfl]
  by_cases h : k.toNat ≤ xs.length
  · rw [Nat.min_eq_left h, List.take_of_length_le (by rw [List.length_drop]; exact Nat.le_refl _)]
  · rw [Nat.min_eq_right (by omega), Nat.sub_self, List.take_zero, List.drop_eq_nil_of_le (by omega)]
theorem nb_numsD (ns : List Int) : nb 1 (.nd .lst (numsD ns)) = true := by
  unfold nb numsD
  exact List.all_eq_true.mpr fun x hx => by obtain ⟨i, _, rfl⟩ := List.mem_map.mp hx; rfl
theorem nb_fr (n : Nat) (q : Int × Int) : nb (n + 1) (fr q) = true := by
  unfold fr nb
  rw [List.all_cons, List.all_cons, List.all_nil]
  cases n <;> (unfold nb; rfl)
theorem nb_planD (ps : List (Int × Int)) : nb 2 (planD ps) = true := by
  unfold planD frs nb
  exact List.all_eq_true.mpr fun x hx => by obtain ⟨i, _, rfl⟩ := List.mem_map.mp hx; exact nb_fr 0 i
end Lw

/-! shares of plans -/
namespace Lw
open PySem PySem.Spec PyProof.Rows L2 DL
/-- the greatest length -/
def longI (ps : List (Int × Int)) : Int := maxI 0 (ps.map (·.2))
theorem maxI_pos {n : Int} (h : 0 ≤ n) (ns : List Int) : maxI 0 (n :: ns) = maxI n ns := by
  unfold maxI
  rw [List.foldl_cons, Int.max_eq_right h]
/-- top and bottom of a sum of shares -/
def topG : List (Int × Int) → Int → Int → Int × Int
  | [], t, b => (t, b)
  | f :: fs, t, b => topG fs (t * f.2 + f.1 * b) (b * f.2)
def fracs (ps : List (Int × Int)) (ap : Option Int) (re : Int) : List (Int × Int) := ps.map (fun q => (q.2, q.1)) ++ (match ap with
  | none => []
  | some a => [(re + longI ps, a)])
def shareI (ps : List (Int × Int)) (ap : Option Int) (re : Int) : Int × Int := topG (fracs ps ap re) 0 1
def FcOk (f : Int × Int) : Prop := 0 ≤ f.1 ∧ f.1 ≤ 10000 ∧ 1 ≤ f.2 ∧ f.2 ≤ 10000
theorem longI_le {ps : List (Int × Int)} (h : ∀ q ∈ ps, FrOk q) : 0 ≤ longI ps ∧ longI ps ≤ 20 := by
  have key : ∀ (ns : List Int) (m : Int), (∀ n ∈ ns, n ≤ 20) → 0 ≤ m → m ≤ 20 → 0 ≤ maxI m ns ∧ maxI m ns ≤ 20 := by
    intro ns
    induction ns with
    | nil => intro m _ h0 h1; exact ⟨h0, h1⟩
    | cons n ns ih =>
      intro m hn h0 h1
      have := hn n List.mem_cons_self
      exact ih (max m n) (fun x hx => hn x (List.mem_cons_of_mem _ hx)) (by omega) (by omega)
  exact key _ 0 (fun n hn => by obtain ⟨q, hq, rfl⟩ := List.mem_map.mp hn; exact (h q hq).2.2) (by omega) (by omega)
theorem fracs_ok {ps : List (Int × Int)} {ap : Option Int} {re : Int} (h : PlOk ps) (ha : ApOk ap) (hr : 0 ≤ re ∧ re ≤ 9) : (fracs ps ap re).length ≤ 9 ∧ ∀ f ∈ fracs ps ap re, FcOk f := by
  have hl := longI_le h.2
  refine ⟨?_, fun f hf => ?_⟩
  · unfold fracs
    rw [List.length_append, List.length_map]
    have := h.1
    cases ap with
    | none => simp only [List.length_nil]; omega
    | some a => simp only [List.length_cons, List.length_nil]; omega
  · unfold fracs at hf
    rcases List.mem_append.mp hf with hf | hf
    · obtain ⟨q, hq, rfl⟩ := List.mem_map.mp hf
      have := h.2 q hq
      unfold FrOk at this
      unfold FcOk
      dsimp only
      omega
    · cases ap with
      | none => cases hf
      | some a =>
        rw [List.mem_singleton] at hf
        subst hf
        unfold ApOk at ha
        unfold FcOk
        dsimp only
        omega
theorem topG_ok : ∀ {fs : List (Int × Int)} {t b : Int} {n : Nat}, (∀ f ∈ fs, FcOk f) → 0 ≤ t → 0 < b → Sm n t → Sm n b → 0 ≤ (topG fs t b).1 ∧ 0 < (topG fs t b).2 ∧ Sm (n + 15 * fs.length) (topG fs t b).1 ∧ Sm (n + 15 * fs.length) (topG fs t b).2
  | [], t, b, n, _, h0, h1, h2, h3 => ⟨h0, h1, h2, h3⟩
  | f :: fs, t, b, n, hf, h0, h1, h2, h3 => by
    obtain ⟨f1, f2, f3, f4⟩ := hf f List.mem_cons_self
    have s1 : Sm 14 f.1 := Sm.of (by omega)
    have s2 : Sm 14 f.2 := Sm.of (by omega)
    have := topG_ok (fs := fs) (n := n + 15) (fun x hx => hf x (List.mem_cons_of_mem _ hx)) (t := t * f.2 + f.1 * b) (b := b * f.2) (Int.add_nonneg (Int.mul_nonneg h0 (by omega)) (Int.mul_nonneg f1 (by omega))) (Int.mul_pos h1 (by omega)) ((h2.mul s2).add ((s1.mul h3).mono)) ((h3.mul s2).mono)
    rw [show n + 15 * (f :: fs).length = n + 15 + 15 * fs.length by rw [List.length_cons]; omega]
    exact this
theorem shareI_ok {ps : List (Int × Int)} {ap : Option Int} {re : Int} (h : PlOk ps) (ha : ApOk ap) (hr : 0 ≤ re ∧ re ≤ 9) : 0 ≤ (shareI ps ap re).1 ∧ 0 < (shareI ps ap re).2 ∧ Sm 136 (shareI ps ap re).1 ∧ Sm 136 (shareI ps ap re).2 := by
  obtain ⟨l, ok⟩ := fracs_ok h ha hr
  obtain ⟨h1, h2, h3, h4⟩ := topG_ok (n := 1) ok (Int.le_refl 0) Int.one_pos (Sm.of (by omega)) (Sm.of (by omega))
  exact ⟨h1, h2, h3.mono, h4.mono⟩
def prodI : List (Int × Int) → Int
  | [] => 1
  | f :: fs => f.2 * prodI fs
def sumI : List (Int × Int) → Int
  | [] => 0
  | f :: fs => f.1 * prodI fs + f.2 * sumI fs
theorem topG_eq : ∀ (fs : List (Int × Int)) (t b : Int), topG fs t b = (t * prodI fs + b * sumI fs, b * prodI fs)
  | [], t, b => by simp [topG, prodI, sumI]
  | f :: fs, t, b => by
    rw [topG, topG_eq fs, prodI, sumI]
    refine Prod.ext ?_ ?_ <;> dsimp only <;> grind
theorem shareI_eq (ps : List (Int × Int)) (ap : Option Int) (re : Int) : shareI ps ap re = (sumI (fracs ps ap re), prodI (fracs ps ap re)) := by
  unfold shareI
  rw [topG_eq]
  simp
theorem sum_parts : ∀ (fs : List (Int × Int)) (c : Int), (∀ f ∈ fs, FcOk f) → (fs.map fun f => f.1 * (c * prodI fs / f.2)).sum = c * sumI fs := by
  have key : ∀ (fs : List (Int × Int)) (c m : Int), (∀ f ∈ fs, FcOk f) → m = c * prodI fs → (fs.map fun f => f.1 * (m / f.2)).sum = c * sumI fs := by
    intro fs
    induction fs with
    | nil => intro c m _ _; simp [sumI]
    | cons f fs ih =>
      intro c m hf hm
      have f2 := (hf f List.mem_cons_self).2.2.1
      rw [prodI] at hm
      rw [List.map_cons, List.sum_cons, ih (c * f.2) m (fun x hx => hf x (List.mem_cons_of_mem _ hx)) (by rw [hm, Int.mul_assoc]), sumI]
      have : m / f.2 = c * prodI fs := by
        rw [hm, ← Int.mul_assoc, Int.mul_comm c f.2, Int.mul_assoc, Int.mul_ediv_cancel_left _ (by omega)]
      rw [this]
      grind
  exact fun fs c hf => key fs c _ hf rfl
theorem shareI_none (ps : List (Int × Int)) (r r' : Int) : shareI ps none r = shareI ps none r' := rfl
def swp (q : Int × Int) : Int × Int := (q.2, q.1)
theorem prodI_Sm : ∀ {fs : List (Int × Int)}, (∀ f ∈ fs, FcOk f) → 0 < prodI fs ∧ Sm (1 + 14 * fs.length) (prodI fs)
  | [], _ => ⟨Int.one_pos, (show (1 : Int).natAbs < 2 ^ (1 + 14 * 0) from by decide)⟩
  | f :: fs, h => by
    obtain ⟨f1, f2, f3, f4⟩ := h f List.mem_cons_self
    obtain ⟨i1, i2⟩ := prodI_Sm (fs := fs) fun x hx => h x (List.mem_cons_of_mem _ hx)
    have s2 : Sm 14 f.2 := Sm.of (by omega)
    rw [prodI, List.length_cons]
    exact ⟨Int.mul_pos (by omega) i1, (s2.mul i2).mono⟩
theorem swp_ok {q : Int × Int} (h : FrOk q) : FcOk (swp q) := by
  unfold FrOk at h
  unfold FcOk swp
  dsimp only
  omega
theorem shareI_swp (ps : List (Int × Int)) (re : Int) : shareI ps none re = (sumI (ps.map swp), prodI (ps.map swp)) := by
  rw [shareI_eq]
  unfold fracs
  rw [List.append_nil]; rfl
theorem maxI_le_start (ns : List Int) : ∀ m : Int, m ≤ maxI m ns := by
  induction ns with
  | nil => exact fun m => Int.le_refl m
  | cons n ns ih =>
    intro m
    exact Int.le_trans (by omega : m ≤ max m n) (ih (max m n))
theorem maxI_ge {n : Int} : ∀ {ns : List Int} (m : Int), n ∈ ns → n ≤ maxI m ns
  | k :: ns, m, h => by
    rcases List.mem_cons.mp h with rfl | h
    · exact Int.le_trans (by omega : n ≤ max m n) (maxI_le_start ns (max m n))
    · exact maxI_ge (max m k) h
theorem longI_20 {ps : List (Int × Int)} (h : ∀ q ∈ ps, FrOk q) (k : Int × Int) (hk : k ∈ ps) (k2 : k.2 = 20) : longI ps = 20 := by
  have h1 := longI_le h
  have h2 : k.2 ≤ longI ps := maxI_ge 0 (List.mem_map.mpr ⟨k, hk, rfl⟩)
  omega
theorem shareI_some (ps : List (Int × Int)) (a re : Int) : shareI ps (some a) re = (sumI ((ps ++ [(a, re + longI ps)]).map swp), prodI ((ps ++ [(a, re + longI ps)]).map swp)) := by
  rw [shareI_eq]
  unfold fracs
  rw [List.map_append]; rfl
theorem eqv_frs_nil (ps : List (Int × Int)) : (D.nd .lst (frs ps)).eqv (.nd .lst []) = decide (ps = []) := by
  rw [eqv_lst]
  cases ps with
  | nil => rfl
  | cons q ps =>
    unfold frs
    rw [List.map_cons, eqvL_cn]; rfl
theorem shaped_frs (ps : List (Int × Int)) : (D.nd .lst (frs ps)).shaped = true := shaped_nb 2 (nb_planD ps)
end Lw

/-! climbing to a least number that keeps a row -/
namespace Lw
open PySem PySem.Spec PyProof.Rows L2 DL
def climb : Nat → (Int → Int) → Int → Int
  | 0, _, s => s
  | n + 1, f, s => if f s ≤ s then s else climb n f (f s)
theorem least_nat (p : Nat → Prop) [DecidablePred p] : ∀ n, p n → ∃ k, k ≤ n ∧ p k ∧ ∀ j, j < k → ¬ p j
  | 0, h => ⟨0, Nat.le_refl 0, h, fun j hj => by omega⟩
  | n + 1, h => by
    by_cases q : ∃ k, k ≤ n ∧ p k
    · obtain ⟨k, hk, pk⟩ := q
      obtain ⟨j, hj, pj, mj⟩ := least_nat p k pk
      exact ⟨j, by omega, pj, mj⟩
    · exact ⟨n + 1, Nat.le_refl _, h, fun j hj pj => q ⟨j, by omega, pj⟩⟩
termination_by n => n
decreasing_by omega
section
variable {f : Int → Int} {K s0 M : Int}
theorem climb_near (mono : ∀ x y, s0 ≤ x → x ≤ y → f x ≤ f y) (hM : f M ≤ M) (hmin : ∀ m, s0 ≤ m → m < M → m < f m) : ∀ (n : Nat) (s : Int), s0 ≤ s → s ≤ M → M - s ≤ n → climb n f s = M
  | 0, s, h0, h1, h2 => by unfold climb; omega
  | n + 1, s, h0, h1, h2 => by
    unfold climb
    by_cases e : s = M
    · subst e
      rw [if_pos hM]
    · have lt := hmin s h0 (by omega)
      have le := mono s M h0 h1
      rw [if_neg (by omega)]
      exact climb_near mono hM hmin n (f s) (by omega) (by omega) (by omega)
theorem climb_far (mono : ∀ x y, s0 ≤ x → x ≤ y → f x ≤ f y) (hM : f M ≤ M) (hMf : s0 < M → f M = M) (hmin : ∀ m, s0 ≤ m → m < M → m < f m) (contr : ∀ x y, s0 ≤ x → x ≤ y → 10 * (f y - f x) ≤ 9 * (y - x) + 10 * K) (hK : 0 ≤ K) :
    ∀ (n : Nat) (s : Int), s0 ≤ s → s ≤ M → 9 ^ n * (M - s - 10 * K) < 10 ^ n → climb (n + (10 * K).toNat) f s = M
  | 0, s, h0, h1, h2 => by
    rw [Nat.zero_add]
    exact climb_near mono hM hmin _ s h0 h1 (by simp at h2; omega)
  | n + 1, s, h0, h1, h2 => by
    rw [show n + 1 + (10 * K).toNat = (n + (10 * K).toNat) + 1 by omega]
    unfold climb
    by_cases e : s = M
    · subst e
      rw [if_pos hM]
    · have lt := hmin s h0 (by omega)
      have le := mono s M h0 h1
      have c := contr s M h0 h1
      rw [hMf (by omega)] at c
      rw [if_neg (by omega)]
      refine climb_far mono hM hMf hmin contr hK n (f s) (by omega) (by omega) ?_
      have c2 : 10 * (M - f s - 10 * K) ≤ 9 * (M - s - 10 * K) := by omega
      have p9 : (0 : Int) ≤ 9 ^ n := Int.pow_nonneg (by decide)
      have c3 := Int.mul_le_mul_of_nonneg_left c2 p9
      rw [Int.pow_succ, Int.pow_succ] at h2
      have e1 : (9 : Int) ^ n * (10 * (M - f s - 10 * K)) = 10 * (9 ^ n * (M - f s - 10 * K)) := by grind
      have e2 : (9 : Int) ^ n * (9 * (M - s - 10 * K)) = 9 ^ n * 9 * (M - s - 10 * K) := by grind
      omega
/-- the least number from s0 on that keeps the row, and that it is reached -/
theorem climb_ok (mono : ∀ x y, s0 ≤ x → x ≤ y → f x ≤ f y) (contr : ∀ x y, s0 ≤ x → x ≤ y → 10 * (f y - f x) ≤ 9 * (y - x) + 10 * K) (hK : 0 ≤ K ∧ K ≤ 250) (h0 : f s0 - s0 ≤ 10 ^ 6) :
    ∃ M, s0 ≤ M ∧ f M ≤ M ∧ (∀ m, s0 ≤ m → m < M → m < f m) ∧ M - s0 ≤ 10 * max 0 (f s0 - s0) + 10 * K ∧ ∀ n, 3000 ≤ n → climb n f s0 = M := by
  have big : f (s0 + (10 * max 0 (f s0 - s0) + 10 * K)) ≤ s0 + (10 * max 0 (f s0 - s0) + 10 * K) := by
    have := contr s0 (s0 + (10 * max 0 (f s0 - s0) + 10 * K)) (by omega) (by omega)
    omega
  obtain ⟨k, hk, pk, mk⟩ := least_nat (fun n => f (s0 + n) ≤ s0 + n) (10 * max 0 (f s0 - s0) + 10 * K).toNat (by
    show f (s0 + ((10 * max 0 (f s0 - s0) + 10 * K).toNat : Int)) ≤ _
    rw [Int.toNat_of_nonneg (by omega)]
    exact big)
  have hmin : ∀ m, s0 ≤ m → m < s0 + k → m < f m := fun m h1 h2 => by
    have := mk (m - s0).toNat (by omega)
    rw [show s0 + ((m - s0).toNat : Int) = m by omega] at this
    omega
  have hMf : s0 < s0 + (k : Int) → f (s0 + k) = s0 + k := fun h => by
    have a := hmin (s0 + k - 1) (by omega) (by omega)
    have b := mono (s0 + k - 1) (s0 + k) (by omega) (by omega)
    omega
  refine ⟨s0 + k, by omega, pk, hmin, by omega, fun n hn => ?_⟩
  have far : ∀ n : Nat, 200 ≤ n → climb (n + (10 * K).toNat) f s0 = s0 + k := fun n hn => by
    refine climb_far mono pk hMf hmin contr hK.1 n s0 (Int.le_refl _) (by omega) ?_
    have hd : s0 + k - s0 - 10 * K ≤ 10 ^ 8 := by omega
    have p9 : (0 : Int) ≤ 9 ^ n := Int.pow_nonneg (by decide)
    refine Int.lt_of_le_of_lt (Int.mul_le_mul_of_nonneg_left hd p9) ?_
    obtain ⟨m, rfl⟩ := Nat.exists_eq_add_of_le hn
    rw [Int.pow_add, Int.pow_add]
    have q1 : (9 : Int) ^ 200 * 10 ^ 8 < 10 ^ 200 := by decide +kernel
    have q2 : ∀ m : Nat, (9 : Int) ^ m ≤ 10 ^ m ∧ 0 < (10 : Int) ^ m := by
      intro m
      induction m with
      | zero => exact ⟨Int.le_refl _, by decide⟩
      | succ m ih =>
        rw [Int.pow_succ, Int.pow_succ]
        have : (0 : Int) ≤ 9 ^ m := Int.pow_nonneg (by decide)
        omega
    have q3 := q2 m
    have q4 : (0 : Int) ≤ 9 ^ 200 * 10 ^ 8 := by decide +kernel
    have r1 := Int.mul_le_mul_of_nonneg_left q3.1 q4
    have r2 := Int.mul_lt_mul_of_pos_right q1 q3.2
    have e1 : (9 : Int) ^ 200 * 9 ^ m * 10 ^ 8 = 9 ^ 200 * 10 ^ 8 * 9 ^ m := by
      rw [Int.mul_assoc, Int.mul_comm ((9 : Int) ^ m), ← Int.mul_assoc]
    rw [e1]
    exact Int.lt_of_le_of_lt r1 r2
  have := far (n - (10 * K).toNat) (by omega)
  rwa [Nat.sub_add_cancel (by omega)] at this
end
end Lw

/-! what is asked of begins and busy times of a plan -/
namespace Lw
open PySem PySem.Spec PyProof.Rows L2 DL
def stepsI : List ((Int × Int) × Int) → Int → Int
  | [], _ => 0
  | e :: es, s => e.1.2 * ((s + e.2) / e.1.1 + 1) + stepsI es s
def costs : List ((Int × Int) × Int) → Int
  | [] => 0
  | e :: es => e.1.2 + costs es
def fcs (es : List ((Int × Int) × Int)) : List (Int × Int) := es.map fun e => swp e.1
def EsOk (es : List ((Int × Int) × Int)) : Prop := ∀ e ∈ es, 1 ≤ e.1.1 ∧ 0 ≤ e.1.2
theorem prodI_pos : ∀ {fs : List (Int × Int)}, (∀ f ∈ fs, 1 ≤ f.2) → 0 < prodI fs
  | [], _ => by unfold prodI; decide
  | f :: fs, h => by
    have h1 := h f List.mem_cons_self
    rw [prodI]
    exact Int.mul_pos (by omega) (prodI_pos fun x hx => h x (List.mem_cons_of_mem _ hx))
theorem sumI_nonneg : ∀ {fs : List (Int × Int)}, (∀ f ∈ fs, 0 ≤ f.1 ∧ 1 ≤ f.2) → 0 ≤ sumI fs
  | [], _ => by unfold sumI; decide
  | f :: fs, h => by
    have h1 := h f List.mem_cons_self
    have h2 := sumI_nonneg (fs := fs) fun x hx => h x (List.mem_cons_of_mem _ hx)
    have h3 := prodI_pos (fs := fs) fun x hx => (h x (List.mem_cons_of_mem _ hx)).2
    rw [sumI]
    exact Int.add_nonneg (Int.mul_nonneg h1.1 (by omega)) (Int.mul_nonneg (by omega) h2)
theorem fcs_pos {es : List ((Int × Int) × Int)} (h : EsOk es) : ∀ f ∈ fcs es, 0 ≤ f.1 ∧ 1 ≤ f.2 := fun f hf => by
  obtain ⟨e, he, rfl⟩ := List.mem_map.mp hf
  have := h e he
  unfold swp
  exact ⟨this.2, this.1⟩
theorem steps_mono : ∀ {es : List ((Int × Int) × Int)} {x y : Int}, EsOk es → x ≤ y → stepsI es x ≤ stepsI es y
  | [], _, _, _, _ => Int.le_refl _
  | e :: es, x, y, h, l => by
    have h1 := h e List.mem_cons_self
    have h2 := steps_mono (es := es) (fun z hz => h z (List.mem_cons_of_mem _ hz)) l
    have h3 : (x + e.2) / e.1.1 ≤ (y + e.2) / e.1.1 := Int.ediv_le_ediv (by omega) (by omega)
    have h4 := Int.mul_le_mul_of_nonneg_left (by omega : (x + e.2) / e.1.1 + 1 ≤ (y + e.2) / e.1.1 + 1) h1.2
    rw [stepsI, stepsI]
    omega
theorem div_gap {x y T : Int} (hT : 1 ≤ T) : T * (y / T - x / T) ≤ (y - x) + T := by
  have a := Int.emod_add_mul_ediv x T
  have b := Int.emod_add_mul_ediv y T
  have c := Int.emod_lt_of_pos x (by omega : 0 < T)
  have d := Int.emod_nonneg y (by omega : T ≠ 0)
  rw [Int.mul_sub]
  omega
theorem steps_contr : ∀ {es : List ((Int × Int) × Int)} {x y : Int}, EsOk es → x ≤ y → prodI (fcs es) * (stepsI es y - stepsI es x) ≤ (y - x) * sumI (fcs es) + prodI (fcs es) * costs es
  | [], x, y, _, _ => by simp [stepsI, fcs, sumI, prodI, costs]
  | e :: es, x, y, h, l => by
    have h1 := h e List.mem_cons_self
    have hr : EsOk es := fun z hz => h z (List.mem_cons_of_mem _ hz)
    have ih := steps_contr hr l
    have pp := prodI_pos fun f hf => (fcs_pos hr f hf).2
    have g := div_gap (x := x + e.2) (y := y + e.2) h1.1
    rw [show y + e.2 - (x + e.2) = y - x by omega] at g
    show prodI (swp e.1 :: fcs es) * _ ≤ (y - x) * sumI (swp e.1 :: fcs es) + prodI (swp e.1 :: fcs es) * _
    rw [prodI, sumI, stepsI, stepsI, costs]
    show e.1.1 * prodI (fcs es) * _ ≤ (y - x) * (e.1.2 * prodI (fcs es) + e.1.1 * sumI (fcs es)) + e.1.1 * prodI (fcs es) * _
    generalize (y + e.2) / e.1.1 = dy at g ⊢
    generalize (x + e.2) / e.1.1 = dx at g ⊢
    generalize prodI (fcs es) = B at ih pp ⊢
    generalize sumI (fcs es) = S at ih ⊢
    generalize stepsI es y = sy at ih ⊢
    generalize stepsI es x = sx at ih ⊢
    generalize costs es = k at ih ⊢
    generalize e.1.2 = C at h1 ⊢
    generalize e.1.1 = T at h1 g ⊢
    have g1 := Int.mul_le_mul_of_nonneg_left g (Int.mul_nonneg (by omega : 0 ≤ B) h1.2)
    have g2 := Int.mul_le_mul_of_nonneg_left ih (by omega : 0 ≤ T)
    have e1 : T * B * (C * (dy + 1) + sy - (C * (dx + 1) + sx)) = B * C * (T * (dy - dx)) + T * (B * (sy - sx)) := by grind
    have e2 : (y - x) * (C * B + T * S) + T * B * (C + k) = B * C * (y - x + T) + T * ((y - x) * S + B * k) := by grind
    rw [e1, e2]
    exact Int.add_le_add g1 g2
def Loose (fs : List (Int × Int)) : Prop := 10 * sumI fs ≤ 9 * prodI fs
theorem prodI_append : ∀ as bs : List (Int × Int), prodI (as ++ bs) = prodI as * prodI bs
  | [], bs => by rw [List.nil_append, prodI, Int.one_mul]
  | a :: as, bs => by rw [List.cons_append, prodI, prodI, prodI_append as bs, Int.mul_assoc]
theorem sumI_append : ∀ as bs : List (Int × Int), sumI (as ++ bs) = sumI as * prodI bs + prodI as * sumI bs
  | [], bs => by rw [List.nil_append, sumI, prodI]; grind
  | a :: as, bs => by
    rw [List.cons_append, sumI, sumI, prodI, prodI_append as bs, sumI_append as bs]
    grind
theorem Loose.sub {as bs cs : List (Int × Int)} (ha : ∀ f ∈ as, 0 ≤ f.1 ∧ 1 ≤ f.2) (hb : ∀ f ∈ bs, 0 ≤ f.1 ∧ 1 ≤ f.2) (hc : ∀ f ∈ cs, 0 ≤ f.1 ∧ 1 ≤ f.2) (h : Loose (as ++ bs ++ cs)) : Loose (as ++ cs) := by
  unfold Loose at *
  rw [sumI_append, sumI_append, prodI_append (as ++ bs) cs, prodI_append as bs] at h
  rw [sumI_append, prodI_append]
  have pa := prodI_pos fun f hf => (ha f hf).2
  have pb := prodI_pos fun f hf => (hb f hf).2
  have pc := prodI_pos fun f hf => (hc f hf).2
  have sb := sumI_nonneg hb
  generalize prodI as = A at *
  generalize prodI bs = B at *
  generalize prodI cs = C at *
  generalize sumI as = a at *
  generalize sumI bs = b at *
  generalize sumI cs = c at *
  have n1 : 0 ≤ A * b * C := Int.mul_nonneg (Int.mul_nonneg (by omega) sb) (by omega)
  have e1 : 10 * ((a * B + A * b) * C + A * B * c) = B * (10 * (a * C + A * c)) + 10 * (A * b * C) := by grind
  have e2 : 9 * (A * B * C) = B * (9 * (A * C)) := by grind
  rw [e1, e2] at h
  exact Int.le_of_mul_le_mul_left (by omega : B * (10 * (a * C + A * c)) ≤ B * (9 * (A * C))) pb
theorem steps_loose {es : List ((Int × Int) × Int)} (h : EsOk es) (l : Loose (fcs es)) (x y : Int) (le : x ≤ y) : 10 * (stepsI es y - stepsI es x) ≤ 9 * (y - x) + 10 * costs es := by
  have c := steps_contr h le
  have pp := prodI_pos fun f hf => (fcs_pos h f hf).2
  unfold Loose at l
  generalize prodI (fcs es) = B at *
  generalize sumI (fcs es) = S at *
  have l2 := Int.mul_le_mul_of_nonneg_left l (by omega : 0 ≤ y - x)
  have e1 : B * (10 * (stepsI es y - stepsI es x)) = 10 * (B * (stepsI es y - stepsI es x)) := by grind
  have e2 : B * (9 * (y - x) + 10 * costs es) = (y - x) * (9 * B) + 10 * (B * costs es) := by grind
  have e3 : (y - x) * (10 * S) = 10 * ((y - x) * S) := by grind
  refine Int.le_of_mul_le_mul_left ?_ pp
  rw [e1, e2]
  omega
/-! ### of a plan -/
def moreI (ps : List (Int × Int)) (re : Int) : Int := re + longI ps
def lostI (ps : List (Int × Int)) (ap : Option Int) (re span : Int) : Int := match ap with
  | none => 0
  | some a => moreI ps re * ((span + moreI ps re) / a + 1)
def lenOf (ps : List (Int × Int)) (r : Nat) : Int := (ps.getD r (0, 0)).2
def perOf (ps : List (Int × Int)) (r : Nat) : Int := (ps.getD r (0, 0)).1
def blockI (ps : List (Int × Int)) (r : Nat) : Int := maxI 0 ((ps.drop (r + 1)).map fun q => q.2 - 1)
def workI (qs : List (Int × Int)) (s : Int) : Int := (qs.map fun q => q.2 * (s / q.1 + 1)).sum
def askB (ps : List (Int × Int)) (r : Nat) (q : Int) (ap : Option Int) (re s : Int) : Int := blockI ps r + q * lenOf ps r + workI (ps.take r) s + lostI ps ap re (s + lenOf ps r)
def askL (ps : List (Int × Int)) (r : Nat) (ap : Option Int) (re s : Int) : Int := blockI ps r + lostI ps ap re s + workI (ps.take (r + 1)) (s - 1)
def lostE (ps : List (Int × Int)) (ap : Option Int) (re o : Int) : List ((Int × Int) × Int) := match ap with
  | none => []
  | some a => [((a, moreI ps re), moreI ps re + o)]
theorem stepsI_append : ∀ (es ds : List ((Int × Int) × Int)) (s : Int), stepsI (es ++ ds) s = stepsI es s + stepsI ds s
  | [], ds, s => by rw [List.nil_append, stepsI, Int.zero_add]
  | e :: es, ds, s => by rw [List.cons_append, stepsI, stepsI, stepsI_append es ds s, Int.add_assoc]
theorem costs_append : ∀ es ds : List ((Int × Int) × Int), costs (es ++ ds) = costs es + costs ds
  | [], ds => by rw [List.nil_append, costs, Int.zero_add]
  | e :: es, ds => by rw [List.cons_append, costs, costs, costs_append es ds, Int.add_assoc]
theorem work_steps (o s : Int) : ∀ qs : List (Int × Int), workI qs (s + o) = stepsI (qs.map fun q => (q, o)) s
  | [] => rfl
  | q :: qs => by
    have := work_steps o s qs
    unfold workI at this ⊢
    rw [List.map_cons, List.sum_cons, List.map_cons, stepsI, this]
theorem lost_steps (ps : List (Int × Int)) (ap : Option Int) (re o s : Int) : lostI ps ap re (s + o) = stepsI (lostE ps ap re o) s := by
  cases ap with
  | none => rfl
  | some a =>
    show moreI ps re * ((s + o + moreI ps re) / a + 1) = moreI ps re * ((s + (moreI ps re + o)) / a + 1) + 0
    rw [Int.add_zero, show s + o + moreI ps re = s + (moreI ps re + o) by omega]
def esB (ps : List (Int × Int)) (r : Nat) (ap : Option Int) (re : Int) : List ((Int × Int) × Int) := (ps.take r).map (fun q => (q, 0)) ++ lostE ps ap re (lenOf ps r)
def esL (ps : List (Int × Int)) (r : Nat) (ap : Option Int) (re : Int) : List ((Int × Int) × Int) := (ps.take (r + 1)).map (fun q => (q, -1)) ++ lostE ps ap re 0
theorem askB_eq (ps : List (Int × Int)) (r : Nat) (q : Int) (ap : Option Int) (re s : Int) : askB ps r q ap re s = blockI ps r + q * lenOf ps r + stepsI (esB ps r ap re) s := by
  unfold askB esB
  rw [stepsI_append, ← work_steps, ← lost_steps, Int.add_zero, Int.add_assoc _ (workI _ _) _]
theorem askL_eq (ps : List (Int × Int)) (r : Nat) (ap : Option Int) (re s : Int) : askL ps r ap re s = blockI ps r + stepsI (esL ps r ap re) s := by
  unfold askL esL
  rw [stepsI_append, ← work_steps, ← lost_steps, Int.add_zero, show s + -1 = s - 1 by omega]
  omega
/-- a loose plan with its faults -/
structure LsPl (ps : List (Int × Int)) (ap : Option Int) (re : Int) : Prop where
  ok : PlOk ps
  oka : ApOk ap
  r0 : 0 ≤ re
  r9 : re ≤ 9
  ls : 10 * (shareI ps ap re).1 ≤ 9 * (shareI ps ap re).2
theorem LsPl.loose {ps : List (Int × Int)} {ap : Option Int} {re : Int} (h : LsPl ps ap re) : Loose (fracs ps ap re) := by
  have := h.ls
  rw [shareI_eq] at this
  exact this
theorem moreI_le {ps : List (Int × Int)} {re : Int} (ok : PlOk ps) (r0 : 0 ≤ re) (r9 : re ≤ 9) : 0 ≤ moreI ps re ∧ moreI ps re ≤ 29 := by
  have := longI_le ok.2
  unfold moreI
  omega
theorem LsPl.es_ok {ps : List (Int × Int)} {ap : Option Int} {re : Int} (h : LsPl ps ap re) (k : Nat) (o o' : Int) : EsOk ((ps.take k).map (fun q => (q, o)) ++ lostE ps ap re o') := fun e he => by
  rcases List.mem_append.mp he with he | he
  · obtain ⟨q, hq, rfl⟩ := List.mem_map.mp he
    have := h.ok.2 q (List.mem_of_mem_take hq)
    unfold FrOk at this
    dsimp only
    omega
  · have m := moreI_le h.ok h.r0 h.r9
    have oka := h.oka
    cases ap with
    | none => cases he
    | some a =>
      rw [show lostE ps (some a) re o' = [((a, moreI ps re), moreI ps re + o')] from rfl, List.mem_singleton] at he
      subst he
      exact ⟨oka.1, m.1⟩
theorem LsPl.es_ls {ps : List (Int × Int)} {ap : Option Int} {re : Int} (h : LsPl ps ap re) (k : Nat) (o o' : Int) : Loose (fcs ((ps.take k).map (fun q => (q, o)) ++ lostE ps ap re o')) := by
  have l := h.loose
  have sp : fracs ps ap re = (ps.take k).map swp ++ (ps.drop k).map swp ++ fcs (lostE ps ap re o') := by
    unfold fracs fcs
    rw [← List.map_append, List.take_append_drop]
    cases ap <;> rfl
  rw [sp] at l
  have ps0 : ∀ q ∈ ps, 0 ≤ (swp q).1 ∧ 1 ≤ (swp q).2 := fun q hq => by
    have := h.ok.2 q hq
    unfold FrOk at this
    unfold swp
    dsimp only
    omega
  have := Loose.sub (fun f hf => by obtain ⟨q, hq, rfl⟩ := List.mem_map.mp hf; exact ps0 q (List.mem_of_mem_take hq)) (fun f hf => by obtain ⟨q, hq, rfl⟩ := List.mem_map.mp hf; exact ps0 q (List.mem_of_mem_drop hq))
    (fun f hf => fcs_pos (fun e he => h.es_ok 0 o o' e (List.mem_append.mpr (.inr he))) f hf) l
  unfold fcs at this ⊢
  rw [List.map_append, List.map_map]
  exact this
theorem costs_le {ps : List (Int × Int)} (h : ∀ q ∈ ps, FrOk q) (o : Int) : 0 ≤ costs (ps.map fun q => (q, o)) ∧ costs (ps.map fun q => (q, o)) ≤ 20 * ps.length := by
  induction ps with
  | nil => simp [costs]
  | cons q ps ih =>
    have h1 := h q List.mem_cons_self
    have h2 := ih fun x hx => h x (List.mem_cons_of_mem _ hx)
    unfold FrOk at h1
    rw [List.map_cons, costs, List.length_cons]
    dsimp only
    omega
theorem LsPl.es_K {ps : List (Int × Int)} {ap : Option Int} {re : Int} (h : LsPl ps ap re) (k : Nat) (o o' : Int) : 0 ≤ costs ((ps.take k).map (fun q => (q, o)) ++ lostE ps ap re o') ∧ costs ((ps.take k).map (fun q => (q, o)) ++ lostE ps ap re o') ≤ 250 := by
  have c := costs_le (fun q hq => h.ok.2 q (List.mem_of_mem_take hq)) o (ps := ps.take k)
  have m := moreI_le h.ok h.r0 h.r9
  have l : (ps.take k).length ≤ 8 := by rw [List.length_take]; have := h.ok.1; omega
  rw [costs_append]
  have q : 0 ≤ costs (lostE ps ap re o') ∧ costs (lostE ps ap re o') ≤ 29 := by
    cases ap with
    | none => simp [lostE, costs]
    | some a =>
      show 0 ≤ moreI ps re + 0 ∧ moreI ps re + 0 ≤ 29
      omega
  omega
theorem blockI_le {ps : List (Int × Int)} (ok : PlOk ps) (r : Nat) : 0 ≤ blockI ps r ∧ blockI ps r ≤ 19 := by
  unfold blockI
  have key : ∀ (ns : List Int) (m : Int), (∀ n ∈ ns, n ≤ 19) → 0 ≤ m → m ≤ 19 → 0 ≤ maxI m ns ∧ maxI m ns ≤ 19 := by
    intro ns
    induction ns with
    | nil => intro m _ h0 h1; exact ⟨h0, h1⟩
    | cons n ns ih =>
      intro m hn h0 h1
      have := hn n List.mem_cons_self
      exact ih (max m n) (fun x hx => hn x (List.mem_cons_of_mem _ hx)) (by omega) (by omega)
  refine key _ 0 (fun n hn => ?_) (by omega) (by omega)
  obtain ⟨q, hq, rfl⟩ := List.mem_map.mp hn
  have := ok.2 q (List.mem_of_mem_drop hq)
  unfold FrOk at this
  omega
theorem lenOf_ok {ps : List (Int × Int)} (ok : PlOk ps) {r : Nat} (hr : r < ps.length) : FrOk (perOf ps r, lenOf ps r) := by
  unfold perOf lenOf
  rw [List.getD_eq_getElem?_getD, List.getElem?_eq_getElem hr]
  exact ok.2 _ (List.getElem_mem hr)
/-- steps from a small number on -/
theorem steps_small : ∀ {es : List ((Int × Int) × Int)} {s c : Int}, EsOk es → 0 ≤ s → (∀ e ∈ es, -1 ≤ e.2 ∧ e.2 ≤ c ∧ e.1.2 ≤ c) → s ≤ c → 0 ≤ c → 0 ≤ stepsI es s ∧ stepsI es s ≤ es.length * (c * (2 * c + 1))
  | [], s, c, _, _, _, _, _ => by simp [stepsI]
  | e :: es, s, c, h, s0, hc, sc, c0 => by
    have h1 := h e List.mem_cons_self
    have h2 := hc e List.mem_cons_self
    have ih := steps_small (es := es) (fun z hz => h z (List.mem_cons_of_mem _ hz)) s0 (fun z hz => hc z (List.mem_cons_of_mem _ hz)) sc c0
    have d0 : -1 ≤ (s + e.2) / e.1.1 := (Int.le_ediv_iff_mul_le (by omega)).mpr (by omega)
    have d1 : (s + e.2) / e.1.1 ≤ 2 * c := by
      by_cases z : 0 ≤ s + e.2
      · exact Int.le_trans (Int.ediv_le_self _ z) (by omega)
      · have : (s + e.2) / e.1.1 < 0 := Int.ediv_neg_of_neg_of_pos (by omega) (by omega)
        omega
    rw [stepsI, List.length_cons]
    have p0 : 0 ≤ e.1.2 * ((s + e.2) / e.1.1 + 1) := Int.mul_nonneg h1.2 (by omega)
    have p1 : e.1.2 * ((s + e.2) / e.1.1 + 1) ≤ c * (2 * c + 1) := Int.mul_le_mul h2.2.2 (by omega) (by omega) c0
    have e1 : ((es.length + 1 : Nat) : Int) * (c * (2 * c + 1)) = es.length * (c * (2 * c + 1)) + c * (2 * c + 1) := by
      rw [Int.natCast_add, Int.add_mul]; omega
    omega
section
variable {ps : List (Int × Int)} {ap : Option Int} {re : Int}
theorem askB_mono (h : LsPl ps ap re) (r : Nat) (q : Int) {x y : Int} (l : x ≤ y) : askB ps r q ap re x ≤ askB ps r q ap re y := by
  rw [askB_eq, askB_eq]
  have := steps_mono (h.es_ok r 0 (lenOf ps r)) l
  unfold esB
  omega
theorem askL_mono (h : LsPl ps ap re) (r : Nat) {x y : Int} (l : x ≤ y) : askL ps r ap re x ≤ askL ps r ap re y := by
  rw [askL_eq, askL_eq]
  have := steps_mono (h.es_ok (r + 1) (-1) 0) l
  unfold esL
  omega
theorem askB_climb (h : LsPl ps ap re) (r : Nat) (q : Int) {s0 : Int} (h0 : askB ps r q ap re s0 - s0 ≤ 10 ^ 6) :
    ∃ M, s0 ≤ M ∧ askB ps r q ap re M ≤ M ∧ (∀ m, s0 ≤ m → m < M → m < askB ps r q ap re m) ∧ M - s0 ≤ 10 * max 0 (askB ps r q ap re s0 - s0) + 2500 ∧ ∀ n, 3000 ≤ n → climb n (askB ps r q ap re) s0 = M := by
  have k := h.es_K r 0 (lenOf ps r)
  obtain ⟨M, a, b, c, d, e⟩ := climb_ok (f := askB ps r q ap re) (s0 := s0) (K := costs (esB ps r ap re)) (fun x y _ l => askB_mono h r q l) (fun x y _ l => by
    rw [askB_eq, askB_eq]
    have := steps_loose (h.es_ok r 0 (lenOf ps r)) (h.es_ls r 0 (lenOf ps r)) x y l
    unfold esB
    omega) k h0
  exact ⟨M, a, b, c, by unfold esB at d; omega, e⟩
theorem askL_climb (h : LsPl ps ap re) (r : Nat) {s0 : Int} (h0 : askL ps r ap re s0 - s0 ≤ 10 ^ 6) :
    ∃ M, s0 ≤ M ∧ askL ps r ap re M ≤ M ∧ (∀ m, s0 ≤ m → m < M → m < askL ps r ap re m) ∧ M - s0 ≤ 10 * max 0 (askL ps r ap re s0 - s0) + 2500 ∧ ∀ n, 3000 ≤ n → climb n (askL ps r ap re) s0 = M := by
  have k := h.es_K (r + 1) (-1) 0
  obtain ⟨M, a, b, c, d, e⟩ := climb_ok (f := askL ps r ap re) (s0 := s0) (K := costs (esL ps r ap re)) (fun x y _ l => askL_mono h r l) (fun x y _ l => by
    rw [askL_eq, askL_eq]
    have := steps_loose (h.es_ok (r + 1) (-1) 0) (h.es_ls (r + 1) (-1) 0) x y l
    unfold esL
    omega) k h0
  exact ⟨M, a, b, c, by unfold esL at d; omega, e⟩
theorem es_len (k : Nat) (o o' : Int) (h : PlOk ps) : ((ps.take k).map (fun q => (q, o)) ++ lostE ps ap re o').length ≤ 9 := by
  rw [List.length_append, List.length_map, List.length_take]
  have := h.1
  have : (lostE ps ap re o').length ≤ 1 := by cases ap <;> simp [lostE]
  omega
theorem es_small (h : LsPl ps ap re) (k : Nat) {o o' c : Int} (ho : -1 ≤ o ∧ o ≤ c) (ho' : 0 ≤ o' ∧ o' + 29 ≤ c) (hc : 29 ≤ c) : ∀ e ∈ (ps.take k).map (fun q => (q, o)) ++ lostE ps ap re o', -1 ≤ e.2 ∧ e.2 ≤ c ∧ e.1.2 ≤ c := fun e he => by
  have m := moreI_le h.ok h.r0 h.r9
  rcases List.mem_append.mp he with he | he
  · obtain ⟨q, hq, rfl⟩ := List.mem_map.mp he
    have := h.ok.2 q (List.mem_of_mem_take hq)
    unfold FrOk at this
    dsimp only
    omega
  · cases ap with
    | none => cases he
    | some a =>
      rw [show lostE ps (some a) re o' = [((a, moreI ps re), moreI ps re + o')] from rfl, List.mem_singleton] at he
      subst he
      dsimp only
      omega
theorem askB_0 (h : LsPl ps ap re) {r : Nat} (hr : r < ps.length) {q : Int} (q0 : 0 ≤ q) (q5 : q ≤ 5000) : 0 ≤ askB ps r q ap re 0 ∧ askB ps r q ap re 0 ≤ 150000 := by
  have b := blockI_le h.ok r
  have l := lenOf_ok h.ok hr
  unfold FrOk at l
  dsimp only at l
  have st := steps_small (h.es_ok r 0 (lenOf ps r)) (Int.le_refl 0) (es_small h r (c := 49) (by omega) (by omega) (by omega)) (by omega) (by omega)
  have el := es_len (ap := ap) (re := re) r 0 (lenOf ps r) h.ok
  have p0 : 0 ≤ q * lenOf ps r := Int.mul_nonneg q0 (by omega)
  have p1 : q * lenOf ps r ≤ 5000 * 20 := Int.mul_le_mul q5 (by omega) (by omega) (by omega)
  rw [askB_eq]
  unfold esB
  generalize ((ps.take r).map (fun q => (q, (0 : Int))) ++ lostE ps ap re (lenOf ps r)).length = n at *
  omega
theorem askL_1 (h : LsPl ps ap re) (r : Nat) : 0 ≤ askL ps r ap re 1 ∧ askL ps r ap re 1 ≤ 50000 := by
  have b := blockI_le h.ok r
  have st := steps_small (s := 1) (h.es_ok (r + 1) (-1) 0) (by omega) (es_small h (r + 1) (c := 49) (by omega) (by omega) (by omega)) (by omega) (by omega)
  have el := es_len (ap := ap) (re := re) (r + 1) (-1) 0 h.ok
  rw [askL_eq]
  unfold esL
  generalize ((ps.take (r + 1)).map (fun q => (q, (-1 : Int))) ++ lostE ps ap re 0).length = n at *
  omega
end
def faultsD (ap : Option Int) (re : Int) : D := .nd .tup [optD ap, .int re]
theorem fr_at (ps : List (Int × Int)) (r : Nat) : fr (ps.getD r (0, 0)) = .nd .tup [.int (perOf ps r), .int (lenOf ps r)] := rfl
theorem ixF_frs {ps : List (Int × Int)} {r : Nat} (h : r < ps.length) : OT.ix (.fz (.nd .lst (frs ps))) (.fz (.int (r : Int))) = some (.fz (.nd .tup [.int (perOf ps r), .int (lenOf ps r)])) := by
  refine atI_nat (xs := (frs ps).map OT.fz) ?_
  unfold frs
  rw [List.getElem?_map, List.getElem?_map, List.getElem?_eq_getElem h, ← fr_at, List.getD_eq_getElem?_getD, List.getElem?_eq_getElem h]; rfl
theorem ints_map_g {α : Type} (f : α → Int) (ds : List α) : D.ints (ds.map fun d => .int (f d)) = some (ds.map f) := by
  induction ds with
  | nil => rfl
  | cons d ds ih => rw [List.map_cons, D.ints, ih]; rfl
theorem ints_num (ns : List Int) : D.ints (numsD ns) = some ns := by
  induction ns with
  | nil => rfl
  | cons n ns ih =>
    show D.ints (.int n :: numsD ns) = _
    rw [D.ints, ih]; rfl
theorem frs_map (g : Int × Int → Int) (f : D → D) (h : ∀ q, f (fr q) = .int (g q)) (ps : List (Int × Int)) : D.ints ((frs ps).map f) = some (ps.map g) := by
  unfold frs
  rw [List.map_map]
  have : (f ∘ fr) = fun q => .int (g q) := funext h
  rw [this]
  exact ints_map_g g ps
def perD : D → Int
  | .nd .tup [.int a, _] => a
  | _ => 0
def lenD : D → Int
  | .nd .tup [_, .int b] => b
  | _ => 0
def maxL : List Int → Int
  | [] => 0
  | n :: r => maxI n r
theorem maxL_0 {ns : List Int} (h : ∀ n ∈ ns, 0 ≤ n) : maxL ns = maxI 0 ns := by
  cases ns with
  | nil => rfl
  | cons n r => exact (maxI_pos (h n List.mem_cons_self) r).symm
theorem ixl_nat {ds : List D} {d : D} (k : Nat) (h : ds[k]? = some d) : OT.ix (.fz (.nd .lst ds)) (.fz (.int (k : Int))) = some (.fz d) := atI_nat (xs := ds.map OT.fz) (by rw [List.getElem?_map, h]; rfl)
theorem ix_ints {ns : List Int} {k : Int} (h0 : 0 ≤ k) (h : k < ns.length) : ∃ v, ns[k.toNat]? = some v ∧ OT.ix (.fz (.nd .lst (ns.map .int))) (.fz (.int k)) = some (.fz (.int v)) := by
  obtain ⟨n, rfl⟩ := Int.eq_ofNat_of_zero_le h0
  have hn : n < ns.length := by omega
  refine ⟨ns[n], by rw [Int.toNat_natCast]; exact List.getElem?_eq_getElem hn, ixl_nat n ?_⟩
  rw [List.getElem?_map, List.getElem?_eq_getElem hn]; rfl
/-! ### what is left of nine tenths -/
theorem prodI_one (f : Int × Int) : prodI [f] = f.2 := by simp [prodI]
theorem sumI_one (f : Int × Int) : sumI [f] = f.1 := by simp [sumI, prodI]
theorem prodI_put (ps : List (Int × Int)) (f : Int × Int) (k : Nat) : prodI (ps.take k ++ [f] ++ ps.drop k) = f.2 * prodI ps := by
  have e : prodI ps = prodI (ps.take k) * prodI (ps.drop k) := by rw [← prodI_append, List.take_append_drop]
  rw [prodI_append, prodI_append, e, prodI_one]
  grind
theorem sumI_put (ps : List (Int × Int)) (f : Int × Int) (k : Nat) : sumI (ps.take k ++ [f] ++ ps.drop k) = f.1 * prodI ps + f.2 * sumI ps := by
  have e : prodI ps = prodI (ps.take k) * prodI (ps.drop k) := by rw [← prodI_append, List.take_append_drop]
  have e2 : sumI ps = sumI (ps.take k) * prodI (ps.drop k) + prodI (ps.take k) * sumI (ps.drop k) := by rw [← sumI_append, List.take_append_drop]
  rw [sumI_append, sumI_append, prodI_append, e, e2, sumI_one, prodI_one]
  grind
theorem take_map_put (ps : List (Int × Int)) (q : Int × Int) (k : Nat) : (ps.take k ++ [q] ++ ps.drop k).map swp = (ps.map swp).take k ++ [swp q] ++ (ps.map swp).drop k := by
  rw [List.map_append, List.map_append, List.map_take, List.map_drop]; rfl
/-- a lesser pause with the longest keeps it loose -/
theorem loose_less {fs : List (Int × Int)} {m m' a : Int} (hf : ∀ f ∈ fs, 0 ≤ f.1 ∧ 1 ≤ f.2) (l : m ≤ m') (h : Loose (fs ++ [(m', a)])) : Loose (fs ++ [(m, a)]) := by
  unfold Loose at *
  rw [sumI_append, prodI_append] at *
  have p := prodI_pos fun f hf' => (hf f hf').2
  rw [show sumI [(m', a)] = m' by simp [sumI, prodI], show prodI [(m', a)] = a by simp [prodI]] at h
  rw [show sumI [(m, a)] = m by simp [sumI, prodI], show prodI [(m, a)] = a by simp [prodI]]
  have := Int.mul_le_mul_of_nonneg_left l (by omega : 0 ≤ prodI fs)
  omega
theorem shares_Sm {fs : List (Int × Int)} (h : ∀ f ∈ fs, FcOk f) (l : fs.length ≤ 9) : 0 ≤ sumI fs ∧ 0 < prodI fs ∧ Sm 136 (sumI fs) ∧ Sm 136 (prodI fs) := by
  obtain ⟨h1, h2, h3, h4⟩ := topG_ok (n := 1) h (Int.le_refl 0) Int.one_pos (Sm.of (by omega)) (Sm.of (by omega))
  rw [topG_eq] at h1 h2 h3 h4
  simp only [Int.zero_mul, Int.one_mul, Int.zero_add] at h1 h2 h3 h4
  exact ⟨h1, h2, h3.mono, h4.mono⟩
theorem Sm.neg {n : Nat} {i : Int} (h : Sm n i) : Sm n (-i) := by
  unfold Sm at *
  rw [Int.natAbs_neg]; exact h
theorem Sm.sub {n : Nat} {i j : Int} (h : Sm n i) (k : Sm n j) : Sm (n + 1) (i - j) := by
  rw [Int.sub_eq_add_neg]
  exact h.add k.neg
end Lw

/-! bounds of ranks -/
namespace Lw
open PySem PySem.Spec PyProof.Rows L2 DL
def beginI (ps : List (Int × Int)) (r : Nat) (q : Int) (ap : Option Int) (re : Int) : Int := climb 3000 (askB ps r q ap re) 0
def busyI (ps : List (Int × Int)) (r : Nat) (ap : Option Int) (re : Int) : Int := climb 3000 (askL ps r ap re) 1
theorem steps_low : ∀ {es : List ((Int × Int) × Int)} {s : Int}, EsOk es → (∀ e ∈ es, (s + e.2) / e.1.1 ≤ 1) → stepsI es s ≤ 2 * costs es
  | [], s, _, _ => by simp [stepsI, costs]
  | e :: es, s, h, hc => by
    have h1 := h e List.mem_cons_self
    have h2 := hc e List.mem_cons_self
    have ih := steps_low (es := es) (fun z hz => h z (List.mem_cons_of_mem _ hz)) fun z hz => hc z (List.mem_cons_of_mem _ hz)
    rw [stepsI, costs]
    have := Int.mul_le_mul_of_nonneg_left (by omega : (s + e.2) / e.1.1 + 1 ≤ 2) h1.2
    omega
section
variable {ps : List (Int × Int)} {ap : Option Int} {re : Int}
theorem more_less (h : LsPl ps ap re) {a : Int} (ha : ap = some a) : 10 * moreI ps re ≤ 9 * a := by
  have l := h.es_ls 0 0 0
  subst ha
  rw [List.take_zero, List.map_nil, List.nil_append] at l
  have : Loose [(moreI ps re, a)] := l
  unfold Loose at this
  rw [sumI_one, prodI_one] at this
  exact this
theorem busy_ok (h : LsPl ps ap re) (r : Nat) : ∃ K, busyI ps r ap re = K ∧ 1 ≤ K ∧ K ≤ 9000 ∧ askL ps r ap re K ≤ K ∧ ∀ m, 1 ≤ m → m < K → m < askL ps r ap re m := by
  have b := blockI_le h.ok r
  have k := h.es_K (r + 1) (-1) 0
  have lo := steps_low (s := 1) (h.es_ok (r + 1) (-1) 0) fun e he => by
    rcases List.mem_append.mp he with he | he
    · obtain ⟨q, hq, rfl⟩ := List.mem_map.mp he
      have := h.ok.2 q (List.mem_of_mem_take hq)
      unfold FrOk at this
      dsimp only
      rw [show (1 : Int) + -1 = 0 by omega, Int.zero_ediv]
      omega
    · cases ea : ap with
      | none => rw [ea] at he; cases he
      | some a =>
        rw [ea, show lostE ps (some a) re 0 = [((a, moreI ps re), moreI ps re + 0)] from rfl, List.mem_singleton] at he
        subst he
        have ml := more_less h ea
        have oka := h.oka
        rw [ea] at oka
        dsimp only
        have : (1 + (moreI ps re + 0)) / a < 2 := (Int.ediv_lt_iff_lt_mul (by have := oka.1; omega)).mpr (by have := oka.1; omega)
        omega
  have a1 : askL ps r ap re 1 ≤ 519 := by
    rw [askL_eq]
    unfold esL
    omega
  obtain ⟨K, k0, k1, k2, k3, k4⟩ := askL_climb h r (s0 := 1) (by omega)
  exact ⟨K, k4 3000 (Nat.le_refl _), k0, by omega, k1, k2⟩
theorem askB_succ (ps : List (Int × Int)) (r : Nat) (q : Int) (ap : Option Int) (re s : Int) : askB ps r (q + 1) ap re s = askB ps r q ap re s + lenOf ps r := by
  unfold askB
  rw [Int.add_mul]
  omega
def seqB (ps : List (Int × Int)) (r : Nat) (ap : Option Int) (re : Int) : Nat → Int
  | 0 => climb 3000 (askB ps r 0 ap re) 0
  | q + 1 => climb 3000 (askB ps r ((q : Int) + 1) ap re) (seqB ps r ap re q)
theorem seqB_ok (h : LsPl ps ap re) {r : Nat} (hr : r < ps.length) : ∀ q : Nat, q ≤ 5000 → 0 ≤ seqB ps r ap re q ∧ seqB ps r ap re q ≤ 1502500 ∧ askB ps r q ap re (seqB ps r ap re q) ≤ seqB ps r ap re q ∧ ∀ m, 0 ≤ m → m < seqB ps r ap re q → m < askB ps r q ap re m
  | 0, _ => by
    have a0 := askB_0 h hr (Int.le_refl 0) (by omega)
    obtain ⟨M, m0, m1, m2, m3, m4⟩ := askB_climb h r 0 (s0 := 0) (by omega)
    have e : seqB ps r ap re 0 = M := m4 3000 (Nat.le_refl _)
    rw [e]
    exact ⟨m0, by omega, m1, m2⟩
  | q + 1, hq => by
    obtain ⟨i0, i1, i2, i3⟩ := seqB_ok h hr q (by omega)
    have l := lenOf_ok h.ok hr
    unfold FrOk at l
    dsimp only at l
    have s1 := askB_succ ps r q ap re (seqB ps r ap re q)
    have a0 := askB_0 h hr (q := (q : Int) + 1) (by omega) (by omega)
    obtain ⟨M, m0, m1, m2, m3, m4⟩ := askB_climb h r ((q : Int) + 1) (s0 := seqB ps r ap re q) (by omega)
    obtain ⟨M0, n0, n1, n2, n3, n4⟩ := askB_climb h r ((q : Int) + 1) (s0 := 0) (by omega)
    have e : seqB ps r ap re (q + 1) = M := m4 3000 (Nat.le_refl _)
    rw [e, show ((q + 1 : Nat) : Int) = (q : Int) + 1 by omega]
    have low : ∀ m, 0 ≤ m → m < M → m < askB ps r ((q : Int) + 1) ap re m := fun m h0 h1 => by
      by_cases c : m < seqB ps r ap re q
      · have := i3 m h0 c
        have := askB_succ ps r q ap re m
        omega
      · exact m2 m (by omega) h1
    refine ⟨by omega, ?_, m1, low⟩
    have : M ≤ M0 := by
      by_cases c : M0 < M
      · have := low M0 n0 c
        omega
      · omega
    omega
/-- the start that each begins with -/
def startB (ps : List (Int × Int)) (r : Nat) (ap : Option Int) (re : Int) : Nat → Int
  | 0 => 0
  | q + 1 => seqB ps r ap re q
theorem seqB_start (ps : List (Int × Int)) (r : Nat) (ap : Option Int) (re : Int) : ∀ q : Nat, seqB ps r ap re q = climb 3000 (askB ps r q ap re) (startB ps r ap re q)
  | 0 => rfl
  | q + 1 => rfl
theorem startB_ok (h : LsPl ps ap re) {r : Nat} (hr : r < ps.length) : ∀ q : Nat, q ≤ 5000 → 0 ≤ startB ps r ap re q ∧ startB ps r ap re q ≤ 10 ^ 7 ∧ askB ps r q ap re (startB ps r ap re q) - startB ps r ap re q ≤ 10 ^ 6
  | 0, _ => by
    have a0 := askB_0 h hr (Int.le_refl 0) (by omega)
    exact ⟨Int.le_refl 0, (by decide : (0 : Int) ≤ 10 ^ 7), by show askB ps r 0 ap re 0 - 0 ≤ 10 ^ 6; omega⟩
  | q + 1, hq => by
    obtain ⟨i0, i1, i2, i3⟩ := seqB_ok h hr q (by omega)
    have l := lenOf_ok h.ok hr
    unfold FrOk at l
    dsimp only at l
    have s1 := askB_succ ps r q ap re (seqB ps r ap re q)
    show 0 ≤ seqB ps r ap re q ∧ seqB ps r ap re q ≤ 10 ^ 7 ∧ askB ps r ((q + 1 : Nat) : Int) ap re (seqB ps r ap re q) - seqB ps r ap re q ≤ 10 ^ 6
    rw [show ((q + 1 : Nat) : Int) = (q : Int) + 1 by omega]
    omega
def timeI (ps : List (Int × Int)) (r : Nat) (ap : Option Int) (re : Int) (q : Nat) : Int := seqB ps r ap re q + lenOf ps r - q * perOf ps r
def manyI (ps : List (Int × Int)) (r : Nat) (ap : Option Int) (re : Int) : Nat := ((busyI ps r ap re - 1) / perOf ps r + 1).toNat
def boundI (ps : List (Int × Int)) (r : Nat) (ap : Option Int) (re : Int) : Int := maxI 0 ((List.range (manyI ps r ap re)).map (timeI ps r ap re))
theorem many_ok (h : LsPl ps ap re) {r : Nat} (hr : r < ps.length) : 1 ≤ manyI ps r ap re ∧ manyI ps r ap re ≤ 5000 ∧ ((busyI ps r ap re - 1) / perOf ps r + 1) = manyI ps r ap re := by
  obtain ⟨K, e, k0, k1, _, _⟩ := busy_ok h r
  have l := lenOf_ok h.ok hr
  unfold FrOk at l
  dsimp only at l
  unfold manyI
  rw [e]
  have d0 : 0 ≤ (K - 1) / perOf ps r := Int.ediv_nonneg (by omega) (by omega)
  have d1 : (K - 1) / perOf ps r ≤ 4999 := by
    have : (K - 1) / perOf ps r < 5000 := (Int.ediv_lt_iff_lt_mul (by omega)).mpr (by omega)
    omega
  omega
theorem time_0 (h : LsPl ps ap re) {r : Nat} (hr : r < ps.length) : 0 ≤ timeI ps r ap re 0 := by
  obtain ⟨i0, _⟩ := seqB_ok h hr 0 (by omega)
  have l := lenOf_ok h.ok hr
  unfold FrOk at l
  dsimp only at l
  unfold timeI
  simp
  omega
end
end Lw

/-! shares beside one another -/
namespace Lw
open PySem PySem.Spec PyProof.Rows L2 DL
theorem longI_bound {ps : List (Int × Int)} {L : Int} (L0 : 0 ≤ L) (h : ∀ q ∈ ps, q.2 ≤ L) : longI ps ≤ L := by
  have key : ∀ (ns : List Int) (m : Int), (∀ n ∈ ns, n ≤ L) → m ≤ L → maxI m ns ≤ L := by
    intro ns
    induction ns with
    | nil => intro m _ h1; exact h1
    | cons n ns ih =>
      intro m hn h1
      have := hn n List.mem_cons_self
      exact ih (max m n) (fun x hx => hn x (List.mem_cons_of_mem _ hx)) (by omega)
  exact key _ 0 (fun n hn => by obtain ⟨q, hq, rfl⟩ := List.mem_map.mp hn; exact h q hq) L0
theorem prodI_perm {fs gs : List (Int × Int)} (h : fs.Perm gs) : prodI fs = prodI gs := by
  induction h with
  | nil => rfl
  | cons f _ ih => rw [prodI, prodI, ih]
  | swap f g l => rw [prodI, prodI, prodI, prodI]; grind
  | trans _ _ a b => rw [a, b]
theorem sumI_perm {fs gs : List (Int × Int)} (h : fs.Perm gs) : sumI fs = sumI gs := by
  induction h with
  | nil => rfl
  | cons f p ih => rw [sumI, sumI, ih, prodI_perm p]
  | swap f g l => rw [sumI, sumI, sumI, sumI, prodI, prodI]; grind
  | trans _ _ a b => rw [a, b]
theorem longI_perm {ps qs : List (Int × Int)} (hp : ∀ q ∈ ps, FrOk q) (h : qs.Perm ps) : longI qs = longI ps := by
  have hq : ∀ q ∈ qs, FrOk q := fun q hq => hp q (h.mem_iff.mp hq)
  have a : longI qs ≤ longI ps := longI_bound (longI_le hp).1 fun q hq => maxI_ge 0 (List.mem_map.mpr ⟨q, h.mem_iff.mp hq, rfl⟩)
  have b : longI ps ≤ longI qs := longI_bound (longI_le hq).1 fun q hq => maxI_ge 0 (List.mem_map.mpr ⟨q, h.mem_iff.mpr hq, rfl⟩)
  omega
theorem LsPl.perm {ps qs : List (Int × Int)} {ap : Option Int} {re : Int} (h : LsPl ps ap re) (p : qs.Perm ps) : LsPl qs ap re := by
  refine ⟨⟨by rw [p.length_eq]; exact h.ok.1, fun q hq => h.ok.2 q (p.mem_iff.mp hq)⟩, h.oka, h.r0, h.r9, ?_⟩
  have e := longI_perm h.ok.2 p
  have pf : (fracs qs ap re).Perm (fracs ps ap re) := by
    unfold fracs
    rw [e]
    exact (p.map _).append_right _
  have l := h.ls
  rw [shareI_eq] at l ⊢
  rw [sumI_perm pf, prodI_perm pf]
  exact l
theorem maxI_max : ∀ (ns : List Int) (m k : Int), maxI (max m k) ns = max m (maxI k ns)
  | [], m, k => rfl
  | n :: ns, m, k => by
    show maxI (max (max m k) n) ns = max m (maxI (max k n) ns)
    rw [← maxI_max ns m (max k n)]
    congr 1
    omega
theorem longI_append {as bs : List (Int × Int)} (ha : ∀ q ∈ as, FrOk q) : longI (as ++ bs) = max (longI as) (longI bs) := by
  have l := (longI_le ha).1
  unfold longI at *
  have e : maxI 0 ((as ++ bs).map (·.2)) = maxI (maxI 0 (as.map (·.2))) (bs.map (·.2)) := by
    unfold maxI
    rw [List.map_append, List.foldl_append]
  rw [e]
  generalize maxI 0 (as.map (·.2)) = m at l
  rw [← maxI_max, Int.max_eq_left l]
/-- no greater, as shares -/
def LeS (s t : Int × Int) : Prop := s.1 * t.2 ≤ t.1 * s.2
def LtS (s t : Int × Int) : Prop := s.1 * t.2 < t.1 * s.2
theorem LtS.le {s t : Int × Int} (h : LtS s t) : LeS s t := Int.le_of_lt h
/-- (a, b) is the share s in lowest terms -/
structure LowOf (a b : Int) (s : Int × Int) : Prop where
  e : a * s.2 = b * s.1
  a0 : 0 ≤ a
  b1 : 1 ≤ b
  sa : Sm 136 a
  sb : Sm 136 b
  s2 : 0 < s.2
theorem low_le2 {a b c d : Int} {s t : Int × Int} (h : LowOf a b s) (k : LowOf c d t) (l : LeS s t) : a * d ≤ c * b := by
  have p : 0 < s.2 * t.2 := Int.mul_pos h.s2 k.s2
  refine Int.le_of_mul_le_mul_right (a := s.2 * t.2) ?_ p
  have e1 : a * d * (s.2 * t.2) = (b * d) * (s.1 * t.2) := by have := h.e; grind
  have e2 : c * b * (s.2 * t.2) = (b * d) * (t.1 * s.2) := by have := k.e; grind
  rw [e1, e2]
  have := h.b1; have := k.b1
  exact Int.mul_le_mul_of_nonneg_left l (Int.mul_nonneg (by omega) (by omega))
theorem low_ne {a b c d : Int} {s t : Int × Int} (h : LowOf a b s) (k : LowOf c d t) (l : LtS s t) : ¬ (a = c ∧ b = d) := by
  rintro ⟨rfl, rfl⟩
  have e1 := h.e
  have e2 := k.e
  have b1 := h.b1
  unfold LtS at l
  have e3 : b * (s.1 * t.2) = b * (t.1 * s.2) := by grind
  have := Int.eq_of_mul_eq_mul_left (by omega : b ≠ 0) e3
  omega
theorem low_sum {a b c d e f : Int} {s t u : Int × Int} (h : LowOf a b s) (k : LowOf c d t) (m : e * u.2 = f * u.1) (u2 : 0 < u.2) (e1 : s.1 = t.1 * u.2 + t.2 * u.1) (e2 : s.2 = t.2 * u.2) : a * d * f = b * (c * f + e * d) := by
  have p := h.s2
  refine Int.eq_of_mul_eq_mul_right (a := s.2) (by omega) ?_
  have h1 := h.e
  have k1 := k.e
  rw [e1, e2] at h1
  rw [e2]
  grind
theorem le_loose {s t : Int × Int} (s2 : 0 < s.2) (t2 : 0 < t.2) (l : LeS s t) (h : 10 * t.1 ≤ 9 * t.2) : 10 * s.1 ≤ 9 * s.2 := by
  refine Int.le_of_mul_le_mul_right (a := t.2) ?_ t2
  have h1 : 10 * t.1 * s.2 ≤ 9 * t.2 * s.2 := Int.mul_le_mul_of_nonneg_right h (by omega)
  unfold LeS at l
  have e1 : 10 * s.1 * t.2 = 10 * (s.1 * t.2) := by grind
  have e2 : 10 * t.1 * s.2 = 10 * (t.1 * s.2) := by grind
  have e3 : 9 * t.2 * s.2 = 9 * s.2 * t.2 := by grind
  omega
theorem LeS.trans {s t u : Int × Int} (s2 : 0 < s.2) (t2 : 0 < t.2) (u2 : 0 < u.2) (h : LeS s t) (k : LeS t u) : LeS s u := by
  unfold LeS at *
  refine Int.le_of_mul_le_mul_right (a := t.2) ?_ t2
  have h1 := Int.mul_le_mul_of_nonneg_right h (by omega : 0 ≤ u.2)
  have h2 := Int.mul_le_mul_of_nonneg_right k (by omega : 0 ≤ s.2)
  have e1 : s.1 * u.2 * t.2 = s.1 * t.2 * u.2 := by grind
  have e2 : t.1 * s.2 * u.2 = t.1 * u.2 * s.2 := by grind
  have e3 : u.1 * s.2 * t.2 = u.1 * t.2 * s.2 := by grind
  omega
/-! ### shares of plans beside one another -/
def sh0 (fs : List (Int × Int)) : Int × Int := (sumI fs, prodI fs)
theorem sh0_perm {fs gs : List (Int × Int)} (h : fs.Perm gs) : sh0 fs = sh0 gs := by unfold sh0; rw [sumI_perm h, prodI_perm h]
theorem shareI_none_eq (ps : List (Int × Int)) (re : Int) : shareI ps none re = sh0 (ps.map swp) := shareI_swp ps re
theorem shareI_some_eq (ps : List (Int × Int)) (a re : Int) : shareI ps (some a) re = sh0 ((re + longI ps, a) :: ps.map swp) := by
  rw [shareI_some, List.map_append]
  exact sh0_perm List.perm_append_comm
theorem mem_le {fs : List (Int × Int)} {f : Int × Int} (hf : ∀ f ∈ fs, 0 ≤ f.1 ∧ 1 ≤ f.2) (m : f ∈ fs) : LeS f (sh0 fs) := by
  obtain ⟨as, bs, rfl⟩ := List.append_of_mem m
  have p : (as ++ f :: bs).Perm (f :: (as ++ bs)) := List.perm_middle
  rw [sh0_perm p]
  have h1 := hf f m
  obtain ⟨s0, p0⟩ : 0 ≤ sumI (as ++ bs) ∧ 0 < prodI (as ++ bs) := by
    have key : ∀ gs : List (Int × Int), (∀ f ∈ gs, 0 ≤ f.1 ∧ 1 ≤ f.2) → 0 ≤ sumI gs ∧ 0 < prodI gs := by
      intro gs
      induction gs with
      | nil => intro _; exact ⟨Int.le_refl 0, Int.one_pos⟩
      | cons g gs ih =>
        intro h
        obtain ⟨i1, i2⟩ := ih fun x hx => h x (List.mem_cons_of_mem _ hx)
        have := h g List.mem_cons_self
        exact ⟨Int.add_nonneg (Int.mul_nonneg this.1 (by omega)) (Int.mul_nonneg (by omega) i1), Int.mul_pos (by omega) i2⟩
    exact key _ fun x hx => hf x (p.mem_iff.mpr (List.mem_cons_of_mem _ hx))
  unfold LeS sh0
  dsimp only
  rw [sumI, prodI]
  have q : 0 ≤ f.2 * (f.2 * sumI (as ++ bs)) := Int.mul_nonneg (by omega) (Int.mul_nonneg (by omega) s0)
  have e1 : f.1 * (f.2 * prodI (as ++ bs)) = f.2 * (f.1 * prodI (as ++ bs)) := by grind
  have e2 : (f.1 * prodI (as ++ bs) + f.2 * sumI (as ++ bs)) * f.2 = f.2 * (f.1 * prodI (as ++ bs)) + f.2 * (f.2 * sumI (as ++ bs)) := by grind
  omega
theorem put_lt {fs : List (Int × Int)} {f : Int × Int} (f1 : 0 < f.1) (p : 0 < prodI fs) : LtS (sh0 fs) (sh0 (f :: fs)) := by
  unfold LtS sh0
  dsimp only
  rw [sumI, prodI]
  have q : 0 < f.1 * (prodI fs * prodI fs) := Int.mul_pos f1 (Int.mul_pos p p)
  have e1 : (f.1 * prodI fs + f.2 * sumI fs) * prodI fs = f.1 * (prodI fs * prodI fs) + sumI fs * (f.2 * prodI fs) := by grind
  omega
theorem put_le {fs : List (Int × Int)} {f : Int × Int} (f1 : 0 ≤ f.1) (p : 0 < prodI fs) : LeS (sh0 fs) (sh0 (f :: fs)) := by
  unfold LeS sh0
  dsimp only
  rw [sumI, prodI]
  have q : 0 ≤ f.1 * (prodI fs * prodI fs) := Int.mul_nonneg f1 (Int.le_of_lt (Int.mul_pos p p))
  have e1 : (f.1 * prodI fs + f.2 * sumI fs) * prodI fs = f.1 * (prodI fs * prodI fs) + sumI fs * (f.2 * prodI fs) := by grind
  omega
theorem less_lt {fs : List (Int × Int)} {f g : Int × Int} (l : LtS f g) (p : 0 < prodI fs) : LtS (sh0 (f :: fs)) (sh0 (g :: fs)) := by
  unfold LtS sh0 at *
  dsimp only
  rw [sumI, prodI, sumI, prodI]
  have q := Int.mul_lt_mul_of_pos_right l (Int.mul_pos p p)
  have e1 : (f.1 * prodI fs + f.2 * sumI fs) * (g.2 * prodI fs) = f.1 * g.2 * (prodI fs * prodI fs) + f.2 * sumI fs * (g.2 * prodI fs) := by grind
  have e2 : (g.1 * prodI fs + g.2 * sumI fs) * (f.2 * prodI fs) = g.1 * f.2 * (prodI fs * prodI fs) + f.2 * sumI fs * (g.2 * prodI fs) := by grind
  omega
theorem less_le {fs : List (Int × Int)} {f g : Int × Int} (l : LeS f g) (p : 0 < prodI fs) : LeS (sh0 (f :: fs)) (sh0 (g :: fs)) := by
  unfold LeS sh0 at *
  dsimp only
  rw [sumI, prodI, sumI, prodI]
  have q := Int.mul_le_mul_of_nonneg_right l (Int.le_of_lt (Int.mul_pos p p))
  have e1 : (f.1 * prodI fs + f.2 * sumI fs) * (g.2 * prodI fs) = f.1 * g.2 * (prodI fs * prodI fs) + f.2 * sumI fs * (g.2 * prodI fs) := by grind
  have e2 : (g.1 * prodI fs + g.2 * sumI fs) * (f.2 * prodI fs) = g.1 * f.2 * (prodI fs * prodI fs) + f.2 * sumI fs * (g.2 * prodI fs) := by grind
  omega
theorem ixl2 (a b c : D) (cs : List D) : OT.ix (.fz (.nd .lst (a :: b :: c :: cs))) (.fz (.int 2)) = some (.fz c) := atI_nat (xs := (a :: b :: c :: cs).map OT.fz) (k := 2) rfl
theorem ixl3 (a b c d : D) (cs : List D) : OT.ix (.fz (.nd .lst (a :: b :: c :: d :: cs))) (.fz (.int 3)) = some (.fz d) := atI_nat (xs := (a :: b :: c :: d :: cs).map OT.fz) (k := 3) rfl
theorem ixl4 (a b c d e : D) (cs : List D) : OT.ix (.fz (.nd .lst (a :: b :: c :: d :: e :: cs))) (.fz (.int 4)) = some (.fz e) := atI_nat (xs := (a :: b :: c :: d :: e :: cs).map OT.fz) (k := 4) rfl
theorem ixt2 (a b c : D) (cs : List D) : OT.ix (.fz (.nd .tup (a :: b :: c :: cs))) (.fz (.int 2)) = some (.fz c) := atI_nat (xs := (a :: b :: c :: cs).map OT.fz) (k := 2) rfl
theorem atP_one {env : Env'} {i j : Nat} {k : NK} {cs : List OT} {t : OT} (h : env[i]? = some (.nd k cs)) (g : cs[j]? = some t) : atP env i [j] = some t := by
  unfold atP
  rw [h]
  show OT.at [j] (.nd k cs) = some t
  unfold OT.at
  rw [g]
  exact at_nil t
theorem putP_one {env : Env'} {i j : Nat} {k : NK} {cs : List OT} {t : OT} (h : env[i]? = some (.nd k cs)) : putP env i [j] t = env.set i (.nd k (cs.set j t)) := by
  unfold putP
  rw [List.getD_eq_getElem?_getD, h]
  show env.set i (OT.put [j] t (.nd k cs)) = _
  unfold OT.put
  rw [put_nil]
theorem ixp0 (a : OT) (cs : List OT) : OT.ix (.nd .tup (a :: cs)) (.fz (.int 0)) = some a := atI_nat (xs := a :: cs) (k := 0) rfl
theorem ixp1 (a b : OT) (cs : List OT) : OT.ix (.nd .tup (a :: b :: cs)) (.fz (.int 1)) = some b := atI_nat (xs := a :: b :: cs) (k := 1) rfl
theorem ixN20 : ixN 2 0 = some 0 := by decide
theorem ixN21 : ixN 2 1 = some 1 := by decide
end Lw

/-! lists of numbers, cut and put together -/
namespace Lw
open PySem PySem.Spec PyProof.Rows L2 DL
theorem cutD_map {α β : Type} (f : α → β) (xs : List α) (lo hi : Option Int) : DL.cutD (xs.map f) lo hi = (DL.cutD xs lo hi).map f := by
  unfold DL.cutD
  rw [List.length_map, List.map_take, List.map_drop]
theorem cutD_mem {α : Type} {xs : List α} {lo hi : Option Int} {x : α} (h : x ∈ DL.cutD xs lo hi) : x ∈ xs := by
  unfold DL.cutD at h
  exact List.mem_of_mem_drop (List.mem_of_mem_take h)
theorem cutD_len {α : Type} (xs : List α) (lo hi : Option Int) : (DL.cutD xs lo hi).length ≤ xs.length := by
  unfold DL.cutD
  rw [List.length_take, List.length_drop]
  omega
theorem cut_nums (bs : List Int) (lo hi : Option Int) : DL.cutD (numsD bs) lo hi = numsD (DL.cutD bs lo hi) := cutD_map _ _ _ _
theorem nums_app (as bs : List Int) : numsD as ++ numsD bs = numsD (as ++ bs) := by unfold numsD; rw [List.map_append]
theorem nums_rev (bs : List Int) : (numsD bs).reverse = numsD bs.reverse := by unfold numsD; rw [List.map_reverse]
theorem numsD_len (bs : List Int) : (numsD bs).length = bs.length := by unfold numsD; rw [List.length_map]
theorem sizeLine_ge : 10 ^ 6 ≤ sizeLine := by decide
end Lw

/-! what a fuller plan asks is no less -/
namespace Lw
open PySem PySem.Spec PyProof.Rows L2 DL
/-- a rank of one plan asks no more than a rank of another one -/
structure Und (qs : List (Int × Int)) (r' : Nat) (aq : Option Int) (rf : Int) (ps : List (Int × Int)) (r : Nat) (ap : Option Int) (re : Int) : Prop where
  b : ∀ q s : Int, 0 ≤ q → 0 ≤ s → askB qs r' q aq rf s ≤ askB ps r q ap re s
  l : ∀ s : Int, 1 ≤ s → askL qs r' aq rf s ≤ askL ps r ap re s
  T : perOf ps r ≤ perOf qs r'
  c : lenOf qs r' ≤ lenOf ps r
section
variable {qs ps : List (Int × Int)} {r' r : Nat} {aq ap : Option Int} {rf re : Int}
theorem Und.seq (u : Und qs r' aq rf ps r ap re) (lq : LsPl qs aq rf) (lp : LsPl ps ap re) (hq : r' < qs.length) (hr : r < ps.length) (q : Nat) (h : q ≤ 5000) : seqB qs r' aq rf q ≤ seqB ps r ap re q := by
  obtain ⟨i0, i1, i2, i3⟩ := seqB_ok lp hr q h
  obtain ⟨j0, j1, j2, j3⟩ := seqB_ok lq hq q h
  have := u.b q (seqB ps r ap re q) (by omega) i0
  by_cases c : seqB qs r' aq rf q ≤ seqB ps r ap re q
  · exact c
  · have := j3 (seqB ps r ap re q) i0 (by omega)
    omega
theorem Und.busy (u : Und qs r' aq rf ps r ap re) (lq : LsPl qs aq rf) (lp : LsPl ps ap re) : busyI qs r' aq rf ≤ busyI ps r ap re := by
  obtain ⟨K, ek, k1, k9, ka, km⟩ := busy_ok lp r
  obtain ⟨M, em, m1, m9, ma, mm⟩ := busy_ok lq r'
  rw [ek, em]
  have := u.l K k1
  by_cases c : M ≤ K
  · exact c
  · have := mm K k1 (by omega)
    omega
theorem div_anti {s a b : Int} (s0 : 0 ≤ s) (b0 : 0 < b) (h : b ≤ a) : s / a ≤ s / b := by
  refine (Int.le_ediv_iff_mul_le b0).mpr ?_
  have h1 : 0 ≤ s / a := Int.ediv_nonneg s0 (by omega)
  have h2 : s / a * b ≤ s / a * a := Int.mul_le_mul_of_nonneg_left h h1
  have h3 : s / a * a ≤ s := Int.ediv_mul_le s (by omega)
  omega
theorem Und.many (u : Und qs r' aq rf ps r ap re) (lq : LsPl qs aq rf) (lp : LsPl ps ap re) (hq : r' < qs.length) (hr : r < ps.length) : manyI qs r' aq rf ≤ manyI ps r ap re := by
  have b := u.busy lq lp
  obtain ⟨M, em, m1, m9, ma, mm⟩ := busy_ok lq r'
  obtain ⟨a0, a1, a2⟩ := many_ok lp hr
  obtain ⟨b0, b1, b2⟩ := many_ok lq hq
  have f := lenOf_ok lp.ok hr
  unfold FrOk at f
  dsimp only at f
  have d1 : (busyI qs r' aq rf - 1) / perOf qs r' ≤ (busyI qs r' aq rf - 1) / perOf ps r := div_anti (by omega) (by omega) u.T
  have d2 : (busyI qs r' aq rf - 1) / perOf ps r ≤ (busyI ps r ap re - 1) / perOf ps r := Int.ediv_le_ediv (by omega) (by omega)
  omega
theorem maxI_le_iff2 (b : Int) : ∀ (ns : List Int) (m : Int), maxI m ns ≤ b ↔ m ≤ b ∧ ∀ n ∈ ns, n ≤ b
  | [], m => ⟨fun h => ⟨h, fun _ z => nomatch z⟩, fun h => h.1⟩
  | n :: ns, m => by
    have := maxI_le_iff2 b ns (max m n)
    show maxI (max m n) ns ≤ b ↔ _
    rw [this]
    refine ⟨fun ⟨a, c⟩ => ⟨by omega, fun x hx => ?_⟩, fun ⟨a, c⟩ => ⟨?_, fun x hx => c x (List.mem_cons_of_mem _ hx)⟩⟩
    · rcases List.mem_cons.mp hx with rfl | hx
      · omega
      · exact c x hx
    · have := c n List.mem_cons_self
      omega
theorem time_le2 {ps : List (Int × Int)} {r : Nat} {ap : Option Int} {re : Int} {q : Nat} (h : q < manyI ps r ap re) : timeI ps r ap re q ≤ boundI ps r ap re := maxI_ge 0 (List.mem_map.mpr ⟨q, List.mem_range.mpr h, rfl⟩)
theorem Und.bound (u : Und qs r' aq rf ps r ap re) (lq : LsPl qs aq rf) (lp : LsPl ps ap re) (hq : r' < qs.length) (hr : r < ps.length) : boundI qs r' aq rf ≤ boundI ps r ap re := by
  have m := u.many lq lp hq hr
  obtain ⟨a0, a1, a2⟩ := many_ok lp hr
  have t0 := time_0 lp hr
  have t1 := time_le2 (ps := ps) (r := r) (ap := ap) (re := re) (q := 0) (by omega)
  refine (maxI_le_iff2 _ _ _).mpr ⟨by omega, fun n hn => ?_⟩
  obtain ⟨q, hq', rfl⟩ := List.mem_map.mp hn
  have hq2 := List.mem_range.mp hq'
  have := time_le2 (ps := ps) (r := r) (ap := ap) (re := re) (q := q) (by omega)
  have s := u.seq lq lp hq hr q (by omega)
  have p : (q : Int) * perOf ps r ≤ q * perOf qs r' := Int.mul_le_mul_of_nonneg_left u.T (by omega)
  have c := u.c
  unfold timeI at this ⊢
  omega
end
/-! ### plans of which each frame is one of the other's, longer in its period, shorter in its length -/
def FDom (f g : Int × Int) : Prop := g.1 ≤ f.1 ∧ f.2 ≤ g.2
theorem FDom.refl (f : Int × Int) : FDom f f := ⟨Int.le_refl _, Int.le_refl _⟩
inductive SubD : List (Int × Int) → List (Int × Int) → Prop
  | nil : SubD [] []
  | skip (b : Int × Int) {as bs : List (Int × Int)} (h : SubD as bs) : SubD as (b :: bs)
  | cons {a b : Int × Int} {as bs : List (Int × Int)} (f : FDom a b) (h : SubD as bs) : SubD (a :: as) (b :: bs)
theorem SubD.refl : ∀ as : List (Int × Int), SubD as as
  | [] => .nil
  | a :: as => .cons (FDom.refl a) (SubD.refl as)
theorem SubD.app {as bs : List (Int × Int)} (h : SubD as bs) {cs ds : List (Int × Int)} (k : SubD cs ds) : SubD (as ++ cs) (bs ++ ds) := by
  induction h with
  | nil => exact k
  | skip b _ ih => exact .skip b ih
  | cons f _ ih => exact .cons f ih
theorem SubD.mem {as bs : List (Int × Int)} (h : SubD as bs) : ∀ a ∈ as, ∃ b ∈ bs, FDom a b := by
  induction h with
  | nil => exact fun _ z => nomatch z
  | skip b _ ih => exact fun a ha => by obtain ⟨c, hc, d⟩ := ih a ha; exact ⟨c, List.mem_cons_of_mem _ hc, d⟩
  | cons f _ ih =>
    intro a ha
    rcases List.mem_cons.mp ha with rfl | ha
    · exact ⟨_, List.mem_cons_self, f⟩
    · obtain ⟨c, hc, d⟩ := ih a ha; exact ⟨c, List.mem_cons_of_mem _ hc, d⟩
theorem term_le {a b : Int × Int} (f : FDom a b) (ha : FrOk a) (hb : FrOk b) {s : Int} (s0 : 0 ≤ s) : a.2 * (s / a.1 + 1) ≤ b.2 * (s / b.1 + 1) := by
  unfold FrOk at ha hb
  have h1 : s / a.1 ≤ s / b.1 := div_anti s0 (by omega) f.1
  have h2 : 0 ≤ s / a.1 := Int.ediv_nonneg s0 (by omega)
  exact Int.mul_le_mul f.2 (by omega) (by omega) (by omega)
theorem work_cons (a : Int × Int) (as : List (Int × Int)) (s : Int) : workI (a :: as) s = a.2 * (s / a.1 + 1) + workI as s := by unfold workI; rw [List.map_cons, List.sum_cons]
theorem work_app (as bs : List (Int × Int)) (s : Int) : workI (as ++ bs) s = workI as s + workI bs s := by unfold workI; rw [List.map_append, List.sum_append]
theorem SubD.work {as bs : List (Int × Int)} (h : SubD as bs) {s : Int} (s0 : 0 ≤ s) : (∀ a ∈ as, FrOk a) → (∀ b ∈ bs, FrOk b) → workI as s ≤ workI bs s := by
  induction h with
  | nil => exact fun _ _ => Int.le_refl _
  | skip b _ ih =>
    intro ha hb
    have i := ih ha fun x hx => hb x (List.mem_cons_of_mem _ hx)
    have hb0 := hb b List.mem_cons_self
    unfold FrOk at hb0
    rw [work_cons]
    have : 0 ≤ b.2 * (s / b.1 + 1) := Int.mul_nonneg (by omega) (by have := Int.ediv_nonneg s0 (by omega : 0 ≤ b.1); omega)
    omega
  | cons f _ ih =>
    intro ha hb
    have i := ih (fun x hx => ha x (List.mem_cons_of_mem _ hx)) fun x hx => hb x (List.mem_cons_of_mem _ hx)
    have := term_le f (ha _ List.mem_cons_self) (hb _ List.mem_cons_self) s0
    rw [work_cons, work_cons]
    omega
theorem SubD.len {as bs : List (Int × Int)} (h : SubD as bs) : longI as ≤ longI bs := by
  refine (maxI_le_iff2 _ _ _).mpr ⟨maxI_le_start _ _, fun n hn => ?_⟩
  obtain ⟨a, ha, rfl⟩ := List.mem_map.mp hn
  obtain ⟨b, hb, f⟩ := h.mem a ha
  exact Int.le_trans f.2 (maxI_ge 0 (List.mem_map.mpr ⟨b, hb, rfl⟩))
def blkI (cs : List (Int × Int)) : Int := maxI 0 (cs.map fun q => q.2 - 1)
theorem SubD.blk {as bs : List (Int × Int)} (h : SubD as bs) : blkI as ≤ blkI bs := by
  refine (maxI_le_iff2 _ _ _).mpr ⟨maxI_le_start _ _, fun n hn => ?_⟩
  obtain ⟨a, ha, rfl⟩ := List.mem_map.mp hn
  obtain ⟨b, hb, f⟩ := h.mem a ha
  have := maxI_ge 0 (List.mem_map.mpr ⟨b, hb, rfl⟩ : b.2 - 1 ∈ bs.map fun q => q.2 - 1)
  have := f.2
  unfold blkI
  omega
/-- faults that are no more -/
def FaLe (aq : Option Int) (rf : Int) (ap : Option Int) (re : Int) : Prop := rf ≤ re ∧ match aq, ap with
  | none, _ => True
  | some a', some a => a ≤ a'
  | some _, none => False
theorem lost_le {qs ps : List (Int × Int)} {aq ap : Option Int} {rf re : Int} (l : longI qs ≤ longI ps) (f : FaLe aq rf ap re) (oka : ApOk ap) (okb : ApOk aq) (f0 : 0 ≤ rf) (l0 : 0 ≤ longI qs) {s s' : Int} (s0 : 0 ≤ s) (ss : s ≤ s') : lostI qs aq rf s ≤ lostI ps ap re s' := by
  obtain ⟨f1, f2⟩ := f
  unfold lostI moreI
  cases aq with
  | none =>
    cases ap with
    | none => exact Int.le_refl _
    | some a =>
      have := oka.1
      dsimp only
      exact Int.mul_nonneg (by omega) (by have := Int.ediv_nonneg (by omega : 0 ≤ s' + (re + longI ps)) (by omega : 0 ≤ a); omega)
  | some a' =>
    cases ap with
    | none => exact f2.elim
    | some a =>
      have := oka.1
      have := okb.1
      dsimp only at f2 ⊢
      have d1 : (s + (rf + longI qs)) / a' ≤ (s + (rf + longI qs)) / a := div_anti (by omega) (by omega) f2
      have d2 : (s + (rf + longI qs)) / a ≤ (s' + (re + longI ps)) / a := Int.ediv_le_ediv (by omega) (by omega)
      have d3 : 0 ≤ (s + (rf + longI qs)) / a' := Int.ediv_nonneg (by omega) (by omega)
      exact Int.mul_le_mul (by omega) (by omega) (by omega) (by omega)
theorem mid_take {α : Type} (as : List α) (f : α) (cs : List α) : (as ++ f :: cs).take as.length = as := by simp
theorem mid_take1 {α : Type} (as : List α) (f : α) (cs : List α) : (as ++ f :: cs).take (as.length + 1) = as ++ [f] := by
  rw [show as ++ f :: cs = (as ++ [f]) ++ cs by simp, show as.length + 1 = (as ++ [f]).length by simp, List.take_left]
theorem mid_drop {α : Type} (as : List α) (f : α) (cs : List α) : (as ++ f :: cs).drop (as.length + 1) = cs := by
  rw [show as ++ f :: cs = (as ++ [f]) ++ cs by simp, show as.length + 1 = (as ++ [f]).length by simp, List.drop_left]
theorem mid_get (as : List (Int × Int)) (f : Int × Int) (cs : List (Int × Int)) : (as ++ f :: cs).getD as.length (0, 0) = f := by
  rw [List.getD_eq_getElem?_getD]
  simp
theorem mid_per (as : List (Int × Int)) (f : Int × Int) (cs : List (Int × Int)) : perOf (as ++ f :: cs) as.length = f.1 := by unfold perOf; rw [mid_get]
theorem mid_len (as : List (Int × Int)) (f : Int × Int) (cs : List (Int × Int)) : lenOf (as ++ f :: cs) as.length = f.2 := by unfold lenOf; rw [mid_get]
theorem mid_blk (as : List (Int × Int)) (f : Int × Int) (cs : List (Int × Int)) : blockI (as ++ f :: cs) as.length = blkI cs := by unfold blockI; rw [mid_drop]; rfl
theorem und_of {as bs cs ds : List (Int × Int)} {f g : Int × Int} {aq ap : Option Int} {rf re : Int} (h1 : SubD as bs) (hf : FDom f g) (h2 : SubD cs ds) (okp : ∀ x ∈ as ++ f :: cs, FrOk x) (okq : ∀ x ∈ bs ++ g :: ds, FrOk x) (fa : FaLe aq rf ap re) (oka : ApOk ap) (okb : ApOk aq) (f0 : 0 ≤ rf) :
    Und (as ++ f :: cs) as.length aq rf (bs ++ g :: ds) bs.length ap re := by
  have oa : ∀ x ∈ as, FrOk x := fun x hx => okp x (List.mem_append_left _ hx)
  have ob : ∀ x ∈ bs, FrOk x := fun x hx => okq x (List.mem_append_left _ hx)
  have of' := okp f (List.mem_append_right _ List.mem_cons_self)
  have og := okq g (List.mem_append_right _ List.mem_cons_self)
  have lo : longI (as ++ f :: cs) ≤ longI (bs ++ g :: ds) := (h1.app (.cons hf h2)).len
  have l0 := (longI_le okp).1
  have fo := of'
  unfold FrOk at fo
  have kb := h2.blk
  refine ⟨fun q s q0 s0 => ?_, fun s s1 => ?_, ?_, ?_⟩
  · unfold askB
    rw [mid_blk, mid_blk, mid_len, mid_len, mid_take, mid_take]
    have w := h1.work s0 oa ob
    have z := lost_le lo fa oka okb f0 l0 (s := s + f.2) (s' := s + g.2) (by omega) (by have := hf.2; omega)
    have m : q * f.2 ≤ q * g.2 := Int.mul_le_mul_of_nonneg_left hf.2 q0
    omega
  · unfold askL
    rw [mid_blk, mid_blk, mid_take1, mid_take1]
    have w := (h1.app (.cons hf .nil)).work (s := s - 1) (by omega) (fun x hx => ?_) (fun x hx => ?_)
    · have z := lost_le lo fa oka okb f0 l0 (s := s) (s' := s) (by omega) (Int.le_refl _)
      omega
    · rcases List.mem_append.mp hx with hx | hx
      · exact oa x hx
      · rw [List.mem_singleton.mp hx]; exact of'
    · rcases List.mem_append.mp hx with hx | hx
      · exact ob x hx
      · rw [List.mem_singleton.mp hx]; exact og
  · rw [mid_per, mid_per]; exact hf.1
  · rw [mid_len, mid_len]; exact hf.2
/-- two beside one another, exchanged -/
theorem und_swap {as cs : List (Int × Int)} {f e : Int × Int} {ap : Option Int} {re : Int} (ok : ∀ x ∈ as ++ f :: e :: cs, FrOk x) : Und (as ++ f :: e :: cs) as.length ap re (as ++ e :: f :: cs) (as.length + 1) ap re := by
  have p : (as ++ f :: e :: cs).Perm (as ++ e :: f :: cs) := (List.Perm.swap e f cs).append_left as
  have lo : longI (as ++ f :: e :: cs) = longI (as ++ e :: f :: cs) := longI_perm (fun x hx => ok x (p.mem_iff.mpr hx)) p
  have oe := ok e (List.mem_append_right _ (List.mem_cons_of_mem _ List.mem_cons_self))
  unfold FrOk at oe
  have re1 : as ++ e :: f :: cs = (as ++ [e]) ++ f :: cs := by simp
  have rl : as.length + 1 = (as ++ [e]).length := by simp
  have bk : blkI (e :: cs) ≤ blkI cs + e.2 := by
    refine (maxI_le_iff2 _ _ _).mpr ⟨?_, fun n hn => ?_⟩
    · have : 0 ≤ blkI cs := maxI_le_start _ _
      omega
    · have k0 : 0 ≤ blkI cs := maxI_le_start _ _
      rw [List.map_cons] at hn
      rcases List.mem_cons.mp hn with rfl | hn
      · omega
      · have := maxI_ge 0 hn
        unfold blkI
        omega
  have more : ∀ s : Int, 0 ≤ s → e.2 ≤ e.2 * (s / e.1 + 1) := fun s s0 => by
    have h0 := Int.ediv_nonneg s0 (by omega : 0 ≤ e.1)
    have := Int.mul_le_mul_of_nonneg_left (by omega : (1 : Int) ≤ s / e.1 + 1) (by omega : 0 ≤ e.2)
    omega
  have lost : ∀ s, lostI (as ++ f :: e :: cs) ap re s = lostI ((as ++ [e]) ++ f :: cs) ap re s := fun s => by unfold lostI moreI; rw [lo, re1]
  rw [re1, rl]
  refine ⟨fun q s q0 s0 => ?_, fun s s1 => ?_, ?_, ?_⟩
  · unfold askB
    rw [mid_blk, mid_blk, mid_len, mid_len, mid_take, mid_take, work_app, work_cons, lost]
    have := more s s0
    have : workI [] s = 0 := rfl
    omega
  · unfold askL
    rw [mid_blk, mid_blk, mid_take1, mid_take1, work_app, work_app, work_app, work_cons e, lost]
    have := more (s - 1) (by omega)
    have : workI [] (s - 1) = 0 := rfl
    omega
  · rw [mid_per, mid_per]; exact Int.le_refl _
  · rw [mid_len, mid_len]; exact Int.le_refl _
/-- the same asked, the same bound -/
theorem bound_same {qs ps : List (Int × Int)} {r' r : Nat} {ap : Option Int} {re : Int} (b : ∀ q s, askB qs r' q ap re s = askB ps r q ap re s) (l : ∀ s, askL qs r' ap re s = askL ps r ap re s) (T : perOf qs r' = perOf ps r) (c : lenOf qs r' = lenOf ps r) : boundI qs r' ap re = boundI ps r ap re := by
  have bf : ∀ q, askB qs r' q ap re = askB ps r q ap re := fun q => funext (b q)
  have lf : askL qs r' ap re = askL ps r ap re := funext l
  have sq : ∀ q, seqB qs r' ap re q = seqB ps r ap re q := fun q => by
    induction q with
    | zero => unfold seqB; rw [bf]
    | succ q ih => unfold seqB; rw [bf, ih]
  have bu : busyI qs r' ap re = busyI ps r ap re := by unfold busyI; rw [lf]
  unfold boundI manyI
  rw [bu, T, show timeI qs r' ap re = timeI ps r ap re from funext fun q => by unfold timeI; rw [sq, c, T]]
theorem work_perm {as bs : List (Int × Int)} (h : as.Perm bs) (s : Int) : workI as s = workI bs s := by
  induction h with
  | nil => rfl
  | cons a _ ih => rw [work_cons, work_cons, ih]
  | swap a b l => rw [work_cons, work_cons, work_cons, work_cons]; omega
  | trans _ _ x y => rw [x, y]
end Lw

/-! lesser plans: places, looseness -/
namespace Lw
open PySem PySem.Spec PyProof.Rows L2 DL
def PosD (qs : List (Int × Int)) (k : Nat) (ps : List (Int × Int)) (r : Nat) : Prop := ∃ as f cs bs g ds, qs = as ++ f :: cs ∧ as.length = k ∧ ps = bs ++ g :: ds ∧ bs.length = r ∧ SubD as bs ∧ FDom f g ∧ SubD cs ds
theorem PosD.at {xs : List (Int × Int)} {k : Nat} (h : k < xs.length) : PosD xs k xs k := by
  have e : xs = xs.take k ++ xs[k] :: xs.drop (k + 1) := by rw [← List.drop_eq_getElem_cons h, List.take_append_drop]
  exact ⟨xs.take k, xs[k], xs.drop (k + 1), xs.take k, xs[k], xs.drop (k + 1), e, by rw [List.length_take]; omega, e, by rw [List.length_take]; omega, SubD.refl _, FDom.refl _, SubD.refl _⟩
theorem PosD.right {qs ps cs ds : List (Int × Int)} {k r : Nat} (h : PosD qs k ps r) (s : SubD cs ds) : PosD (qs ++ cs) k (ps ++ ds) r := by
  obtain ⟨as, f, cs', bs, g, ds', rfl, e1, rfl, e2, h1, hf, h2⟩ := h
  exact ⟨as, f, cs' ++ cs, bs, g, ds' ++ ds, by simp, e1, by simp, e2, h1, hf, h2.app s⟩
theorem PosD.left {qs ps as bs : List (Int × Int)} {k r : Nat} (s : SubD as bs) (h : PosD qs k ps r) : PosD (as ++ qs) (as.length + k) (bs ++ ps) (bs.length + r) := by
  obtain ⟨as', f, cs', bs', g, ds', rfl, e1, rfl, e2, h1, hf, h2⟩ := h
  exact ⟨as ++ as', f, cs', bs ++ bs', g, ds', by simp, by rw [List.length_append, e1], by simp, by rw [List.length_append, e2], s.app h1, hf, h2⟩
theorem PosD.lt {qs ps : List (Int × Int)} {k r : Nat} (h : PosD qs k ps r) : r < ps.length := by
  obtain ⟨as', f, cs', bs', g, ds', rfl, e1, rfl, e2, h1, hf, h2⟩ := h
  rw [List.length_append, List.length_cons]; omega
theorem PosD.und {qs ps : List (Int × Int)} {k r : Nat} {aq ap : Option Int} {rf re : Int} (h : PosD qs k ps r) (okp : ∀ x ∈ qs, FrOk x) (okq : ∀ x ∈ ps, FrOk x) (fa : FaLe aq rf ap re) (oka : ApOk ap) (okb : ApOk aq) (f0 : 0 ≤ rf) : Und qs k aq rf ps r ap re := by
  obtain ⟨as', f, cs', bs', g, ds', rfl, rfl, rfl, rfl, h1, hf, h2⟩ := h
  exact und_of h1 hf h2 okp okq fa oka okb f0
/-- changed at a place -/
theorem PosD.chg {A C : List (Int × Int)} {f' f : Int × Int} (h : FDom f' f) {k : Nat} (hk : k < (A ++ f' :: C).length) : PosD (A ++ f' :: C) k (A ++ f :: C) k := by
  rw [List.length_append, List.length_cons] at hk
  by_cases c : k < A.length
  · exact (PosD.at c).right (.cons h (SubD.refl C))
  by_cases c2 : k = A.length
  · subst c2
    exact ⟨A, f', C, A, f, C, rfl, rfl, rfl, rfl, SubD.refl _, h, SubD.refl _⟩
  have hj : k - (A.length + 1) < C.length := by omega
  have := PosD.left ((SubD.refl A).app (.cons h .nil)) (PosD.at hj)
  rw [List.length_append, List.length_append, List.length_singleton, List.length_singleton, show A.length + 1 + (k - (A.length + 1)) = k by omega, List.append_assoc, List.append_assoc] at this
  exact this
/-- taken out at a place -/
theorem PosD.out {A C : List (Int × Int)} (f : Int × Int) {k : Nat} (hk : k < (A ++ C).length) : PosD (A ++ C) k (A ++ f :: C) (if k < A.length then k else k + 1) := by
  rw [List.length_append] at hk
  by_cases c : k < A.length
  · rw [if_pos c]
    exact (PosD.at c).right (.skip f (SubD.refl C))
  rw [if_neg c]
  have hj : k - A.length < C.length := by omega
  have s : SubD A (A ++ [f]) := by have := (SubD.refl A).app (SubD.skip f .nil); rwa [List.append_nil] at this
  have := PosD.left s (PosD.at hj)
  rw [List.length_append, List.length_singleton, show A.length + (k - A.length) = k by omega, show A.length + 1 + (k - A.length) = k + 1 by omega, List.append_assoc] at this
  exact this
theorem fr_pos {ps : List (Int × Int)} (h : ∀ q ∈ ps, FrOk q) : 0 ≤ sumI (ps.map swp) ∧ 0 < prodI (ps.map swp) := by
  have k : ∀ f ∈ ps.map swp, 0 ≤ f.1 ∧ 1 ≤ f.2 := fun f hf => by
    obtain ⟨q, hq, rfl⟩ := List.mem_map.mp hf
    have := h q hq
    unfold FrOk at this
    unfold swp
    dsimp only
    omega
  exact ⟨sumI_nonneg k, prodI_pos fun f hf => (k f hf).2⟩
theorem SubD.share {qs ps : List (Int × Int)} (h : SubD qs ps) : (∀ q ∈ qs, FrOk q) → (∀ q ∈ ps, FrOk q) → LeS (sh0 (qs.map swp)) (sh0 (ps.map swp)) := by
  induction h with
  | nil => exact fun _ _ => Int.le_refl _
  | skip b h ih =>
    intro hq hp
    have i := ih hq fun x hx => hp x (List.mem_cons_of_mem _ hx)
    have b0 := hp b List.mem_cons_self
    unfold FrOk at b0
    have p1 := fr_pos hq
    have p2 := fr_pos fun x hx => hp x (List.mem_cons_of_mem _ hx)
    have p3 := fr_pos hp
    rw [List.map_cons] at p3 ⊢
    exact LeS.trans (show 0 < prodI _ from p1.2) (show 0 < prodI _ from p2.2) (show 0 < prodI _ from p3.2) i (put_le (show 0 ≤ b.2 by omega) p2.2)
  | @cons a b as bs f h ih =>
    intro hq hp
    have i := ih (fun x hx => hq x (List.mem_cons_of_mem _ hx)) fun x hx => hp x (List.mem_cons_of_mem _ hx)
    have a0 := hq a List.mem_cons_self
    have b0 := hp b List.mem_cons_self
    unfold FrOk at a0 b0
    have p1 := fr_pos fun x hx => hq x (List.mem_cons_of_mem _ hx)
    have p2 := fr_pos fun x hx => hp x (List.mem_cons_of_mem _ hx)
    have q1 := fr_pos hq
    have q2 := fr_pos hp
    rw [List.map_cons] at q1 q2 ⊢
    rw [List.map_cons]
    have fl : LeS (swp a) (swp b) := by
      unfold LeS swp
      dsimp only
      exact Int.mul_le_mul f.2 f.1 (by omega) (by omega)
    have m1 : LeS (sh0 (swp a :: as.map swp)) (sh0 (swp b :: as.map swp)) := less_le fl p1.2
    have m2 : LeS (sh0 (swp b :: as.map swp)) (sh0 (swp b :: bs.map swp)) := by
      unfold LeS sh0 at i ⊢
      dsimp only at i ⊢
      rw [sumI, prodI, sumI, prodI]
      have b1 : 0 ≤ (swp b).2 * (swp b).2 := Int.mul_nonneg (show 0 ≤ b.1 by omega) (show 0 ≤ b.1 by omega)
      have := Int.mul_le_mul_of_nonneg_left i b1
      have e1 : ((swp b).1 * prodI (as.map swp) + (swp b).2 * sumI (as.map swp)) * ((swp b).2 * prodI (bs.map swp)) = (swp b).1 * (swp b).2 * prodI (as.map swp) * prodI (bs.map swp) + (swp b).2 * (swp b).2 * (sumI (as.map swp) * prodI (bs.map swp)) := by grind
      have e2 : ((swp b).1 * prodI (bs.map swp) + (swp b).2 * sumI (bs.map swp)) * ((swp b).2 * prodI (as.map swp)) = (swp b).1 * (swp b).2 * prodI (as.map swp) * prodI (bs.map swp) + (swp b).2 * (swp b).2 * (sumI (bs.map swp) * prodI (as.map swp)) := by grind
      omega
    have p4 : 0 < prodI (swp b :: as.map swp) := by rw [prodI]; exact Int.mul_pos (show 0 < b.1 by omega) p1.2
    exact LeS.trans (show 0 < prodI _ from q1.2) (show 0 < prodI _ from p4) (show 0 < prodI _ from q2.2) m1 m2
theorem SubD.loose {qs ps : List (Int × Int)} {aq ap : Option Int} {rf re : Int} (h : SubD qs ps) (ls : LsPl ps ap re) (okq : PlOk qs) (fa : FaLe aq rf ap re) (okb : ApOk aq) (f0 : 0 ≤ rf) : LsPl qs aq rf := by
  have r9 := ls.r9
  obtain ⟨f1, f2⟩ := fa
  refine ⟨okq, okb, f0, by omega, ?_⟩
  have s := h.share okq.2 ls.ok.2
  have p1 := fr_pos okq.2
  have p2 := fr_pos ls.ok.2
  have lq := longI_le okq.2
  have lp := longI_le ls.ok.2
  have ll := h.len
  have main : LeS (shareI qs aq rf) (shareI ps ap re) := by
    cases aq with
    | none =>
      cases ap with
      | none => rw [shareI_none_eq, shareI_none_eq]; exact s
      | some a =>
        have := ls.oka.1
        rw [shareI_none_eq, shareI_some_eq]
        refine LeS.trans (show 0 < prodI _ from p1.2) (show 0 < prodI _ from p2.2) ?_ s (put_le (by dsimp only; have := ls.r0; omega) p2.2)
        show 0 < prodI _
        rw [prodI]
        exact Int.mul_pos (by dsimp only; omega) p2.2
    | some a' =>
      cases ap with
      | none => exact f2.elim
      | some a =>
        have := ls.oka.1
        have := okb.1
        have := ls.r0
        dsimp only at f2
        rw [shareI_some_eq, shareI_some_eq]
        have q1 : 0 < prodI ((rf + longI qs, a') :: qs.map swp) := by rw [prodI]; exact Int.mul_pos (by dsimp only; omega) p1.2
        have q2 : 0 < prodI ((re + longI ps, a) :: qs.map swp) := by rw [prodI]; exact Int.mul_pos (by dsimp only; omega) p1.2
        have q3 : 0 < prodI ((re + longI ps, a) :: ps.map swp) := by rw [prodI]; exact Int.mul_pos (by dsimp only; omega) p2.2
        refine LeS.trans (show 0 < prodI _ from q1) (show 0 < prodI _ from q2) (show 0 < prodI _ from q3) (less_le ?_ p1.2) ?_
        · unfold LeS
          dsimp only
          exact Int.mul_le_mul (by omega) f2 (by omega) (by omega)
        · unfold LeS sh0 at s ⊢
          dsimp only at s ⊢
          rw [sumI, prodI, sumI, prodI]
          dsimp only
          generalize re + longI ps = m
          have b1 : 0 ≤ a * a := Int.mul_nonneg (by omega) (by omega)
          have := Int.mul_le_mul_of_nonneg_left s b1
          have e1 : (m * prodI (qs.map swp) + a * sumI (qs.map swp)) * (a * prodI (ps.map swp)) = m * a * prodI (qs.map swp) * prodI (ps.map swp) + a * a * (sumI (qs.map swp) * prodI (ps.map swp)) := by grind
          have e2 : (m * prodI (ps.map swp) + a * sumI (ps.map swp)) * (a * prodI (qs.map swp)) = m * a * prodI (qs.map swp) * prodI (ps.map swp) + a * a * (sumI (ps.map swp) * prodI (qs.map swp)) := by grind
          omega
  exact le_loose (shareI_ok okq okb ⟨f0, by omega⟩).2.1 (shareI_ok ls.ok ls.oka ⟨ls.r0, ls.r9⟩).2.1 main ls.ls
end Lw

/-! orders of frames, bounds of all in an order -/
namespace Lw
open PySem PySem.Spec PyProof.Rows L2 DL
theorem work_mono {ps : List (Int × Int)} (h : ∀ q ∈ ps, FrOk q) {x y : Int} (l : x ≤ y) : workI ps x ≤ workI ps y := by
  induction ps with
  | nil => exact Int.le_refl _
  | cons a as ih =>
    have i := ih fun z hz => h z (List.mem_cons_of_mem _ hz)
    have a0 := h a List.mem_cons_self
    unfold FrOk at a0
    rw [work_cons, work_cons]
    have : x / a.1 ≤ y / a.1 := Int.ediv_le_ediv (by omega) l
    have := Int.mul_le_mul_of_nonneg_left (by omega : x / a.1 + 1 ≤ y / a.1 + 1) (by omega : 0 ≤ a.2)
    omega
theorem work_pos {ps : List (Int × Int)} (h : ∀ q ∈ ps, FrOk q) {s : Int} (s0 : 0 ≤ s) : 0 ≤ workI ps s := by
  induction ps with
  | nil => exact Int.le_refl _
  | cons a as ih =>
    have i := ih fun z hz => h z (List.mem_cons_of_mem _ hz)
    have a0 := h a List.mem_cons_self
    unfold FrOk at a0
    rw [work_cons]
    have h0 := Int.ediv_nonneg s0 (by omega : 0 ≤ a.1)
    have := Int.mul_nonneg (by omega : 0 ≤ a.2) (by omega : 0 ≤ s / a.1 + 1)
    omega
theorem lost_pos {ps : List (Int × Int)} {ap : Option Int} {re s : Int} (ls : LsPl ps ap re) (s0 : 0 ≤ s) : 0 ≤ lostI ps ap re s := by
  have l := longI_le ls.ok.2
  have r0 := ls.r0
  unfold lostI moreI
  cases ap with
  | none => exact Int.le_refl _
  | some a =>
    have := ls.oka.1
    dsimp only
    have h0 := Int.ediv_nonneg (by omega : 0 ≤ s + (re + longI ps)) (by omega : 0 ≤ a)
    exact Int.mul_nonneg (by omega) (by omega)
theorem bound_busy {ps : List (Int × Int)} {ap : Option Int} {re : Int} {r : Nat} (ls : LsPl ps ap re) (hr : r < ps.length) : boundI ps r ap re ≤ busyI ps r ap re := by
  obtain ⟨K, ek, k1, k9, ka, _⟩ := busy_ok ls r
  obtain ⟨mk0, mk1, mk2⟩ := many_ok ls hr
  have f := lenOf_ok ls.ok hr
  unfold FrOk at f
  dsimp only at f
  rw [ek] at mk2 ⊢
  have sp : ps = ps.take r ++ ps[r] :: ps.drop (r + 1) := by rw [← List.drop_eq_getElem_cons hr, List.take_append_drop]
  have eq : ps[r] = (perOf ps r, lenOf ps r) := by unfold perOf lenOf; rw [List.getD_eq_getElem?_getD, List.getElem?_eq_getElem hr]; rfl
  have t1 : ps.take (r + 1) = ps.take r ++ [(perOf ps r, lenOf ps r)] := by rw [List.take_add_one, List.getElem?_eq_getElem hr, eq]; rfl
  have okt : ∀ q ∈ ps.take r, FrOk q := fun q hq => ls.ok.2 q (List.mem_of_mem_take hq)
  have w1 : workI [(perOf ps r, lenOf ps r)] (K - 1) = lenOf ps r * manyI ps r ap re := by
    rw [work_cons, ← mk2]
    show _ + 0 = _
    rw [Int.add_zero]
  have bk := (blockI_le ls.ok r).1
  have lp := lost_pos ls (s := K) (by omega)
  have wp := work_pos okt (s := K - 1) (by omega)
  have ka2 := ka
  unfold askL at ka2
  rw [t1, work_app, w1] at ka2
  have lm : lenOf ps r ≤ lenOf ps r * manyI ps r ap re := by
    have := Int.mul_le_mul_of_nonneg_left (by omega : (1 : Int) ≤ manyI ps r ap re) (by omega : 0 ≤ lenOf ps r)
    omega
  refine (maxI_le_iff2 _ _ _).mpr ⟨by omega, fun n hn => ?_⟩
  obtain ⟨q, hq', rfl⟩ := List.mem_map.mp hn
  have hq := List.mem_range.mp hq'
  obtain ⟨i0, i1, i2, i3⟩ := seqB_ok ls hr q (by omega)
  have qT : 0 ≤ (q : Int) * perOf ps r := Int.mul_nonneg (by omega) (by omega)
  have low : askB ps r q ap re (K - lenOf ps r) ≤ K - lenOf ps r := by
    unfold askB
    rw [show K - lenOf ps r + lenOf ps r = K by omega]
    have w := work_mono okt (x := K - lenOf ps r) (y := K - 1) (by omega)
    have m : (q : Int) * lenOf ps r + lenOf ps r ≤ lenOf ps r * manyI ps r ap re := by
      have := Int.mul_le_mul_of_nonneg_left (by omega : (q : Int) + 1 ≤ manyI ps r ap re) (by omega : 0 ≤ lenOf ps r)
      have e : lenOf ps r * ((q : Int) + 1) = q * lenOf ps r + lenOf ps r := by grind
      omega
    omega
  unfold timeI
  by_cases c : seqB ps r ap re q ≤ K - lenOf ps r
  · omega
  · have := i3 (K - lenOf ps r) (by omega) (by omega)
    omega
theorem bound_pos {ps : List (Int × Int)} {r : Nat} {ap : Option Int} {re : Int} (ls : LsPl ps ap re) (hr : r < ps.length) : 1 ≤ boundI ps r ap re ∧ boundI ps r ap re ≤ 9000 := by
  obtain ⟨mk0, mk1, mk2⟩ := many_ok ls hr
  obtain ⟨i0, _⟩ := seqB_ok ls hr 0 (by omega)
  obtain ⟨K, ek, k1, k9, ka, _⟩ := busy_ok ls r
  have l := lenOf_ok ls.ok hr
  unfold FrOk at l
  dsimp only at l
  have b := bound_busy ls hr
  have h := time_le2 (ps := ps) (r := r) (ap := ap) (re := re) (q := 0) (by omega)
  unfold timeI at h
  simp at h
  omega
/-! ### orders -/
abbrev Ord (n : Nat) (os : List Nat) : Prop := os.Perm (List.range n)
theorem Ord.len {n : Nat} {os : List Nat} (h : Ord n os) : os.length = n := by rw [h.length_eq, List.length_range]
theorem Ord.lt {n : Nat} {os : List Nat} (h : Ord n os) {p : Nat} : p ∈ os ↔ p < n := by rw [h.mem_iff, List.mem_range]
theorem Ord.nd {n : Nat} {os : List Nat} (h : Ord n os) : os.Nodup := h.nodup_iff.mpr List.nodup_range
theorem Ord.ix {n : Nat} {os : List Nat} (h : Ord n os) {p : Nat} (hp : p < n) : os.idxOf p < n := by
  have := List.idxOf_lt_length_iff.mpr (h.lt.mpr hp)
  rwa [h.len] at this
def inOrd (ps : List (Int × Int)) (os : List Nat) : List (Int × Int) := os.map fun o => ps.getD o (0, 0)
theorem inOrd_len (ps : List (Int × Int)) (os : List Nat) : (inOrd ps os).length = os.length := by unfold inOrd; rw [List.length_map]
theorem inOrd_perm {ps : List (Int × Int)} {os : List Nat} (h : Ord ps.length os) : (inOrd ps os).Perm ps := by
  have e : (List.range ps.length).map (fun o => ps.getD o (0, 0)) = ps := by
    refine List.ext_getElem (by simp) fun i h1 h2 => ?_
    rw [List.getElem_map, List.getElem_range, List.getD_eq_getElem?_getD, List.getElem?_eq_getElem h2]; rfl
  have := h.map fun o => ps.getD o (0, 0)
  rw [e] at this
  exact this
theorem inOrd_ls {ps : List (Int × Int)} {os : List Nat} {ap : Option Int} {re : Int} (ls : LsPl ps ap re) (h : Ord ps.length os) : LsPl (inOrd ps os) ap re := ls.perm (inOrd_perm h)
/-- the bounds by places, of those of the first j ranks -/
def partB (ps : List (Int × Int)) (os : List Nat) (ap : Option Int) (re : Int) (j : Nat) : List Int := (List.range ps.length).map fun p => if os.idxOf p < j then boundI (inOrd ps os) (os.idxOf p) ap re else 0
theorem partB_len (ps : List (Int × Int)) (os : List Nat) (ap : Option Int) (re : Int) (j : Nat) : (partB ps os ap re j).length = ps.length := by unfold partB; rw [List.length_map, List.length_range]
theorem partB_0 (ps : List (Int × Int)) (os : List Nat) (ap : Option Int) (re : Int) : partB ps os ap re 0 = ps.map fun _ => 0 := by
  unfold partB
  refine List.ext_getElem (by simp) fun i h1 h2 => ?_
  rw [List.getElem_map, List.getElem_map, if_neg (Nat.not_lt_zero _)]
theorem partB_set {ps : List (Int × Int)} {os : List Nat} (h : Ord ps.length os) (ap : Option Int) (re : Int) {j : Nat} (hj : j < os.length) : (partB ps os ap re j).set os[j] (boundI (inOrd ps os) j ap re) = partB ps os ap re (j + 1) := by
  unfold partB
  refine List.ext_getElem (by simp) fun i h1 h2 => ?_
  rw [List.getElem_set, List.getElem_map, List.getElem_map, List.getElem_range]
  by_cases c : os[j] = i
  · rw [if_pos c]
    have e : os.idxOf i = j := by rw [← c]; exact h.nd.idxOf_getElem j hj
    rw [e, if_pos (Nat.lt_succ_self j)]
  · rw [if_neg c]
    have hi : i < ps.length := by simpa using h2
    have hx := h.ix hi
    have ne : os.idxOf i ≠ j := fun z => by
      have := List.getElem_idxOf (x := i) (xs := os) (by rw [h.len]; exact hx)
      subst z
      exact c this
    by_cases d : os.idxOf i < j
    · rw [if_pos d, if_pos (by omega)]
    · rw [if_neg d, if_neg (by omega)]
def allB (ps : List (Int × Int)) (os : List Nat) (ap : Option Int) (re : Int) : List Int := partB ps os ap re ps.length
theorem allB_get {ps : List (Int × Int)} {os : List Nat} (h : Ord ps.length os) (ap : Option Int) (re : Int) {p : Nat} (hp : p < ps.length) : (allB ps os ap re)[p]? = some (boundI (inOrd ps os) (os.idxOf p) ap re) := by
  unfold allB partB
  rw [List.getElem?_map, List.getElem?_range hp, Option.map_some, if_pos (h.ix hp)]
/-- each in time -/
def Meets (ps : List (Int × Int)) (dl : List Int) (os : List Nat) (ap : Option Int) (re : Int) : Prop := ∀ r, r < ps.length → boundI (inOrd ps os) r ap re ≤ dl.getD (os.getD r 0) 0
theorem meets_all {ps : List (Int × Int)} {os : List Nat} (h : Ord ps.length os) (dl : List Int) (ap : Option Int) (re : Int) : Meets ps dl os ap re ↔ ∀ p, p < ps.length → boundI (inOrd ps os) (os.idxOf p) ap re ≤ dl.getD p 0 := by
  constructor
  · intro m p hp
    have hx := h.ix hp
    have := m _ hx
    have e : os.getD (os.idxOf p) 0 = p := by
      rw [List.getD_eq_getElem?_getD, List.getElem?_eq_getElem (by rw [h.len]; exact hx), List.getElem_idxOf]; rfl
    rw [e] at this
    exact this
  · intro m r hr
    have hl : r < os.length := by rw [h.len]; exact hr
    have hm : os[r] < ps.length := h.lt.mp (List.getElem_mem hl)
    have := m _ hm
    rw [h.nd.idxOf_getElem r hl] at this
    rw [List.getD_eq_getElem?_getD (l := os), List.getElem?_eq_getElem hl]
    exact this
def DlOk (n : Nat) (dl : List Int) : Prop := dl.length = n ∧ ∀ d ∈ dl, 1 ≤ d ∧ d ≤ 9999
def rksD (rks : List Nat) : List D := rks.map fun (r : Nat) => D.int (r : Int)
theorem rks_range (n : Nat) : rangeD 0 n = rksD (List.range n) := by
  unfold rangeD rksD
  refine List.map_congr_left fun k _ => ?_
  rw [Int.zero_add]
theorem rksD_len (rks : List Nat) : (rksD rks).length = rks.length := by unfold rksD; rw [List.length_map]
theorem rksD_app (a b : List Nat) : rksD a ++ rksD b = rksD (a ++ b) := by unfold rksD; rw [List.map_append]
theorem rksD_cut (a : List Nat) (lo hi : Option Int) : DL.cutD (rksD a) lo hi = rksD (DL.cutD a lo hi) := cutD_map _ _ _ _
theorem ix_rks {rks : List Nat} {k r : Nat} (h : rks[k]? = some r) : OT.ix (.fz (.nd .lst (rksD rks))) (.fz (.int (k : Int))) = some (.fz (.int (r : Int))) := ixl_nat k (by unfold rksD; rw [List.getElem?_map, h]; rfl)
theorem askB_none (ps : List (Int × Int)) (r : Nat) (q x y : Int) : askB ps r q none x = askB ps r q none y := rfl
theorem seqB_none (ps : List (Int × Int)) (r : Nat) (x y : Int) : ∀ q : Nat, seqB ps r none x q = seqB ps r none y q
  | 0 => rfl
  | q + 1 => by rw [seqB, seqB, seqB_none ps r x y q, askB_none ps r _ x y]
theorem manyI_none (ps : List (Int × Int)) (r : Nat) (x y : Int) : manyI ps r none x = manyI ps r none y := rfl
theorem boundI_none (ps : List (Int × Int)) (r : Nat) (x y : Int) : boundI ps r none x = boundI ps r none y := by
  unfold boundI
  rw [manyI_none ps r x y, show timeI ps r none x = timeI ps r none y from funext fun q => by unfold timeI; rw [seqB_none ps r x y q]]
theorem LsPl.none {ps : List (Int × Int)} {re : Int} (h : LsPl ps none re) (x : Int) (x0 : 0 ≤ x) (x9 : x ≤ 9) : LsPl ps none x := ⟨h.ok, trivial, x0, x9, h.ls⟩
/-- a comprehension with an if -/
theorem lc_invF {g : WG} {we : WE} {wt : WT} {vs : List Nat} {Q : OT → Env' → Prop} (I : List D → List D → Env' → Prop) (hs : ∀ d ds acc env (N : List D → Env' → Prop), I (d :: ds) acc env → (∀ acc' e', I ds acc' e' → N acc' e') → g d env fun e1 => wt e1 fun c e2 => if c = true then we e2 fun z e3 => acc.length < sizeLine ∧ N (acc ++ [z]) (unAt e3 vs) else N acc (unAt e2 vs)) (he : ∀ acc e', I [] acc e' → Q (.nd .lst (acc.map .fz)) e') :
    ∀ (ds acc : List D) (env : Env'), I ds acc env → lcD vs g wt we ds acc env Q
  | [], acc, env, hI => by unfold lcD; exact he acc env hI
  | d :: ds, acc, env, hI => by
    unfold lcD
    exact hs d ds acc env _ hI fun acc' e' h' => lc_invF I hs he ds acc' e' h'
theorem nb_rks (rks : List Nat) : nb 1 (.nd .lst (rksD rks)) = true := by
  have := nb_numsD (rks.map fun (r : Nat) => (r : Int))
  unfold numsD at this
  rw [List.map_map] at this
  exact this
theorem eqv_rks_nil (rks : List Nat) : (D.nd .lst (rksD rks)).eqv (.nd .lst []) = decide (rks = []) := by
  rw [eqv_lst]
  cases rks with
  | nil => rfl
  | cons q ps =>
    unfold rksD
    rw [List.map_cons, eqvL_cn]; rfl
theorem eqv_nums_nil (ns : List Int) : (D.nd .lst (numsD ns)).eqv (.nd .lst []) = decide (ns = []) := by
  rw [eqv_lst]
  cases ns with
  | nil => rfl
  | cons q ps =>
    unfold numsD
    rw [List.map_cons, eqvL_cn]; rfl
theorem rks_ints (rks : List Nat) : D.ints (rksD rks) = some (rks.map fun (r : Nat) => (r : Int)) := by
  have := ints_num (rks.map fun (r : Nat) => (r : Int))
  unfold numsD at this
  rw [List.map_map] at this
  exact this
theorem cast_nd {rks : List Nat} (h : rks.Nodup) : (rks.map fun (r : Nat) => (r : Int)).Nodup := by
  refine List.pairwise_map.mpr (h.imp fun hab e => hab (by omega))
end Lw

/-! what is gone through downwards -/
namespace Lw
open PySem PySem.Spec PyProof.Rows L2 DL
theorem downD_succ (hi : Int) (n : Nat) : downD hi (n + 1) = .int hi :: downD (hi - 1) n := by
  unfold downD
  rw [List.range_succ_eq_map, List.map_cons, List.map_map]
  congr 1
  · simp
  · refine List.map_congr_left fun k _ => ?_
    show D.int (hi - ((k + 1 : Nat) : Int)) = D.int (hi - 1 - (k : Int))
    congr 1
    omega
theorem opt_n : optD none = .non := rfl
theorem opt_s (a : Int) : optD (some a) = .int a := rfl
end Lw

/-! orders that are built from behind -/
namespace Lw
open PySem PySem.Spec PyProof.Rows L2 DL
theorem blk_perm {as bs : List (Int × Int)} (h : as.Perm bs) : blkI as = blkI bs := by
  have key : ∀ {as bs : List (Int × Int)}, as.Perm bs → blkI as ≤ blkI bs := fun {as bs} h => by
    refine (maxI_le_iff2 _ _ _).mpr ⟨maxI_le_start _ _, fun n hn => ?_⟩
    obtain ⟨a, ha, rfl⟩ := List.mem_map.mp hn
    exact maxI_ge 0 (List.mem_map.mpr ⟨a, h.mem_iff.mp ha, rfl⟩)
  have h1 := key h
  have h2 := key h.symm
  omega
theorem same_rank {qs ps : List (Int × Int)} {r : Nat} {ap : Option Int} {re : Int} (p0 : (qs.take r).Perm (ps.take r)) (p1 : (qs.take (r + 1)).Perm (ps.take (r + 1))) (pd : (qs.drop (r + 1)).Perm (ps.drop (r + 1))) (g : qs.getD r (0, 0) = ps.getD r (0, 0)) (l : longI qs = longI ps) : boundI qs r ap re = boundI ps r ap re := by
  have bk : blockI qs r = blockI ps r := blk_perm pd
  have ln : lenOf qs r = lenOf ps r := by unfold lenOf; rw [g]
  have lo : ∀ s, lostI qs ap re s = lostI ps ap re s := fun s => by unfold lostI moreI; rw [l]
  refine bound_same (fun q s => ?_) (fun s => ?_) (by unfold perOf; rw [g]) ln
  · unfold askB
    rw [bk, ln, work_perm p0, lo]
  · unfold askL
    rw [bk, work_perm p1, lo]
theorem blk_more {f : Int × Int} {cs : List (Int × Int)} (f0 : 0 ≤ f.2) : blkI (f :: cs) ≤ blkI cs + f.2 := by
  have k0 : 0 ≤ blkI cs := maxI_le_start _ _
  refine (maxI_le_iff2 _ _ _).mpr ⟨by omega, fun n hn => ?_⟩
  rw [List.map_cons] at hn
  rcases List.mem_cons.mp hn with rfl | hn
  · omega
  · have := maxI_ge 0 hn
    unfold blkI
    omega
theorem blk_work {ex cs : List (Int × Int)} (h : ∀ x ∈ ex, FrOk x) {s : Int} (s0 : 0 ≤ s) : blkI (ex ++ cs) ≤ blkI cs + workI ex s := by
  induction ex with
  | nil => show blkI cs ≤ blkI cs + 0; omega
  | cons e ex ih =>
    have i := ih fun x hx => h x (List.mem_cons_of_mem _ hx)
    have e0 := h e List.mem_cons_self
    unfold FrOk at e0
    have b := blk_more (f := e) (cs := ex ++ cs) (by omega)
    have h0 := Int.ediv_nonneg s0 (by omega : 0 ≤ e.1)
    have := Int.mul_le_mul_of_nonneg_left (by omega : (1 : Int) ≤ s / e.1 + 1) (by omega : 0 ≤ e.2)
    rw [work_cons]
    show blkI (e :: (ex ++ cs)) ≤ _
    omega
/-- fewer ahead, these behind -/
theorem und_gen {as as' ex cs cs' : List (Int × Int)} {f : Int × Int} {ap : Option Int} {re : Int} (pa : as.Perm (as' ++ ex)) (pc : cs'.Perm (ex ++ cs)) (ok : ∀ x ∈ as ++ f :: cs, FrOk x) : Und (as' ++ f :: cs') as'.length ap re (as ++ f :: cs) as.length ap re := by
  have oa : ∀ x ∈ as, FrOk x := fun x hx => ok x (List.mem_append_left _ hx)
  have oe : ∀ x ∈ ex, FrOk x := fun x hx => oa x (pa.mem_iff.mpr (List.mem_append_right _ hx))
  have of' := ok f (List.mem_append_right _ List.mem_cons_self)
  have pm : (as' ++ f :: cs').Perm (as ++ f :: cs) := by
    have h1 : (as' ++ f :: cs').Perm (as' ++ f :: (ex ++ cs)) := (pc.cons f).append_left as'
    have h2 : (as' ++ f :: (ex ++ cs)).Perm ((as' ++ ex) ++ f :: cs) := by
      rw [List.append_assoc]
      exact (List.perm_middle.symm).append_left as'
    exact (h1.trans h2).trans (pa.symm.append_right (f :: cs))
  have lo : longI (as' ++ f :: cs') = longI (as ++ f :: cs) := longI_perm ok pm
  have lost : ∀ s, lostI (as' ++ f :: cs') ap re s = lostI (as ++ f :: cs) ap re s := fun s => by unfold lostI moreI; rw [lo]
  have bk : ∀ s, 0 ≤ s → blkI cs' ≤ blkI cs + workI ex s := fun s s0 => by rw [blk_perm pc]; exact blk_work oe s0
  have wk : ∀ s, workI as s = workI as' s + workI ex s := fun s => by rw [work_perm pa, work_app]
  refine ⟨fun q s q0 s0 => ?_, fun s s1 => ?_, ?_, ?_⟩
  · unfold askB
    rw [mid_blk, mid_blk, mid_len, mid_len, mid_take, mid_take, lost, wk]
    have := bk s s0
    omega
  · unfold askL
    rw [mid_blk, mid_blk, mid_take1, mid_take1, work_app, work_app, wk, lost]
    have := bk (s - 1) (by omega)
    omega
  · rw [mid_per, mid_per]; exact Int.le_refl _
  · rw [mid_len, mid_len]; exact Int.le_refl _
theorem bound_perm {as as' cs cs' : List (Int × Int)} {f : Int × Int} {ap : Option Int} {re : Int} (pa : as.Perm as') (pc : cs.Perm cs') (ls : LsPl (as ++ f :: cs) ap re) : boundI (as' ++ f :: cs') as'.length ap re = boundI (as ++ f :: cs) as.length ap re := by
  have pm : (as' ++ f :: cs').Perm (as ++ f :: cs) := (pa.symm.append_right _).trans ((pc.symm.cons f).append_left as)
  have ls' := ls.perm pm
  have pa1 : as.Perm (as' ++ []) := (List.append_nil as').symm ▸ pa
  have pa2 : as'.Perm (as ++ []) := (List.append_nil as).symm ▸ pa.symm
  have u1 := und_gen (ap := ap) (re := re) (ex := []) (cs := cs) (cs' := cs') (f := f) pa1 pc.symm ls.ok.2
  have u2 := und_gen (ap := ap) (re := re) (ex := []) (cs := cs') (cs' := cs) (f := f) pa2 pc ls'.ok.2
  have b1 := u1.bound ls' ls (by rw [List.length_append, List.length_cons]; omega) (by rw [List.length_append, List.length_cons]; omega)
  have b2 := u2.bound ls ls' (by rw [List.length_append, List.length_cons]; omega) (by rw [List.length_append, List.length_cons]; omega)
  omega
/-! ### what is left -/
structure LeftOk (n : Nat) (left : List Nat) : Prop where
  lt : ∀ p ∈ left, p < n
  up : left.Pairwise (· < ·)
theorem LeftOk.nd {n : Nat} {left : List Nat} (h : LeftOk n left) : left.Nodup := h.up.imp fun hab e => by omega
theorem LeftOk.len {n : Nat} {left : List Nat} (h : LeftOk n left) : left.length ≤ n := by
  have s : ((List.range n).filter fun o => left.contains o).Perm left := by
    refine (List.perm_ext_iff_of_nodup (List.Pairwise.filter _ List.nodup_range) h.nd).mpr fun a => ?_
    rw [List.mem_filter, List.mem_range, List.contains_iff_mem]
    exact ⟨fun z => z.2, fun z => ⟨h.lt a z, z⟩⟩
  have l1 := s.length_eq
  have l2 := List.length_filter_le (fun o => left.contains o) (List.range n)
  rw [List.length_range] at l2
  omega
def aheadL (left : List Nat) (p : Nat) : List Nat := left.filter fun o => !decide (o = p)
def restL (n : Nat) (left : List Nat) : List Nat := (List.range n).filter fun o => !left.contains o
theorem mem_ahead {left : List Nat} {p x : Nat} : x ∈ aheadL left p ↔ x ∈ left ∧ x ≠ p := by
  unfold aheadL
  rw [List.mem_filter]
  simp
theorem mem_rest {n : Nat} {left : List Nat} {x : Nat} : x ∈ restL n left ↔ x < n ∧ x ∉ left := by
  unfold restL
  rw [List.mem_filter, List.mem_range]
  simp
theorem nd_ahead {left : List Nat} (h : left.Nodup) (p : Nat) : (aheadL left p).Nodup := List.Pairwise.filter _ h
theorem nd_rest (n : Nat) (left : List Nat) : (restL n left).Nodup := List.Pairwise.filter _ List.nodup_range
def behO (n : Nat) (left : List Nat) (p : Nat) : List Nat := aheadL left p ++ p :: restL n left
theorem behO_ord {n : Nat} {left : List Nat} (h : LeftOk n left) {p : Nat} (hp : p ∈ left) : Ord n (behO n left p) := by
  have nd : (behO n left p).Nodup := by
    unfold behO
    rw [List.nodup_append]
    refine ⟨nd_ahead h.nd p, ?_, fun a ha b hb e => ?_⟩
    · rw [List.nodup_cons]
      exact ⟨fun z => (mem_rest.mp z).2 hp, nd_rest _ _⟩
    · subst e
      have h1 := mem_ahead.mp ha
      rcases List.mem_cons.mp hb with e | hb
      · exact h1.2 e
      · exact (mem_rest.mp hb).2 h1.1
  refine (List.perm_ext_iff_of_nodup nd List.nodup_range).mpr fun a => ?_
  unfold behO
  rw [List.mem_append, List.mem_cons, List.mem_range, mem_ahead, mem_rest]
  constructor
  · rintro (⟨h1, _⟩ | rfl | ⟨h1, _⟩)
    · exact h.lt a h1
    · exact h.lt _ hp
    · exact h1
  · intro ha
    by_cases c : a ∈ left
    · by_cases d : a = p
      · exact .inr (.inl d)
      · exact .inl ⟨c, d⟩
    · exact .inr (.inr ⟨ha, c⟩)
/-- the bound of p, the others that are left ahead of it -/
def behB (ps : List (Int × Int)) (left : List Nat) (p : Nat) (ap : Option Int) (re : Int) : Int := boundI (inOrd ps (behO ps.length left p)) (aheadL left p).length ap re
theorem inOrd_mid (ps : List (Int × Int)) (X : List Nat) (q : Nat) (Y : List Nat) : inOrd ps (X ++ q :: Y) = inOrd ps X ++ ps.getD q (0, 0) :: inOrd ps Y := by unfold inOrd; rw [List.map_append, List.map_cons]
theorem inOrd_map_perm {ps : List (Int × Int)} {X Y : List Nat} (h : X.Perm Y) : (inOrd ps X).Perm (inOrd ps Y) := h.map _
theorem exists_max (f : Nat → Nat) : ∀ {xs : List Nat}, xs ≠ [] → ∃ p ∈ xs, ∀ x ∈ xs, f x ≤ f p
  | [], h => absurd rfl h
  | [x], _ => ⟨x, List.mem_cons_self, fun y hy => by rw [List.mem_singleton.mp hy]; exact Nat.le_refl _⟩
  | x :: y :: xs, _ => by
    obtain ⟨p, hp, hm⟩ := exists_max f (xs := y :: xs) (fun z => nomatch z)
    by_cases c : f x ≤ f p
    · refine ⟨p, List.mem_cons_of_mem _ hp, fun z hz => ?_⟩
      rcases List.mem_cons.mp hz with rfl | hz
      · exact c
      · exact hm z hz
    · refine ⟨x, List.mem_cons_self, fun z hz => ?_⟩
      rcases List.mem_cons.mp hz with rfl | hz
      · exact Nat.le_refl _
      · have := hm z hz; omega
/-- where none of those left may be behind the others of them, no order meets -/
theorem stuck_none {ps : List (Int × Int)} {left : List Nat} {ap : Option Int} {re : Int} {dl : List Int} {os : List Nat} (ls : LsPl ps ap re) (lo : LeftOk ps.length left) (ne : left ≠ []) (st : ∀ p ∈ left, dl.getD p 0 < behB ps left p ap re) (ho : Ord ps.length os) : ¬ Meets ps dl os ap re := by
  intro m
  rw [meets_all ho] at m
  obtain ⟨p, hp, hm⟩ := exists_max (fun x => os.idxOf x) ne
  have hpn := lo.lt p hp
  have mp := m p hpn
  have hx := ho.ix hpn
  have hl : os.idxOf p < os.length := by rw [ho.len]; exact hx
  have gp : os[os.idxOf p] = p := List.getElem_idxOf hl
  generalize hr : os.idxOf p = r at *
  have sp : os = os.take r ++ p :: os.drop (r + 1) := by
    conv => lhs; rw [← List.take_append_drop r os, List.drop_eq_getElem_cons hl, gp]
  have nd := ho.nd
  have la : (os.take r).length = r := by rw [List.length_take]; omega
  generalize hA : os.take r = A at *
  generalize hC : os.drop (r + 1) = C at *
  rw [sp, List.nodup_append, List.nodup_cons] at nd
  obtain ⟨ndA, ⟨pC, ndC⟩, dis⟩ := nd
  have mem : ∀ x, x ∈ os ↔ x ∈ A ∨ x = p ∨ x ∈ C := fun x => by rw [sp, List.mem_append, List.mem_cons]
  have ixA : ∀ x ∈ left, x ≠ p → x ∈ A := fun x hx' xp => by
    have h1 := hm x hx'
    have hxn : x < ps.length := lo.lt x hx'
    have h2 : x ∈ os := ho.lt.mpr hxn
    rcases (mem x).mp h2 with h | h | h
    · exact h
    · exact absurd h xp
    · exfalso
      have e : os.idxOf x = r + 1 + C.idxOf x := by
        have pb : (p == x) = false := by rw [beq_eq_false_iff_ne]; exact fun z => xp z.symm
        rw [sp, List.idxOf_append, if_neg (fun z => dis x z x (List.mem_cons_of_mem _ h) rfl), List.idxOf_cons, pb, la]
        show (C.idxOf x + 1) + r = _
        omega
      omega
  have notC : ∀ x ∈ C, x ∉ left := fun x hx' hl' => by
    have xp : x ≠ p := fun z => pC (z ▸ hx')
    exact dis x (ixA x hl' xp) x (List.mem_cons_of_mem _ hx') rfl
  have p1 : A.Perm (aheadL left p ++ A.filter fun o => !left.contains o) := by
    have h1 : (A.filter fun o => left.contains o).Perm (aheadL left p) := by
      refine (List.perm_ext_iff_of_nodup (List.Pairwise.filter _ ndA) (nd_ahead lo.nd p)).mpr fun a => ?_
      rw [List.mem_filter, mem_ahead, List.contains_iff_mem]
      constructor
      · rintro ⟨h1, h2⟩
        exact ⟨h2, fun e => dis a h1 p List.mem_cons_self e⟩
      · rintro ⟨h1, h2⟩
        exact ⟨ixA a h1 h2, h1⟩
    exact ((List.filter_append_perm (fun o => left.contains o) A).symm).trans (h1.append_right _)
  have p2 : (restL ps.length left).Perm ((A.filter fun o => !left.contains o) ++ C) := by
    have ndE : ((A.filter fun o => !left.contains o) ++ C).Nodup := by
      rw [List.nodup_append]
      exact ⟨List.Pairwise.filter _ ndA, ndC, fun a ha b hb e => dis a (List.mem_filter.mp ha).1 b (List.mem_cons_of_mem _ hb) e⟩
    refine (List.perm_ext_iff_of_nodup (nd_rest _ _) ndE).mpr fun a => ?_
    rw [mem_rest, List.mem_append, List.mem_filter]
    constructor
    · rintro ⟨h1, h2⟩
      rcases (mem a).mp (ho.lt.mpr h1) with h | h | h
      · exact .inl ⟨h, by simpa using h2⟩
      · exact absurd (h ▸ hp) h2
      · exact .inr h
    · rintro (⟨h1, h2⟩ | h1)
      · exact ⟨ho.lt.mp ((mem a).mpr (.inl h1)), by simpa using h2⟩
      · exact ⟨ho.lt.mp ((mem a).mpr (.inr (.inr h1))), notC a h1⟩
  have lsO := inOrd_ls ls ho
  have lsB := inOrd_ls ls (behO_ord lo hp)
  have st' := st p hp
  unfold behB at st'
  have eO : inOrd ps os = inOrd ps A ++ ps.getD p (0, 0) :: inOrd ps C := by rw [sp, inOrd_mid]
  have eB : inOrd ps (behO ps.length left p) = inOrd ps (aheadL left p) ++ ps.getD p (0, 0) :: inOrd ps (restL ps.length left) := by unfold behO; rw [inOrd_mid]
  have q1 : (inOrd ps A).Perm (inOrd ps (aheadL left p) ++ inOrd ps (A.filter fun o => !left.contains o)) := by
    have := inOrd_map_perm (ps := ps) p1
    unfold inOrd at this ⊢
    rwa [List.map_append] at this
  have q2 : (inOrd ps (restL ps.length left)).Perm (inOrd ps (A.filter fun o => !left.contains o) ++ inOrd ps C) := by
    have := inOrd_map_perm (ps := ps) p2
    unfold inOrd at this ⊢
    rwa [List.map_append] at this
  have okO := lsO.ok.2
  rw [eO] at okO lsO mp
  rw [eB] at lsB st'
  have u := und_gen (ap := ap) (re := re) q1 q2 okO
  rw [inOrd_len, inOrd_len, la] at u
  have b := u.bound lsB lsO (by rw [List.length_append, List.length_cons, inOrd_len]; omega) (by rw [List.length_append, List.length_cons, inOrd_len]; omega)
  omega
/-- an order from behind: those placed are in time, whatever becomes of those left -/
structure OI (ps : List (Int × Int)) (dl : List Int) (ap : Option Int) (re : Int) (left tail : List Nat) : Prop where
  lo : LeftOk ps.length left
  ord : Ord ps.length (left ++ tail)
  good : ∀ X q Y, tail = X ++ q :: Y → boundI (inOrd ps ((left ++ X) ++ q :: Y)) (left ++ X).length ap re ≤ dl.getD q 0
theorem OI.start (ps : List (Int × Int)) (dl : List Int) (ap : Option Int) (re : Int) : OI ps dl ap re (List.range ps.length) [] := by
  refine ⟨⟨fun p hp => List.mem_range.mp hp, List.pairwise_lt_range⟩, by rw [List.append_nil], fun X q Y e => ?_⟩
  cases X <;> cases e
theorem OI.step {ps : List (Int × Int)} {dl : List Int} {ap : Option Int} {re : Int} {left tail : List Nat} {p : Nat} (ls : LsPl ps ap re) (h : OI ps dl ap re left tail) (hp : p ∈ left) (m : behB ps left p ap re ≤ dl.getD p 0) : OI ps dl ap re (aheadL left p) (p :: tail) := by
  have lo' : LeftOk ps.length (aheadL left p) := ⟨fun x hx => h.lo.lt x (mem_ahead.mp hx).1, List.Pairwise.filter _ h.lo.up⟩
  have lp : (aheadL left p ++ [p]).Perm left := by
    have nd : (aheadL left p ++ [p]).Nodup := by
      rw [List.nodup_append]
      refine ⟨nd_ahead h.lo.nd p, by simp, fun a ha b hb e => ?_⟩
      rw [List.mem_singleton] at hb
      exact (mem_ahead.mp ha).2 (e.trans hb)
    refine (List.perm_ext_iff_of_nodup nd h.lo.nd).mpr fun a => ?_
    rw [List.mem_append, mem_ahead, List.mem_singleton]
    constructor
    · rintro (⟨h1, _⟩ | rfl)
      · exact h1
      · exact hp
    · intro ha
      by_cases c : a = p
      · exact .inr c
      · exact .inl ⟨ha, c⟩
  have e1 : aheadL left p ++ p :: tail = (aheadL left p ++ [p]) ++ tail := by simp
  have ord' : Ord ps.length (aheadL left p ++ p :: tail) := by
    rw [e1]
    exact (lp.append_right tail).trans h.ord
  have rt : (restL ps.length left).Perm tail := by
    have nd := h.ord.nd
    rw [List.nodup_append] at nd
    refine (List.perm_ext_iff_of_nodup (nd_rest _ _) nd.2.1).mpr fun a => ?_
    rw [mem_rest]
    constructor
    · rintro ⟨h1, h2⟩
      rcases List.mem_append.mp (h.ord.lt.mpr h1) with z | z
      · exact absurd z h2
      · exact z
    · intro ha
      exact ⟨h.ord.lt.mp (List.mem_append_right _ ha), fun z => nd.2.2 a z a ha rfl⟩
  refine ⟨lo', ord', fun X q Y e => ?_⟩
  cases X with
  | nil =>
    cases e
    have lsB := inOrd_ls ls (behO_ord h.lo hp)
    unfold behB behO at m
    unfold behO at lsB
    rw [inOrd_mid] at m lsB
    rw [List.append_nil, inOrd_mid]
    have b := bound_perm (List.Perm.refl (inOrd ps (aheadL left p))) (inOrd_map_perm rt) lsB
    rw [inOrd_len] at b
    rw [b]
    exact m
  | cons x X =>
    cases e
    have g := h.good X q Y rfl
    have lsO : LsPl (inOrd ps ((left ++ X) ++ q :: Y)) ap re := inOrd_ls ls (by rw [List.append_assoc]; exact h.ord)
    rw [inOrd_mid] at g lsO
    have pa : (left ++ X).Perm (aheadL left p ++ p :: X) := by
      rw [show aheadL left p ++ p :: X = (aheadL left p ++ [p]) ++ X by simp]
      exact lp.symm.append_right X
    have b := bound_perm (inOrd_map_perm pa) (List.Perm.refl (inOrd ps Y)) lsO
    rw [inOrd_len, inOrd_len] at b
    rw [inOrd_mid, b]
    exact g
theorem OI.done {ps : List (Int × Int)} {dl : List Int} {ap : Option Int} {re : Int} {tail : List Nat} (h : OI ps dl ap re [] tail) : Meets ps dl tail ap re := by
  intro r hr
  have ol := h.ord.len
  rw [List.nil_append] at ol
  have hl : r < tail.length := by omega
  have sp : tail = tail.take r ++ tail[r] :: tail.drop (r + 1) := by rw [← List.drop_eq_getElem_cons hl, List.take_append_drop]
  have g := h.good _ _ _ sp
  rw [List.nil_append, ← sp, List.length_take, Nat.min_eq_left (by omega)] at g
  rw [List.getD_eq_getElem?_getD (l := tail), List.getElem?_eq_getElem hl]
  exact g
/-- the last of those left that may be behind the others -/
def lastOk (ps : List (Int × Int)) (dl : List Int) (ap : Option Int) (re : Int) (left : List Nat) : Option Nat := (left.filter fun p => decide (behB ps left p ap re ≤ dl.getD p 0)).getLast?
def givenF (ps : List (Int × Int)) (dl : List Int) (ap : Option Int) (re : Int) : Nat → List Nat → List Nat → List Nat × List Nat
  | 0, left, tail => (tail, left)
  | n + 1, left, tail => match lastOk ps dl ap re left with
    | none => (tail, left)
    | some p => givenF ps dl ap re n (aheadL left p) (p :: tail)
/-- what an order from behind comes to -/
def ordF (ps : List (Int × Int)) (dl : List Int) (ap : Option Int) (re : Int) : List Nat × List Nat := givenF ps dl ap re ps.length (List.range ps.length) []
theorem OI.len {ps : List (Int × Int)} {dl : List Int} {ap : Option Int} {re : Int} {left tail : List Nat} (h : OI ps dl ap re left tail) {p : Nat} (hp : p ∈ left) : (aheadL left p).length + 1 = left.length := by
  have nd : (aheadL left p ++ [p]).Nodup := by
    rw [List.nodup_append]
    refine ⟨nd_ahead h.lo.nd p, by simp, fun a ha b hb e => ?_⟩
    rw [List.mem_singleton] at hb
    exact (mem_ahead.mp ha).2 (e.trans hb)
  have lp : (aheadL left p ++ [p]).Perm left := by
    refine (List.perm_ext_iff_of_nodup nd h.lo.nd).mpr fun a => ?_
    rw [List.mem_append, mem_ahead, List.mem_singleton]
    constructor
    · rintro (⟨h1, _⟩ | rfl)
      · exact h1
      · exact hp
    · intro ha
      by_cases c : a = p
      · exact .inr c
      · exact .inl ⟨ha, c⟩
  have := lp.length_eq
  rw [List.length_append, List.length_singleton] at this
  exact this
theorem lastOk_some {ps : List (Int × Int)} {dl : List Int} {ap : Option Int} {re : Int} {left : List Nat} {p : Nat} (h : lastOk ps dl ap re left = some p) : p ∈ left ∧ behB ps left p ap re ≤ dl.getD p 0 := by
  have := List.mem_of_getLast? h
  rwa [List.mem_filter, decide_eq_true_eq] at this
theorem lastOk_none {ps : List (Int × Int)} {dl : List Int} {ap : Option Int} {re : Int} {left : List Nat} (h : lastOk ps dl ap re left = none) : ∀ p ∈ left, dl.getD p 0 < behB ps left p ap re := by
  intro p hp
  have h2 := List.getLast?_eq_none_iff.mp h
  rw [List.filter_eq_nil_iff] at h2
  have := h2 p hp
  rw [decide_eq_true_eq] at this
  omega
/-- the order from behind: its turns -/
structure OT2 (ps : List (Int × Int)) (dl : List Int) (ap : Option Int) (re : Int) (left tail : List Nat) : Prop where
  oi : OI ps dl ap re left tail
  eq : givenF ps dl ap re left.length left tail = ordF ps dl ap re
theorem OT2.start (ps : List (Int × Int)) (dl : List Int) (ap : Option Int) (re : Int) : OT2 ps dl ap re (List.range ps.length) [] := ⟨OI.start _ _ _ _, by rw [List.length_range]; rfl⟩
theorem OT2.step {ps : List (Int × Int)} {dl : List Int} {ap : Option Int} {re : Int} {left tail : List Nat} {p : Nat} (ls : LsPl ps ap re) (h : OT2 ps dl ap re left tail) (hp : lastOk ps dl ap re left = some p) : OT2 ps dl ap re (aheadL left p) (p :: tail) := by
  obtain ⟨h1, h2⟩ := lastOk_some hp
  refine ⟨h.oi.step ls h1 h2, ?_⟩
  have e := h.eq
  rw [← h.oi.len h1, givenF, hp] at e
  exact e
theorem OT2.stop {ps : List (Int × Int)} {dl : List Int} {ap : Option Int} {re : Int} {left tail : List Nat} (h : OT2 ps dl ap re left tail) (hn : lastOk ps dl ap re left = none) : ordF ps dl ap re = (tail, left) := by
  have e := h.eq
  cases el : left.length with
  | zero => rw [el, givenF] at e; exact e.symm
  | succ n => rw [el, givenF, hn] at e; exact e.symm
def OrdOut (ps : List (Int × Int)) (dl : List Int) (ap : Option Int) (re : Int) (tail left : List Nat) : Prop := OI ps dl ap re left tail ∧ (∀ p ∈ left, dl.getD p 0 < behB ps left p ap re) ∧ ordF ps dl ap re = (tail, left)
theorem OT2.out {ps : List (Int × Int)} {dl : List Int} {ap : Option Int} {re : Int} {left tail : List Nat} (h : OT2 ps dl ap re left tail) (hn : lastOk ps dl ap re left = none) : OrdOut ps dl ap re tail left := ⟨h.oi, lastOk_none hn, h.stop hn⟩
theorem lastOk_nil (ps : List (Int × Int)) (dl : List Int) (ap : Option Int) (re : Int) : lastOk ps dl ap re [] = none := rfl
theorem OrdOut.one {ps : List (Int × Int)} {dl : List Int} {ap : Option Int} {re : Int} {tail left tail' left' : List Nat} (h : OrdOut ps dl ap re tail left) (k : OrdOut ps dl ap re tail' left') : tail = tail' ∧ left = left' := by
  have e := h.2.2.symm.trans k.2.2
  injection e with e1 e2
  exact ⟨e1, e2⟩
/-- where an order was found, one of all may be last -/
theorem OrdOut.free {ps : List (Int × Int)} {dl : List Int} {ap : Option Int} {re : Int} {tail : List Nat} (h : OrdOut ps dl ap re tail []) (ne : ps ≠ []) : ∃ p ∈ List.range ps.length, behB ps (List.range ps.length) p ap re ≤ dl.getD p 0 := by
  cases hl : lastOk ps dl ap re (List.range ps.length) with
  | none =>
    have := (OT2.start ps dl ap re).stop hl
    rw [h.2.2] at this
    injection this with _ e
    have l := congrArg List.length e
    rw [List.length_range] at l
    exact absurd (List.length_eq_zero_iff.mp l.symm) ne
  | some p => exact ⟨p, lastOk_some hl⟩
theorem OrdOut.stuck {ps : List (Int × Int)} {dl : List Int} {ap : Option Int} {re : Int} {tail left os : List Nat} (h : OrdOut ps dl ap re tail left) (ls : LsPl ps ap re) (ne : left ≠ []) (ho : Ord ps.length os) : ¬ Meets ps dl os ap re := stuck_none ls h.1.lo ne h.2.1 ho
/-- the bound of a frame, what is left ahead of it, what was placed behind it in any order -/
theorem OI.bound {ps : List (Int × Int)} {dl : List Int} {ap : Option Int} {re : Int} {left tail : List Nat} (ls : LsPl ps ap re) (h : OI ps dl ap re left tail) {p : Nat} (hp : p ∈ left) : boundI (inOrd ps (aheadL left p ++ p :: tail)) (aheadL left p).length ap re = behB ps left p ap re := by
  have rt : (restL ps.length left).Perm tail := by
    have nd := h.ord.nd
    rw [List.nodup_append] at nd
    refine (List.perm_ext_iff_of_nodup (nd_rest _ _) nd.2.1).mpr fun a => ?_
    rw [mem_rest]
    constructor
    · rintro ⟨h1, h2⟩
      rcases List.mem_append.mp (h.ord.lt.mpr h1) with z | z
      · exact absurd z h2
      · exact z
    · intro ha
      exact ⟨h.ord.lt.mp (List.mem_append_right _ ha), fun z => nd.2.2 a z a ha rfl⟩
  have lsB := inOrd_ls ls (behO_ord h.lo hp)
  unfold behB behO
  unfold behO at lsB
  rw [inOrd_mid] at lsB
  rw [inOrd_mid, inOrd_mid]
  have b := bound_perm (List.Perm.refl (inOrd ps (aheadL left p))) (inOrd_map_perm rt) lsB
  rw [inOrd_len] at b
  exact b
theorem sort_one {left : List Nat} {ns : List Int} (u : left.Pairwise (· < ·)) (p : ns.Perm (left.map fun (r : Nat) => (r : Int))) (w : ns.Pairwise (· ≤ ·)) : ns = left.map fun (r : Nat) => (r : Int) := by
  refine List.Perm.eq_of_pairwise (le := fun a b : Int => a ≤ b) (fun a b _ _ h1 h2 => by omega) w ?_ p
  exact List.pairwise_map.mpr (u.imp fun hab => by omega)
theorem rks_cast (left : List Nat) : ((left.map fun (r : Nat) => (r : Int)).map D.int) = rksD left := by unfold rksD; rw [List.map_map]; rfl
end Lw

/-! records of runs -/
namespace Lw
open PySem PySem.Spec PyProof.Rows L2 DL
/-- (rank, number, put, begin, whole) -/
structure Row where
  rank : Nat
  number : Int
  put : Int
  since : Int
  whole : Bool
def rowD (r : Row) : D := .nd .tup [.int (r.rank : Int), .int r.number, .int r.put, .int r.since, .bl r.whole]
def rowsD (rs : List Row) : List D := rs.map rowD
theorem rowsD_len (rs : List Row) : (rowsD rs).length = rs.length := by unfold rowsD; rw [List.length_map]
theorem rows_app (rs qs : List Row) : rowsD rs ++ rowsD qs = rowsD (rs ++ qs) := by unfold rowsD; rw [List.map_append]
theorem sh_row (r : Row) : sh 1 (rowD r) = true := rfl
theorem sh_rows (rs : List Row) : sh 2 (.nd .lst (rowsD rs)) = true := by
  show (rowsD rs).all (sh 1) = true
  exact List.all_eq_true.mpr fun x hx => by
    obtain ⟨r, _, rfl⟩ := List.mem_map.mp hx
    exact sh_row r
end Lw

/-! printed by wip/mk.py -/
namespace Lw
open PySem PySem.Spec PyProof.Rows L2 DL
/-- a whole number from lo on to hi -/
def isBt (d : D) (lo hi : Int) : Bool := match d with
  | .int n => decide (lo ≤ n) && decide (n ≤ hi)
  | _ => false
def sp_is_between : FSpec := fun args R _ => ∃ d lo hi, args = [.fz d, .fz (.int lo), .fz (.int hi)] ∧ plainD d = true ∧ R (.fz (.bl (isBt d lo hi))) .un
def w_is_between (xq : XQ) : WS := (wRet (wEO (wAndV (wPE (wIsi "int" (wVar 0))) (wAndV (wNotV (wPE (wIsi "bool" (wVar 0)))) (wPE (wCh (gCmp fun i j => decide (i ≤ j)) (gCmp fun i j => decide (i ≤ j)) (wVar 1) (wVar 0) (wVar 2)))))))
theorem len_is_between : ∀ args R RX, sp_is_between args R RX → args.length = 3 := by rintro _ _ _ ⟨d, lo, hi, rfl, _⟩; rfl
theorem pu_is_between : ∀ args R RX, sp_is_between args R RX → w_is_between (fun x env => RX x (t0 false env)) { nx := fun env => R (.fz .non) (t0 false env), rt := fun t env => R t (t0 false env) } (args ++ List.replicate (["thing", "low", "high"].length - args.length) .un) := by
  rintro _ R RX ⟨d, lo, hi, rfl, hp, h⟩
  change w_is_between _ _ [.fz d, .fz (.int lo), .fz (.int hi)]
  cases d with
  | nd k cs => cases k <;> first | exact nomatch (show false = true from hp) | (simp only [w_is_between, wRet, wRetN, wEO, wPE, wOE, wC, wVar, wVarF, wAndV, wNotV, wOrV, wIsi, wNext, wSeq, wDrop, wIfS, wSet, wPar, wAsg, wCall, wCallB, wCallK, wCallG, wMove, wCons, wNil, wVCons, wVNil, wOCons, wONil, wFn, wFnE, wFnN, wS, wSE, wSV, wCh, wET, wAnd, wOr, DL.wNot, wTup, wLst, wIf, wIx, wRaise, wMthN, gAppend, gtName, gtCons, gtNil, gtSeq, iSeq, OT.tn, D.tn, NK.tn, isTy, gCmp, gEq, gNe, gIsN, gNotN, gIsB, gNotB, isNon_non, gLen, OT.size, OT.out, t0, List.getElem?_cons_zero, List.getElem?_cons_succ, List.set_cons_zero, List.set_cons_succ, List.map_cons, List.map_nil, OT.flat_fz, flat_nd', OT.dsOf_fz, dsOf_nil, dsOf_cons, Option.map_some, List.length_cons, List.length_nil, List.length_map, List.cons_append, List.nil_append, List.append_nil, wBin, gAdd, DL.gSub, gMul, gInt, List.getD_cons_zero, OT.whole_fz, OT.frz_fz, OT.whole_nd', OT.wholeL_fz, OT.wholeL_nil, OT.wholeL_cons, OT.frz_nd', map_frz_fz, ixo0, ixo1, ixo2, ixt0, ixt1, ixl0, ixl1, unAt, reAt, wSl, wPt, wNoPt, wSlE, wPtE, wNoPtE, OT.cut, wSetIx, lName, atP_nil, putP_nil, gSetM, ixN30, ixN31, ixN32, ne_eq, not_false_eq_true, not_true_eq_false, reduceCtorEq, if_true, if_false, if_pos, decide_true, decide_false, Bool.true_or, Bool.false_or, Bool.or_false, Bool.or_true, Bool.not_true, Bool.not_false, true_and, and_true, Option.some.injEq, exists_eq_left', String.reduceEq, Nat.zero_add, Nat.reduceAdd, Nat.reduceLT, Nat.lt_add_one, Bool.and_false, Bool.and_true, Bool.false_and, Bool.true_and, Bool.not_true, Bool.not_false, Bool.false_eq_true, pickL, eqv_int, eqv_bl, shaped_int, shaped_bl, shaped_non, wRev, wPeek, wListRg1, wLenSet, wMth, lIx, ixl2, ixl3, ixl4, ixt2, ixp0, ixp1, ixN20, ixN21, OT.flat_nd, wStar2, wTupOf, wDNew]; simpa [isBt] using h)
  | non => simp only [w_is_between, wRet, wRetN, wEO, wPE, wOE, wC, wVar, wVarF, wAndV, wNotV, wOrV, wIsi, wNext, wSeq, wDrop, wIfS, wSet, wPar, wAsg, wCall, wCallB, wCallK, wCallG, wMove, wCons, wNil, wVCons, wVNil, wOCons, wONil, wFn, wFnE, wFnN, wS, wSE, wSV, wCh, wET, wAnd, wOr, DL.wNot, wTup, wLst, wIf, wIx, wRaise, wMthN, gAppend, gtName, gtCons, gtNil, gtSeq, iSeq, OT.tn, D.tn, NK.tn, isTy, gCmp, gEq, gNe, gIsN, gNotN, gIsB, gNotB, isNon_non, gLen, OT.size, OT.out, t0, List.getElem?_cons_zero, List.getElem?_cons_succ, List.set_cons_zero, List.set_cons_succ, List.map_cons, List.map_nil, OT.flat_fz, flat_nd', OT.dsOf_fz, dsOf_nil, dsOf_cons, Option.map_some, List.length_cons, List.length_nil, List.length_map, List.cons_append, List.nil_append, List.append_nil, wBin, gAdd, DL.gSub, gMul, gInt, List.getD_cons_zero, OT.whole_fz, OT.frz_fz, OT.whole_nd', OT.wholeL_fz, OT.wholeL_nil, OT.wholeL_cons, OT.frz_nd', map_frz_fz, ixo0, ixo1, ixo2, ixt0, ixt1, ixl0, ixl1, unAt, reAt, wSl, wPt, wNoPt, wSlE, wPtE, wNoPtE, OT.cut, wSetIx, lName, atP_nil, putP_nil, gSetM, ixN30, ixN31, ixN32, ne_eq, not_false_eq_true, not_true_eq_false, reduceCtorEq, if_true, if_false, if_pos, decide_true, decide_false, Bool.true_or, Bool.false_or, Bool.or_false, Bool.or_true, Bool.not_true, Bool.not_false, true_and, and_true, Option.some.injEq, exists_eq_left', String.reduceEq, Nat.zero_add, Nat.reduceAdd, Nat.reduceLT, Nat.lt_add_one, Bool.and_false, Bool.and_true, Bool.false_and, Bool.true_and, Bool.not_true, Bool.not_false, Bool.false_eq_true, pickL, eqv_int, eqv_bl, shaped_int, shaped_bl, shaped_non, wRev, wPeek, wListRg1, wLenSet, wMth, lIx, ixl2, ixl3, ixl4, ixt2, ixp0, ixp1, ixN20, ixN21, OT.flat_nd, wStar2, wTupOf, wDNew]; simpa [isBt] using h
  | bl b => simp only [w_is_between, wRet, wRetN, wEO, wPE, wOE, wC, wVar, wVarF, wAndV, wNotV, wOrV, wIsi, wNext, wSeq, wDrop, wIfS, wSet, wPar, wAsg, wCall, wCallB, wCallK, wCallG, wMove, wCons, wNil, wVCons, wVNil, wOCons, wONil, wFn, wFnE, wFnN, wS, wSE, wSV, wCh, wET, wAnd, wOr, DL.wNot, wTup, wLst, wIf, wIx, wRaise, wMthN, gAppend, gtName, gtCons, gtNil, gtSeq, iSeq, OT.tn, D.tn, NK.tn, isTy, gCmp, gEq, gNe, gIsN, gNotN, gIsB, gNotB, isNon_non, gLen, OT.size, OT.out, t0, List.getElem?_cons_zero, List.getElem?_cons_succ, List.set_cons_zero, List.set_cons_succ, List.map_cons, List.map_nil, OT.flat_fz, flat_nd', OT.dsOf_fz, dsOf_nil, dsOf_cons, Option.map_some, List.length_cons, List.length_nil, List.length_map, List.cons_append, List.nil_append, List.append_nil, wBin, gAdd, DL.gSub, gMul, gInt, List.getD_cons_zero, OT.whole_fz, OT.frz_fz, OT.whole_nd', OT.wholeL_fz, OT.wholeL_nil, OT.wholeL_cons, OT.frz_nd', map_frz_fz, ixo0, ixo1, ixo2, ixt0, ixt1, ixl0, ixl1, unAt, reAt, wSl, wPt, wNoPt, wSlE, wPtE, wNoPtE, OT.cut, wSetIx, lName, atP_nil, putP_nil, gSetM, ixN30, ixN31, ixN32, ne_eq, not_false_eq_true, not_true_eq_false, reduceCtorEq, if_true, if_false, if_pos, decide_true, decide_false, Bool.true_or, Bool.false_or, Bool.or_false, Bool.or_true, Bool.not_true, Bool.not_false, true_and, and_true, Option.some.injEq, exists_eq_left', String.reduceEq, Nat.zero_add, Nat.reduceAdd, Nat.reduceLT, Nat.lt_add_one, Bool.and_false, Bool.and_true, Bool.false_and, Bool.true_and, Bool.not_true, Bool.not_false, Bool.false_eq_true, pickL, eqv_int, eqv_bl, shaped_int, shaped_bl, shaped_non, wRev, wPeek, wListRg1, wLenSet, wMth, lIx, ixl2, ixl3, ixl4, ixt2, ixp0, ixp1, ixN20, ixN21, OT.flat_nd, wStar2, wTupOf, wDNew]; simpa [isBt] using h
  | int n =>
    simp only [w_is_between, wRet, wRetN, wEO, wPE, wOE, wC, wVar, wVarF, wAndV, wNotV, wOrV, wIsi, wNext, wSeq, wDrop, wIfS, wSet, wPar, wAsg, wCall, wCallB, wCallK, wCallG, wMove, wCons, wNil, wVCons, wVNil, wOCons, wONil, wFn, wFnE, wFnN, wS, wSE, wSV, wCh, wET, wAnd, wOr, DL.wNot, wTup, wLst, wIf, wIx, wRaise, wMthN, gAppend, gtName, gtCons, gtNil, gtSeq, iSeq, OT.tn, D.tn, NK.tn, isTy, gCmp, gEq, gNe, gIsN, gNotN, gIsB, gNotB, isNon_non, gLen, OT.size, OT.out, t0, List.getElem?_cons_zero, List.getElem?_cons_succ, List.set_cons_zero, List.set_cons_succ, List.map_cons, List.map_nil, OT.flat_fz, flat_nd', OT.dsOf_fz, dsOf_nil, dsOf_cons, Option.map_some, List.length_cons, List.length_nil, List.length_map, List.cons_append, List.nil_append, List.append_nil, wBin, gAdd, DL.gSub, gMul, gInt, List.getD_cons_zero, OT.whole_fz, OT.frz_fz, OT.whole_nd', OT.wholeL_fz, OT.wholeL_nil, OT.wholeL_cons, OT.frz_nd', map_frz_fz, ixo0, ixo1, ixo2, ixt0, ixt1, ixl0, ixl1, unAt, reAt, wSl, wPt, wNoPt, wSlE, wPtE, wNoPtE, OT.cut, wSetIx, lName, atP_nil, putP_nil, gSetM, ixN30, ixN31, ixN32, ne_eq, not_false_eq_true, not_true_eq_false, reduceCtorEq, if_true, if_false, if_pos, decide_true, decide_false, Bool.true_or, Bool.false_or, Bool.or_false, Bool.or_true, Bool.not_true, Bool.not_false, true_and, and_true, Option.some.injEq, exists_eq_left', String.reduceEq, Nat.zero_add, Nat.reduceAdd, Nat.reduceLT, Nat.lt_add_one, Bool.and_false, Bool.and_true, Bool.false_and, Bool.true_and, Bool.not_true, Bool.not_false, Bool.false_eq_true, pickL, eqv_int, eqv_bl, shaped_int, shaped_bl, shaped_non, wRev, wPeek, wListRg1, wLenSet, wMth, lIx, ixl2, ixl3, ixl4, ixt2, ixp0, ixp1, ixN20, ixN21, OT.flat_nd, wStar2, wTupOf, wDNew]
    by_cases hn : lo ≤ n
    · rw [if_pos (decide_eq_true hn)]
      simpa only [isBt, decide_eq_true hn, Bool.true_and] using h
    · rw [if_neg (by rw [decide_eq_false hn]; exact Bool.false_ne_true)]
      simpa only [isBt, decide_eq_false hn, Bool.false_and] using h
  | str s => simp only [w_is_between, wRet, wRetN, wEO, wPE, wOE, wC, wVar, wVarF, wAndV, wNotV, wOrV, wIsi, wNext, wSeq, wDrop, wIfS, wSet, wPar, wAsg, wCall, wCallB, wCallK, wCallG, wMove, wCons, wNil, wVCons, wVNil, wOCons, wONil, wFn, wFnE, wFnN, wS, wSE, wSV, wCh, wET, wAnd, wOr, DL.wNot, wTup, wLst, wIf, wIx, wRaise, wMthN, gAppend, gtName, gtCons, gtNil, gtSeq, iSeq, OT.tn, D.tn, NK.tn, isTy, gCmp, gEq, gNe, gIsN, gNotN, gIsB, gNotB, isNon_non, gLen, OT.size, OT.out, t0, List.getElem?_cons_zero, List.getElem?_cons_succ, List.set_cons_zero, List.set_cons_succ, List.map_cons, List.map_nil, OT.flat_fz, flat_nd', OT.dsOf_fz, dsOf_nil, dsOf_cons, Option.map_some, List.length_cons, List.length_nil, List.length_map, List.cons_append, List.nil_append, List.append_nil, wBin, gAdd, DL.gSub, gMul, gInt, List.getD_cons_zero, OT.whole_fz, OT.frz_fz, OT.whole_nd', OT.wholeL_fz, OT.wholeL_nil, OT.wholeL_cons, OT.frz_nd', map_frz_fz, ixo0, ixo1, ixo2, ixt0, ixt1, ixl0, ixl1, unAt, reAt, wSl, wPt, wNoPt, wSlE, wPtE, wNoPtE, OT.cut, wSetIx, lName, atP_nil, putP_nil, gSetM, ixN30, ixN31, ixN32, ne_eq, not_false_eq_true, not_true_eq_false, reduceCtorEq, if_true, if_false, if_pos, decide_true, decide_false, Bool.true_or, Bool.false_or, Bool.or_false, Bool.or_true, Bool.not_true, Bool.not_false, true_and, and_true, Option.some.injEq, exists_eq_left', String.reduceEq, Nat.zero_add, Nat.reduceAdd, Nat.reduceLT, Nat.lt_add_one, Bool.and_false, Bool.and_true, Bool.false_and, Bool.true_and, Bool.not_true, Bool.not_false, Bool.false_eq_true, pickL, eqv_int, eqv_bl, shaped_int, shaped_bl, shaped_non, wRev, wPeek, wListRg1, wLenSet, wMth, lIx, ixl2, ixl3, ixl4, ixt2, ixp0, ixp1, ixN20, ixN21, OT.flat_nd, wStar2, wTupOf, wDNew]; simpa [isBt] using h
  | ty t => cases hp
  | adr a => cases hp
def sp_is_length : FSpec := fun args R _ => ∃ d, args = [.fz d] ∧ plainD d = true ∧ R (.fz (.bl (isBt d 1 20))) .un
def w_is_length (xq : XQ) : WS := (wRet (wCall sp_is_between xq [] (wCons (wVarF 0) (wCons (wPE (wC (.int 1))) (wCons (wPE (wC (.int 20))) wNil)))))
theorem len_is_length : ∀ args R RX, sp_is_length args R RX → args.length = 1 := by rintro _ _ _ ⟨d, rfl, _⟩; rfl
theorem pu_is_length : ∀ args R RX, sp_is_length args R RX → w_is_length (fun x env => RX x (t0 false env)) { nx := fun env => R (.fz .non) (t0 false env), rt := fun t env => R t (t0 false env) } (args ++ List.replicate (["thing"].length - args.length) .un) := by
  rintro _ R RX ⟨d, rfl, hp, h⟩
  change w_is_length _ _ [.fz d]
  simp only [w_is_length, wRet, wRetN, wEO, wPE, wOE, wC, wVar, wVarF, wAndV, wNotV, wOrV, wIsi, wNext, wSeq, wDrop, wIfS, wSet, wPar, wAsg, wCall, wCallB, wCallK, wCallG, wMove, wCons, wNil, wVCons, wVNil, wOCons, wONil, wFn, wFnE, wFnN, wS, wSE, wSV, wCh, wET, wAnd, wOr, DL.wNot, wTup, wLst, wIf, wIx, wRaise, wMthN, gAppend, gtName, gtCons, gtNil, gtSeq, iSeq, OT.tn, D.tn, NK.tn, isTy, gCmp, gEq, gNe, gIsN, gNotN, gIsB, gNotB, isNon_non, gLen, OT.size, OT.out, t0, List.getElem?_cons_zero, List.getElem?_cons_succ, List.set_cons_zero, List.set_cons_succ, List.map_cons, List.map_nil, OT.flat_fz, flat_nd', OT.dsOf_fz, dsOf_nil, dsOf_cons, Option.map_some, List.length_cons, List.length_nil, List.length_map, List.cons_append, List.nil_append, List.append_nil, wBin, gAdd, DL.gSub, gMul, gInt, List.getD_cons_zero, OT.whole_fz, OT.frz_fz, OT.whole_nd', OT.wholeL_fz, OT.wholeL_nil, OT.wholeL_cons, OT.frz_nd', map_frz_fz, ixo0, ixo1, ixo2, ixt0, ixt1, ixl0, ixl1, unAt, reAt, wSl, wPt, wNoPt, wSlE, wPtE, wNoPtE, OT.cut, wSetIx, lName, atP_nil, putP_nil, gSetM, ixN30, ixN31, ixN32, ne_eq, not_false_eq_true, not_true_eq_false, reduceCtorEq, if_true, if_false, if_pos, decide_true, decide_false, Bool.true_or, Bool.false_or, Bool.or_false, Bool.or_true, Bool.not_true, Bool.not_false, true_and, and_true, Option.some.injEq, exists_eq_left', String.reduceEq, Nat.zero_add, Nat.reduceAdd, Nat.reduceLT, Nat.lt_add_one, Bool.and_false, Bool.and_true, Bool.false_and, Bool.true_and, Bool.not_true, Bool.not_false, Bool.false_eq_true, pickL, eqv_int, eqv_bl, shaped_int, shaped_bl, shaped_non, wRev, wPeek, wListRg1, wLenSet, wMth, lIx, ixl2, ixl3, ixl4, ixt2, ixp0, ixp1, ixN20, ixN21, OT.flat_nd, wStar2, wTupOf, wDNew]
  exact ⟨_, _, _, rfl, hp, h⟩
def sp_is_period : FSpec := fun args R _ => ∃ d, args = [.fz d] ∧ plainD d = true ∧ R (.fz (.bl (isBt d 2 400))) .un
def w_is_period (xq : XQ) : WS := (wRet (wCall sp_is_between xq [] (wCons (wVarF 0) (wCons (wPE (wC (.int 2))) (wCons (wPE (wC (.int 400))) wNil)))))
theorem len_is_period : ∀ args R RX, sp_is_period args R RX → args.length = 1 := by rintro _ _ _ ⟨d, rfl, _⟩; rfl
theorem pu_is_period : ∀ args R RX, sp_is_period args R RX → w_is_period (fun x env => RX x (t0 false env)) { nx := fun env => R (.fz .non) (t0 false env), rt := fun t env => R t (t0 false env) } (args ++ List.replicate (["thing"].length - args.length) .un) := by
  rintro _ R RX ⟨d, rfl, hp, h⟩
  change w_is_period _ _ [.fz d]
  simp only [w_is_period, wRet, wRetN, wEO, wPE, wOE, wC, wVar, wVarF, wAndV, wNotV, wOrV, wIsi, wNext, wSeq, wDrop, wIfS, wSet, wPar, wAsg, wCall, wCallB, wCallK, wCallG, wMove, wCons, wNil, wVCons, wVNil, wOCons, wONil, wFn, wFnE, wFnN, wS, wSE, wSV, wCh, wET, wAnd, wOr, DL.wNot, wTup, wLst, wIf, wIx, wRaise, wMthN, gAppend, gtName, gtCons, gtNil, gtSeq, iSeq, OT.tn, D.tn, NK.tn, isTy, gCmp, gEq, gNe, gIsN, gNotN, gIsB, gNotB, isNon_non, gLen, OT.size, OT.out, t0, List.getElem?_cons_zero, List.getElem?_cons_succ, List.set_cons_zero, List.set_cons_succ, List.map_cons, List.map_nil, OT.flat_fz, flat_nd', OT.dsOf_fz, dsOf_nil, dsOf_cons, Option.map_some, List.length_cons, List.length_nil, List.length_map, List.cons_append, List.nil_append, List.append_nil, wBin, gAdd, DL.gSub, gMul, gInt, List.getD_cons_zero, OT.whole_fz, OT.frz_fz, OT.whole_nd', OT.wholeL_fz, OT.wholeL_nil, OT.wholeL_cons, OT.frz_nd', map_frz_fz, ixo0, ixo1, ixo2, ixt0, ixt1, ixl0, ixl1, unAt, reAt, wSl, wPt, wNoPt, wSlE, wPtE, wNoPtE, OT.cut, wSetIx, lName, atP_nil, putP_nil, gSetM, ixN30, ixN31, ixN32, ne_eq, not_false_eq_true, not_true_eq_false, reduceCtorEq, if_true, if_false, if_pos, decide_true, decide_false, Bool.true_or, Bool.false_or, Bool.or_false, Bool.or_true, Bool.not_true, Bool.not_false, true_and, and_true, Option.some.injEq, exists_eq_left', String.reduceEq, Nat.zero_add, Nat.reduceAdd, Nat.reduceLT, Nat.lt_add_one, Bool.and_false, Bool.and_true, Bool.false_and, Bool.true_and, Bool.not_true, Bool.not_false, Bool.false_eq_true, pickL, eqv_int, eqv_bl, shaped_int, shaped_bl, shaped_non, wRev, wPeek, wListRg1, wLenSet, wMth, lIx, ixl2, ixl3, ixl4, ixt2, ixp0, ixp1, ixN20, ixN21, OT.flat_nd, wStar2, wTupOf, wDNew]
  exact ⟨_, _, _, rfl, hp, h⟩
def isFrame (d : D) : Bool := match d with
  | .nd .tup [a, b] => isBt a 2 400 && isBt b 1 20
  | _ => false
def sp_is_frame : FSpec := fun args R _ => ∃ d, args = [.fz d] ∧ plain1 d = true ∧ R (.fz (.bl (isFrame d))) .un
def w_is_frame (xq : XQ) : WS := (wRet (wEO (wAndV (wPE (wIsi "tuple" (wVar 0))) (wAndV (wPE (wS gEq (wFn gLen (wVCons (wVar 0) wVNil)) (wC (.int 2)))) (wAndV (wOE (wCall sp_is_period xq [] (wCons (wPE (wIx (wVar 0) (wC (.int 0)))) wNil))) (wOE (wCall sp_is_length xq [] (wCons (wPE (wIx (wVar 0) (wC (.int 1)))) wNil))))))))
theorem len_is_frame : ∀ args R RX, sp_is_frame args R RX → args.length = 1 := by rintro _ _ _ ⟨d, rfl, _⟩; rfl
theorem pu_is_frame : ∀ args R RX, sp_is_frame args R RX → w_is_frame (fun x env => RX x (t0 false env)) { nx := fun env => R (.fz .non) (t0 false env), rt := fun t env => R t (t0 false env) } (args ++ List.replicate (["thing"].length - args.length) .un) := by
  rintro _ R RX ⟨d, rfl, hp, h⟩
  change w_is_frame _ _ [.fz d]
  cases d with
  | nd k cs =>
    cases k with
    | tup =>
      by_cases hl : cs.length = 2
      · obtain ⟨a, b, rfl⟩ : ∃ a b, cs = [a, b] := by
          match cs, hl with
          | [a, b], _ => exact ⟨a, b, rfl⟩
        have ha : plainD a = true := plain1_kid hp (by simp [kidsD])
        have hb : plainD b = true := plain1_kid hp (by simp [kidsD])
        simp only [w_is_frame, wRet, wRetN, wEO, wPE, wOE, wC, wVar, wVarF, wAndV, wNotV, wOrV, wIsi, wNext, wSeq, wDrop, wIfS, wSet, wPar, wAsg, wCall, wCallB, wCallK, wCallG, wMove, wCons, wNil, wVCons, wVNil, wOCons, wONil, wFn, wFnE, wFnN, wS, wSE, wSV, wCh, wET, wAnd, wOr, DL.wNot, wTup, wLst, wIf, wIx, wRaise, wMthN, gAppend, gtName, gtCons, gtNil, gtSeq, iSeq, OT.tn, D.tn, NK.tn, isTy, gCmp, gEq, gNe, gIsN, gNotN, gIsB, gNotB, isNon_non, gLen, OT.size, OT.out, t0, List.getElem?_cons_zero, List.getElem?_cons_succ, List.set_cons_zero, List.set_cons_succ, List.map_cons, List.map_nil, OT.flat_fz, flat_nd', OT.dsOf_fz, dsOf_nil, dsOf_cons, Option.map_some, List.length_cons, List.length_nil, List.length_map, List.cons_append, List.nil_append, List.append_nil, wBin, gAdd, DL.gSub, gMul, gInt, List.getD_cons_zero, OT.whole_fz, OT.frz_fz, OT.whole_nd', OT.wholeL_fz, OT.wholeL_nil, OT.wholeL_cons, OT.frz_nd', map_frz_fz, ixo0, ixo1, ixo2, ixt0, ixt1, ixl0, ixl1, unAt, reAt, wSl, wPt, wNoPt, wSlE, wPtE, wNoPtE, OT.cut, wSetIx, lName, atP_nil, putP_nil, gSetM, ixN30, ixN31, ixN32, ne_eq, not_false_eq_true, not_true_eq_false, reduceCtorEq, if_true, if_false, if_pos, decide_true, decide_false, Bool.true_or, Bool.false_or, Bool.or_false, Bool.or_true, Bool.not_true, Bool.not_false, true_and, and_true, Option.some.injEq, exists_eq_left', String.reduceEq, Nat.zero_add, Nat.reduceAdd, Nat.reduceLT, Nat.lt_add_one, Bool.and_false, Bool.and_true, Bool.false_and, Bool.true_and, Bool.not_true, Bool.not_false, Bool.false_eq_true, pickL, eqv_int, eqv_bl, shaped_int, shaped_bl, shaped_non, wRev, wPeek, wListRg1, wLenSet, wMth, lIx, ixl2, ixl3, ixl4, ixt2, ixp0, ixp1, ixN20, ixN21, OT.flat_nd, wStar2, wTupOf, wDNew]
        rw [if_pos (by decide)]
        refine ⟨_, rfl, ha, ?_⟩
        cases h1 : isBt a 2 400 with
        | false => simp only [wRet, wRetN, wEO, wPE, wOE, wC, wVar, wVarF, wAndV, wNotV, wOrV, wIsi, wNext, wSeq, wDrop, wIfS, wSet, wPar, wAsg, wCall, wCallB, wCallK, wCallG, wMove, wCons, wNil, wVCons, wVNil, wOCons, wONil, wFn, wFnE, wFnN, wS, wSE, wSV, wCh, wET, wAnd, wOr, DL.wNot, wTup, wLst, wIf, wIx, wRaise, wMthN, gAppend, gtName, gtCons, gtNil, gtSeq, iSeq, OT.tn, D.tn, NK.tn, isTy, gCmp, gEq, gNe, gIsN, gNotN, gIsB, gNotB, isNon_non, gLen, OT.size, OT.out, t0, List.getElem?_cons_zero, List.getElem?_cons_succ, List.set_cons_zero, List.set_cons_succ, List.map_cons, List.map_nil, OT.flat_fz, flat_nd', OT.dsOf_fz, dsOf_nil, dsOf_cons, Option.map_some, List.length_cons, List.length_nil, List.length_map, List.cons_append, List.nil_append, List.append_nil, wBin, gAdd, DL.gSub, gMul, gInt, List.getD_cons_zero, OT.whole_fz, OT.frz_fz, OT.whole_nd', OT.wholeL_fz, OT.wholeL_nil, OT.wholeL_cons, OT.frz_nd', map_frz_fz, ixo0, ixo1, ixo2, ixt0, ixt1, ixl0, ixl1, unAt, reAt, wSl, wPt, wNoPt, wSlE, wPtE, wNoPtE, OT.cut, wSetIx, lName, atP_nil, putP_nil, gSetM, ixN30, ixN31, ixN32, ne_eq, not_false_eq_true, not_true_eq_false, reduceCtorEq, if_true, if_false, if_pos, decide_true, decide_false, Bool.true_or, Bool.false_or, Bool.or_false, Bool.or_true, Bool.not_true, Bool.not_false, true_and, and_true, Option.some.injEq, exists_eq_left', String.reduceEq, Nat.zero_add, Nat.reduceAdd, Nat.reduceLT, Nat.lt_add_one, Bool.and_false, Bool.and_true, Bool.false_and, Bool.true_and, Bool.not_true, Bool.not_false, Bool.false_eq_true, pickL, eqv_int, eqv_bl, shaped_int, shaped_bl, shaped_non, wRev, wPeek, wListRg1, wLenSet, wMth, lIx, ixl2, ixl3, ixl4, ixt2, ixp0, ixp1, ixN20, ixN21, OT.flat_nd, wStar2, wTupOf, wDNew]; simpa [isFrame, h1] using h
        | true =>
          simp only [wRet, wRetN, wEO, wPE, wOE, wC, wVar, wVarF, wAndV, wNotV, wOrV, wIsi, wNext, wSeq, wDrop, wIfS, wSet, wPar, wAsg, wCall, wCallB, wCallK, wCallG, wMove, wCons, wNil, wVCons, wVNil, wOCons, wONil, wFn, wFnE, wFnN, wS, wSE, wSV, wCh, wET, wAnd, wOr, DL.wNot, wTup, wLst, wIf, wIx, wRaise, wMthN, gAppend, gtName, gtCons, gtNil, gtSeq, iSeq, OT.tn, D.tn, NK.tn, isTy, gCmp, gEq, gNe, gIsN, gNotN, gIsB, gNotB, isNon_non, gLen, OT.size, OT.out, t0, List.getElem?_cons_zero, List.getElem?_cons_succ, List.set_cons_zero, List.set_cons_succ, List.map_cons, List.map_nil, OT.flat_fz, flat_nd', OT.dsOf_fz, dsOf_nil, dsOf_cons, Option.map_some, List.length_cons, List.length_nil, List.length_map, List.cons_append, List.nil_append, List.append_nil, wBin, gAdd, DL.gSub, gMul, gInt, List.getD_cons_zero, OT.whole_fz, OT.frz_fz, OT.whole_nd', OT.wholeL_fz, OT.wholeL_nil, OT.wholeL_cons, OT.frz_nd', map_frz_fz, ixo0, ixo1, ixo2, ixt0, ixt1, ixl0, ixl1, unAt, reAt, wSl, wPt, wNoPt, wSlE, wPtE, wNoPtE, OT.cut, wSetIx, lName, atP_nil, putP_nil, gSetM, ixN30, ixN31, ixN32, ne_eq, not_false_eq_true, not_true_eq_false, reduceCtorEq, if_true, if_false, if_pos, decide_true, decide_false, Bool.true_or, Bool.false_or, Bool.or_false, Bool.or_true, Bool.not_true, Bool.not_false, true_and, and_true, Option.some.injEq, exists_eq_left', String.reduceEq, Nat.zero_add, Nat.reduceAdd, Nat.reduceLT, Nat.lt_add_one, Bool.and_false, Bool.and_true, Bool.false_and, Bool.true_and, Bool.not_true, Bool.not_false, Bool.false_eq_true, pickL, eqv_int, eqv_bl, shaped_int, shaped_bl, shaped_non, wRev, wPeek, wListRg1, wLenSet, wMth, lIx, ixl2, ixl3, ixl4, ixt2, ixp0, ixp1, ixN20, ixN21, OT.flat_nd, wStar2, wTupOf, wDNew]
          refine ⟨_, rfl, hb, ?_⟩
          simp only [wRet, wRetN, wEO, wPE, wOE, wC, wVar, wVarF, wAndV, wNotV, wOrV, wIsi, wNext, wSeq, wDrop, wIfS, wSet, wPar, wAsg, wCall, wCallB, wCallK, wCallG, wMove, wCons, wNil, wVCons, wVNil, wOCons, wONil, wFn, wFnE, wFnN, wS, wSE, wSV, wCh, wET, wAnd, wOr, DL.wNot, wTup, wLst, wIf, wIx, wRaise, wMthN, gAppend, gtName, gtCons, gtNil, gtSeq, iSeq, OT.tn, D.tn, NK.tn, isTy, gCmp, gEq, gNe, gIsN, gNotN, gIsB, gNotB, isNon_non, gLen, OT.size, OT.out, t0, List.getElem?_cons_zero, List.getElem?_cons_succ, List.set_cons_zero, List.set_cons_succ, List.map_cons, List.map_nil, OT.flat_fz, flat_nd', OT.dsOf_fz, dsOf_nil, dsOf_cons, Option.map_some, List.length_cons, List.length_nil, List.length_map, List.cons_append, List.nil_append, List.append_nil, wBin, gAdd, DL.gSub, gMul, gInt, List.getD_cons_zero, OT.whole_fz, OT.frz_fz, OT.whole_nd', OT.wholeL_fz, OT.wholeL_nil, OT.wholeL_cons, OT.frz_nd', map_frz_fz, ixo0, ixo1, ixo2, ixt0, ixt1, ixl0, ixl1, unAt, reAt, wSl, wPt, wNoPt, wSlE, wPtE, wNoPtE, OT.cut, wSetIx, lName, atP_nil, putP_nil, gSetM, ixN30, ixN31, ixN32, ne_eq, not_false_eq_true, not_true_eq_false, reduceCtorEq, if_true, if_false, if_pos, decide_true, decide_false, Bool.true_or, Bool.false_or, Bool.or_false, Bool.or_true, Bool.not_true, Bool.not_false, true_and, and_true, Option.some.injEq, exists_eq_left', String.reduceEq, Nat.zero_add, Nat.reduceAdd, Nat.reduceLT, Nat.lt_add_one, Bool.and_false, Bool.and_true, Bool.false_and, Bool.true_and, Bool.not_true, Bool.not_false, Bool.false_eq_true, pickL, eqv_int, eqv_bl, shaped_int, shaped_bl, shaped_non, wRev, wPeek, wListRg1, wLenSet, wMth, lIx, ixl2, ixl3, ixl4, ixt2, ixp0, ixp1, ixN20, ixN21, OT.flat_nd, wStar2, wTupOf, wDNew]
          simpa [isFrame, h1] using h
      · have : isFrame (.nd .tup cs) = false := by
          unfold isFrame
          split
          · rename_i a b e; cases e; exact (hl rfl).elim
          · rfl
        rw [this] at h
        simp only [w_is_frame, wRet, wRetN, wEO, wPE, wOE, wC, wVar, wVarF, wAndV, wNotV, wOrV, wIsi, wNext, wSeq, wDrop, wIfS, wSet, wPar, wAsg, wCall, wCallB, wCallK, wCallG, wMove, wCons, wNil, wVCons, wVNil, wOCons, wONil, wFn, wFnE, wFnN, wS, wSE, wSV, wCh, wET, wAnd, wOr, DL.wNot, wTup, wLst, wIf, wIx, wRaise, wMthN, gAppend, gtName, gtCons, gtNil, gtSeq, iSeq, OT.tn, D.tn, NK.tn, isTy, gCmp, gEq, gNe, gIsN, gNotN, gIsB, gNotB, isNon_non, gLen, OT.size, OT.out, t0, List.getElem?_cons_zero, List.getElem?_cons_succ, List.set_cons_zero, List.set_cons_succ, List.map_cons, List.map_nil, OT.flat_fz, flat_nd', OT.dsOf_fz, dsOf_nil, dsOf_cons, Option.map_some, List.length_cons, List.length_nil, List.length_map, List.cons_append, List.nil_append, List.append_nil, wBin, gAdd, DL.gSub, gMul, gInt, List.getD_cons_zero, OT.whole_fz, OT.frz_fz, OT.whole_nd', OT.wholeL_fz, OT.wholeL_nil, OT.wholeL_cons, OT.frz_nd', map_frz_fz, ixo0, ixo1, ixo2, ixt0, ixt1, ixl0, ixl1, unAt, reAt, wSl, wPt, wNoPt, wSlE, wPtE, wNoPtE, OT.cut, wSetIx, lName, atP_nil, putP_nil, gSetM, ixN30, ixN31, ixN32, ne_eq, not_false_eq_true, not_true_eq_false, reduceCtorEq, if_true, if_false, if_pos, decide_true, decide_false, Bool.true_or, Bool.false_or, Bool.or_false, Bool.or_true, Bool.not_true, Bool.not_false, true_and, and_true, Option.some.injEq, exists_eq_left', String.reduceEq, Nat.zero_add, Nat.reduceAdd, Nat.reduceLT, Nat.lt_add_one, Bool.and_false, Bool.and_true, Bool.false_and, Bool.true_and, Bool.not_true, Bool.not_false, Bool.false_eq_true, pickL, eqv_int, eqv_bl, shaped_int, shaped_bl, shaped_non, wRev, wPeek, wListRg1, wLenSet, wMth, lIx, ixl2, ixl3, ixl4, ixt2, ixp0, ixp1, ixN20, ixN21, OT.flat_nd, wStar2, wTupOf, wDNew]
        rw [decide_eq_false (by omega : ¬ (cs.length : Int) = 2), if_neg Bool.false_ne_true]
        exact h
    | _ => first | exact nomatch (show false = true from plain1_plain hp) | (simp only [w_is_frame, wRet, wRetN, wEO, wPE, wOE, wC, wVar, wVarF, wAndV, wNotV, wOrV, wIsi, wNext, wSeq, wDrop, wIfS, wSet, wPar, wAsg, wCall, wCallB, wCallK, wCallG, wMove, wCons, wNil, wVCons, wVNil, wOCons, wONil, wFn, wFnE, wFnN, wS, wSE, wSV, wCh, wET, wAnd, wOr, DL.wNot, wTup, wLst, wIf, wIx, wRaise, wMthN, gAppend, gtName, gtCons, gtNil, gtSeq, iSeq, OT.tn, D.tn, NK.tn, isTy, gCmp, gEq, gNe, gIsN, gNotN, gIsB, gNotB, isNon_non, gLen, OT.size, OT.out, t0, List.getElem?_cons_zero, List.getElem?_cons_succ, List.set_cons_zero, List.set_cons_succ, List.map_cons, List.map_nil, OT.flat_fz, flat_nd', OT.dsOf_fz, dsOf_nil, dsOf_cons, Option.map_some, List.length_cons, List.length_nil, List.length_map, List.cons_append, List.nil_append, List.append_nil, wBin, gAdd, DL.gSub, gMul, gInt, List.getD_cons_zero, OT.whole_fz, OT.frz_fz, OT.whole_nd', OT.wholeL_fz, OT.wholeL_nil, OT.wholeL_cons, OT.frz_nd', map_frz_fz, ixo0, ixo1, ixo2, ixt0, ixt1, ixl0, ixl1, unAt, reAt, wSl, wPt, wNoPt, wSlE, wPtE, wNoPtE, OT.cut, wSetIx, lName, atP_nil, putP_nil, gSetM, ixN30, ixN31, ixN32, ne_eq, not_false_eq_true, not_true_eq_false, reduceCtorEq, if_true, if_false, if_pos, decide_true, decide_false, Bool.true_or, Bool.false_or, Bool.or_false, Bool.or_true, Bool.not_true, Bool.not_false, true_and, and_true, Option.some.injEq, exists_eq_left', String.reduceEq, Nat.zero_add, Nat.reduceAdd, Nat.reduceLT, Nat.lt_add_one, Bool.and_false, Bool.and_true, Bool.false_and, Bool.true_and, Bool.not_true, Bool.not_false, Bool.false_eq_true, pickL, eqv_int, eqv_bl, shaped_int, shaped_bl, shaped_non, wRev, wPeek, wListRg1, wLenSet, wMth, lIx, ixl2, ixl3, ixl4, ixt2, ixp0, ixp1, ixN20, ixN21, OT.flat_nd, wStar2, wTupOf, wDNew]; simpa [isFrame] using h)
  | non => simp only [w_is_frame, wRet, wRetN, wEO, wPE, wOE, wC, wVar, wVarF, wAndV, wNotV, wOrV, wIsi, wNext, wSeq, wDrop, wIfS, wSet, wPar, wAsg, wCall, wCallB, wCallK, wCallG, wMove, wCons, wNil, wVCons, wVNil, wOCons, wONil, wFn, wFnE, wFnN, wS, wSE, wSV, wCh, wET, wAnd, wOr, DL.wNot, wTup, wLst, wIf, wIx, wRaise, wMthN, gAppend, gtName, gtCons, gtNil, gtSeq, iSeq, OT.tn, D.tn, NK.tn, isTy, gCmp, gEq, gNe, gIsN, gNotN, gIsB, gNotB, isNon_non, gLen, OT.size, OT.out, t0, List.getElem?_cons_zero, List.getElem?_cons_succ, List.set_cons_zero, List.set_cons_succ, List.map_cons, List.map_nil, OT.flat_fz, flat_nd', OT.dsOf_fz, dsOf_nil, dsOf_cons, Option.map_some, List.length_cons, List.length_nil, List.length_map, List.cons_append, List.nil_append, List.append_nil, wBin, gAdd, DL.gSub, gMul, gInt, List.getD_cons_zero, OT.whole_fz, OT.frz_fz, OT.whole_nd', OT.wholeL_fz, OT.wholeL_nil, OT.wholeL_cons, OT.frz_nd', map_frz_fz, ixo0, ixo1, ixo2, ixt0, ixt1, ixl0, ixl1, unAt, reAt, wSl, wPt, wNoPt, wSlE, wPtE, wNoPtE, OT.cut, wSetIx, lName, atP_nil, putP_nil, gSetM, ixN30, ixN31, ixN32, ne_eq, not_false_eq_true, not_true_eq_false, reduceCtorEq, if_true, if_false, if_pos, decide_true, decide_false, Bool.true_or, Bool.false_or, Bool.or_false, Bool.or_true, Bool.not_true, Bool.not_false, true_and, and_true, Option.some.injEq, exists_eq_left', String.reduceEq, Nat.zero_add, Nat.reduceAdd, Nat.reduceLT, Nat.lt_add_one, Bool.and_false, Bool.and_true, Bool.false_and, Bool.true_and, Bool.not_true, Bool.not_false, Bool.false_eq_true, pickL, eqv_int, eqv_bl, shaped_int, shaped_bl, shaped_non, wRev, wPeek, wListRg1, wLenSet, wMth, lIx, ixl2, ixl3, ixl4, ixt2, ixp0, ixp1, ixN20, ixN21, OT.flat_nd, wStar2, wTupOf, wDNew]; simpa [isFrame] using h
  | bl b => simp only [w_is_frame, wRet, wRetN, wEO, wPE, wOE, wC, wVar, wVarF, wAndV, wNotV, wOrV, wIsi, wNext, wSeq, wDrop, wIfS, wSet, wPar, wAsg, wCall, wCallB, wCallK, wCallG, wMove, wCons, wNil, wVCons, wVNil, wOCons, wONil, wFn, wFnE, wFnN, wS, wSE, wSV, wCh, wET, wAnd, wOr, DL.wNot, wTup, wLst, wIf, wIx, wRaise, wMthN, gAppend, gtName, gtCons, gtNil, gtSeq, iSeq, OT.tn, D.tn, NK.tn, isTy, gCmp, gEq, gNe, gIsN, gNotN, gIsB, gNotB, isNon_non, gLen, OT.size, OT.out, t0, List.getElem?_cons_zero, List.getElem?_cons_succ, List.set_cons_zero, List.set_cons_succ, List.map_cons, List.map_nil, OT.flat_fz, flat_nd', OT.dsOf_fz, dsOf_nil, dsOf_cons, Option.map_some, List.length_cons, List.length_nil, List.length_map, List.cons_append, List.nil_append, List.append_nil, wBin, gAdd, DL.gSub, gMul, gInt, List.getD_cons_zero, OT.whole_fz, OT.frz_fz, OT.whole_nd', OT.wholeL_fz, OT.wholeL_nil, OT.wholeL_cons, OT.frz_nd', map_frz_fz, ixo0, ixo1, ixo2, ixt0, ixt1, ixl0, ixl1, unAt, reAt, wSl, wPt, wNoPt, wSlE, wPtE, wNoPtE, OT.cut, wSetIx, lName, atP_nil, putP_nil, gSetM, ixN30, ixN31, ixN32, ne_eq, not_false_eq_true, not_true_eq_false, reduceCtorEq, if_true, if_false, if_pos, decide_true, decide_false, Bool.true_or, Bool.false_or, Bool.or_false, Bool.or_true, Bool.not_true, Bool.not_false, true_and, and_true, Option.some.injEq, exists_eq_left', String.reduceEq, Nat.zero_add, Nat.reduceAdd, Nat.reduceLT, Nat.lt_add_one, Bool.and_false, Bool.and_true, Bool.false_and, Bool.true_and, Bool.not_true, Bool.not_false, Bool.false_eq_true, pickL, eqv_int, eqv_bl, shaped_int, shaped_bl, shaped_non, wRev, wPeek, wListRg1, wLenSet, wMth, lIx, ixl2, ixl3, ixl4, ixt2, ixp0, ixp1, ixN20, ixN21, OT.flat_nd, wStar2, wTupOf, wDNew]; simpa [isFrame] using h
  | int n => simp only [w_is_frame, wRet, wRetN, wEO, wPE, wOE, wC, wVar, wVarF, wAndV, wNotV, wOrV, wIsi, wNext, wSeq, wDrop, wIfS, wSet, wPar, wAsg, wCall, wCallB, wCallK, wCallG, wMove, wCons, wNil, wVCons, wVNil, wOCons, wONil, wFn, wFnE, wFnN, wS, wSE, wSV, wCh, wET, wAnd, wOr, DL.wNot, wTup, wLst, wIf, wIx, wRaise, wMthN, gAppend, gtName, gtCons, gtNil, gtSeq, iSeq, OT.tn, D.tn, NK.tn, isTy, gCmp, gEq, gNe, gIsN, gNotN, gIsB, gNotB, isNon_non, gLen, OT.size, OT.out, t0, List.getElem?_cons_zero, List.getElem?_cons_succ, List.set_cons_zero, List.set_cons_succ, List.map_cons, List.map_nil, OT.flat_fz, flat_nd', OT.dsOf_fz, dsOf_nil, dsOf_cons, Option.map_some, List.length_cons, List.length_nil, List.length_map, List.cons_append, List.nil_append, List.append_nil, wBin, gAdd, DL.gSub, gMul, gInt, List.getD_cons_zero, OT.whole_fz, OT.frz_fz, OT.whole_nd', OT.wholeL_fz, OT.wholeL_nil, OT.wholeL_cons, OT.frz_nd', map_frz_fz, ixo0, ixo1, ixo2, ixt0, ixt1, ixl0, ixl1, unAt, reAt, wSl, wPt, wNoPt, wSlE, wPtE, wNoPtE, OT.cut, wSetIx, lName, atP_nil, putP_nil, gSetM, ixN30, ixN31, ixN32, ne_eq, not_false_eq_true, not_true_eq_false, reduceCtorEq, if_true, if_false, if_pos, decide_true, decide_false, Bool.true_or, Bool.false_or, Bool.or_false, Bool.or_true, Bool.not_true, Bool.not_false, true_and, and_true, Option.some.injEq, exists_eq_left', String.reduceEq, Nat.zero_add, Nat.reduceAdd, Nat.reduceLT, Nat.lt_add_one, Bool.and_false, Bool.and_true, Bool.false_and, Bool.true_and, Bool.not_true, Bool.not_false, Bool.false_eq_true, pickL, eqv_int, eqv_bl, shaped_int, shaped_bl, shaped_non, wRev, wPeek, wListRg1, wLenSet, wMth, lIx, ixl2, ixl3, ixl4, ixt2, ixp0, ixp1, ixN20, ixN21, OT.flat_nd, wStar2, wTupOf, wDNew]; simpa [isFrame] using h
  | str s => simp only [w_is_frame, wRet, wRetN, wEO, wPE, wOE, wC, wVar, wVarF, wAndV, wNotV, wOrV, wIsi, wNext, wSeq, wDrop, wIfS, wSet, wPar, wAsg, wCall, wCallB, wCallK, wCallG, wMove, wCons, wNil, wVCons, wVNil, wOCons, wONil, wFn, wFnE, wFnN, wS, wSE, wSV, wCh, wET, wAnd, wOr, DL.wNot, wTup, wLst, wIf, wIx, wRaise, wMthN, gAppend, gtName, gtCons, gtNil, gtSeq, iSeq, OT.tn, D.tn, NK.tn, isTy, gCmp, gEq, gNe, gIsN, gNotN, gIsB, gNotB, isNon_non, gLen, OT.size, OT.out, t0, List.getElem?_cons_zero, List.getElem?_cons_succ, List.set_cons_zero, List.set_cons_succ, List.map_cons, List.map_nil, OT.flat_fz, flat_nd', OT.dsOf_fz, dsOf_nil, dsOf_cons, Option.map_some, List.length_cons, List.length_nil, List.length_map, List.cons_append, List.nil_append, List.append_nil, wBin, gAdd, DL.gSub, gMul, gInt, List.getD_cons_zero, OT.whole_fz, OT.frz_fz, OT.whole_nd', OT.wholeL_fz, OT.wholeL_nil, OT.wholeL_cons, OT.frz_nd', map_frz_fz, ixo0, ixo1, ixo2, ixt0, ixt1, ixl0, ixl1, unAt, reAt, wSl, wPt, wNoPt, wSlE, wPtE, wNoPtE, OT.cut, wSetIx, lName, atP_nil, putP_nil, gSetM, ixN30, ixN31, ixN32, ne_eq, not_false_eq_true, not_true_eq_false, reduceCtorEq, if_true, if_false, if_pos, decide_true, decide_false, Bool.true_or, Bool.false_or, Bool.or_false, Bool.or_true, Bool.not_true, Bool.not_false, true_and, and_true, Option.some.injEq, exists_eq_left', String.reduceEq, Nat.zero_add, Nat.reduceAdd, Nat.reduceLT, Nat.lt_add_one, Bool.and_false, Bool.and_true, Bool.false_and, Bool.true_and, Bool.not_true, Bool.not_false, Bool.false_eq_true, pickL, eqv_int, eqv_bl, shaped_int, shaped_bl, shaped_non, wRev, wPeek, wListRg1, wLenSet, wMth, lIx, ixl2, ixl3, ixl4, ixt2, ixp0, ixp1, ixN20, ixN21, OT.flat_nd, wStar2, wTupOf, wDNew]; simpa [isFrame] using h
  | ty t => cases plain1_plain hp
  | adr a => cases plain1_plain hp
def isPlan (d : D) : Bool := match d with
  | .nd .lst xs => decide (xs.length ≤ 8) && xs.all isFrame
  | _ => false
def sp_is_plan : FSpec := fun args R _ => ∃ d, args = [.fz d] ∧ plain2 d = true ∧ (kidsD d).length ≤ sizeLine ∧ R (.fz (.bl (isPlan d))) .un
def w_is_plan (xq : XQ) : WS := (wRet (wEO (wAndV (wPE (wIsi "list" (wVar 0))) (wAndV (wPE (wS (gCmp fun i j => decide (i ≤ j)) (wFn gLen (wVCons (wVar 0) wVNil)) (wC (.int 8)))) (wFnE (gL1 hAll) (wCons (wOE (wLc [1] (iSeq (wVarF 0)) (gtName 1) wYes (wOE (wCall sp_is_frame noX [] (wCons (wVarF 1) wNil))))) wNil))))))
theorem bools_map_f (f : D → Bool) (ds : List D) : D.bools (ds.map fun d => .bl (f d)) = some (ds.map f) := by
  induction ds with
  | nil => rfl
  | cons d ds ih => rw [List.map_cons, D.bools, ih]; rfl
theorem len_is_plan : ∀ args R RX, sp_is_plan args R RX → args.length = 1 := by rintro _ _ _ ⟨d, rfl, _⟩; rfl
theorem pu_is_plan : ∀ args R RX, sp_is_plan args R RX → w_is_plan (fun x env => RX x (t0 false env)) { nx := fun env => R (.fz .non) (t0 false env), rt := fun t env => R t (t0 false env) } (args ++ List.replicate (["thing", "one"].length - args.length) .un) := by
  rintro _ R RX ⟨d, rfl, hp, hl, h⟩
  change w_is_plan _ _ [.fz d, .un]
  cases d with
  | nd k cs =>
    cases k with
    | lst =>
      simp only [w_is_plan, gL1, hAll, wRet, wRetN, wEO, wPE, wOE, wC, wVar, wVarF, wAndV, wNotV, wOrV, wIsi, wNext, wSeq, wDrop, wIfS, wSet, wPar, wAsg, wCall, wCallB, wCallK, wCallG, wMove, wCons, wNil, wVCons, wVNil, wOCons, wONil, wFn, wFnE, wFnN, wS, wSE, wSV, wCh, wET, wAnd, wOr, DL.wNot, wTup, wLst, wIf, wIx, wRaise, wMthN, gAppend, gtName, gtCons, gtNil, gtSeq, iSeq, OT.tn, D.tn, NK.tn, isTy, gCmp, gEq, gNe, gIsN, gNotN, gIsB, gNotB, isNon_non, gLen, OT.size, OT.out, t0, List.getElem?_cons_zero, List.getElem?_cons_succ, List.set_cons_zero, List.set_cons_succ, List.map_cons, List.map_nil, OT.flat_fz, flat_nd', OT.dsOf_fz, dsOf_nil, dsOf_cons, Option.map_some, List.length_cons, List.length_nil, List.length_map, List.cons_append, List.nil_append, List.append_nil, wBin, gAdd, DL.gSub, gMul, gInt, List.getD_cons_zero, OT.whole_fz, OT.frz_fz, OT.whole_nd', OT.wholeL_fz, OT.wholeL_nil, OT.wholeL_cons, OT.frz_nd', map_frz_fz, ixo0, ixo1, ixo2, ixt0, ixt1, ixl0, ixl1, unAt, reAt, wSl, wPt, wNoPt, wSlE, wPtE, wNoPtE, OT.cut, wSetIx, lName, atP_nil, putP_nil, gSetM, ixN30, ixN31, ixN32, ne_eq, not_false_eq_true, not_true_eq_false, reduceCtorEq, if_true, if_false, if_pos, decide_true, decide_false, Bool.true_or, Bool.false_or, Bool.or_false, Bool.or_true, Bool.not_true, Bool.not_false, true_and, and_true, Option.some.injEq, exists_eq_left', String.reduceEq, Nat.zero_add, Nat.reduceAdd, Nat.reduceLT, Nat.lt_add_one, Bool.and_false, Bool.and_true, Bool.false_and, Bool.true_and, Bool.not_true, Bool.not_false, Bool.false_eq_true, pickL, eqv_int, eqv_bl, shaped_int, shaped_bl, shaped_non, wRev, wPeek, wListRg1, wLenSet, wMth, lIx, ixl2, ixl3, ixl4, ixt2, ixp0, ixp1, ixN20, ixN21, OT.flat_nd, wStar2, wTupOf, wDNew]
      by_cases h8 : cs.length ≤ 8
      · rw [if_pos (decide_eq_true (by omega))]
        unfold wLc
        simp only [wRet, wRetN, wEO, wPE, wOE, wC, wVar, wVarF, wAndV, wNotV, wOrV, wIsi, wNext, wSeq, wDrop, wIfS, wSet, wPar, wAsg, wCall, wCallB, wCallK, wCallG, wMove, wCons, wNil, wVCons, wVNil, wOCons, wONil, wFn, wFnE, wFnN, wS, wSE, wSV, wCh, wET, wAnd, wOr, DL.wNot, wTup, wLst, wIf, wIx, wRaise, wMthN, gAppend, gtName, gtCons, gtNil, gtSeq, iSeq, OT.tn, D.tn, NK.tn, isTy, gCmp, gEq, gNe, gIsN, gNotN, gIsB, gNotB, isNon_non, gLen, OT.size, OT.out, t0, List.getElem?_cons_zero, List.getElem?_cons_succ, List.set_cons_zero, List.set_cons_succ, List.map_cons, List.map_nil, OT.flat_fz, flat_nd', OT.dsOf_fz, dsOf_nil, dsOf_cons, Option.map_some, List.length_cons, List.length_nil, List.length_map, List.cons_append, List.nil_append, List.append_nil, wBin, gAdd, DL.gSub, gMul, gInt, List.getD_cons_zero, OT.whole_fz, OT.frz_fz, OT.whole_nd', OT.wholeL_fz, OT.wholeL_nil, OT.wholeL_cons, OT.frz_nd', map_frz_fz, ixo0, ixo1, ixo2, ixt0, ixt1, ixl0, ixl1, unAt, reAt, wSl, wPt, wNoPt, wSlE, wPtE, wNoPtE, OT.cut, wSetIx, lName, atP_nil, putP_nil, gSetM, ixN30, ixN31, ixN32, ne_eq, not_false_eq_true, not_true_eq_false, reduceCtorEq, if_true, if_false, if_pos, decide_true, decide_false, Bool.true_or, Bool.false_or, Bool.or_false, Bool.or_true, Bool.not_true, Bool.not_false, true_and, and_true, Option.some.injEq, exists_eq_left', String.reduceEq, Nat.zero_add, Nat.reduceAdd, Nat.reduceLT, Nat.lt_add_one, Bool.and_false, Bool.and_true, Bool.false_and, Bool.true_and, Bool.not_true, Bool.not_false, Bool.false_eq_true, pickL, eqv_int, eqv_bl, shaped_int, shaped_bl, shaped_non, wRev, wPeek, wListRg1, wLenSet, wMth, lIx, ixl2, ixl3, ixl4, ixt2, ixp0, ixp1, ixN20, ixN21, OT.flat_nd, wStar2, wTupOf, wDNew]
        refine lc_pure (fun e => e = [.fz (.nd .lst cs), .un]) (fun d => .bl (isFrame d)) cs [] _ rfl (fun d hd env Q' hI q => ?_) (by rw [List.length_nil, Nat.zero_add]; exact hl) fun e he => ?_
        · subst hI
          simp only [wRet, wRetN, wEO, wPE, wOE, wC, wVar, wVarF, wAndV, wNotV, wOrV, wIsi, wNext, wSeq, wDrop, wIfS, wSet, wPar, wAsg, wCall, wCallB, wCallK, wCallG, wMove, wCons, wNil, wVCons, wVNil, wOCons, wONil, wFn, wFnE, wFnN, wS, wSE, wSV, wCh, wET, wAnd, wOr, DL.wNot, wTup, wLst, wIf, wIx, wRaise, wMthN, gAppend, gtName, gtCons, gtNil, gtSeq, iSeq, OT.tn, D.tn, NK.tn, isTy, gCmp, gEq, gNe, gIsN, gNotN, gIsB, gNotB, isNon_non, gLen, OT.size, OT.out, t0, List.getElem?_cons_zero, List.getElem?_cons_succ, List.set_cons_zero, List.set_cons_succ, List.map_cons, List.map_nil, OT.flat_fz, flat_nd', OT.dsOf_fz, dsOf_nil, dsOf_cons, Option.map_some, List.length_cons, List.length_nil, List.length_map, List.cons_append, List.nil_append, List.append_nil, wBin, gAdd, DL.gSub, gMul, gInt, List.getD_cons_zero, OT.whole_fz, OT.frz_fz, OT.whole_nd', OT.wholeL_fz, OT.wholeL_nil, OT.wholeL_cons, OT.frz_nd', map_frz_fz, ixo0, ixo1, ixo2, ixt0, ixt1, ixl0, ixl1, unAt, reAt, wSl, wPt, wNoPt, wSlE, wPtE, wNoPtE, OT.cut, wSetIx, lName, atP_nil, putP_nil, gSetM, ixN30, ixN31, ixN32, ne_eq, not_false_eq_true, not_true_eq_false, reduceCtorEq, if_true, if_false, if_pos, decide_true, decide_false, Bool.true_or, Bool.false_or, Bool.or_false, Bool.or_true, Bool.not_true, Bool.not_false, true_and, and_true, Option.some.injEq, exists_eq_left', String.reduceEq, Nat.zero_add, Nat.reduceAdd, Nat.reduceLT, Nat.lt_add_one, Bool.and_false, Bool.and_true, Bool.false_and, Bool.true_and, Bool.not_true, Bool.not_false, Bool.false_eq_true, pickL, eqv_int, eqv_bl, shaped_int, shaped_bl, shaped_non, wRev, wPeek, wListRg1, wLenSet, wMth, lIx, ixl2, ixl3, ixl4, ixt2, ixp0, ixp1, ixN20, ixN21, OT.flat_nd, wStar2, wTupOf, wDNew]
          refine ⟨_, rfl, plain2_kid hp hd, ?_⟩
          simp only [wRet, wRetN, wEO, wPE, wOE, wC, wVar, wVarF, wAndV, wNotV, wOrV, wIsi, wNext, wSeq, wDrop, wIfS, wSet, wPar, wAsg, wCall, wCallB, wCallK, wCallG, wMove, wCons, wNil, wVCons, wVNil, wOCons, wONil, wFn, wFnE, wFnN, wS, wSE, wSV, wCh, wET, wAnd, wOr, DL.wNot, wTup, wLst, wIf, wIx, wRaise, wMthN, gAppend, gtName, gtCons, gtNil, gtSeq, iSeq, OT.tn, D.tn, NK.tn, isTy, gCmp, gEq, gNe, gIsN, gNotN, gIsB, gNotB, isNon_non, gLen, OT.size, OT.out, t0, List.getElem?_cons_zero, List.getElem?_cons_succ, List.set_cons_zero, List.set_cons_succ, List.map_cons, List.map_nil, OT.flat_fz, flat_nd', OT.dsOf_fz, dsOf_nil, dsOf_cons, Option.map_some, List.length_cons, List.length_nil, List.length_map, List.cons_append, List.nil_append, List.append_nil, wBin, gAdd, DL.gSub, gMul, gInt, List.getD_cons_zero, OT.whole_fz, OT.frz_fz, OT.whole_nd', OT.wholeL_fz, OT.wholeL_nil, OT.wholeL_cons, OT.frz_nd', map_frz_fz, ixo0, ixo1, ixo2, ixt0, ixt1, ixl0, ixl1, unAt, reAt, wSl, wPt, wNoPt, wSlE, wPtE, wNoPtE, OT.cut, wSetIx, lName, atP_nil, putP_nil, gSetM, ixN30, ixN31, ixN32, ne_eq, not_false_eq_true, not_true_eq_false, reduceCtorEq, if_true, if_false, if_pos, decide_true, decide_false, Bool.true_or, Bool.false_or, Bool.or_false, Bool.or_true, Bool.not_true, Bool.not_false, true_and, and_true, Option.some.injEq, exists_eq_left', String.reduceEq, Nat.zero_add, Nat.reduceAdd, Nat.reduceLT, Nat.lt_add_one, Bool.and_false, Bool.and_true, Bool.false_and, Bool.true_and, Bool.not_true, Bool.not_false, Bool.false_eq_true, pickL, eqv_int, eqv_bl, shaped_int, shaped_bl, shaped_non, wRev, wPeek, wListRg1, wLenSet, wMth, lIx, ixl2, ixl3, ixl4, ixt2, ixp0, ixp1, ixN20, ixN21, OT.flat_nd, wStar2, wTupOf, wDNew]
          exact q _ rfl
        · subst he
          simp only [wRet, wRetN, wEO, wPE, wOE, wC, wVar, wVarF, wAndV, wNotV, wOrV, wIsi, wNext, wSeq, wDrop, wIfS, wSet, wPar, wAsg, wCall, wCallB, wCallK, wCallG, wMove, wCons, wNil, wVCons, wVNil, wOCons, wONil, wFn, wFnE, wFnN, wS, wSE, wSV, wCh, wET, wAnd, wOr, DL.wNot, wTup, wLst, wIf, wIx, wRaise, wMthN, gAppend, gtName, gtCons, gtNil, gtSeq, iSeq, OT.tn, D.tn, NK.tn, isTy, gCmp, gEq, gNe, gIsN, gNotN, gIsB, gNotB, isNon_non, gLen, OT.size, OT.out, t0, List.getElem?_cons_zero, List.getElem?_cons_succ, List.set_cons_zero, List.set_cons_succ, List.map_cons, List.map_nil, OT.flat_fz, flat_nd', OT.dsOf_fz, dsOf_nil, dsOf_cons, Option.map_some, List.length_cons, List.length_nil, List.length_map, List.cons_append, List.nil_append, List.append_nil, wBin, gAdd, DL.gSub, gMul, gInt, List.getD_cons_zero, OT.whole_fz, OT.frz_fz, OT.whole_nd', OT.wholeL_fz, OT.wholeL_nil, OT.wholeL_cons, OT.frz_nd', map_frz_fz, ixo0, ixo1, ixo2, ixt0, ixt1, ixl0, ixl1, unAt, reAt, wSl, wPt, wNoPt, wSlE, wPtE, wNoPtE, OT.cut, wSetIx, lName, atP_nil, putP_nil, gSetM, ixN30, ixN31, ixN32, ne_eq, not_false_eq_true, not_true_eq_false, reduceCtorEq, if_true, if_false, if_pos, decide_true, decide_false, Bool.true_or, Bool.false_or, Bool.or_false, Bool.or_true, Bool.not_true, Bool.not_false, true_and, and_true, Option.some.injEq, exists_eq_left', String.reduceEq, Nat.zero_add, Nat.reduceAdd, Nat.reduceLT, Nat.lt_add_one, Bool.and_false, Bool.and_true, Bool.false_and, Bool.true_and, Bool.not_true, Bool.not_false, Bool.false_eq_true, pickL, eqv_int, eqv_bl, shaped_int, shaped_bl, shaped_non, wRev, wPeek, wListRg1, wLenSet, wMth, lIx, ixl2, ixl3, ixl4, ixt2, ixp0, ixp1, ixN20, ixN21, OT.flat_nd, wStar2, wTupOf, wDNew]
          rw [bools_map_f]
          simp only [Option.map_some, wRet, wRetN, wEO, wPE, wOE, wC, wVar, wVarF, wAndV, wNotV, wOrV, wIsi, wNext, wSeq, wDrop, wIfS, wSet, wPar, wAsg, wCall, wCallB, wCallK, wCallG, wMove, wCons, wNil, wVCons, wVNil, wOCons, wONil, wFn, wFnE, wFnN, wS, wSE, wSV, wCh, wET, wAnd, wOr, DL.wNot, wTup, wLst, wIf, wIx, wRaise, wMthN, gAppend, gtName, gtCons, gtNil, gtSeq, iSeq, OT.tn, D.tn, NK.tn, isTy, gCmp, gEq, gNe, gIsN, gNotN, gIsB, gNotB, isNon_non, gLen, OT.size, OT.out, t0, List.getElem?_cons_zero, List.getElem?_cons_succ, List.set_cons_zero, List.set_cons_succ, List.map_cons, List.map_nil, OT.flat_fz, flat_nd', OT.dsOf_fz, dsOf_nil, dsOf_cons, Option.map_some, List.length_cons, List.length_nil, List.length_map, List.cons_append, List.nil_append, List.append_nil, wBin, gAdd, DL.gSub, gMul, gInt, List.getD_cons_zero, OT.whole_fz, OT.frz_fz, OT.whole_nd', OT.wholeL_fz, OT.wholeL_nil, OT.wholeL_cons, OT.frz_nd', map_frz_fz, ixo0, ixo1, ixo2, ixt0, ixt1, ixl0, ixl1, unAt, reAt, wSl, wPt, wNoPt, wSlE, wPtE, wNoPtE, OT.cut, wSetIx, lName, atP_nil, putP_nil, gSetM, ixN30, ixN31, ixN32, ne_eq, not_false_eq_true, not_true_eq_false, reduceCtorEq, if_true, if_false, if_pos, decide_true, decide_false, Bool.true_or, Bool.false_or, Bool.or_false, Bool.or_true, Bool.not_true, Bool.not_false, true_and, and_true, Option.some.injEq, exists_eq_left', String.reduceEq, Nat.zero_add, Nat.reduceAdd, Nat.reduceLT, Nat.lt_add_one, Bool.and_false, Bool.and_true, Bool.false_and, Bool.true_and, Bool.not_true, Bool.not_false, Bool.false_eq_true, pickL, eqv_int, eqv_bl, shaped_int, shaped_bl, shaped_non, wRev, wPeek, wListRg1, wLenSet, wMth, lIx, ixl2, ixl3, ixl4, ixt2, ixp0, ixp1, ixN20, ixN21, OT.flat_nd, wStar2, wTupOf, wDNew]
          rw [show isPlan (.nd .lst cs) = (cs.map isFrame).all id from ?_] at h
          · exact h
          · rw [List.all_map]
            show (decide (cs.length ≤ 8) && cs.all isFrame) = _
            rw [decide_eq_true h8, Bool.true_and]
            rfl
      · rw [if_neg (by rw [decide_eq_false (by omega)]; exact Bool.false_ne_true)]
        rw [show isPlan (.nd .lst cs) = false from by show (decide (cs.length ≤ 8) && cs.all isFrame) = _; rw [decide_eq_false h8]; rfl] at h
        exact h
    | _ => first | exact nomatch (show false = true from plain2_plain hp) | (simp only [w_is_plan, wRet, wRetN, wEO, wPE, wOE, wC, wVar, wVarF, wAndV, wNotV, wOrV, wIsi, wNext, wSeq, wDrop, wIfS, wSet, wPar, wAsg, wCall, wCallB, wCallK, wCallG, wMove, wCons, wNil, wVCons, wVNil, wOCons, wONil, wFn, wFnE, wFnN, wS, wSE, wSV, wCh, wET, wAnd, wOr, DL.wNot, wTup, wLst, wIf, wIx, wRaise, wMthN, gAppend, gtName, gtCons, gtNil, gtSeq, iSeq, OT.tn, D.tn, NK.tn, isTy, gCmp, gEq, gNe, gIsN, gNotN, gIsB, gNotB, isNon_non, gLen, OT.size, OT.out, t0, List.getElem?_cons_zero, List.getElem?_cons_succ, List.set_cons_zero, List.set_cons_succ, List.map_cons, List.map_nil, OT.flat_fz, flat_nd', OT.dsOf_fz, dsOf_nil, dsOf_cons, Option.map_some, List.length_cons, List.length_nil, List.length_map, List.cons_append, List.nil_append, List.append_nil, wBin, gAdd, DL.gSub, gMul, gInt, List.getD_cons_zero, OT.whole_fz, OT.frz_fz, OT.whole_nd', OT.wholeL_fz, OT.wholeL_nil, OT.wholeL_cons, OT.frz_nd', map_frz_fz, ixo0, ixo1, ixo2, ixt0, ixt1, ixl0, ixl1, unAt, reAt, wSl, wPt, wNoPt, wSlE, wPtE, wNoPtE, OT.cut, wSetIx, lName, atP_nil, putP_nil, gSetM, ixN30, ixN31, ixN32, ne_eq, not_false_eq_true, not_true_eq_false, reduceCtorEq, if_true, if_false, if_pos, decide_true, decide_false, Bool.true_or, Bool.false_or, Bool.or_false, Bool.or_true, Bool.not_true, Bool.not_false, true_and, and_true, Option.some.injEq, exists_eq_left', String.reduceEq, Nat.zero_add, Nat.reduceAdd, Nat.reduceLT, Nat.lt_add_one, Bool.and_false, Bool.and_true, Bool.false_and, Bool.true_and, Bool.not_true, Bool.not_false, Bool.false_eq_true, pickL, eqv_int, eqv_bl, shaped_int, shaped_bl, shaped_non, wRev, wPeek, wListRg1, wLenSet, wMth, lIx, ixl2, ixl3, ixl4, ixt2, ixp0, ixp1, ixN20, ixN21, OT.flat_nd, wStar2, wTupOf, wDNew]; simpa [isPlan] using h)
  | non => simp only [w_is_plan, wRet, wRetN, wEO, wPE, wOE, wC, wVar, wVarF, wAndV, wNotV, wOrV, wIsi, wNext, wSeq, wDrop, wIfS, wSet, wPar, wAsg, wCall, wCallB, wCallK, wCallG, wMove, wCons, wNil, wVCons, wVNil, wOCons, wONil, wFn, wFnE, wFnN, wS, wSE, wSV, wCh, wET, wAnd, wOr, DL.wNot, wTup, wLst, wIf, wIx, wRaise, wMthN, gAppend, gtName, gtCons, gtNil, gtSeq, iSeq, OT.tn, D.tn, NK.tn, isTy, gCmp, gEq, gNe, gIsN, gNotN, gIsB, gNotB, isNon_non, gLen, OT.size, OT.out, t0, List.getElem?_cons_zero, List.getElem?_cons_succ, List.set_cons_zero, List.set_cons_succ, List.map_cons, List.map_nil, OT.flat_fz, flat_nd', OT.dsOf_fz, dsOf_nil, dsOf_cons, Option.map_some, List.length_cons, List.length_nil, List.length_map, List.cons_append, List.nil_append, List.append_nil, wBin, gAdd, DL.gSub, gMul, gInt, List.getD_cons_zero, OT.whole_fz, OT.frz_fz, OT.whole_nd', OT.wholeL_fz, OT.wholeL_nil, OT.wholeL_cons, OT.frz_nd', map_frz_fz, ixo0, ixo1, ixo2, ixt0, ixt1, ixl0, ixl1, unAt, reAt, wSl, wPt, wNoPt, wSlE, wPtE, wNoPtE, OT.cut, wSetIx, lName, atP_nil, putP_nil, gSetM, ixN30, ixN31, ixN32, ne_eq, not_false_eq_true, not_true_eq_false, reduceCtorEq, if_true, if_false, if_pos, decide_true, decide_false, Bool.true_or, Bool.false_or, Bool.or_false, Bool.or_true, Bool.not_true, Bool.not_false, true_and, and_true, Option.some.injEq, exists_eq_left', String.reduceEq, Nat.zero_add, Nat.reduceAdd, Nat.reduceLT, Nat.lt_add_one, Bool.and_false, Bool.and_true, Bool.false_and, Bool.true_and, Bool.not_true, Bool.not_false, Bool.false_eq_true, pickL, eqv_int, eqv_bl, shaped_int, shaped_bl, shaped_non, wRev, wPeek, wListRg1, wLenSet, wMth, lIx, ixl2, ixl3, ixl4, ixt2, ixp0, ixp1, ixN20, ixN21, OT.flat_nd, wStar2, wTupOf, wDNew]; simpa [isPlan] using h
  | bl b => simp only [w_is_plan, wRet, wRetN, wEO, wPE, wOE, wC, wVar, wVarF, wAndV, wNotV, wOrV, wIsi, wNext, wSeq, wDrop, wIfS, wSet, wPar, wAsg, wCall, wCallB, wCallK, wCallG, wMove, wCons, wNil, wVCons, wVNil, wOCons, wONil, wFn, wFnE, wFnN, wS, wSE, wSV, wCh, wET, wAnd, wOr, DL.wNot, wTup, wLst, wIf, wIx, wRaise, wMthN, gAppend, gtName, gtCons, gtNil, gtSeq, iSeq, OT.tn, D.tn, NK.tn, isTy, gCmp, gEq, gNe, gIsN, gNotN, gIsB, gNotB, isNon_non, gLen, OT.size, OT.out, t0, List.getElem?_cons_zero, List.getElem?_cons_succ, List.set_cons_zero, List.set_cons_succ, List.map_cons, List.map_nil, OT.flat_fz, flat_nd', OT.dsOf_fz, dsOf_nil, dsOf_cons, Option.map_some, List.length_cons, List.length_nil, List.length_map, List.cons_append, List.nil_append, List.append_nil, wBin, gAdd, DL.gSub, gMul, gInt, List.getD_cons_zero, OT.whole_fz, OT.frz_fz, OT.whole_nd', OT.wholeL_fz, OT.wholeL_nil, OT.wholeL_cons, OT.frz_nd', map_frz_fz, ixo0, ixo1, ixo2, ixt0, ixt1, ixl0, ixl1, unAt, reAt, wSl, wPt, wNoPt, wSlE, wPtE, wNoPtE, OT.cut, wSetIx, lName, atP_nil, putP_nil, gSetM, ixN30, ixN31, ixN32, ne_eq, not_false_eq_true, not_true_eq_false, reduceCtorEq, if_true, if_false, if_pos, decide_true, decide_false, Bool.true_or, Bool.false_or, Bool.or_false, Bool.or_true, Bool.not_true, Bool.not_false, true_and, and_true, Option.some.injEq, exists_eq_left', String.reduceEq, Nat.zero_add, Nat.reduceAdd, Nat.reduceLT, Nat.lt_add_one, Bool.and_false, Bool.and_true, Bool.false_and, Bool.true_and, Bool.not_true, Bool.not_false, Bool.false_eq_true, pickL, eqv_int, eqv_bl, shaped_int, shaped_bl, shaped_non, wRev, wPeek, wListRg1, wLenSet, wMth, lIx, ixl2, ixl3, ixl4, ixt2, ixp0, ixp1, ixN20, ixN21, OT.flat_nd, wStar2, wTupOf, wDNew]; simpa [isPlan] using h
  | int n => simp only [w_is_plan, wRet, wRetN, wEO, wPE, wOE, wC, wVar, wVarF, wAndV, wNotV, wOrV, wIsi, wNext, wSeq, wDrop, wIfS, wSet, wPar, wAsg, wCall, wCallB, wCallK, wCallG, wMove, wCons, wNil, wVCons, wVNil, wOCons, wONil, wFn, wFnE, wFnN, wS, wSE, wSV, wCh, wET, wAnd, wOr, DL.wNot, wTup, wLst, wIf, wIx, wRaise, wMthN, gAppend, gtName, gtCons, gtNil, gtSeq, iSeq, OT.tn, D.tn, NK.tn, isTy, gCmp, gEq, gNe, gIsN, gNotN, gIsB, gNotB, isNon_non, gLen, OT.size, OT.out, t0, List.getElem?_cons_zero, List.getElem?_cons_succ, List.set_cons_zero, List.set_cons_succ, List.map_cons, List.map_nil, OT.flat_fz, flat_nd', OT.dsOf_fz, dsOf_nil, dsOf_cons, Option.map_some, List.length_cons, List.length_nil, List.length_map, List.cons_append, List.nil_append, List.append_nil, wBin, gAdd, DL.gSub, gMul, gInt, List.getD_cons_zero, OT.whole_fz, OT.frz_fz, OT.whole_nd', OT.wholeL_fz, OT.wholeL_nil, OT.wholeL_cons, OT.frz_nd', map_frz_fz, ixo0, ixo1, ixo2, ixt0, ixt1, ixl0, ixl1, unAt, reAt, wSl, wPt, wNoPt, wSlE, wPtE, wNoPtE, OT.cut, wSetIx, lName, atP_nil, putP_nil, gSetM, ixN30, ixN31, ixN32, ne_eq, not_false_eq_true, not_true_eq_false, reduceCtorEq, if_true, if_false, if_pos, decide_true, decide_false, Bool.true_or, Bool.false_or, Bool.or_false, Bool.or_true, Bool.not_true, Bool.not_false, true_and, and_true, Option.some.injEq, exists_eq_left', String.reduceEq, Nat.zero_add, Nat.reduceAdd, Nat.reduceLT, Nat.lt_add_one, Bool.and_false, Bool.and_true, Bool.false_and, Bool.true_and, Bool.not_true, Bool.not_false, Bool.false_eq_true, pickL, eqv_int, eqv_bl, shaped_int, shaped_bl, shaped_non, wRev, wPeek, wListRg1, wLenSet, wMth, lIx, ixl2, ixl3, ixl4, ixt2, ixp0, ixp1, ixN20, ixN21, OT.flat_nd, wStar2, wTupOf, wDNew]; simpa [isPlan] using h
  | str s => simp only [w_is_plan, wRet, wRetN, wEO, wPE, wOE, wC, wVar, wVarF, wAndV, wNotV, wOrV, wIsi, wNext, wSeq, wDrop, wIfS, wSet, wPar, wAsg, wCall, wCallB, wCallK, wCallG, wMove, wCons, wNil, wVCons, wVNil, wOCons, wONil, wFn, wFnE, wFnN, wS, wSE, wSV, wCh, wET, wAnd, wOr, DL.wNot, wTup, wLst, wIf, wIx, wRaise, wMthN, gAppend, gtName, gtCons, gtNil, gtSeq, iSeq, OT.tn, D.tn, NK.tn, isTy, gCmp, gEq, gNe, gIsN, gNotN, gIsB, gNotB, isNon_non, gLen, OT.size, OT.out, t0, List.getElem?_cons_zero, List.getElem?_cons_succ, List.set_cons_zero, List.set_cons_succ, List.map_cons, List.map_nil, OT.flat_fz, flat_nd', OT.dsOf_fz, dsOf_nil, dsOf_cons, Option.map_some, List.length_cons, List.length_nil, List.length_map, List.cons_append, List.nil_append, List.append_nil, wBin, gAdd, DL.gSub, gMul, gInt, List.getD_cons_zero, OT.whole_fz, OT.frz_fz, OT.whole_nd', OT.wholeL_fz, OT.wholeL_nil, OT.wholeL_cons, OT.frz_nd', map_frz_fz, ixo0, ixo1, ixo2, ixt0, ixt1, ixl0, ixl1, unAt, reAt, wSl, wPt, wNoPt, wSlE, wPtE, wNoPtE, OT.cut, wSetIx, lName, atP_nil, putP_nil, gSetM, ixN30, ixN31, ixN32, ne_eq, not_false_eq_true, not_true_eq_false, reduceCtorEq, if_true, if_false, if_pos, decide_true, decide_false, Bool.true_or, Bool.false_or, Bool.or_false, Bool.or_true, Bool.not_true, Bool.not_false, true_and, and_true, Option.some.injEq, exists_eq_left', String.reduceEq, Nat.zero_add, Nat.reduceAdd, Nat.reduceLT, Nat.lt_add_one, Bool.and_false, Bool.and_true, Bool.false_and, Bool.true_and, Bool.not_true, Bool.not_false, Bool.false_eq_true, pickL, eqv_int, eqv_bl, shaped_int, shaped_bl, shaped_non, wRev, wPeek, wListRg1, wLenSet, wMth, lIx, ixl2, ixl3, ixl4, ixt2, ixp0, ixp1, ixN20, ixN21, OT.flat_nd, wStar2, wTupOf, wDNew]; simpa [isPlan] using h
  | ty t => exact nomatch (show false = true from plain2_plain hp)
  | adr a => exact nomatch (show false = true from plain2_plain hp)
theorem isFrame_fr {d : D} (h : isFrame d = true) : ∃ q, d = fr q ∧ FrOk q := by
  unfold isFrame at h
  split at h
  · rename_i a b
    rw [Bool.and_eq_true] at h
    obtain ⟨ha, hb⟩ := h
    unfold isBt at ha hb
    split at ha
    · split at hb
      · rw [Bool.and_eq_true] at ha hb
        exact ⟨(_, _), rfl, ⟨of_decide_eq_true ha.1, of_decide_eq_true ha.2⟩, of_decide_eq_true hb.1, of_decide_eq_true hb.2⟩
      · cases hb
    · cases ha
  · cases h
theorem isFrame_all : ∀ {ds : List D}, ds.all isFrame = true → ∃ ps, ds = frs ps ∧ ∀ q ∈ ps, FrOk q
  | [], _ => ⟨[], rfl, fun _ h => nomatch h⟩
  | d :: ds, h => by
    rw [List.all_cons, Bool.and_eq_true] at h
    obtain ⟨q, rfl, hq⟩ := isFrame_fr h.1
    obtain ⟨ps, rfl, hp⟩ := isFrame_all h.2
    exact ⟨q :: ps, rfl, List.forall_mem_cons.mpr ⟨hq, hp⟩⟩
theorem isPlan_pl {d : D} (h : isPlan d = true) : ∃ ps, d = planD ps ∧ PlOk ps := by
  unfold isPlan at h
  split at h
  · rw [Bool.and_eq_true] at h
    obtain ⟨ps, rfl, hp⟩ := isFrame_all h.2
    have := of_decide_eq_true h.1
    unfold frs at this
    rw [List.length_map] at this
    exact ⟨ps, rfl, this, hp⟩
  · cases h
theorem isBt_int (n lo hi : Int) : isBt (.int n) lo hi = (decide (lo ≤ n) && decide (n ≤ hi)) := rfl
theorem isFrame_of {q : Int × Int} (h : FrOk q) : isFrame (fr q) = true := by
  obtain ⟨⟨h1, h2⟩, h3, h4⟩ := h
  unfold fr
  show (isBt (.int q.1) 2 400 && isBt (.int q.2) 1 20) = true
  rw [isBt_int, isBt_int, decide_eq_true h1, decide_eq_true h2, decide_eq_true h3, decide_eq_true h4]; rfl
theorem isPlan_of {ps : List (Int × Int)} (h : PlOk ps) : isPlan (planD ps) = true := by
  unfold planD
  show (decide ((frs ps).length ≤ 8) && (frs ps).all isFrame) = true
  unfold frs
  rw [List.length_map, decide_eq_true h.1, Bool.true_and]
  exact List.all_eq_true.mpr fun x hx => by
    obtain ⟨q, hq, rfl⟩ := List.mem_map.mp hx
    exact isFrame_of (h.2 q hq)
theorem plain2_planD (ps : List (Int × Int)) : plain2 (planD ps) = true := by
  unfold plain2 planD
  show (true && (frs ps).all plain1) = true
  rw [Bool.true_and]
  exact List.all_eq_true.mpr fun x hx => by
    unfold frs at hx
    obtain ⟨q, _, rfl⟩ := List.mem_map.mp hx
    rfl
theorem len_planD {ps : List (Int × Int)} (h : PlOk ps) : (kidsD (planD ps)).length ≤ sizeLine := by
  show (frs ps).length ≤ sizeLine
  unfold frs
  rw [List.length_map]
  exact Nat.le_trans h.1 (by decide)
def sp_need_plan : FSpec := fun args R RX => ∃ d, args = [.fz d] ∧ plain2 d = true ∧ (kidsD d).length ≤ sizeLine ∧ (isPlan d = true → R (.fz .non) .un) ∧ (isPlan d = false → RX ⟨"NoPlan", none⟩ .un)
def w_need_plan (xq : XQ) : WS := (wIfS (wNot (wET (wOE (wCall sp_is_plan xq [] (wCons (wVarF 0) wNil))))) (wRaise xq "NoPlan") wNext)
theorem len_need_plan : ∀ args R RX, sp_need_plan args R RX → args.length = 1 := by rintro _ _ _ ⟨d, rfl, _⟩; rfl
theorem pu_need_plan : ∀ args R RX, sp_need_plan args R RX → w_need_plan (fun x env => RX x (t0 false env)) { nx := fun env => R (.fz .non) (t0 false env), rt := fun t env => R t (t0 false env) } (args ++ List.replicate (["thing"].length - args.length) .un) := by
  rintro _ R RX ⟨d, rfl, hp, hl, h, hx⟩
  change w_need_plan _ _ [.fz d]
  simp only [w_need_plan, wRet, wRetN, wEO, wPE, wOE, wC, wVar, wVarF, wAndV, wNotV, wOrV, wIsi, wNext, wSeq, wDrop, wIfS, wSet, wPar, wAsg, wCall, wCallB, wCallK, wCallG, wMove, wCons, wNil, wVCons, wVNil, wOCons, wONil, wFn, wFnE, wFnN, wS, wSE, wSV, wCh, wET, wAnd, wOr, DL.wNot, wTup, wLst, wIf, wIx, wRaise, wMthN, gAppend, gtName, gtCons, gtNil, gtSeq, iSeq, OT.tn, D.tn, NK.tn, isTy, gCmp, gEq, gNe, gIsN, gNotN, gIsB, gNotB, isNon_non, gLen, OT.size, OT.out, t0, List.getElem?_cons_zero, List.getElem?_cons_succ, List.set_cons_zero, List.set_cons_succ, List.map_cons, List.map_nil, OT.flat_fz, flat_nd', OT.dsOf_fz, dsOf_nil, dsOf_cons, Option.map_some, List.length_cons, List.length_nil, List.length_map, List.cons_append, List.nil_append, List.append_nil, wBin, gAdd, DL.gSub, gMul, gInt, List.getD_cons_zero, OT.whole_fz, OT.frz_fz, OT.whole_nd', OT.wholeL_fz, OT.wholeL_nil, OT.wholeL_cons, OT.frz_nd', map_frz_fz, ixo0, ixo1, ixo2, ixt0, ixt1, ixl0, ixl1, unAt, reAt, wSl, wPt, wNoPt, wSlE, wPtE, wNoPtE, OT.cut, wSetIx, lName, atP_nil, putP_nil, gSetM, ixN30, ixN31, ixN32, ne_eq, not_false_eq_true, not_true_eq_false, reduceCtorEq, if_true, if_false, if_pos, decide_true, decide_false, Bool.true_or, Bool.false_or, Bool.or_false, Bool.or_true, Bool.not_true, Bool.not_false, true_and, and_true, Option.some.injEq, exists_eq_left', String.reduceEq, Nat.zero_add, Nat.reduceAdd, Nat.reduceLT, Nat.lt_add_one, Bool.and_false, Bool.and_true, Bool.false_and, Bool.true_and, Bool.not_true, Bool.not_false, Bool.false_eq_true, pickL, eqv_int, eqv_bl, shaped_int, shaped_bl, shaped_non, wRev, wPeek, wListRg1, wLenSet, wMth, lIx, ixl2, ixl3, ixl4, ixt2, ixp0, ixp1, ixN20, ixN21, OT.flat_nd, wStar2, wTupOf, wDNew]
  refine ⟨d, rfl, hp, hl, ?_⟩
  simp only [wRet, wRetN, wEO, wPE, wOE, wC, wVar, wVarF, wAndV, wNotV, wOrV, wIsi, wNext, wSeq, wDrop, wIfS, wSet, wPar, wAsg, wCall, wCallB, wCallK, wCallG, wMove, wCons, wNil, wVCons, wVNil, wOCons, wONil, wFn, wFnE, wFnN, wS, wSE, wSV, wCh, wET, wAnd, wOr, DL.wNot, wTup, wLst, wIf, wIx, wRaise, wMthN, gAppend, gtName, gtCons, gtNil, gtSeq, iSeq, OT.tn, D.tn, NK.tn, isTy, gCmp, gEq, gNe, gIsN, gNotN, gIsB, gNotB, isNon_non, gLen, OT.size, OT.out, t0, List.getElem?_cons_zero, List.getElem?_cons_succ, List.set_cons_zero, List.set_cons_succ, List.map_cons, List.map_nil, OT.flat_fz, flat_nd', OT.dsOf_fz, dsOf_nil, dsOf_cons, Option.map_some, List.length_cons, List.length_nil, List.length_map, List.cons_append, List.nil_append, List.append_nil, wBin, gAdd, DL.gSub, gMul, gInt, List.getD_cons_zero, OT.whole_fz, OT.frz_fz, OT.whole_nd', OT.wholeL_fz, OT.wholeL_nil, OT.wholeL_cons, OT.frz_nd', map_frz_fz, ixo0, ixo1, ixo2, ixt0, ixt1, ixl0, ixl1, unAt, reAt, wSl, wPt, wNoPt, wSlE, wPtE, wNoPtE, OT.cut, wSetIx, lName, atP_nil, putP_nil, gSetM, ixN30, ixN31, ixN32, ne_eq, not_false_eq_true, not_true_eq_false, reduceCtorEq, if_true, if_false, if_pos, decide_true, decide_false, Bool.true_or, Bool.false_or, Bool.or_false, Bool.or_true, Bool.not_true, Bool.not_false, true_and, and_true, Option.some.injEq, exists_eq_left', String.reduceEq, Nat.zero_add, Nat.reduceAdd, Nat.reduceLT, Nat.lt_add_one, Bool.and_false, Bool.and_true, Bool.false_and, Bool.true_and, Bool.not_true, Bool.not_false, Bool.false_eq_true, pickL, eqv_int, eqv_bl, shaped_int, shaped_bl, shaped_non, wRev, wPeek, wListRg1, wLenSet, wMth, lIx, ixl2, ixl3, ixl4, ixt2, ixp0, ixp1, ixN20, ixN21, OT.flat_nd, wStar2, wTupOf, wDNew]
  cases e : isPlan d with
  | true => simp only [wRet, wRetN, wEO, wPE, wOE, wC, wVar, wVarF, wAndV, wNotV, wOrV, wIsi, wNext, wSeq, wDrop, wIfS, wSet, wPar, wAsg, wCall, wCallB, wCallK, wCallG, wMove, wCons, wNil, wVCons, wVNil, wOCons, wONil, wFn, wFnE, wFnN, wS, wSE, wSV, wCh, wET, wAnd, wOr, DL.wNot, wTup, wLst, wIf, wIx, wRaise, wMthN, gAppend, gtName, gtCons, gtNil, gtSeq, iSeq, OT.tn, D.tn, NK.tn, isTy, gCmp, gEq, gNe, gIsN, gNotN, gIsB, gNotB, isNon_non, gLen, OT.size, OT.out, t0, List.getElem?_cons_zero, List.getElem?_cons_succ, List.set_cons_zero, List.set_cons_succ, List.map_cons, List.map_nil, OT.flat_fz, flat_nd', OT.dsOf_fz, dsOf_nil, dsOf_cons, Option.map_some, List.length_cons, List.length_nil, List.length_map, List.cons_append, List.nil_append, List.append_nil, wBin, gAdd, DL.gSub, gMul, gInt, List.getD_cons_zero, OT.whole_fz, OT.frz_fz, OT.whole_nd', OT.wholeL_fz, OT.wholeL_nil, OT.wholeL_cons, OT.frz_nd', map_frz_fz, ixo0, ixo1, ixo2, ixt0, ixt1, ixl0, ixl1, unAt, reAt, wSl, wPt, wNoPt, wSlE, wPtE, wNoPtE, OT.cut, wSetIx, lName, atP_nil, putP_nil, gSetM, ixN30, ixN31, ixN32, ne_eq, not_false_eq_true, not_true_eq_false, reduceCtorEq, if_true, if_false, if_pos, decide_true, decide_false, Bool.true_or, Bool.false_or, Bool.or_false, Bool.or_true, Bool.not_true, Bool.not_false, true_and, and_true, Option.some.injEq, exists_eq_left', String.reduceEq, Nat.zero_add, Nat.reduceAdd, Nat.reduceLT, Nat.lt_add_one, Bool.and_false, Bool.and_true, Bool.false_and, Bool.true_and, Bool.not_true, Bool.not_false, Bool.false_eq_true, pickL, eqv_int, eqv_bl, shaped_int, shaped_bl, shaped_non, wRev, wPeek, wListRg1, wLenSet, wMth, lIx, ixl2, ixl3, ixl4, ixt2, ixp0, ixp1, ixN20, ixN21, OT.flat_nd, wStar2, wTupOf, wDNew]; exact h e
  | false => simp only [wRet, wRetN, wEO, wPE, wOE, wC, wVar, wVarF, wAndV, wNotV, wOrV, wIsi, wNext, wSeq, wDrop, wIfS, wSet, wPar, wAsg, wCall, wCallB, wCallK, wCallG, wMove, wCons, wNil, wVCons, wVNil, wOCons, wONil, wFn, wFnE, wFnN, wS, wSE, wSV, wCh, wET, wAnd, wOr, DL.wNot, wTup, wLst, wIf, wIx, wRaise, wMthN, gAppend, gtName, gtCons, gtNil, gtSeq, iSeq, OT.tn, D.tn, NK.tn, isTy, gCmp, gEq, gNe, gIsN, gNotN, gIsB, gNotB, isNon_non, gLen, OT.size, OT.out, t0, List.getElem?_cons_zero, List.getElem?_cons_succ, List.set_cons_zero, List.set_cons_succ, List.map_cons, List.map_nil, OT.flat_fz, flat_nd', OT.dsOf_fz, dsOf_nil, dsOf_cons, Option.map_some, List.length_cons, List.length_nil, List.length_map, List.cons_append, List.nil_append, List.append_nil, wBin, gAdd, DL.gSub, gMul, gInt, List.getD_cons_zero, OT.whole_fz, OT.frz_fz, OT.whole_nd', OT.wholeL_fz, OT.wholeL_nil, OT.wholeL_cons, OT.frz_nd', map_frz_fz, ixo0, ixo1, ixo2, ixt0, ixt1, ixl0, ixl1, unAt, reAt, wSl, wPt, wNoPt, wSlE, wPtE, wNoPtE, OT.cut, wSetIx, lName, atP_nil, putP_nil, gSetM, ixN30, ixN31, ixN32, ne_eq, not_false_eq_true, not_true_eq_false, reduceCtorEq, if_true, if_false, if_pos, decide_true, decide_false, Bool.true_or, Bool.false_or, Bool.or_false, Bool.or_true, Bool.not_true, Bool.not_false, true_and, and_true, Option.some.injEq, exists_eq_left', String.reduceEq, Nat.zero_add, Nat.reduceAdd, Nat.reduceLT, Nat.lt_add_one, Bool.and_false, Bool.and_true, Bool.false_and, Bool.true_and, Bool.not_true, Bool.not_false, Bool.false_eq_true, pickL, eqv_int, eqv_bl, shaped_int, shaped_bl, shaped_non, wRev, wPeek, wListRg1, wLenSet, wMth, lIx, ixl2, ixl3, ixl4, ixt2, ixp0, ixp1, ixN20, ixN21, OT.flat_nd, wStar2, wTupOf, wDNew]; exact hx e
def timesOf (k : Nat) (l : Int) (rs : List Row) : List Int := rs.filterMap fun r => if r.rank = k ∧ r.whole = true then some (r.since + l - r.put) else none
def bestO : List Int → Option Int
  | [] => none
  | n :: r => some (maxI n r)
def wkO (ps : List (Int × Int)) (rs : List Row) (k : Nat) : Option Int := bestO (timesOf k (ps.getD k (0, 0)).2 rs)
def optsD (os : List (Option Int)) : List D := os.map optD
def worstD (ps : List (Int × Int)) (rs : List Row) : List D := optsD ((List.range ps.length).map (wkO ps rs))
def sp_worst_seen : FSpec := fun args R _ => ∃ (ps : List (Int × Int)) (rs : List Row), args = [.fz (planD ps), .fz (.nd .lst (rowsD rs))] ∧ PlOk ps ∧ rs.length ≤ 100000 ∧ R (.nd .lst ((worstD ps rs).map .fz)) .un
theorem times_cons (k : Nat) (l : Int) (r : Row) (rs : List Row) : timesOf k l (r :: rs) = (if r.rank = k ∧ r.whole = true then [r.since + l - r.put] else []) ++ timesOf k l rs := by
  unfold timesOf
  rw [List.filterMap_cons]
  by_cases e : r.rank = k ∧ r.whole = true
  · rw [if_pos e, if_pos e]; rfl
  · rw [if_neg e, if_neg e]; rfl
theorem times_app (k : Nat) (l : Int) (rs qs : List Row) : timesOf k l (rs ++ qs) = timesOf k l rs ++ timesOf k l qs := by unfold timesOf; rw [List.filterMap_append]
theorem times_len (k : Nat) (l : Int) (rs : List Row) : (timesOf k l rs).length ≤ rs.length := List.length_filterMap_le _ _
theorem ints_numsD (ns : List Int) : D.ints (numsD ns) = some ns := by
  induction ns with
  | nil => rfl
  | cons n ns ih => unfold numsD at ih ⊢; rw [List.map_cons, D.ints, ih]; rfl
def w_worst_seen (xq : XQ) : WS := (wSeq (wDrop (wCall sp_need_plan xq [] (wCons (wVarF 0) wNil)))
    (wSeq (wSet 2 (wLst wNil))
    (wSeq (wFor (iEnumD (wCons (wVarF 0) wNil)) (gtSeq 2 (gtCons (gtName 3) (gtCons (gtSeq 2 (gtCons (gtName 5) (gtCons (gtName 6) gtNil))) gtNil))) (wSeq (wSet 4 (wLc [7, 8, 9, 10, 11] (iSeq (wVarF 1)) (gtSeq 5 (gtCons (gtName 7) (gtCons (gtName 8) (gtCons (gtName 9) (gtCons (gtName 10) (gtCons (gtName 11) gtNil)))))) (wAnd (wET (wPE (wS gEq (wVar 7) (wVar 3)))) (wET (wPE (wVar 11)))) (wOE (wBin gSub (wOE (wBin gAdd (wVarF 10) (wVarF 6))) (wVarF 9)))))
    (wDrop (wMthN 2 gAppend (wOCons (wEO (wMaxD (wCons (wVarF 4) wNil) (wCons (wPE (wC .non)) wNil))) wONil)))))
    (wRet (wMove 2)))))
theorem len_worst_seen : ∀ args R RX, sp_worst_seen args R RX → args.length = 2 := by rintro _ _ _ ⟨ps, rs, rfl, _⟩; rfl
theorem pu_worst_seen : ∀ args R RX, sp_worst_seen args R RX → w_worst_seen (fun x env => RX x (t0 false env)) { nx := fun env => R (.fz .non) (t0 false env), rt := fun t env => R t (t0 false env) } (args ++ List.replicate (["plan", "record", "found", "rank", "times", "period", "length", "which", "number", "put", "begin", "whole"].length - args.length) .un) := by
  rintro _ R RX ⟨ps, rs, rfl, pl, rl, h⟩
  have n8 := pl.1
  change w_worst_seen _ _ [.fz (planD ps), .fz (.nd .lst (rowsD rs)), .un, .un, .un, .un, .un, .un, .un, .un, .un, .un]
  refine cut fun N hN => ?_
  simp only [wRet, wRetN, wEO, wPE, wOE, wC, wVar, wVarF, wAndV, wNotV, wOrV, wIsi, wNext, wSeq, wDrop, wIfS, wSet, wPar, wAsg, wCall, wCallB, wCallK, wCallG, wMove, wCons, wNil, wVCons, wVNil, wOCons, wONil, wFn, wFnE, wFnN, wS, wSE, wSV, wCh, wET, wAnd, wOr, DL.wNot, wTup, wLst, wIf, wIx, wRaise, wMthN, gAppend, gtName, gtCons, gtNil, gtSeq, iSeq, OT.tn, D.tn, NK.tn, isTy, gCmp, gEq, gNe, gIsN, gNotN, gIsB, gNotB, isNon_non, gLen, OT.size, OT.out, t0, List.getElem?_cons_zero, List.getElem?_cons_succ, List.set_cons_zero, List.set_cons_succ, List.map_cons, List.map_nil, OT.flat_fz, flat_nd', OT.dsOf_fz, dsOf_nil, dsOf_cons, Option.map_some, List.length_cons, List.length_nil, List.length_map, List.cons_append, List.nil_append, List.append_nil, wBin, gAdd, DL.gSub, gMul, gInt, List.getD_cons_zero, OT.whole_fz, OT.frz_fz, OT.whole_nd', OT.wholeL_fz, OT.wholeL_nil, OT.wholeL_cons, OT.frz_nd', map_frz_fz, ixo0, ixo1, ixo2, ixt0, ixt1, ixl0, ixl1, unAt, reAt, wSl, wPt, wNoPt, wSlE, wPtE, wNoPtE, OT.cut, wSetIx, lName, atP_nil, putP_nil, gSetM, ixN30, ixN31, ixN32, ne_eq, not_false_eq_true, not_true_eq_false, reduceCtorEq, if_true, if_false, if_pos, decide_true, decide_false, Bool.true_or, Bool.false_or, Bool.or_false, Bool.or_true, Bool.not_true, Bool.not_false, true_and, and_true, Option.some.injEq, exists_eq_left', String.reduceEq, Nat.zero_add, Nat.reduceAdd, Nat.reduceLT, Nat.lt_add_one, Bool.and_false, Bool.and_true, Bool.false_and, Bool.true_and, Bool.not_true, Bool.not_false, Bool.false_eq_true, pickL, eqv_int, eqv_bl, shaped_int, shaped_bl, shaped_non, wRev, wPeek, wListRg1, wLenSet, wMth, lIx, ixl2, ixl3, ixl4, ixt2, ixp0, ixp1, ixN20, ixN21, OT.flat_nd, wStar2, wTupOf, wDNew]
  refine ⟨_, rfl, plain2_planD ps, len_planD pl, fun _ => ?_, fun z => by rw [isPlan_of pl] at z; cases z⟩
  refine hN _ (cut fun N hN => ?_)
  simp only [wRet, wRetN, wEO, wPE, wOE, wC, wVar, wVarF, wAndV, wNotV, wOrV, wIsi, wNext, wSeq, wDrop, wIfS, wSet, wPar, wAsg, wCall, wCallB, wCallK, wCallG, wMove, wCons, wNil, wVCons, wVNil, wOCons, wONil, wFn, wFnE, wFnN, wS, wSE, wSV, wCh, wET, wAnd, wOr, DL.wNot, wTup, wLst, wIf, wIx, wRaise, wMthN, gAppend, gtName, gtCons, gtNil, gtSeq, iSeq, OT.tn, D.tn, NK.tn, isTy, gCmp, gEq, gNe, gIsN, gNotN, gIsB, gNotB, isNon_non, gLen, OT.size, OT.out, t0, List.getElem?_cons_zero, List.getElem?_cons_succ, List.set_cons_zero, List.set_cons_succ, List.map_cons, List.map_nil, OT.flat_fz, flat_nd', OT.dsOf_fz, dsOf_nil, dsOf_cons, Option.map_some, List.length_cons, List.length_nil, List.length_map, List.cons_append, List.nil_append, List.append_nil, wBin, gAdd, DL.gSub, gMul, gInt, List.getD_cons_zero, OT.whole_fz, OT.frz_fz, OT.whole_nd', OT.wholeL_fz, OT.wholeL_nil, OT.wholeL_cons, OT.frz_nd', map_frz_fz, ixo0, ixo1, ixo2, ixt0, ixt1, ixl0, ixl1, unAt, reAt, wSl, wPt, wNoPt, wSlE, wPtE, wNoPtE, OT.cut, wSetIx, lName, atP_nil, putP_nil, gSetM, ixN30, ixN31, ixN32, ne_eq, not_false_eq_true, not_true_eq_false, reduceCtorEq, if_true, if_false, if_pos, decide_true, decide_false, Bool.true_or, Bool.false_or, Bool.or_false, Bool.or_true, Bool.not_true, Bool.not_false, true_and, and_true, Option.some.injEq, exists_eq_left', String.reduceEq, Nat.zero_add, Nat.reduceAdd, Nat.reduceLT, Nat.lt_add_one, Bool.and_false, Bool.and_true, Bool.false_and, Bool.true_and, Bool.not_true, Bool.not_false, Bool.false_eq_true, pickL, eqv_int, eqv_bl, shaped_int, shaped_bl, shaped_non, wRev, wPeek, wListRg1, wLenSet, wMth, lIx, ixl2, ixl3, ixl4, ixt2, ixp0, ixp1, ixN20, ixN21, OT.flat_nd, wStar2, wTupOf, wDNew]
  refine ⟨by decide, hN _ (cut fun N hN => ?_)⟩
  unfold wFor
  simp only [iEnumD, planD, wRet, wRetN, wEO, wPE, wOE, wC, wVar, wVarF, wAndV, wNotV, wOrV, wIsi, wNext, wSeq, wDrop, wIfS, wSet, wPar, wAsg, wCall, wCallB, wCallK, wCallG, wMove, wCons, wNil, wVCons, wVNil, wOCons, wONil, wFn, wFnE, wFnN, wS, wSE, wSV, wCh, wET, wAnd, wOr, DL.wNot, wTup, wLst, wIf, wIx, wRaise, wMthN, gAppend, gtName, gtCons, gtNil, gtSeq, iSeq, OT.tn, D.tn, NK.tn, isTy, gCmp, gEq, gNe, gIsN, gNotN, gIsB, gNotB, isNon_non, gLen, OT.size, OT.out, t0, List.getElem?_cons_zero, List.getElem?_cons_succ, List.set_cons_zero, List.set_cons_succ, List.map_cons, List.map_nil, OT.flat_fz, flat_nd', OT.dsOf_fz, dsOf_nil, dsOf_cons, Option.map_some, List.length_cons, List.length_nil, List.length_map, List.cons_append, List.nil_append, List.append_nil, wBin, gAdd, DL.gSub, gMul, gInt, List.getD_cons_zero, OT.whole_fz, OT.frz_fz, OT.whole_nd', OT.wholeL_fz, OT.wholeL_nil, OT.wholeL_cons, OT.frz_nd', map_frz_fz, ixo0, ixo1, ixo2, ixt0, ixt1, ixl0, ixl1, unAt, reAt, wSl, wPt, wNoPt, wSlE, wPtE, wNoPtE, OT.cut, wSetIx, lName, atP_nil, putP_nil, gSetM, ixN30, ixN31, ixN32, ne_eq, not_false_eq_true, not_true_eq_false, reduceCtorEq, if_true, if_false, if_pos, decide_true, decide_false, Bool.true_or, Bool.false_or, Bool.or_false, Bool.or_true, Bool.not_true, Bool.not_false, true_and, and_true, Option.some.injEq, exists_eq_left', String.reduceEq, Nat.zero_add, Nat.reduceAdd, Nat.reduceLT, Nat.lt_add_one, Bool.and_false, Bool.and_true, Bool.false_and, Bool.true_and, Bool.not_true, Bool.not_false, Bool.false_eq_true, pickL, eqv_int, eqv_bl, shaped_int, shaped_bl, shaped_non, wRev, wPeek, wListRg1, wLenSet, wMth, lIx, ixl2, ixl3, ixl4, ixt2, ixp0, ixp1, ixN20, ixN21, OT.flat_nd, wStar2, wTupOf, wDNew]
  refine for_inv (fun ds e => ∃ (k : Nat) (z3 z4 z5 z6 : OT), ds = enumD k ((frs ps).drop k) ∧ k ≤ ps.length ∧ e = [.fz (.nd .lst (frs ps)), .fz (.nd .lst (rowsD rs)), .nd .lst ((optsD ((List.range k).map (wkO ps rs))).map .fz), z3, z4, z5, z6, .un, .un, .un, .un, .un]) ?_ ?_ _ _ ⟨0, _, _, _, _, rfl, by omega, rfl⟩
  · rintro d ds env E hE ⟨k, z3, z4, z5, z6, e1, kl, rfl⟩
    by_cases hk : k < ps.length
    case neg =>
      rw [List.drop_of_length_le (by rw [frs_len]; omega)] at e1
      cases e1
    have ed : (frs ps).drop k = fr ps[k] :: (frs ps).drop (k + 1) := by
      rw [List.drop_eq_getElem_cons (by rw [frs_len]; exact hk)]
      congr 1
      unfold frs; rw [List.getElem_map]
    rw [ed] at e1
    cases e1
    simp only [fr, wRet, wRetN, wEO, wPE, wOE, wC, wVar, wVarF, wAndV, wNotV, wOrV, wIsi, wNext, wSeq, wDrop, wIfS, wSet, wPar, wAsg, wCall, wCallB, wCallK, wCallG, wMove, wCons, wNil, wVCons, wVNil, wOCons, wONil, wFn, wFnE, wFnN, wS, wSE, wSV, wCh, wET, wAnd, wOr, DL.wNot, wTup, wLst, wIf, wIx, wRaise, wMthN, gAppend, gtName, gtCons, gtNil, gtSeq, iSeq, OT.tn, D.tn, NK.tn, isTy, gCmp, gEq, gNe, gIsN, gNotN, gIsB, gNotB, isNon_non, gLen, OT.size, OT.out, t0, List.getElem?_cons_zero, List.getElem?_cons_succ, List.set_cons_zero, List.set_cons_succ, List.map_cons, List.map_nil, OT.flat_fz, flat_nd', OT.dsOf_fz, dsOf_nil, dsOf_cons, Option.map_some, List.length_cons, List.length_nil, List.length_map, List.cons_append, List.nil_append, List.append_nil, wBin, gAdd, DL.gSub, gMul, gInt, List.getD_cons_zero, OT.whole_fz, OT.frz_fz, OT.whole_nd', OT.wholeL_fz, OT.wholeL_nil, OT.wholeL_cons, OT.frz_nd', map_frz_fz, ixo0, ixo1, ixo2, ixt0, ixt1, ixl0, ixl1, unAt, reAt, wSl, wPt, wNoPt, wSlE, wPtE, wNoPtE, OT.cut, wSetIx, lName, atP_nil, putP_nil, gSetM, ixN30, ixN31, ixN32, ne_eq, not_false_eq_true, not_true_eq_false, reduceCtorEq, if_true, if_false, if_pos, decide_true, decide_false, Bool.true_or, Bool.false_or, Bool.or_false, Bool.or_true, Bool.not_true, Bool.not_false, true_and, and_true, Option.some.injEq, exists_eq_left', String.reduceEq, Nat.zero_add, Nat.reduceAdd, Nat.reduceLT, Nat.lt_add_one, Bool.and_false, Bool.and_true, Bool.false_and, Bool.true_and, Bool.not_true, Bool.not_false, Bool.false_eq_true, pickL, eqv_int, eqv_bl, shaped_int, shaped_bl, shaped_non, wRev, wPeek, wListRg1, wLenSet, wMth, lIx, ixl2, ixl3, ixl4, ixt2, ixp0, ixp1, ixN20, ixN21, OT.flat_nd, wStar2, wTupOf, wDNew]
    unfold wLc
    simp only [wRet, wRetN, wEO, wPE, wOE, wC, wVar, wVarF, wAndV, wNotV, wOrV, wIsi, wNext, wSeq, wDrop, wIfS, wSet, wPar, wAsg, wCall, wCallB, wCallK, wCallG, wMove, wCons, wNil, wVCons, wVNil, wOCons, wONil, wFn, wFnE, wFnN, wS, wSE, wSV, wCh, wET, wAnd, wOr, DL.wNot, wTup, wLst, wIf, wIx, wRaise, wMthN, gAppend, gtName, gtCons, gtNil, gtSeq, iSeq, OT.tn, D.tn, NK.tn, isTy, gCmp, gEq, gNe, gIsN, gNotN, gIsB, gNotB, isNon_non, gLen, OT.size, OT.out, t0, List.getElem?_cons_zero, List.getElem?_cons_succ, List.set_cons_zero, List.set_cons_succ, List.map_cons, List.map_nil, OT.flat_fz, flat_nd', OT.dsOf_fz, dsOf_nil, dsOf_cons, Option.map_some, List.length_cons, List.length_nil, List.length_map, List.cons_append, List.nil_append, List.append_nil, wBin, gAdd, DL.gSub, gMul, gInt, List.getD_cons_zero, OT.whole_fz, OT.frz_fz, OT.whole_nd', OT.wholeL_fz, OT.wholeL_nil, OT.wholeL_cons, OT.frz_nd', map_frz_fz, ixo0, ixo1, ixo2, ixt0, ixt1, ixl0, ixl1, unAt, reAt, wSl, wPt, wNoPt, wSlE, wPtE, wNoPtE, OT.cut, wSetIx, lName, atP_nil, putP_nil, gSetM, ixN30, ixN31, ixN32, ne_eq, not_false_eq_true, not_true_eq_false, reduceCtorEq, if_true, if_false, if_pos, decide_true, decide_false, Bool.true_or, Bool.false_or, Bool.or_false, Bool.or_true, Bool.not_true, Bool.not_false, true_and, and_true, Option.some.injEq, exists_eq_left', String.reduceEq, Nat.zero_add, Nat.reduceAdd, Nat.reduceLT, Nat.lt_add_one, Bool.and_false, Bool.and_true, Bool.false_and, Bool.true_and, Bool.not_true, Bool.not_false, Bool.false_eq_true, pickL, eqv_int, eqv_bl, shaped_int, shaped_bl, shaped_non, wRev, wPeek, wListRg1, wLenSet, wMth, lIx, ixl2, ixl3, ixl4, ixt2, ixp0, ixp1, ixN20, ixN21, OT.flat_nd, wStar2, wTupOf, wDNew]
    refine lc_invF (fun ds acc e => ∃ (qs pre : List Row) , ds = rowsD qs ∧ rs = pre ++ qs ∧ acc = numsD (timesOf k ps[k].2 pre) ∧ e = [.fz (.nd .lst (frs ps)), .fz (.nd .lst (rowsD rs)), .nd .lst ((optsD ((List.range k).map (wkO ps rs))).map .fz), .fz (.int (k : Int)), z4, .fz (.int ps[k].1), .fz (.int ps[k].2), .un, .un, .un, .un, .un]) ?_ ?_ _ _ _ ⟨rs, [], rfl, rfl, rfl, rfl⟩
    · rintro d ds acc env F ⟨qs, pre, e2, erq, rfl, rfl⟩ hF
      cases qs with
      | nil => cases e2
      | cons q qs =>
        cases e2
        simp only [rowD, wRet, wRetN, wEO, wPE, wOE, wC, wVar, wVarF, wAndV, wNotV, wOrV, wIsi, wNext, wSeq, wDrop, wIfS, wSet, wPar, wAsg, wCall, wCallB, wCallK, wCallG, wMove, wCons, wNil, wVCons, wVNil, wOCons, wONil, wFn, wFnE, wFnN, wS, wSE, wSV, wCh, wET, wAnd, wOr, DL.wNot, wTup, wLst, wIf, wIx, wRaise, wMthN, gAppend, gtName, gtCons, gtNil, gtSeq, iSeq, OT.tn, D.tn, NK.tn, isTy, gCmp, gEq, gNe, gIsN, gNotN, gIsB, gNotB, isNon_non, gLen, OT.size, OT.out, t0, List.getElem?_cons_zero, List.getElem?_cons_succ, List.set_cons_zero, List.set_cons_succ, List.map_cons, List.map_nil, OT.flat_fz, flat_nd', OT.dsOf_fz, dsOf_nil, dsOf_cons, Option.map_some, List.length_cons, List.length_nil, List.length_map, List.cons_append, List.nil_append, List.append_nil, wBin, gAdd, DL.gSub, gMul, gInt, List.getD_cons_zero, OT.whole_fz, OT.frz_fz, OT.whole_nd', OT.wholeL_fz, OT.wholeL_nil, OT.wholeL_cons, OT.frz_nd', map_frz_fz, ixo0, ixo1, ixo2, ixt0, ixt1, ixl0, ixl1, unAt, reAt, wSl, wPt, wNoPt, wSlE, wPtE, wNoPtE, OT.cut, wSetIx, lName, atP_nil, putP_nil, gSetM, ixN30, ixN31, ixN32, ne_eq, not_false_eq_true, not_true_eq_false, reduceCtorEq, if_true, if_false, if_pos, decide_true, decide_false, Bool.true_or, Bool.false_or, Bool.or_false, Bool.or_true, Bool.not_true, Bool.not_false, true_and, and_true, Option.some.injEq, exists_eq_left', String.reduceEq, Nat.zero_add, Nat.reduceAdd, Nat.reduceLT, Nat.lt_add_one, Bool.and_false, Bool.and_true, Bool.false_and, Bool.true_and, Bool.not_true, Bool.not_false, Bool.false_eq_true, pickL, eqv_int, eqv_bl, shaped_int, shaped_bl, shaped_non, wRev, wPeek, wListRg1, wLenSet, wMth, lIx, ixl2, ixl3, ixl4, ixt2, ixp0, ixp1, ixN20, ixN21, OT.flat_nd, wStar2, wTupOf, wDNew]
        have tl := times_len k ps[k].2 pre
        have pl2 : pre.length ≤ rs.length := by rw [erq, List.length_append]; omega
        by_cases eq : (q.rank : Int) = k
        · rw [decide_eq_true eq, if_pos rfl]
          cases ew : q.whole with
          | true =>
            rw [if_pos rfl]
            refine ⟨by rw [numsD_len]; exact Nat.lt_of_le_of_lt (by omega : _ ≤ 100000) (by decide), ?_⟩
            refine hF _ _ ⟨qs, pre ++ [q], rfl, by rw [erq]; simp, ?_, rfl⟩
            rw [times_app, times_cons, if_pos ⟨by omega, ew⟩, ← nums_app]; rfl
          | false =>
            rw [if_neg (by decide)]
            refine hF _ _ ⟨qs, pre ++ [q], rfl, by rw [erq]; simp, ?_, rfl⟩
            rw [times_app, times_cons, if_neg (by rw [ew]; simp)]
            exact (congrArg numsD (List.append_nil _)).symm
        · rw [decide_eq_false eq, if_neg (by decide)]
          refine hF _ _ ⟨qs, pre ++ [q], rfl, by rw [erq]; simp, ?_, rfl⟩
          rw [times_app, times_cons, if_neg (fun z => eq (by rw [z.1]))]
          exact (congrArg numsD (List.append_nil _)).symm
    · rintro acc e ⟨qs, pre, e2, erq, rfl, rfl⟩
      cases qs with
      | cons q qs => cases e2
      | nil =>
        rw [List.append_nil] at erq
        subst erq
        simp only [wRet, wRetN, wEO, wPE, wOE, wC, wVar, wVarF, wAndV, wNotV, wOrV, wIsi, wNext, wSeq, wDrop, wIfS, wSet, wPar, wAsg, wCall, wCallB, wCallK, wCallG, wMove, wCons, wNil, wVCons, wVNil, wOCons, wONil, wFn, wFnE, wFnN, wS, wSE, wSV, wCh, wET, wAnd, wOr, DL.wNot, wTup, wLst, wIf, wIx, wRaise, wMthN, gAppend, gtName, gtCons, gtNil, gtSeq, iSeq, OT.tn, D.tn, NK.tn, isTy, gCmp, gEq, gNe, gIsN, gNotN, gIsB, gNotB, isNon_non, gLen, OT.size, OT.out, t0, List.getElem?_cons_zero, List.getElem?_cons_succ, List.set_cons_zero, List.set_cons_succ, List.map_cons, List.map_nil, OT.flat_fz, flat_nd', OT.dsOf_fz, dsOf_nil, dsOf_cons, Option.map_some, List.length_cons, List.length_nil, List.length_map, List.cons_append, List.nil_append, List.append_nil, wBin, gAdd, DL.gSub, gMul, gInt, List.getD_cons_zero, OT.whole_fz, OT.frz_fz, OT.whole_nd', OT.wholeL_fz, OT.wholeL_nil, OT.wholeL_cons, OT.frz_nd', map_frz_fz, ixo0, ixo1, ixo2, ixt0, ixt1, ixl0, ixl1, unAt, reAt, wSl, wPt, wNoPt, wSlE, wPtE, wNoPtE, OT.cut, wSetIx, lName, atP_nil, putP_nil, gSetM, ixN30, ixN31, ixN32, ne_eq, not_false_eq_true, not_true_eq_false, reduceCtorEq, if_true, if_false, if_pos, decide_true, decide_false, Bool.true_or, Bool.false_or, Bool.or_false, Bool.or_true, Bool.not_true, Bool.not_false, true_and, and_true, Option.some.injEq, exists_eq_left', String.reduceEq, Nat.zero_add, Nat.reduceAdd, Nat.reduceLT, Nat.lt_add_one, Bool.and_false, Bool.and_true, Bool.false_and, Bool.true_and, Bool.not_true, Bool.not_false, Bool.false_eq_true, pickL, eqv_int, eqv_bl, shaped_int, shaped_bl, shaped_non, wRev, wPeek, wListRg1, wLenSet, wMth, lIx, ixl2, ixl3, ixl4, ixt2, ixp0, ixp1, ixN20, ixN21, OT.flat_nd, wStar2, wTupOf, wDNew]
        simp only [wMaxD, ints_numsD, wRet, wRetN, wEO, wPE, wOE, wC, wVar, wVarF, wAndV, wNotV, wOrV, wIsi, wNext, wSeq, wDrop, wIfS, wSet, wPar, wAsg, wCall, wCallB, wCallK, wCallG, wMove, wCons, wNil, wVCons, wVNil, wOCons, wONil, wFn, wFnE, wFnN, wS, wSE, wSV, wCh, wET, wAnd, wOr, DL.wNot, wTup, wLst, wIf, wIx, wRaise, wMthN, gAppend, gtName, gtCons, gtNil, gtSeq, iSeq, OT.tn, D.tn, NK.tn, isTy, gCmp, gEq, gNe, gIsN, gNotN, gIsB, gNotB, isNon_non, gLen, OT.size, OT.out, t0, List.getElem?_cons_zero, List.getElem?_cons_succ, List.set_cons_zero, List.set_cons_succ, List.map_cons, List.map_nil, OT.flat_fz, flat_nd', OT.dsOf_fz, dsOf_nil, dsOf_cons, Option.map_some, List.length_cons, List.length_nil, List.length_map, List.cons_append, List.nil_append, List.append_nil, wBin, gAdd, DL.gSub, gMul, gInt, List.getD_cons_zero, OT.whole_fz, OT.frz_fz, OT.whole_nd', OT.wholeL_fz, OT.wholeL_nil, OT.wholeL_cons, OT.frz_nd', map_frz_fz, ixo0, ixo1, ixo2, ixt0, ixt1, ixl0, ixl1, unAt, reAt, wSl, wPt, wNoPt, wSlE, wPtE, wNoPtE, OT.cut, wSetIx, lName, atP_nil, putP_nil, gSetM, ixN30, ixN31, ixN32, ne_eq, not_false_eq_true, not_true_eq_false, reduceCtorEq, if_true, if_false, if_pos, decide_true, decide_false, Bool.true_or, Bool.false_or, Bool.or_false, Bool.or_true, Bool.not_true, Bool.not_false, true_and, and_true, Option.some.injEq, exists_eq_left', String.reduceEq, Nat.zero_add, Nat.reduceAdd, Nat.reduceLT, Nat.lt_add_one, Bool.and_false, Bool.and_true, Bool.false_and, Bool.true_and, Bool.not_true, Bool.not_false, Bool.false_eq_true, pickL, eqv_int, eqv_bl, shaped_int, shaped_bl, shaped_non, wRev, wPeek, wListRg1, wLenSet, wMth, lIx, ixl2, ixl3, ixl4, ixt2, ixp0, ixp1, ixN20, ixN21, OT.flat_nd, wStar2, wTupOf, wDNew]
        have eo : optD (wkO ps rs k) = optD (bestO (timesOf k ps[k].2 rs)) := by
          unfold wkO
          rw [List.getD_eq_getElem?_getD, List.getElem?_eq_getElem hk]; rfl
        have es : (optsD ((List.range k).map (wkO ps rs))).map OT.fz ++ [.fz (optD (bestO (timesOf k ps[k].2 rs)))] = (optsD ((List.range (k + 1)).map (wkO ps rs))).map .fz := by
          rw [← eo, List.range_succ, List.map_append]
          unfold optsD
          rw [List.map_append, List.map_append]; rfl
        have len : ((optsD ((List.range k).map (wkO ps rs)))).length < sizeLine := by
          unfold optsD
          rw [List.length_map, List.length_map, List.length_range]
          exact Nat.lt_of_le_of_lt (by omega : k ≤ 8) (by decide)
        cases et : timesOf k ps[k].2 rs with
        | nil =>
          rw [et] at es
          refine ⟨⟨_, rfl⟩, len, ?_⟩
          rw [show D.non = optD (bestO []) from rfl, es]
          exact hE _ ⟨k + 1, _, _, _, _, rfl, by omega, rfl⟩
        | cons n r =>
          rw [et] at es
          refine ⟨⟨_, rfl⟩, len, ?_⟩
          rw [show D.int (maxI n r) = optD (bestO (n :: r)) from rfl, es]
          exact hE _ ⟨k + 1, _, _, _, _, rfl, by omega, rfl⟩
  · rintro env ⟨k, z3, z4, z5, z6, e1, kl, rfl⟩
    apply hN
    have hk : k = ps.length := by
      by_cases hk : k < ps.length
      · rw [List.drop_eq_getElem_cons (by rw [frs_len]; exact hk)] at e1
        cases e1
      · omega
    subst hk
    simp only [wRet, wRetN, wEO, wPE, wOE, wC, wVar, wVarF, wAndV, wNotV, wOrV, wIsi, wNext, wSeq, wDrop, wIfS, wSet, wPar, wAsg, wCall, wCallB, wCallK, wCallG, wMove, wCons, wNil, wVCons, wVNil, wOCons, wONil, wFn, wFnE, wFnN, wS, wSE, wSV, wCh, wET, wAnd, wOr, DL.wNot, wTup, wLst, wIf, wIx, wRaise, wMthN, gAppend, gtName, gtCons, gtNil, gtSeq, iSeq, OT.tn, D.tn, NK.tn, isTy, gCmp, gEq, gNe, gIsN, gNotN, gIsB, gNotB, isNon_non, gLen, OT.size, OT.out, t0, List.getElem?_cons_zero, List.getElem?_cons_succ, List.set_cons_zero, List.set_cons_succ, List.map_cons, List.map_nil, OT.flat_fz, flat_nd', OT.dsOf_fz, dsOf_nil, dsOf_cons, Option.map_some, List.length_cons, List.length_nil, List.length_map, List.cons_append, List.nil_append, List.append_nil, wBin, gAdd, DL.gSub, gMul, gInt, List.getD_cons_zero, OT.whole_fz, OT.frz_fz, OT.whole_nd', OT.wholeL_fz, OT.wholeL_nil, OT.wholeL_cons, OT.frz_nd', map_frz_fz, ixo0, ixo1, ixo2, ixt0, ixt1, ixl0, ixl1, unAt, reAt, wSl, wPt, wNoPt, wSlE, wPtE, wNoPtE, OT.cut, wSetIx, lName, atP_nil, putP_nil, gSetM, ixN30, ixN31, ixN32, ne_eq, not_false_eq_true, not_true_eq_false, reduceCtorEq, if_true, if_false, if_pos, decide_true, decide_false, Bool.true_or, Bool.false_or, Bool.or_false, Bool.or_true, Bool.not_true, Bool.not_false, true_and, and_true, Option.some.injEq, exists_eq_left', String.reduceEq, Nat.zero_add, Nat.reduceAdd, Nat.reduceLT, Nat.lt_add_one, Bool.and_false, Bool.and_true, Bool.false_and, Bool.true_and, Bool.not_true, Bool.not_false, Bool.false_eq_true, pickL, eqv_int, eqv_bl, shaped_int, shaped_bl, shaped_non, wRev, wPeek, wListRg1, wLenSet, wMth, lIx, ixl2, ixl3, ixl4, ixt2, ixp0, ixp1, ixN20, ixN21, OT.flat_nd, wStar2, wTupOf, wDNew]
    exact h
/-- a pot: what is left to take, what is mixed of, how often -/
def Pot (b : Int) (t : OT) : Prop := ∃ x y z, t = .nd .lst [.fz (.int x), .fz (.int y), .fz (.int z)] ∧ 0 ≤ x ∧ 0 ≤ y ∧ Sm 160 y ∧ 0 ≤ z ∧ z ≤ b
theorem Pot.mono {b c : Int} {t : OT} (h : Pot b t) (l : b ≤ c := by omega) : Pot c t := by
  obtain ⟨x, y, z, e, h1, h2, h3, h4, h5⟩ := h
  exact ⟨x, y, z, e, h1, h2, h3, h4, by omega⟩
theorem Pot.ne {b : Int} {t : OT} (h : Pot b t) : t ≠ .un := by
  obtain ⟨x, y, z, rfl, _⟩ := h
  exact fun z => nomatch z
def sp__law_pot : FSpec := fun args R _ => ∃ (ns : List Int) (k : Int), args = [.fz (.nd .scr (numsD ns)), .fz (.int k)] ∧ 0 ≤ k ∧ k ≤ 64 ∧ ∀ t, Pot 0 t → R t .un
def w__law_pot (xq : XQ) : WS := (wSeq (wSet 2 (wEO (wPE (wC (.int 0)))))
    (wSeq (wIfS (wET (wPE (wS (gCmp fun i j => decide (i < j)) (wVar 1) (wFn gLen (wVCons (wVar 0) wVNil))))) (wSet 2 (wEO (wPE (wIx (wVar 0) (wVar 1))))) wNext)
    (wRet (wLst (wCons (wFnE (gI2 max) (wCons (wPE (wC (.int 0))) (wCons (wOE (wBin gSub (wVarF 2) (wOE (wBin gPow (wPE (wC (.int 10))) (wPE (wC (.int 18))))))) wNil))) (wCons (wOE (wBin gAdd (wOE (wBin gMul (wOE (wBin gMod (wVarF 2) (wOE (wBin gAdd (wOE (wBin gPow (wPE (wC (.int 10))) (wPE (wC (.int 44))))) (wPE (wC (.int 31))))))) (wPE (wC (.int 64))))) (wVarF 1))) (wCons (wPE (wC (.int 0))) wNil)))))))
theorem len__law_pot : ∀ args R RX, sp__law_pot args R RX → args.length = 2 := by rintro _ _ _ ⟨ns, k, rfl, _⟩; rfl
theorem pu__law_pot : ∀ args R RX, sp__law_pot args R RX → w__law_pot (fun x env => RX x (t0 false env)) { nx := fun env => R (.fz .non) (t0 false env), rt := fun t env => R t (t0 false env) } (args ++ List.replicate (["script", "k", "cell"].length - args.length) .un) := by
  rintro _ R RX ⟨ns, k, rfl, k0, k1, h⟩
  change w__law_pot _ _ [.fz (.nd .scr (numsD ns)), .fz (.int k), .un]
  refine cut fun N hN => ?_
  simp only [wRet, wRetN, wEO, wPE, wOE, wC, wVar, wVarF, wAndV, wNotV, wOrV, wIsi, wNext, wSeq, wDrop, wIfS, wSet, wPar, wAsg, wCall, wCallB, wCallK, wCallG, wMove, wCons, wNil, wVCons, wVNil, wOCons, wONil, wFn, wFnE, wFnN, wS, wSE, wSV, wCh, wET, wAnd, wOr, DL.wNot, wTup, wLst, wIf, wIx, wRaise, wMthN, gAppend, gtName, gtCons, gtNil, gtSeq, iSeq, OT.tn, D.tn, NK.tn, isTy, gCmp, gEq, gNe, gIsN, gNotN, gIsB, gNotB, isNon_non, gLen, OT.size, OT.out, t0, List.getElem?_cons_zero, List.getElem?_cons_succ, List.set_cons_zero, List.set_cons_succ, List.map_cons, List.map_nil, OT.flat_fz, flat_nd', OT.dsOf_fz, dsOf_nil, dsOf_cons, Option.map_some, List.length_cons, List.length_nil, List.length_map, List.cons_append, List.nil_append, List.append_nil, wBin, gAdd, DL.gSub, gMul, gInt, List.getD_cons_zero, OT.whole_fz, OT.frz_fz, OT.whole_nd', OT.wholeL_fz, OT.wholeL_nil, OT.wholeL_cons, OT.frz_nd', map_frz_fz, ixo0, ixo1, ixo2, ixt0, ixt1, ixl0, ixl1, unAt, reAt, wSl, wPt, wNoPt, wSlE, wPtE, wNoPtE, OT.cut, wSetIx, lName, atP_nil, putP_nil, gSetM, ixN30, ixN31, ixN32, ne_eq, not_false_eq_true, not_true_eq_false, reduceCtorEq, if_true, if_false, if_pos, decide_true, decide_false, Bool.true_or, Bool.false_or, Bool.or_false, Bool.or_true, Bool.not_true, Bool.not_false, true_and, and_true, Option.some.injEq, exists_eq_left', String.reduceEq, Nat.zero_add, Nat.reduceAdd, Nat.reduceLT, Nat.lt_add_one, Bool.and_false, Bool.and_true, Bool.false_and, Bool.true_and, Bool.not_true, Bool.not_false, Bool.false_eq_true, pickL, eqv_int, eqv_bl, shaped_int, shaped_bl, shaped_non, wRev, wPeek, wListRg1, wLenSet, wMth, lIx, ixl2, ixl3, ixl4, ixt2, ixp0, ixp1, ixN20, ixN21, OT.flat_nd, wStar2, wTupOf, wDNew]
  apply hN
  refine cut fun N hN => ?_
  have fin : ∀ c : Int, N [.fz (.nd .scr (numsD ns)), .fz (.int k), .fz (.int c)] := fun c => by
    apply hN
    simp only [gI2, wRet, wRetN, wEO, wPE, wOE, wC, wVar, wVarF, wAndV, wNotV, wOrV, wIsi, wNext, wSeq, wDrop, wIfS, wSet, wPar, wAsg, wCall, wCallB, wCallK, wCallG, wMove, wCons, wNil, wVCons, wVNil, wOCons, wONil, wFn, wFnE, wFnN, wS, wSE, wSV, wCh, wET, wAnd, wOr, DL.wNot, wTup, wLst, wIf, wIx, wRaise, wMthN, gAppend, gtName, gtCons, gtNil, gtSeq, iSeq, OT.tn, D.tn, NK.tn, isTy, gCmp, gEq, gNe, gIsN, gNotN, gIsB, gNotB, isNon_non, gLen, OT.size, OT.out, t0, List.getElem?_cons_zero, List.getElem?_cons_succ, List.set_cons_zero, List.set_cons_succ, List.map_cons, List.map_nil, OT.flat_fz, flat_nd', OT.dsOf_fz, dsOf_nil, dsOf_cons, Option.map_some, List.length_cons, List.length_nil, List.length_map, List.cons_append, List.nil_append, List.append_nil, wBin, gAdd, DL.gSub, gMul, gInt, List.getD_cons_zero, OT.whole_fz, OT.frz_fz, OT.whole_nd', OT.wholeL_fz, OT.wholeL_nil, OT.wholeL_cons, OT.frz_nd', map_frz_fz, ixo0, ixo1, ixo2, ixt0, ixt1, ixl0, ixl1, unAt, reAt, wSl, wPt, wNoPt, wSlE, wPtE, wNoPtE, OT.cut, wSetIx, lName, atP_nil, putP_nil, gSetM, ixN30, ixN31, ixN32, ne_eq, not_false_eq_true, not_true_eq_false, reduceCtorEq, if_true, if_false, if_pos, decide_true, decide_false, Bool.true_or, Bool.false_or, Bool.or_false, Bool.or_true, Bool.not_true, Bool.not_false, true_and, and_true, Option.some.injEq, exists_eq_left', String.reduceEq, Nat.zero_add, Nat.reduceAdd, Nat.reduceLT, Nat.lt_add_one, Bool.and_false, Bool.and_true, Bool.false_and, Bool.true_and, Bool.not_true, Bool.not_false, Bool.false_eq_true, pickL, eqv_int, eqv_bl, shaped_int, shaped_bl, shaped_non, wRev, wPeek, wListRg1, wLenSet, wMth, lIx, ixl2, ixl3, ixl4, ixt2, ixp0, ixp1, ixN20, ixN21, OT.flat_nd, wStar2, wTupOf, wDNew]
    have m0 : 0 ≤ c % (10 ^ (44 : Int).toNat + 31) := Int.emod_nonneg _ (by decide)
    have m1 : c % (10 ^ (44 : Int).toNat + 31) < 10 ^ (44 : Int).toNat + 31 := Int.emod_lt_of_pos _ (by decide)
    generalize c % (10 ^ (44 : Int).toNat + 31) = m at m0 m1
    have e44 : (10 : Int) ^ (44 : Int).toNat + 31 = 100000000000000000000000000000000000000000031 := by decide
    rw [e44] at m1
    have sm : Sm 150 m := Sm.of (by omega)
    refine ⟨?_, ?_, by decide, sm.mulB (m := 7) (Sm.of (by omega)), by decide, h _ ⟨_, _, 0, rfl, by omega, by omega, ?_, by omega, by omega⟩⟩
    · exact ⟨by decide, by decide⟩
    · exact ⟨by decide, by decide⟩
    · exact Sm.of (by omega)
  simp only [numsD, wRet, wRetN, wEO, wPE, wOE, wC, wVar, wVarF, wAndV, wNotV, wOrV, wIsi, wNext, wSeq, wDrop, wIfS, wSet, wPar, wAsg, wCall, wCallB, wCallK, wCallG, wMove, wCons, wNil, wVCons, wVNil, wOCons, wONil, wFn, wFnE, wFnN, wS, wSE, wSV, wCh, wET, wAnd, wOr, DL.wNot, wTup, wLst, wIf, wIx, wRaise, wMthN, gAppend, gtName, gtCons, gtNil, gtSeq, iSeq, OT.tn, D.tn, NK.tn, isTy, gCmp, gEq, gNe, gIsN, gNotN, gIsB, gNotB, isNon_non, gLen, OT.size, OT.out, t0, List.getElem?_cons_zero, List.getElem?_cons_succ, List.set_cons_zero, List.set_cons_succ, List.map_cons, List.map_nil, OT.flat_fz, flat_nd', OT.dsOf_fz, dsOf_nil, dsOf_cons, Option.map_some, List.length_cons, List.length_nil, List.length_map, List.cons_append, List.nil_append, List.append_nil, wBin, gAdd, DL.gSub, gMul, gInt, List.getD_cons_zero, OT.whole_fz, OT.frz_fz, OT.whole_nd', OT.wholeL_fz, OT.wholeL_nil, OT.wholeL_cons, OT.frz_nd', map_frz_fz, ixo0, ixo1, ixo2, ixt0, ixt1, ixl0, ixl1, unAt, reAt, wSl, wPt, wNoPt, wSlE, wPtE, wNoPtE, OT.cut, wSetIx, lName, atP_nil, putP_nil, gSetM, ixN30, ixN31, ixN32, ne_eq, not_false_eq_true, not_true_eq_false, reduceCtorEq, if_true, if_false, if_pos, decide_true, decide_false, Bool.true_or, Bool.false_or, Bool.or_false, Bool.or_true, Bool.not_true, Bool.not_false, true_and, and_true, Option.some.injEq, exists_eq_left', String.reduceEq, Nat.zero_add, Nat.reduceAdd, Nat.reduceLT, Nat.lt_add_one, Bool.and_false, Bool.and_true, Bool.false_and, Bool.true_and, Bool.not_true, Bool.not_false, Bool.false_eq_true, pickL, eqv_int, eqv_bl, shaped_int, shaped_bl, shaped_non, wRev, wPeek, wListRg1, wLenSet, wMth, lIx, ixl2, ixl3, ixl4, ixt2, ixp0, ixp1, ixN20, ixN21, OT.flat_nd, wStar2, wTupOf, wDNew]
  by_cases hk : k < ns.length
  · rw [if_pos (decide_eq_true hk)]
    obtain ⟨c, hc⟩ := ix_scr k0 hk
    unfold numsD at hc
    simp only [hc, wRet, wRetN, wEO, wPE, wOE, wC, wVar, wVarF, wAndV, wNotV, wOrV, wIsi, wNext, wSeq, wDrop, wIfS, wSet, wPar, wAsg, wCall, wCallB, wCallK, wCallG, wMove, wCons, wNil, wVCons, wVNil, wOCons, wONil, wFn, wFnE, wFnN, wS, wSE, wSV, wCh, wET, wAnd, wOr, DL.wNot, wTup, wLst, wIf, wIx, wRaise, wMthN, gAppend, gtName, gtCons, gtNil, gtSeq, iSeq, OT.tn, D.tn, NK.tn, isTy, gCmp, gEq, gNe, gIsN, gNotN, gIsB, gNotB, isNon_non, gLen, OT.size, OT.out, t0, List.getElem?_cons_zero, List.getElem?_cons_succ, List.set_cons_zero, List.set_cons_succ, List.map_cons, List.map_nil, OT.flat_fz, flat_nd', OT.dsOf_fz, dsOf_nil, dsOf_cons, Option.map_some, List.length_cons, List.length_nil, List.length_map, List.cons_append, List.nil_append, List.append_nil, wBin, gAdd, DL.gSub, gMul, gInt, List.getD_cons_zero, OT.whole_fz, OT.frz_fz, OT.whole_nd', OT.wholeL_fz, OT.wholeL_nil, OT.wholeL_cons, OT.frz_nd', map_frz_fz, ixo0, ixo1, ixo2, ixt0, ixt1, ixl0, ixl1, unAt, reAt, wSl, wPt, wNoPt, wSlE, wPtE, wNoPtE, OT.cut, wSetIx, lName, atP_nil, putP_nil, gSetM, ixN30, ixN31, ixN32, ne_eq, not_false_eq_true, not_true_eq_false, reduceCtorEq, if_true, if_false, if_pos, decide_true, decide_false, Bool.true_or, Bool.false_or, Bool.or_false, Bool.or_true, Bool.not_true, Bool.not_false, true_and, and_true, Option.some.injEq, exists_eq_left', String.reduceEq, Nat.zero_add, Nat.reduceAdd, Nat.reduceLT, Nat.lt_add_one, Bool.and_false, Bool.and_true, Bool.false_and, Bool.true_and, Bool.not_true, Bool.not_false, Bool.false_eq_true, pickL, eqv_int, eqv_bl, shaped_int, shaped_bl, shaped_non, wRev, wPeek, wListRg1, wLenSet, wMth, lIx, ixl2, ixl3, ixl4, ixt2, ixp0, ixp1, ixN20, ixN21, OT.flat_nd, wStar2, wTupOf, wDNew]
    exact fin c
  · rw [if_neg (by rw [decide_eq_false hk]; exact Bool.false_ne_true)]
    exact fin 0
def sp__law_dip : FSpec := fun args R _ => ∃ b t m, args = [t, .fz (.int m)] ∧ Pot b t ∧ b ≤ 10 ^ 6 ∧ 1 ≤ m ∧ m ≤ 10 ^ 20 ∧ ∀ n t', 0 ≤ n → n < m → Pot (b + 1) t' → R (.fz (.int n)) t'
def w__law_dip (xq : XQ) : WS := (wSeq (wIfS (wET (wPE (wS (gCmp fun i j => decide (j < i)) (wIx (wVar 0) (wC (.int 0))) (wC (.int 0))))) (wSeq (wSet 2 (wBin gMod (wPE (wIx (wVar 0) (wC (.int 0)))) (wVarF 1)))
    (wSeq (wSetIx (wBin gDiv (wPE (wIx (wVar 0) (wC (.int 0)))) (wVarF 1)) (lName 0) (wC (.int 0)))
    (wRet (wMove 2)))) wNext)
    (wSeq (wSetIx (wBin gAdd (wPE (wIx (wVar 0) (wC (.int 2)))) (wPE (wC (.int 1)))) (lName 0) (wC (.int 2)))
    (wSeq (wSet 3 (wBin gMod (wOE (wBin gPow (wOE (wBin gAdd (wOE (wBin gAdd (wPE (wIx (wVar 0) (wC (.int 1)))) (wOE (wBin gMul (wPE (wC (.int 40503))) (wPE (wIx (wVar 0) (wC (.int 2)))))))) (wPE (wC (.int 11))))) (wPE (wC (.int 3))))) (wPE (wC (.int 618970019642690137449562111)))))
    (wSeq (wSet 3 (wBin gMod (wOE (wBin gPow (wOE (wBin gAdd (wVarF 3) (wOE (wBin gMul (wOE (wBin gMul (wPE (wC (.int 2246822519))) (wPE (wIx (wVar 0) (wC (.int 2)))))) (wPE (wIx (wVar 0) (wC (.int 2)))))))) (wPE (wC (.int 5))))) (wPE (wC (.int 2305843009213693951)))))
    (wRet (wBin gMod (wOE (wBin gDiv (wVarF 3) (wPE (wC (.int 65537))))) (wVarF 1)))))))
theorem len__law_dip : ∀ args R RX, sp__law_dip args R RX → args.length = 2 := by rintro _ _ _ ⟨b, t, m, rfl, _⟩; rfl
theorem pu__law_dip : ∀ args R RX, sp__law_dip args R RX → w__law_dip (fun x env => RX x (t0 true env)) { nx := fun env => R (.fz .non) (t0 true env), rt := fun t env => R t (t0 true env) } (args ++ List.replicate (["pot", "many", "found", "mixed"].length - args.length) .un) := by
  rintro _ R RX ⟨b, t, m, rfl, ⟨x, y, z, rfl, x0, y0, ys, z0, z1⟩, hb, m0, m1, h⟩
  change w__law_dip _ _ [.nd .lst [.fz (.int x), .fz (.int y), .fz (.int z)], .fz (.int m), .un, .un]
  refine cut fun N hN => ?_
  simp only [wRet, wRetN, wEO, wPE, wOE, wC, wVar, wVarF, wAndV, wNotV, wOrV, wIsi, wNext, wSeq, wDrop, wIfS, wSet, wPar, wAsg, wCall, wCallB, wCallK, wCallG, wMove, wCons, wNil, wVCons, wVNil, wOCons, wONil, wFn, wFnE, wFnN, wS, wSE, wSV, wCh, wET, wAnd, wOr, DL.wNot, wTup, wLst, wIf, wIx, wRaise, wMthN, gAppend, gtName, gtCons, gtNil, gtSeq, iSeq, OT.tn, D.tn, NK.tn, isTy, gCmp, gEq, gNe, gIsN, gNotN, gIsB, gNotB, isNon_non, gLen, OT.size, OT.out, t0, List.getElem?_cons_zero, List.getElem?_cons_succ, List.set_cons_zero, List.set_cons_succ, List.map_cons, List.map_nil, OT.flat_fz, flat_nd', OT.dsOf_fz, dsOf_nil, dsOf_cons, Option.map_some, List.length_cons, List.length_nil, List.length_map, List.cons_append, List.nil_append, List.append_nil, wBin, gAdd, DL.gSub, gMul, gInt, List.getD_cons_zero, OT.whole_fz, OT.frz_fz, OT.whole_nd', OT.wholeL_fz, OT.wholeL_nil, OT.wholeL_cons, OT.frz_nd', map_frz_fz, ixo0, ixo1, ixo2, ixt0, ixt1, ixl0, ixl1, unAt, reAt, wSl, wPt, wNoPt, wSlE, wPtE, wNoPtE, OT.cut, wSetIx, lName, atP_nil, putP_nil, gSetM, ixN30, ixN31, ixN32, ne_eq, not_false_eq_true, not_true_eq_false, reduceCtorEq, if_true, if_false, if_pos, decide_true, decide_false, Bool.true_or, Bool.false_or, Bool.or_false, Bool.or_true, Bool.not_true, Bool.not_false, true_and, and_true, Option.some.injEq, exists_eq_left', String.reduceEq, Nat.zero_add, Nat.reduceAdd, Nat.reduceLT, Nat.lt_add_one, Bool.and_false, Bool.and_true, Bool.false_and, Bool.true_and, Bool.not_true, Bool.not_false, Bool.false_eq_true, pickL, eqv_int, eqv_bl, shaped_int, shaped_bl, shaped_non, wRev, wPeek, wListRg1, wLenSet, wMth, lIx, ixl2, ixl3, ixl4, ixt2, ixp0, ixp1, ixN20, ixN21, OT.flat_nd, wStar2, wTupOf, wDNew]
  have ms : Sm 70 m := Sm.of (by omega)
  have md : CDivW x m := ms.divW (by omega)
  have mp : 0 < m := by omega
  by_cases hx : 0 < x
  · rw [if_pos (decide_eq_true hx)]
    refine ⟨mp, md, ?_⟩
    exact h _ _ (Int.emod_nonneg _ (by omega)) (Int.emod_lt_of_pos _ mp) ⟨_, _, _, rfl, Int.ediv_nonneg x0 (by omega), y0, ys, z0, by omega⟩
  · rw [if_neg (by rw [decide_eq_false hx]; exact Bool.false_ne_true)]
    apply hN
    refine cut fun N hN => ?_
    simp only [wRet, wRetN, wEO, wPE, wOE, wC, wVar, wVarF, wAndV, wNotV, wOrV, wIsi, wNext, wSeq, wDrop, wIfS, wSet, wPar, wAsg, wCall, wCallB, wCallK, wCallG, wMove, wCons, wNil, wVCons, wVNil, wOCons, wONil, wFn, wFnE, wFnN, wS, wSE, wSV, wCh, wET, wAnd, wOr, DL.wNot, wTup, wLst, wIf, wIx, wRaise, wMthN, gAppend, gtName, gtCons, gtNil, gtSeq, iSeq, OT.tn, D.tn, NK.tn, isTy, gCmp, gEq, gNe, gIsN, gNotN, gIsB, gNotB, isNon_non, gLen, OT.size, OT.out, t0, List.getElem?_cons_zero, List.getElem?_cons_succ, List.set_cons_zero, List.set_cons_succ, List.map_cons, List.map_nil, OT.flat_fz, flat_nd', OT.dsOf_fz, dsOf_nil, dsOf_cons, Option.map_some, List.length_cons, List.length_nil, List.length_map, List.cons_append, List.nil_append, List.append_nil, wBin, gAdd, DL.gSub, gMul, gInt, List.getD_cons_zero, OT.whole_fz, OT.frz_fz, OT.whole_nd', OT.wholeL_fz, OT.wholeL_nil, OT.wholeL_cons, OT.frz_nd', map_frz_fz, ixo0, ixo1, ixo2, ixt0, ixt1, ixl0, ixl1, unAt, reAt, wSl, wPt, wNoPt, wSlE, wPtE, wNoPtE, OT.cut, wSetIx, lName, atP_nil, putP_nil, gSetM, ixN30, ixN31, ixN32, ne_eq, not_false_eq_true, not_true_eq_false, reduceCtorEq, if_true, if_false, if_pos, decide_true, decide_false, Bool.true_or, Bool.false_or, Bool.or_false, Bool.or_true, Bool.not_true, Bool.not_false, true_and, and_true, Option.some.injEq, exists_eq_left', String.reduceEq, Nat.zero_add, Nat.reduceAdd, Nat.reduceLT, Nat.lt_add_one, Bool.and_false, Bool.and_true, Bool.false_and, Bool.true_and, Bool.not_true, Bool.not_false, Bool.false_eq_true, pickL, eqv_int, eqv_bl, shaped_int, shaped_bl, shaped_non, wRev, wPeek, wListRg1, wLenSet, wMth, lIx, ixl2, ixl3, ixl4, ixt2, ixp0, ixp1, ixN20, ixN21, OT.flat_nd, wStar2, wTupOf, wDNew]
    apply hN
    refine cut fun N hN => ?_
    have zs : Sm 20 (z + 1) := Sm.of (by omega)
    have s1 : Sm 20 40503 := Sm.of (by omega)
    have s2 : Sm 40 2246822519 := Sm.of (by omega)
    have s3 : Sm 4 11 := Sm.of (by omega)
    have e3 : (3 : Int).toNat = 3 := rfl
    have e5 : (5 : Int).toNat = 5 := rfl
    have a1 : Sm 162 (y + 40503 * (z + 1) + 11) := ((ys.add (s1.mul zs).mono).add s3.mono).mono
    simp only [wRet, wRetN, wEO, wPE, wOE, wC, wVar, wVarF, wAndV, wNotV, wOrV, wIsi, wNext, wSeq, wDrop, wIfS, wSet, wPar, wAsg, wCall, wCallB, wCallK, wCallG, wMove, wCons, wNil, wVCons, wVNil, wOCons, wONil, wFn, wFnE, wFnN, wS, wSE, wSV, wCh, wET, wAnd, wOr, DL.wNot, wTup, wLst, wIf, wIx, wRaise, wMthN, gAppend, gtName, gtCons, gtNil, gtSeq, iSeq, OT.tn, D.tn, NK.tn, isTy, gCmp, gEq, gNe, gIsN, gNotN, gIsB, gNotB, isNon_non, gLen, OT.size, OT.out, t0, List.getElem?_cons_zero, List.getElem?_cons_succ, List.set_cons_zero, List.set_cons_succ, List.map_cons, List.map_nil, OT.flat_fz, flat_nd', OT.dsOf_fz, dsOf_nil, dsOf_cons, Option.map_some, List.length_cons, List.length_nil, List.length_map, List.cons_append, List.nil_append, List.append_nil, wBin, gAdd, DL.gSub, gMul, gInt, List.getD_cons_zero, OT.whole_fz, OT.frz_fz, OT.whole_nd', OT.wholeL_fz, OT.wholeL_nil, OT.wholeL_cons, OT.frz_nd', map_frz_fz, ixo0, ixo1, ixo2, ixt0, ixt1, ixl0, ixl1, unAt, reAt, wSl, wPt, wNoPt, wSlE, wPtE, wNoPtE, OT.cut, wSetIx, lName, atP_nil, putP_nil, gSetM, ixN30, ixN31, ixN32, ne_eq, not_false_eq_true, not_true_eq_false, reduceCtorEq, if_true, if_false, if_pos, decide_true, decide_false, Bool.true_or, Bool.false_or, Bool.or_false, Bool.or_true, Bool.not_true, Bool.not_false, true_and, and_true, Option.some.injEq, exists_eq_left', String.reduceEq, Nat.zero_add, Nat.reduceAdd, Nat.reduceLT, Nat.lt_add_one, Bool.and_false, Bool.and_true, Bool.false_and, Bool.true_and, Bool.not_true, Bool.not_false, Bool.false_eq_true, pickL, eqv_int, eqv_bl, shaped_int, shaped_bl, shaped_non, wRev, wPeek, wListRg1, wLenSet, wMth, lIx, ixl2, ixl3, ixl4, ixt2, ixp0, ixp1, ixN20, ixN21, OT.flat_nd, wStar2, wTupOf, wDNew]
    refine ⟨s1.mulB zs, a1.powB (by omega) (by omega), by omega, ?_⟩
    apply hN
    refine cut fun N hN => ?_
    generalize hq : (y + 40503 * (z + 1) + 11) ^ (3 : Int).toNat = q
    have q0 : 0 ≤ q % 618970019642690137449562111 := Int.emod_nonneg _ (by omega)
    have q1 : q % 618970019642690137449562111 < 618970019642690137449562111 := Int.emod_lt_of_pos _ (by omega)
    generalize q % 618970019642690137449562111 = r at q0 q1
    have rs : Sm 100 r := Sm.of (by omega)
    have a2 : Sm 101 (r + 2246822519 * (z + 1) * (z + 1)) := (rs.add ((s2.mul zs).mul zs).mono).mono
    simp only [wRet, wRetN, wEO, wPE, wOE, wC, wVar, wVarF, wAndV, wNotV, wOrV, wIsi, wNext, wSeq, wDrop, wIfS, wSet, wPar, wAsg, wCall, wCallB, wCallK, wCallG, wMove, wCons, wNil, wVCons, wVNil, wOCons, wONil, wFn, wFnE, wFnN, wS, wSE, wSV, wCh, wET, wAnd, wOr, DL.wNot, wTup, wLst, wIf, wIx, wRaise, wMthN, gAppend, gtName, gtCons, gtNil, gtSeq, iSeq, OT.tn, D.tn, NK.tn, isTy, gCmp, gEq, gNe, gIsN, gNotN, gIsB, gNotB, isNon_non, gLen, OT.size, OT.out, t0, List.getElem?_cons_zero, List.getElem?_cons_succ, List.set_cons_zero, List.set_cons_succ, List.map_cons, List.map_nil, OT.flat_fz, flat_nd', OT.dsOf_fz, dsOf_nil, dsOf_cons, Option.map_some, List.length_cons, List.length_nil, List.length_map, List.cons_append, List.nil_append, List.append_nil, wBin, gAdd, DL.gSub, gMul, gInt, List.getD_cons_zero, OT.whole_fz, OT.frz_fz, OT.whole_nd', OT.wholeL_fz, OT.wholeL_nil, OT.wholeL_cons, OT.frz_nd', map_frz_fz, ixo0, ixo1, ixo2, ixt0, ixt1, ixl0, ixl1, unAt, reAt, wSl, wPt, wNoPt, wSlE, wPtE, wNoPtE, OT.cut, wSetIx, lName, atP_nil, putP_nil, gSetM, ixN30, ixN31, ixN32, ne_eq, not_false_eq_true, not_true_eq_false, reduceCtorEq, if_true, if_false, if_pos, decide_true, decide_false, Bool.true_or, Bool.false_or, Bool.or_false, Bool.or_true, Bool.not_true, Bool.not_false, true_and, and_true, Option.some.injEq, exists_eq_left', String.reduceEq, Nat.zero_add, Nat.reduceAdd, Nat.reduceLT, Nat.lt_add_one, Bool.and_false, Bool.and_true, Bool.false_and, Bool.true_and, Bool.not_true, Bool.not_false, Bool.false_eq_true, pickL, eqv_int, eqv_bl, shaped_int, shaped_bl, shaped_non, wRev, wPeek, wListRg1, wLenSet, wMth, lIx, ixl2, ixl3, ixl4, ixt2, ixp0, ixp1, ixN20, ixN21, OT.flat_nd, wStar2, wTupOf, wDNew]
    refine ⟨s2.mulB zs, (s2.mul zs).mulB zs, a2.powB (by omega) (by omega), by omega, ?_⟩
    apply hN
    simp only [wRet, wRetN, wEO, wPE, wOE, wC, wVar, wVarF, wAndV, wNotV, wOrV, wIsi, wNext, wSeq, wDrop, wIfS, wSet, wPar, wAsg, wCall, wCallB, wCallK, wCallG, wMove, wCons, wNil, wVCons, wVNil, wOCons, wONil, wFn, wFnE, wFnN, wS, wSE, wSV, wCh, wET, wAnd, wOr, DL.wNot, wTup, wLst, wIf, wIx, wRaise, wMthN, gAppend, gtName, gtCons, gtNil, gtSeq, iSeq, OT.tn, D.tn, NK.tn, isTy, gCmp, gEq, gNe, gIsN, gNotN, gIsB, gNotB, isNon_non, gLen, OT.size, OT.out, t0, List.getElem?_cons_zero, List.getElem?_cons_succ, List.set_cons_zero, List.set_cons_succ, List.map_cons, List.map_nil, OT.flat_fz, flat_nd', OT.dsOf_fz, dsOf_nil, dsOf_cons, Option.map_some, List.length_cons, List.length_nil, List.length_map, List.cons_append, List.nil_append, List.append_nil, wBin, gAdd, DL.gSub, gMul, gInt, List.getD_cons_zero, OT.whole_fz, OT.frz_fz, OT.whole_nd', OT.wholeL_fz, OT.wholeL_nil, OT.wholeL_cons, OT.frz_nd', map_frz_fz, ixo0, ixo1, ixo2, ixt0, ixt1, ixl0, ixl1, unAt, reAt, wSl, wPt, wNoPt, wSlE, wPtE, wNoPtE, OT.cut, wSetIx, lName, atP_nil, putP_nil, gSetM, ixN30, ixN31, ixN32, ne_eq, not_false_eq_true, not_true_eq_false, reduceCtorEq, if_true, if_false, if_pos, decide_true, decide_false, Bool.true_or, Bool.false_or, Bool.or_false, Bool.or_true, Bool.not_true, Bool.not_false, true_and, and_true, Option.some.injEq, exists_eq_left', String.reduceEq, Nat.zero_add, Nat.reduceAdd, Nat.reduceLT, Nat.lt_add_one, Bool.and_false, Bool.and_true, Bool.false_and, Bool.true_and, Bool.not_true, Bool.not_false, Bool.false_eq_true, pickL, eqv_int, eqv_bl, shaped_int, shaped_bl, shaped_non, wRev, wPeek, wListRg1, wLenSet, wMth, lIx, ixl2, ixl3, ixl4, ixt2, ixp0, ixp1, ixN20, ixN21, OT.flat_nd, wStar2, wTupOf, wDNew]
    generalize hq2 : (r + 2246822519 * (z + 1) * (z + 1)) ^ (5 : Int).toNat % 2305843009213693951 = w
    refine ⟨(Sm.of (n := 20) (by omega)).divW (by omega), mp, ?_⟩
    exact h _ _ (Int.emod_nonneg _ (by omega)) (Int.emod_lt_of_pos _ mp) ⟨_, _, _, rfl, x0, y0, ys, by omega, by omega⟩
def sp__law_busy_plan : FSpec := fun args R _ => ∃ b t most, args = [t, .fz (.int most)] ∧ Pot b t ∧ b + 40 ≤ 10 ^ 6 ∧ 0 ≤ most ∧ most ≤ 8 ∧ ∀ ps t', (ps.length : Int) ≤ most → (∀ q ∈ ps, FrOk q) → Pot (b + 40) t' → R (planO ps) t'
def w__law_busy_plan (xq : XQ) : WS := (wSeq (wSet 2 (wLst wNil))
    (wSeq (wFor (iRange1 (wCons (wOE (wCallB 0 sp__law_dip xq [] (wCons (wOE (wBin gAdd (wVarF 1) (wPE (wC (.int 1))))) wNil))) wNil)) (gtName 3) (wSeq (wSet 4 (wCallB 0 sp__law_dip xq [] (wCons (wPE (wC (.int 4))) wNil)))
    (wSeq (wSet 5 (wBin gAdd (wPE (wC (.int 2))) (wOE (wCallB 0 sp__law_dip xq [] (wCons (wIxE (wOE (wLst (wCons (wPE (wC (.int 12))) (wCons (wPE (wC (.int 40))) (wCons (wPE (wC (.int 60))) (wCons (wPE (wC (.int 399))) wNil)))))) (wVarF 4)) wNil)))))
    (wDrop (wMthN 2 gAppend (wOCons (wEO (wTup (wCons (wVarF 5) (wCons (wOE (wBin gAdd (wPE (wC (.int 1))) (wOE (wCallB 0 sp__law_dip xq [] (wCons (wIxE (wOE (wLst (wCons (wPE (wC (.int 3))) (wCons (wPE (wC (.int 6))) (wCons (wPE (wC (.int 20))) (wCons (wPE (wC (.int 20))) wNil)))))) (wVarF 4)) wNil))))) wNil)))) wONil))))))
    (wRet (wMove 2))))
theorem len__law_busy_plan : ∀ args R RX, sp__law_busy_plan args R RX → args.length = 2 := by rintro _ _ _ ⟨b, t, most, rfl, _⟩; rfl
theorem pu__law_busy_plan : ∀ args R RX, sp__law_busy_plan args R RX → w__law_busy_plan (fun x env => RX x (t0 true env)) { nx := fun env => R (.fz .non) (t0 true env), rt := fun t env => R t (t0 true env) } (args ++ List.replicate (["pot", "most", "found", "k", "way", "period"].length - args.length) .un) := by
  rintro _ R RX ⟨b, t, most, rfl, hb, b1, m0, m1, h⟩
  change w__law_busy_plan _ _ [t, .fz (.int most), .un, .un, .un, .un]
  refine cut fun N hN => ?_
  simp only [wRet, wRetN, wEO, wPE, wOE, wC, wVar, wVarF, wAndV, wNotV, wOrV, wIsi, wNext, wSeq, wDrop, wIfS, wSet, wPar, wAsg, wCall, wCallB, wCallK, wCallG, wMove, wCons, wNil, wVCons, wVNil, wOCons, wONil, wFn, wFnE, wFnN, wS, wSE, wSV, wCh, wET, wAnd, wOr, DL.wNot, wTup, wLst, wIf, wIx, wRaise, wMthN, gAppend, gtName, gtCons, gtNil, gtSeq, iSeq, OT.tn, D.tn, NK.tn, isTy, gCmp, gEq, gNe, gIsN, gNotN, gIsB, gNotB, isNon_non, gLen, OT.size, OT.out, t0, List.getElem?_cons_zero, List.getElem?_cons_succ, List.set_cons_zero, List.set_cons_succ, List.map_cons, List.map_nil, OT.flat_fz, flat_nd', OT.dsOf_fz, dsOf_nil, dsOf_cons, Option.map_some, List.length_cons, List.length_nil, List.length_map, List.cons_append, List.nil_append, List.append_nil, wBin, gAdd, DL.gSub, gMul, gInt, List.getD_cons_zero, OT.whole_fz, OT.frz_fz, OT.whole_nd', OT.wholeL_fz, OT.wholeL_nil, OT.wholeL_cons, OT.frz_nd', map_frz_fz, ixo0, ixo1, ixo2, ixt0, ixt1, ixl0, ixl1, unAt, reAt, wSl, wPt, wNoPt, wSlE, wPtE, wNoPtE, OT.cut, wSetIx, lName, atP_nil, putP_nil, gSetM, ixN30, ixN31, ixN32, ne_eq, not_false_eq_true, not_true_eq_false, reduceCtorEq, if_true, if_false, if_pos, decide_true, decide_false, Bool.true_or, Bool.false_or, Bool.or_false, Bool.or_true, Bool.not_true, Bool.not_false, true_and, and_true, Option.some.injEq, exists_eq_left', String.reduceEq, Nat.zero_add, Nat.reduceAdd, Nat.reduceLT, Nat.lt_add_one, Bool.and_false, Bool.and_true, Bool.false_and, Bool.true_and, Bool.not_true, Bool.not_false, Bool.false_eq_true, pickL, eqv_int, eqv_bl, shaped_int, shaped_bl, shaped_non, wRev, wPeek, wListRg1, wLenSet, wMth, lIx, ixl2, ixl3, ixl4, ixt2, ixp0, ixp1, ixN20, ixN21, OT.flat_nd, wStar2, wTupOf, wDNew]
  refine ⟨by decide, hN _ ?_⟩
  refine cut fun N hN => ?_
  unfold wFor
  simp only [iRange1, wRet, wRetN, wEO, wPE, wOE, wC, wVar, wVarF, wAndV, wNotV, wOrV, wIsi, wNext, wSeq, wDrop, wIfS, wSet, wPar, wAsg, wCall, wCallB, wCallK, wCallG, wMove, wCons, wNil, wVCons, wVNil, wOCons, wONil, wFn, wFnE, wFnN, wS, wSE, wSV, wCh, wET, wAnd, wOr, DL.wNot, wTup, wLst, wIf, wIx, wRaise, wMthN, gAppend, gtName, gtCons, gtNil, gtSeq, iSeq, OT.tn, D.tn, NK.tn, isTy, gCmp, gEq, gNe, gIsN, gNotN, gIsB, gNotB, isNon_non, gLen, OT.size, OT.out, t0, List.getElem?_cons_zero, List.getElem?_cons_succ, List.set_cons_zero, List.set_cons_succ, List.map_cons, List.map_nil, OT.flat_fz, flat_nd', OT.dsOf_fz, dsOf_nil, dsOf_cons, Option.map_some, List.length_cons, List.length_nil, List.length_map, List.cons_append, List.nil_append, List.append_nil, wBin, gAdd, DL.gSub, gMul, gInt, List.getD_cons_zero, OT.whole_fz, OT.frz_fz, OT.whole_nd', OT.wholeL_fz, OT.wholeL_nil, OT.wholeL_cons, OT.frz_nd', map_frz_fz, ixo0, ixo1, ixo2, ixt0, ixt1, ixl0, ixl1, unAt, reAt, wSl, wPt, wNoPt, wSlE, wPtE, wNoPtE, OT.cut, wSetIx, lName, atP_nil, putP_nil, gSetM, ixN30, ixN31, ixN32, ne_eq, not_false_eq_true, not_true_eq_false, reduceCtorEq, if_true, if_false, if_pos, decide_true, decide_false, Bool.true_or, Bool.false_or, Bool.or_false, Bool.or_true, Bool.not_true, Bool.not_false, true_and, and_true, Option.some.injEq, exists_eq_left', String.reduceEq, Nat.zero_add, Nat.reduceAdd, Nat.reduceLT, Nat.lt_add_one, Bool.and_false, Bool.and_true, Bool.false_and, Bool.true_and, Bool.not_true, Bool.not_false, Bool.false_eq_true, pickL, eqv_int, eqv_bl, shaped_int, shaped_bl, shaped_non, wRev, wPeek, wListRg1, wLenSet, wMth, lIx, ixl2, ixl3, ixl4, ixt2, ixp0, ixp1, ixN20, ixN21, OT.flat_nd, wStar2, wTupOf, wDNew]
  refine ⟨hb.ne, hb.ne, b, t, most + 1, rfl, hb, by omega, by omega, by omega, fun n t' n0 n1 p1 => ?_⟩
  simp only [wRet, wRetN, wEO, wPE, wOE, wC, wVar, wVarF, wAndV, wNotV, wOrV, wIsi, wNext, wSeq, wDrop, wIfS, wSet, wPar, wAsg, wCall, wCallB, wCallK, wCallG, wMove, wCons, wNil, wVCons, wVNil, wOCons, wONil, wFn, wFnE, wFnN, wS, wSE, wSV, wCh, wET, wAnd, wOr, DL.wNot, wTup, wLst, wIf, wIx, wRaise, wMthN, gAppend, gtName, gtCons, gtNil, gtSeq, iSeq, OT.tn, D.tn, NK.tn, isTy, gCmp, gEq, gNe, gIsN, gNotN, gIsB, gNotB, isNon_non, gLen, OT.size, OT.out, t0, List.getElem?_cons_zero, List.getElem?_cons_succ, List.set_cons_zero, List.set_cons_succ, List.map_cons, List.map_nil, OT.flat_fz, flat_nd', OT.dsOf_fz, dsOf_nil, dsOf_cons, Option.map_some, List.length_cons, List.length_nil, List.length_map, List.cons_append, List.nil_append, List.append_nil, wBin, gAdd, DL.gSub, gMul, gInt, List.getD_cons_zero, OT.whole_fz, OT.frz_fz, OT.whole_nd', OT.wholeL_fz, OT.wholeL_nil, OT.wholeL_cons, OT.frz_nd', map_frz_fz, ixo0, ixo1, ixo2, ixt0, ixt1, ixl0, ixl1, unAt, reAt, wSl, wPt, wNoPt, wSlE, wPtE, wNoPtE, OT.cut, wSetIx, lName, atP_nil, putP_nil, gSetM, ixN30, ixN31, ixN32, ne_eq, not_false_eq_true, not_true_eq_false, reduceCtorEq, if_true, if_false, if_pos, decide_true, decide_false, Bool.true_or, Bool.false_or, Bool.or_false, Bool.or_true, Bool.not_true, Bool.not_false, true_and, and_true, Option.some.injEq, exists_eq_left', String.reduceEq, Nat.zero_add, Nat.reduceAdd, Nat.reduceLT, Nat.lt_add_one, Bool.and_false, Bool.and_true, Bool.false_and, Bool.true_and, Bool.not_true, Bool.not_false, Bool.false_eq_true, pickL, eqv_int, eqv_bl, shaped_int, shaped_bl, shaped_non, wRev, wPeek, wListRg1, wLenSet, wMth, lIx, ixl2, ixl3, ixl4, ixt2, ixp0, ixp1, ixN20, ixN21, OT.flat_nd, wStar2, wTupOf, wDNew]
  refine ⟨by unfold Small62; omega, ?_⟩
  refine for_inv (fun ds e => ∃ ps c t z1 z2 z3, e = [t, .fz (.int most), .nd .lst ((frs ps).map .fz), z1, z2, z3] ∧ Pot c t ∧ c + 3 * ds.length ≤ b + 40 ∧ (∀ q ∈ ps, FrOk q) ∧ (ps.length : Int) + ds.length ≤ most) ?_ ?_ _ _ ?_
  · rintro d ds env M hM ⟨ps, c, t, z1, z2, z3, rfl, pc, hc, hf, hl⟩
    rw [List.length_cons] at hc hl
    refine ⟨by simp, cut fun N3 hN3 => ?_⟩
    simp only [wRet, wRetN, wEO, wPE, wOE, wC, wVar, wVarF, wAndV, wNotV, wOrV, wIsi, wNext, wSeq, wDrop, wIfS, wSet, wPar, wAsg, wCall, wCallB, wCallK, wCallG, wMove, wCons, wNil, wVCons, wVNil, wOCons, wONil, wFn, wFnE, wFnN, wS, wSE, wSV, wCh, wET, wAnd, wOr, DL.wNot, wTup, wLst, wIf, wIx, wRaise, wMthN, gAppend, gtName, gtCons, gtNil, gtSeq, iSeq, OT.tn, D.tn, NK.tn, isTy, gCmp, gEq, gNe, gIsN, gNotN, gIsB, gNotB, isNon_non, gLen, OT.size, OT.out, t0, List.getElem?_cons_zero, List.getElem?_cons_succ, List.set_cons_zero, List.set_cons_succ, List.map_cons, List.map_nil, OT.flat_fz, flat_nd', OT.dsOf_fz, dsOf_nil, dsOf_cons, Option.map_some, List.length_cons, List.length_nil, List.length_map, List.cons_append, List.nil_append, List.append_nil, wBin, gAdd, DL.gSub, gMul, gInt, List.getD_cons_zero, OT.whole_fz, OT.frz_fz, OT.whole_nd', OT.wholeL_fz, OT.wholeL_nil, OT.wholeL_cons, OT.frz_nd', map_frz_fz, ixo0, ixo1, ixo2, ixt0, ixt1, ixl0, ixl1, unAt, reAt, wSl, wPt, wNoPt, wSlE, wPtE, wNoPtE, OT.cut, wSetIx, lName, atP_nil, putP_nil, gSetM, ixN30, ixN31, ixN32, ne_eq, not_false_eq_true, not_true_eq_false, reduceCtorEq, if_true, if_false, if_pos, decide_true, decide_false, Bool.true_or, Bool.false_or, Bool.or_false, Bool.or_true, Bool.not_true, Bool.not_false, true_and, and_true, Option.some.injEq, exists_eq_left', String.reduceEq, Nat.zero_add, Nat.reduceAdd, Nat.reduceLT, Nat.lt_add_one, Bool.and_false, Bool.and_true, Bool.false_and, Bool.true_and, Bool.not_true, Bool.not_false, Bool.false_eq_true, pickL, eqv_int, eqv_bl, shaped_int, shaped_bl, shaped_non, wRev, wPeek, wListRg1, wLenSet, wMth, lIx, ixl2, ixl3, ixl4, ixt2, ixp0, ixp1, ixN20, ixN21, OT.flat_nd, wStar2, wTupOf, wDNew]
    refine ⟨pc.ne, pc.ne, c, t, 4, rfl, pc, by omega, by omega, by omega, fun w t2 w0 w1 pc2 => ?_⟩
    simp only [wRet, wRetN, wEO, wPE, wOE, wC, wVar, wVarF, wAndV, wNotV, wOrV, wIsi, wNext, wSeq, wDrop, wIfS, wSet, wPar, wAsg, wCall, wCallB, wCallK, wCallG, wMove, wCons, wNil, wVCons, wVNil, wOCons, wONil, wFn, wFnE, wFnN, wS, wSE, wSV, wCh, wET, wAnd, wOr, DL.wNot, wTup, wLst, wIf, wIx, wRaise, wMthN, gAppend, gtName, gtCons, gtNil, gtSeq, iSeq, OT.tn, D.tn, NK.tn, isTy, gCmp, gEq, gNe, gIsN, gNotN, gIsB, gNotB, isNon_non, gLen, OT.size, OT.out, t0, List.getElem?_cons_zero, List.getElem?_cons_succ, List.set_cons_zero, List.set_cons_succ, List.map_cons, List.map_nil, OT.flat_fz, flat_nd', OT.dsOf_fz, dsOf_nil, dsOf_cons, Option.map_some, List.length_cons, List.length_nil, List.length_map, List.cons_append, List.nil_append, List.append_nil, wBin, gAdd, DL.gSub, gMul, gInt, List.getD_cons_zero, OT.whole_fz, OT.frz_fz, OT.whole_nd', OT.wholeL_fz, OT.wholeL_nil, OT.wholeL_cons, OT.frz_nd', map_frz_fz, ixo0, ixo1, ixo2, ixt0, ixt1, ixl0, ixl1, unAt, reAt, wSl, wPt, wNoPt, wSlE, wPtE, wNoPtE, OT.cut, wSetIx, lName, atP_nil, putP_nil, gSetM, ixN30, ixN31, ixN32, ne_eq, not_false_eq_true, not_true_eq_false, reduceCtorEq, if_true, if_false, if_pos, decide_true, decide_false, Bool.true_or, Bool.false_or, Bool.or_false, Bool.or_true, Bool.not_true, Bool.not_false, true_and, and_true, Option.some.injEq, exists_eq_left', String.reduceEq, Nat.zero_add, Nat.reduceAdd, Nat.reduceLT, Nat.lt_add_one, Bool.and_false, Bool.and_true, Bool.false_and, Bool.true_and, Bool.not_true, Bool.not_false, Bool.false_eq_true, pickL, eqv_int, eqv_bl, shaped_int, shaped_bl, shaped_non, wRev, wPeek, wListRg1, wLenSet, wMth, lIx, ixl2, ixl3, ixl4, ixt2, ixp0, ixp1, ixN20, ixN21, OT.flat_nd, wStar2, wTupOf, wDNew]
    refine hN3 _ (cut fun N4 hN4 => ?_)
    simp only [wIxE, wRet, wRetN, wEO, wPE, wOE, wC, wVar, wVarF, wAndV, wNotV, wOrV, wIsi, wNext, wSeq, wDrop, wIfS, wSet, wPar, wAsg, wCall, wCallB, wCallK, wCallG, wMove, wCons, wNil, wVCons, wVNil, wOCons, wONil, wFn, wFnE, wFnN, wS, wSE, wSV, wCh, wET, wAnd, wOr, DL.wNot, wTup, wLst, wIf, wIx, wRaise, wMthN, gAppend, gtName, gtCons, gtNil, gtSeq, iSeq, OT.tn, D.tn, NK.tn, isTy, gCmp, gEq, gNe, gIsN, gNotN, gIsB, gNotB, isNon_non, gLen, OT.size, OT.out, t0, List.getElem?_cons_zero, List.getElem?_cons_succ, List.set_cons_zero, List.set_cons_succ, List.map_cons, List.map_nil, OT.flat_fz, flat_nd', OT.dsOf_fz, dsOf_nil, dsOf_cons, Option.map_some, List.length_cons, List.length_nil, List.length_map, List.cons_append, List.nil_append, List.append_nil, wBin, gAdd, DL.gSub, gMul, gInt, List.getD_cons_zero, OT.whole_fz, OT.frz_fz, OT.whole_nd', OT.wholeL_fz, OT.wholeL_nil, OT.wholeL_cons, OT.frz_nd', map_frz_fz, ixo0, ixo1, ixo2, ixt0, ixt1, ixl0, ixl1, unAt, reAt, wSl, wPt, wNoPt, wSlE, wPtE, wNoPtE, OT.cut, wSetIx, lName, atP_nil, putP_nil, gSetM, ixN30, ixN31, ixN32, ne_eq, not_false_eq_true, not_true_eq_false, reduceCtorEq, if_true, if_false, if_pos, decide_true, decide_false, Bool.true_or, Bool.false_or, Bool.or_false, Bool.or_true, Bool.not_true, Bool.not_false, true_and, and_true, Option.some.injEq, exists_eq_left', String.reduceEq, Nat.zero_add, Nat.reduceAdd, Nat.reduceLT, Nat.lt_add_one, Bool.and_false, Bool.and_true, Bool.false_and, Bool.true_and, Bool.not_true, Bool.not_false, Bool.false_eq_true, pickL, eqv_int, eqv_bl, shaped_int, shaped_bl, shaped_non, wRev, wPeek, wListRg1, wLenSet, wMth, lIx, ixl2, ixl3, ixl4, ixt2, ixp0, ixp1, ixN20, ixN21, OT.flat_nd, wStar2, wTupOf, wDNew]
    obtain ⟨v, ev, ixv⟩ := ix_ints (ns := [12, 40, 60, 399]) w0 (by simpa using w1)
    obtain ⟨u, eu, ixu⟩ := ix_ints (ns := [3, 6, 20, 20]) w0 (by simpa using w1)
    have hv : (12 ≤ v ∧ v ≤ 399) ∧ 3 ≤ u ∧ u ≤ 20 := by
      have hw : w = 0 ∨ w = 1 ∨ w = 2 ∨ w = 3 := by omega
      rcases hw with rfl | rfl | rfl | rfl <;> (cases ev; cases eu; omega)
    rw [show ([D.int 12, .int 40, .int 60, .int 399] : List D) = ([12, 40, 60, 399] : List Int).map .int from rfl, ixv]
    simp only [wRet, wRetN, wEO, wPE, wOE, wC, wVar, wVarF, wAndV, wNotV, wOrV, wIsi, wNext, wSeq, wDrop, wIfS, wSet, wPar, wAsg, wCall, wCallB, wCallK, wCallG, wMove, wCons, wNil, wVCons, wVNil, wOCons, wONil, wFn, wFnE, wFnN, wS, wSE, wSV, wCh, wET, wAnd, wOr, DL.wNot, wTup, wLst, wIf, wIx, wRaise, wMthN, gAppend, gtName, gtCons, gtNil, gtSeq, iSeq, OT.tn, D.tn, NK.tn, isTy, gCmp, gEq, gNe, gIsN, gNotN, gIsB, gNotB, isNon_non, gLen, OT.size, OT.out, t0, List.getElem?_cons_zero, List.getElem?_cons_succ, List.set_cons_zero, List.set_cons_succ, List.map_cons, List.map_nil, OT.flat_fz, flat_nd', OT.dsOf_fz, dsOf_nil, dsOf_cons, Option.map_some, List.length_cons, List.length_nil, List.length_map, List.cons_append, List.nil_append, List.append_nil, wBin, gAdd, DL.gSub, gMul, gInt, List.getD_cons_zero, OT.whole_fz, OT.frz_fz, OT.whole_nd', OT.wholeL_fz, OT.wholeL_nil, OT.wholeL_cons, OT.frz_nd', map_frz_fz, ixo0, ixo1, ixo2, ixt0, ixt1, ixl0, ixl1, unAt, reAt, wSl, wPt, wNoPt, wSlE, wPtE, wNoPtE, OT.cut, wSetIx, lName, atP_nil, putP_nil, gSetM, ixN30, ixN31, ixN32, ne_eq, not_false_eq_true, not_true_eq_false, reduceCtorEq, if_true, if_false, if_pos, decide_true, decide_false, Bool.true_or, Bool.false_or, Bool.or_false, Bool.or_true, Bool.not_true, Bool.not_false, true_and, and_true, Option.some.injEq, exists_eq_left', String.reduceEq, Nat.zero_add, Nat.reduceAdd, Nat.reduceLT, Nat.lt_add_one, Bool.and_false, Bool.and_true, Bool.false_and, Bool.true_and, Bool.not_true, Bool.not_false, Bool.false_eq_true, pickL, eqv_int, eqv_bl, shaped_int, shaped_bl, shaped_non, wRev, wPeek, wListRg1, wLenSet, wMth, lIx, ixl2, ixl3, ixl4, ixt2, ixp0, ixp1, ixN20, ixN21, OT.flat_nd, wStar2, wTupOf, wDNew]
    refine ⟨pc2.ne, by decide, pc2.ne, c + 1, t2, v, rfl, pc2, by omega, by omega, by omega, fun p t3 p0 p1 pc3 => ?_⟩
    simp only [wRet, wRetN, wEO, wPE, wOE, wC, wVar, wVarF, wAndV, wNotV, wOrV, wIsi, wNext, wSeq, wDrop, wIfS, wSet, wPar, wAsg, wCall, wCallB, wCallK, wCallG, wMove, wCons, wNil, wVCons, wVNil, wOCons, wONil, wFn, wFnE, wFnN, wS, wSE, wSV, wCh, wET, wAnd, wOr, DL.wNot, wTup, wLst, wIf, wIx, wRaise, wMthN, gAppend, gtName, gtCons, gtNil, gtSeq, iSeq, OT.tn, D.tn, NK.tn, isTy, gCmp, gEq, gNe, gIsN, gNotN, gIsB, gNotB, isNon_non, gLen, OT.size, OT.out, t0, List.getElem?_cons_zero, List.getElem?_cons_succ, List.set_cons_zero, List.set_cons_succ, List.map_cons, List.map_nil, OT.flat_fz, flat_nd', OT.dsOf_fz, dsOf_nil, dsOf_cons, Option.map_some, List.length_cons, List.length_nil, List.length_map, List.cons_append, List.nil_append, List.append_nil, wBin, gAdd, DL.gSub, gMul, gInt, List.getD_cons_zero, OT.whole_fz, OT.frz_fz, OT.whole_nd', OT.wholeL_fz, OT.wholeL_nil, OT.wholeL_cons, OT.frz_nd', map_frz_fz, ixo0, ixo1, ixo2, ixt0, ixt1, ixl0, ixl1, unAt, reAt, wSl, wPt, wNoPt, wSlE, wPtE, wNoPtE, OT.cut, wSetIx, lName, atP_nil, putP_nil, gSetM, ixN30, ixN31, ixN32, ne_eq, not_false_eq_true, not_true_eq_false, reduceCtorEq, if_true, if_false, if_pos, decide_true, decide_false, Bool.true_or, Bool.false_or, Bool.or_false, Bool.or_true, Bool.not_true, Bool.not_false, true_and, and_true, Option.some.injEq, exists_eq_left', String.reduceEq, Nat.zero_add, Nat.reduceAdd, Nat.reduceLT, Nat.lt_add_one, Bool.and_false, Bool.and_true, Bool.false_and, Bool.true_and, Bool.not_true, Bool.not_false, Bool.false_eq_true, pickL, eqv_int, eqv_bl, shaped_int, shaped_bl, shaped_non, wRev, wPeek, wListRg1, wLenSet, wMth, lIx, ixl2, ixl3, ixl4, ixt2, ixp0, ixp1, ixN20, ixN21, OT.flat_nd, wStar2, wTupOf, wDNew]
    refine hN4 _ ?_
    simp only [wIxE, wRet, wRetN, wEO, wPE, wOE, wC, wVar, wVarF, wAndV, wNotV, wOrV, wIsi, wNext, wSeq, wDrop, wIfS, wSet, wPar, wAsg, wCall, wCallB, wCallK, wCallG, wMove, wCons, wNil, wVCons, wVNil, wOCons, wONil, wFn, wFnE, wFnN, wS, wSE, wSV, wCh, wET, wAnd, wOr, DL.wNot, wTup, wLst, wIf, wIx, wRaise, wMthN, gAppend, gtName, gtCons, gtNil, gtSeq, iSeq, OT.tn, D.tn, NK.tn, isTy, gCmp, gEq, gNe, gIsN, gNotN, gIsB, gNotB, isNon_non, gLen, OT.size, OT.out, t0, List.getElem?_cons_zero, List.getElem?_cons_succ, List.set_cons_zero, List.set_cons_succ, List.map_cons, List.map_nil, OT.flat_fz, flat_nd', OT.dsOf_fz, dsOf_nil, dsOf_cons, Option.map_some, List.length_cons, List.length_nil, List.length_map, List.cons_append, List.nil_append, List.append_nil, wBin, gAdd, DL.gSub, gMul, gInt, List.getD_cons_zero, OT.whole_fz, OT.frz_fz, OT.whole_nd', OT.wholeL_fz, OT.wholeL_nil, OT.wholeL_cons, OT.frz_nd', map_frz_fz, ixo0, ixo1, ixo2, ixt0, ixt1, ixl0, ixl1, unAt, reAt, wSl, wPt, wNoPt, wSlE, wPtE, wNoPtE, OT.cut, wSetIx, lName, atP_nil, putP_nil, gSetM, ixN30, ixN31, ixN32, ne_eq, not_false_eq_true, not_true_eq_false, reduceCtorEq, if_true, if_false, if_pos, decide_true, decide_false, Bool.true_or, Bool.false_or, Bool.or_false, Bool.or_true, Bool.not_true, Bool.not_false, true_and, and_true, Option.some.injEq, exists_eq_left', String.reduceEq, Nat.zero_add, Nat.reduceAdd, Nat.reduceLT, Nat.lt_add_one, Bool.and_false, Bool.and_true, Bool.false_and, Bool.true_and, Bool.not_true, Bool.not_false, Bool.false_eq_true, pickL, eqv_int, eqv_bl, shaped_int, shaped_bl, shaped_non, wRev, wPeek, wListRg1, wLenSet, wMth, lIx, ixl2, ixl3, ixl4, ixt2, ixp0, ixp1, ixN20, ixN21, OT.flat_nd, wStar2, wTupOf, wDNew]
    rw [show ([D.int 3, .int 6, .int 20, .int 20] : List D) = ([3, 6, 20, 20] : List Int).map .int from rfl, ixu]
    simp only [wRet, wRetN, wEO, wPE, wOE, wC, wVar, wVarF, wAndV, wNotV, wOrV, wIsi, wNext, wSeq, wDrop, wIfS, wSet, wPar, wAsg, wCall, wCallB, wCallK, wCallG, wMove, wCons, wNil, wVCons, wVNil, wOCons, wONil, wFn, wFnE, wFnN, wS, wSE, wSV, wCh, wET, wAnd, wOr, DL.wNot, wTup, wLst, wIf, wIx, wRaise, wMthN, gAppend, gtName, gtCons, gtNil, gtSeq, iSeq, OT.tn, D.tn, NK.tn, isTy, gCmp, gEq, gNe, gIsN, gNotN, gIsB, gNotB, isNon_non, gLen, OT.size, OT.out, t0, List.getElem?_cons_zero, List.getElem?_cons_succ, List.set_cons_zero, List.set_cons_succ, List.map_cons, List.map_nil, OT.flat_fz, flat_nd', OT.dsOf_fz, dsOf_nil, dsOf_cons, Option.map_some, List.length_cons, List.length_nil, List.length_map, List.cons_append, List.nil_append, List.append_nil, wBin, gAdd, DL.gSub, gMul, gInt, List.getD_cons_zero, OT.whole_fz, OT.frz_fz, OT.whole_nd', OT.wholeL_fz, OT.wholeL_nil, OT.wholeL_cons, OT.frz_nd', map_frz_fz, ixo0, ixo1, ixo2, ixt0, ixt1, ixl0, ixl1, unAt, reAt, wSl, wPt, wNoPt, wSlE, wPtE, wNoPtE, OT.cut, wSetIx, lName, atP_nil, putP_nil, gSetM, ixN30, ixN31, ixN32, ne_eq, not_false_eq_true, not_true_eq_false, reduceCtorEq, if_true, if_false, if_pos, decide_true, decide_false, Bool.true_or, Bool.false_or, Bool.or_false, Bool.or_true, Bool.not_true, Bool.not_false, true_and, and_true, Option.some.injEq, exists_eq_left', String.reduceEq, Nat.zero_add, Nat.reduceAdd, Nat.reduceLT, Nat.lt_add_one, Bool.and_false, Bool.and_true, Bool.false_and, Bool.true_and, Bool.not_true, Bool.not_false, Bool.false_eq_true, pickL, eqv_int, eqv_bl, shaped_int, shaped_bl, shaped_non, wRev, wPeek, wListRg1, wLenSet, wMth, lIx, ixl2, ixl3, ixl4, ixt2, ixp0, ixp1, ixN20, ixN21, OT.flat_nd, wStar2, wTupOf, wDNew]
    refine ⟨⟨_, rfl⟩, pc3.ne, by decide, pc3.ne, c + 2, t3, u, rfl, pc3.mono, by omega, by omega, by omega, fun l t4 l0 l1 pc4 => ?_⟩
    simp only [frs_len, wRet, wRetN, wEO, wPE, wOE, wC, wVar, wVarF, wAndV, wNotV, wOrV, wIsi, wNext, wSeq, wDrop, wIfS, wSet, wPar, wAsg, wCall, wCallB, wCallK, wCallG, wMove, wCons, wNil, wVCons, wVNil, wOCons, wONil, wFn, wFnE, wFnN, wS, wSE, wSV, wCh, wET, wAnd, wOr, DL.wNot, wTup, wLst, wIf, wIx, wRaise, wMthN, gAppend, gtName, gtCons, gtNil, gtSeq, iSeq, OT.tn, D.tn, NK.tn, isTy, gCmp, gEq, gNe, gIsN, gNotN, gIsB, gNotB, isNon_non, gLen, OT.size, OT.out, t0, List.getElem?_cons_zero, List.getElem?_cons_succ, List.set_cons_zero, List.set_cons_succ, List.map_cons, List.map_nil, OT.flat_fz, flat_nd', OT.dsOf_fz, dsOf_nil, dsOf_cons, Option.map_some, List.length_cons, List.length_nil, List.length_map, List.cons_append, List.nil_append, List.append_nil, wBin, gAdd, DL.gSub, gMul, gInt, List.getD_cons_zero, OT.whole_fz, OT.frz_fz, OT.whole_nd', OT.wholeL_fz, OT.wholeL_nil, OT.wholeL_cons, OT.frz_nd', map_frz_fz, ixo0, ixo1, ixo2, ixt0, ixt1, ixl0, ixl1, unAt, reAt, wSl, wPt, wNoPt, wSlE, wPtE, wNoPtE, OT.cut, wSetIx, lName, atP_nil, putP_nil, gSetM, ixN30, ixN31, ixN32, ne_eq, not_false_eq_true, not_true_eq_false, reduceCtorEq, if_true, if_false, if_pos, decide_true, decide_false, Bool.true_or, Bool.false_or, Bool.or_false, Bool.or_true, Bool.not_true, Bool.not_false, true_and, and_true, Option.some.injEq, exists_eq_left', String.reduceEq, Nat.zero_add, Nat.reduceAdd, Nat.reduceLT, Nat.lt_add_one, Bool.and_false, Bool.and_true, Bool.false_and, Bool.true_and, Bool.not_true, Bool.not_false, Bool.false_eq_true, pickL, eqv_int, eqv_bl, shaped_int, shaped_bl, shaped_non, wRev, wPeek, wListRg1, wLenSet, wMth, lIx, ixl2, ixl3, ixl4, ixt2, ixp0, ixp1, ixN20, ixN21, OT.flat_nd, wStar2, wTupOf, wDNew]
    refine ⟨by decide, Nat.lt_of_le_of_lt (by omega : ps.length ≤ 8) (by decide), ?_⟩
    rw [show OT.fz (.nd .tup [.int (2 + p), .int (1 + l)]) = OT.fz (fr (2 + p, 1 + l)) from rfl, frs_snoc]
    refine hM _ ⟨ps ++ [(2 + p, 1 + l)], c + 3, t4, _, _, _, rfl, pc4.mono, by omega, fun x hx => ?_, ?_⟩
    · rcases List.mem_append.mp hx with hx | hx
      · exact hf x hx
      · rw [List.mem_singleton] at hx; subst hx; unfold FrOk; dsimp only; omega
    · rw [List.length_append, List.length_singleton]; omega
  · rintro env ⟨ps, c, t, z1, z2, z3, rfl, pc, hc, hf, hl⟩
    apply hN
    simp only [wRet, wRetN, wEO, wPE, wOE, wC, wVar, wVarF, wAndV, wNotV, wOrV, wIsi, wNext, wSeq, wDrop, wIfS, wSet, wPar, wAsg, wCall, wCallB, wCallK, wCallG, wMove, wCons, wNil, wVCons, wVNil, wOCons, wONil, wFn, wFnE, wFnN, wS, wSE, wSV, wCh, wET, wAnd, wOr, DL.wNot, wTup, wLst, wIf, wIx, wRaise, wMthN, gAppend, gtName, gtCons, gtNil, gtSeq, iSeq, OT.tn, D.tn, NK.tn, isTy, gCmp, gEq, gNe, gIsN, gNotN, gIsB, gNotB, isNon_non, gLen, OT.size, OT.out, t0, List.getElem?_cons_zero, List.getElem?_cons_succ, List.set_cons_zero, List.set_cons_succ, List.map_cons, List.map_nil, OT.flat_fz, flat_nd', OT.dsOf_fz, dsOf_nil, dsOf_cons, Option.map_some, List.length_cons, List.length_nil, List.length_map, List.cons_append, List.nil_append, List.append_nil, wBin, gAdd, DL.gSub, gMul, gInt, List.getD_cons_zero, OT.whole_fz, OT.frz_fz, OT.whole_nd', OT.wholeL_fz, OT.wholeL_nil, OT.wholeL_cons, OT.frz_nd', map_frz_fz, ixo0, ixo1, ixo2, ixt0, ixt1, ixl0, ixl1, unAt, reAt, wSl, wPt, wNoPt, wSlE, wPtE, wNoPtE, OT.cut, wSetIx, lName, atP_nil, putP_nil, gSetM, ixN30, ixN31, ixN32, ne_eq, not_false_eq_true, not_true_eq_false, reduceCtorEq, if_true, if_false, if_pos, decide_true, decide_false, Bool.true_or, Bool.false_or, Bool.or_false, Bool.or_true, Bool.not_true, Bool.not_false, true_and, and_true, Option.some.injEq, exists_eq_left', String.reduceEq, Nat.zero_add, Nat.reduceAdd, Nat.reduceLT, Nat.lt_add_one, Bool.and_false, Bool.and_true, Bool.false_and, Bool.true_and, Bool.not_true, Bool.not_false, Bool.false_eq_true, pickL, eqv_int, eqv_bl, shaped_int, shaped_bl, shaped_non, wRev, wPeek, wListRg1, wLenSet, wMth, lIx, ixl2, ixl3, ixl4, ixt2, ixp0, ixp1, ixN20, ixN21, OT.flat_nd, wStar2, wTupOf, wDNew]
    rw [List.length_nil] at hc hl
    exact h ps t (by omega) hf pc.mono
  · exact ⟨[], b + 1, t', _, _, _, rfl, p1, by rw [rangeD_len]; omega, (fun _ z => nomatch z), by rw [rangeD_len]; simp only [List.length_nil]; omega⟩
def PhOk (n : Nat) (phs : List Int) : Prop := phs.length = n ∧ ∀ p ∈ phs, 0 ≤ p ∧ p ≤ 400
def sp__law_phases : FSpec := fun args R _ => ∃ (b : Int) (t : OT) (ps : List (Int × Int)), args = [t, .fz (planD ps)] ∧ Pot b t ∧ b + 10 ≤ 10 ^ 6 ∧ PlOk ps ∧ ∀ (phs : List Int) (t' : OT), PhOk ps.length phs → (∀ q ∈ ps.zip phs, q.2 < q.1.1) → Pot (b + 10) t' → R (.nd .lst ((numsD phs).map .fz)) t'
theorem map_nums (f : Int × Int → Int) (g : D → D) (h : ∀ q, g (fr q) = .int (f q)) (ps : List (Int × Int)) : (frs ps).map g = numsD (ps.map f) := by
  unfold frs numsD
  rw [List.map_map, List.map_map]
  exact List.map_congr_left fun q _ => h q
theorem zip_map_lt {f : Int × Int → Int} {ps : List (Int × Int)} (h : ∀ q ∈ ps, f q < q.1) : ∀ q ∈ ps.zip (ps.map f), q.2 < q.1.1 := by
  induction ps with
  | nil => intro q hq; cases hq
  | cons p ps ih =>
    intro q hq
    rw [List.map_cons, List.zip_cons_cons] at hq
    rcases List.mem_cons.mp hq with rfl | hq
    · exact h _ List.mem_cons_self
    · exact ih (fun q hq => h q (List.mem_cons_of_mem _ hq)) q hq
def w__law_phases (xq : XQ) : WS := (wSeq (wSet 2 (wCallB 0 sp__law_dip xq [] (wCons (wPE (wC (.int 4))) wNil)))
    (wSeq (wIfS (wET (wPE (wS gEq (wVar 2) (wC (.int 0))))) (wRet (wLc [3] (iSeq (wVarF 1)) (gtName 3) wYes (wPE (wC (.int 0))))) wNext)
    (wSeq (wIfS (wET (wPE (wS gEq (wVar 2) (wC (.int 1))))) (wRet (wLc [4, 5] (iSeq (wVarF 1)) (gtSeq 2 (gtCons (gtName 4) (gtCons (gtName 5) gtNil))) wYes (wOE (wBin gSub (wVarF 4) (wPE (wC (.int 1))))))) wNext)
    (wRet (wLc [4, 5] (iSeq (wVarF 1)) (gtSeq 2 (gtCons (gtName 4) (gtCons (gtName 5) gtNil))) wYes (wOE (wCallB 0 sp__law_dip noX [] (wCons (wVarF 4) wNil))))))))
theorem len__law_phases : ∀ args R RX, sp__law_phases args R RX → args.length = 2 := by rintro _ _ _ ⟨b, t, ps, rfl, _⟩; rfl
theorem pu__law_phases : ∀ args R RX, sp__law_phases args R RX → w__law_phases (fun x env => RX x (t0 true env)) { nx := fun env => R (.fz .non) (t0 true env), rt := fun t env => R t (t0 true env) } (args ++ List.replicate (["pot", "plan", "way", "one", "period", "length"].length - args.length) .un) := by
  rintro _ R RX ⟨b, t, ps, rfl, ht, hb, pl, h⟩
  have n8 := pl.1
  change w__law_phases _ _ [t, .fz (planD ps), .un, .un, .un, .un]
  refine cut fun N hN => ?_
  simp only [wRet, wRetN, wEO, wPE, wOE, wC, wVar, wVarF, wAndV, wNotV, wOrV, wIsi, wNext, wSeq, wDrop, wIfS, wSet, wPar, wAsg, wCall, wCallB, wCallK, wCallG, wMove, wCons, wNil, wVCons, wVNil, wOCons, wONil, wFn, wFnE, wFnN, wS, wSE, wSV, wCh, wET, wAnd, wOr, DL.wNot, wTup, wLst, wIf, wIx, wRaise, wMthN, gAppend, gtName, gtCons, gtNil, gtSeq, iSeq, OT.tn, D.tn, NK.tn, isTy, gCmp, gEq, gNe, gIsN, gNotN, gIsB, gNotB, isNon_non, gLen, OT.size, OT.out, t0, List.getElem?_cons_zero, List.getElem?_cons_succ, List.set_cons_zero, List.set_cons_succ, List.map_cons, List.map_nil, OT.flat_fz, flat_nd', OT.dsOf_fz, dsOf_nil, dsOf_cons, Option.map_some, List.length_cons, List.length_nil, List.length_map, List.cons_append, List.nil_append, List.append_nil, wBin, gAdd, DL.gSub, gMul, gInt, List.getD_cons_zero, OT.whole_fz, OT.frz_fz, OT.whole_nd', OT.wholeL_fz, OT.wholeL_nil, OT.wholeL_cons, OT.frz_nd', map_frz_fz, ixo0, ixo1, ixo2, ixt0, ixt1, ixl0, ixl1, unAt, reAt, wSl, wPt, wNoPt, wSlE, wPtE, wNoPtE, OT.cut, wSetIx, lName, atP_nil, putP_nil, gSetM, ixN30, ixN31, ixN32, ne_eq, not_false_eq_true, not_true_eq_false, reduceCtorEq, if_true, if_false, if_pos, decide_true, decide_false, Bool.true_or, Bool.false_or, Bool.or_false, Bool.or_true, Bool.not_true, Bool.not_false, true_and, and_true, Option.some.injEq, exists_eq_left', String.reduceEq, Nat.zero_add, Nat.reduceAdd, Nat.reduceLT, Nat.lt_add_one, Bool.and_false, Bool.and_true, Bool.false_and, Bool.true_and, Bool.not_true, Bool.not_false, Bool.false_eq_true, pickL, eqv_int, eqv_bl, shaped_int, shaped_bl, shaped_non, wRev, wPeek, wListRg1, wLenSet, wMth, lIx, ixl2, ixl3, ixl4, ixt2, ixp0, ixp1, ixN20, ixN21, OT.flat_nd, wStar2, wTupOf, wDNew]
  refine ⟨ht.ne, ht.ne, b, t, 4, rfl, ht, by omega, by omega, by omega, fun w t1 w0 w6 p1 => ?_⟩
  simp only [wRet, wRetN, wEO, wPE, wOE, wC, wVar, wVarF, wAndV, wNotV, wOrV, wIsi, wNext, wSeq, wDrop, wIfS, wSet, wPar, wAsg, wCall, wCallB, wCallK, wCallG, wMove, wCons, wNil, wVCons, wVNil, wOCons, wONil, wFn, wFnE, wFnN, wS, wSE, wSV, wCh, wET, wAnd, wOr, DL.wNot, wTup, wLst, wIf, wIx, wRaise, wMthN, gAppend, gtName, gtCons, gtNil, gtSeq, iSeq, OT.tn, D.tn, NK.tn, isTy, gCmp, gEq, gNe, gIsN, gNotN, gIsB, gNotB, isNon_non, gLen, OT.size, OT.out, t0, List.getElem?_cons_zero, List.getElem?_cons_succ, List.set_cons_zero, List.set_cons_succ, List.map_cons, List.map_nil, OT.flat_fz, flat_nd', OT.dsOf_fz, dsOf_nil, dsOf_cons, Option.map_some, List.length_cons, List.length_nil, List.length_map, List.cons_append, List.nil_append, List.append_nil, wBin, gAdd, DL.gSub, gMul, gInt, List.getD_cons_zero, OT.whole_fz, OT.frz_fz, OT.whole_nd', OT.wholeL_fz, OT.wholeL_nil, OT.wholeL_cons, OT.frz_nd', map_frz_fz, ixo0, ixo1, ixo2, ixt0, ixt1, ixl0, ixl1, unAt, reAt, wSl, wPt, wNoPt, wSlE, wPtE, wNoPtE, OT.cut, wSetIx, lName, atP_nil, putP_nil, gSetM, ixN30, ixN31, ixN32, ne_eq, not_false_eq_true, not_true_eq_false, reduceCtorEq, if_true, if_false, if_pos, decide_true, decide_false, Bool.true_or, Bool.false_or, Bool.or_false, Bool.or_true, Bool.not_true, Bool.not_false, true_and, and_true, Option.some.injEq, exists_eq_left', String.reduceEq, Nat.zero_add, Nat.reduceAdd, Nat.reduceLT, Nat.lt_add_one, Bool.and_false, Bool.and_true, Bool.false_and, Bool.true_and, Bool.not_true, Bool.not_false, Bool.false_eq_true, pickL, eqv_int, eqv_bl, shaped_int, shaped_bl, shaped_non, wRev, wPeek, wListRg1, wLenSet, wMth, lIx, ixl2, ixl3, ixl4, ixt2, ixp0, ixp1, ixN20, ixN21, OT.flat_nd, wStar2, wTupOf, wDNew]
  refine hN _ (cut fun N hN => ?_)
  have s8 : ([] : List D).length + (frs ps).length ≤ sizeLine := by rw [frs_len, List.length_nil]; exact Nat.le_trans (by omega : _ ≤ 8) (by decide)
  simp only [planD, wRet, wRetN, wEO, wPE, wOE, wC, wVar, wVarF, wAndV, wNotV, wOrV, wIsi, wNext, wSeq, wDrop, wIfS, wSet, wPar, wAsg, wCall, wCallB, wCallK, wCallG, wMove, wCons, wNil, wVCons, wVNil, wOCons, wONil, wFn, wFnE, wFnN, wS, wSE, wSV, wCh, wET, wAnd, wOr, DL.wNot, wTup, wLst, wIf, wIx, wRaise, wMthN, gAppend, gtName, gtCons, gtNil, gtSeq, iSeq, OT.tn, D.tn, NK.tn, isTy, gCmp, gEq, gNe, gIsN, gNotN, gIsB, gNotB, isNon_non, gLen, OT.size, OT.out, t0, List.getElem?_cons_zero, List.getElem?_cons_succ, List.set_cons_zero, List.set_cons_succ, List.map_cons, List.map_nil, OT.flat_fz, flat_nd', OT.dsOf_fz, dsOf_nil, dsOf_cons, Option.map_some, List.length_cons, List.length_nil, List.length_map, List.cons_append, List.nil_append, List.append_nil, wBin, gAdd, DL.gSub, gMul, gInt, List.getD_cons_zero, OT.whole_fz, OT.frz_fz, OT.whole_nd', OT.wholeL_fz, OT.wholeL_nil, OT.wholeL_cons, OT.frz_nd', map_frz_fz, ixo0, ixo1, ixo2, ixt0, ixt1, ixl0, ixl1, unAt, reAt, wSl, wPt, wNoPt, wSlE, wPtE, wNoPtE, OT.cut, wSetIx, lName, atP_nil, putP_nil, gSetM, ixN30, ixN31, ixN32, ne_eq, not_false_eq_true, not_true_eq_false, reduceCtorEq, if_true, if_false, if_pos, decide_true, decide_false, Bool.true_or, Bool.false_or, Bool.or_false, Bool.or_true, Bool.not_true, Bool.not_false, true_and, and_true, Option.some.injEq, exists_eq_left', String.reduceEq, Nat.zero_add, Nat.reduceAdd, Nat.reduceLT, Nat.lt_add_one, Bool.and_false, Bool.and_true, Bool.false_and, Bool.true_and, Bool.not_true, Bool.not_false, Bool.false_eq_true, pickL, eqv_int, eqv_bl, shaped_int, shaped_bl, shaped_non, wRev, wPeek, wListRg1, wLenSet, wMth, lIx, ixl2, ixl3, ixl4, ixt2, ixp0, ixp1, ixN20, ixN21, OT.flat_nd, wStar2, wTupOf, wDNew]
  by_cases e0 : w = 0
  · refine ifT e0 ?_
    unfold wLc
    simp only [wRet, wRetN, wEO, wPE, wOE, wC, wVar, wVarF, wAndV, wNotV, wOrV, wIsi, wNext, wSeq, wDrop, wIfS, wSet, wPar, wAsg, wCall, wCallB, wCallK, wCallG, wMove, wCons, wNil, wVCons, wVNil, wOCons, wONil, wFn, wFnE, wFnN, wS, wSE, wSV, wCh, wET, wAnd, wOr, DL.wNot, wTup, wLst, wIf, wIx, wRaise, wMthN, gAppend, gtName, gtCons, gtNil, gtSeq, iSeq, OT.tn, D.tn, NK.tn, isTy, gCmp, gEq, gNe, gIsN, gNotN, gIsB, gNotB, isNon_non, gLen, OT.size, OT.out, t0, List.getElem?_cons_zero, List.getElem?_cons_succ, List.set_cons_zero, List.set_cons_succ, List.map_cons, List.map_nil, OT.flat_fz, flat_nd', OT.dsOf_fz, dsOf_nil, dsOf_cons, Option.map_some, List.length_cons, List.length_nil, List.length_map, List.cons_append, List.nil_append, List.append_nil, wBin, gAdd, DL.gSub, gMul, gInt, List.getD_cons_zero, OT.whole_fz, OT.frz_fz, OT.whole_nd', OT.wholeL_fz, OT.wholeL_nil, OT.wholeL_cons, OT.frz_nd', map_frz_fz, ixo0, ixo1, ixo2, ixt0, ixt1, ixl0, ixl1, unAt, reAt, wSl, wPt, wNoPt, wSlE, wPtE, wNoPtE, OT.cut, wSetIx, lName, atP_nil, putP_nil, gSetM, ixN30, ixN31, ixN32, ne_eq, not_false_eq_true, not_true_eq_false, reduceCtorEq, if_true, if_false, if_pos, decide_true, decide_false, Bool.true_or, Bool.false_or, Bool.or_false, Bool.or_true, Bool.not_true, Bool.not_false, true_and, and_true, Option.some.injEq, exists_eq_left', String.reduceEq, Nat.zero_add, Nat.reduceAdd, Nat.reduceLT, Nat.lt_add_one, Bool.and_false, Bool.and_true, Bool.false_and, Bool.true_and, Bool.not_true, Bool.not_false, Bool.false_eq_true, pickL, eqv_int, eqv_bl, shaped_int, shaped_bl, shaped_non, wRev, wPeek, wListRg1, wLenSet, wMth, lIx, ixl2, ixl3, ixl4, ixt2, ixp0, ixp1, ixN20, ixN21, OT.flat_nd, wStar2, wTupOf, wDNew]
    refine lc_pure (fun e => e = [t1, .fz (.nd .lst (frs ps)), .fz (.int w), .un, .un, .un]) (fun _ => .int 0) (frs ps) [] _ rfl (fun d hd env Q' hI q => ?_) s8 fun e he => ?_
    · subst hI
      simp only [wRet, wRetN, wEO, wPE, wOE, wC, wVar, wVarF, wAndV, wNotV, wOrV, wIsi, wNext, wSeq, wDrop, wIfS, wSet, wPar, wAsg, wCall, wCallB, wCallK, wCallG, wMove, wCons, wNil, wVCons, wVNil, wOCons, wONil, wFn, wFnE, wFnN, wS, wSE, wSV, wCh, wET, wAnd, wOr, DL.wNot, wTup, wLst, wIf, wIx, wRaise, wMthN, gAppend, gtName, gtCons, gtNil, gtSeq, iSeq, OT.tn, D.tn, NK.tn, isTy, gCmp, gEq, gNe, gIsN, gNotN, gIsB, gNotB, isNon_non, gLen, OT.size, OT.out, t0, List.getElem?_cons_zero, List.getElem?_cons_succ, List.set_cons_zero, List.set_cons_succ, List.map_cons, List.map_nil, OT.flat_fz, flat_nd', OT.dsOf_fz, dsOf_nil, dsOf_cons, Option.map_some, List.length_cons, List.length_nil, List.length_map, List.cons_append, List.nil_append, List.append_nil, wBin, gAdd, DL.gSub, gMul, gInt, List.getD_cons_zero, OT.whole_fz, OT.frz_fz, OT.whole_nd', OT.wholeL_fz, OT.wholeL_nil, OT.wholeL_cons, OT.frz_nd', map_frz_fz, ixo0, ixo1, ixo2, ixt0, ixt1, ixl0, ixl1, unAt, reAt, wSl, wPt, wNoPt, wSlE, wPtE, wNoPtE, OT.cut, wSetIx, lName, atP_nil, putP_nil, gSetM, ixN30, ixN31, ixN32, ne_eq, not_false_eq_true, not_true_eq_false, reduceCtorEq, if_true, if_false, if_pos, decide_true, decide_false, Bool.true_or, Bool.false_or, Bool.or_false, Bool.or_true, Bool.not_true, Bool.not_false, true_and, and_true, Option.some.injEq, exists_eq_left', String.reduceEq, Nat.zero_add, Nat.reduceAdd, Nat.reduceLT, Nat.lt_add_one, Bool.and_false, Bool.and_true, Bool.false_and, Bool.true_and, Bool.not_true, Bool.not_false, Bool.false_eq_true, pickL, eqv_int, eqv_bl, shaped_int, shaped_bl, shaped_non, wRev, wPeek, wListRg1, wLenSet, wMth, lIx, ixl2, ixl3, ixl4, ixt2, ixp0, ixp1, ixN20, ixN21, OT.flat_nd, wStar2, wTupOf, wDNew]
      exact q _ rfl
    subst he
    rw [List.nil_append, map_nums (fun _ => 0) _ (fun _ => rfl)]
    refine h _ t1 ⟨by simp, fun p hp => ?_⟩ (zip_map_lt fun q hq => by have := (pl.2 q hq).1; omega) p1.mono
    obtain ⟨q, hq, rfl⟩ := List.mem_map.mp hp
    omega
  refine ifF e0 (hN _ (cut fun N hN => ?_))
  simp only [wRet, wRetN, wEO, wPE, wOE, wC, wVar, wVarF, wAndV, wNotV, wOrV, wIsi, wNext, wSeq, wDrop, wIfS, wSet, wPar, wAsg, wCall, wCallB, wCallK, wCallG, wMove, wCons, wNil, wVCons, wVNil, wOCons, wONil, wFn, wFnE, wFnN, wS, wSE, wSV, wCh, wET, wAnd, wOr, DL.wNot, wTup, wLst, wIf, wIx, wRaise, wMthN, gAppend, gtName, gtCons, gtNil, gtSeq, iSeq, OT.tn, D.tn, NK.tn, isTy, gCmp, gEq, gNe, gIsN, gNotN, gIsB, gNotB, isNon_non, gLen, OT.size, OT.out, t0, List.getElem?_cons_zero, List.getElem?_cons_succ, List.set_cons_zero, List.set_cons_succ, List.map_cons, List.map_nil, OT.flat_fz, flat_nd', OT.dsOf_fz, dsOf_nil, dsOf_cons, Option.map_some, List.length_cons, List.length_nil, List.length_map, List.cons_append, List.nil_append, List.append_nil, wBin, gAdd, DL.gSub, gMul, gInt, List.getD_cons_zero, OT.whole_fz, OT.frz_fz, OT.whole_nd', OT.wholeL_fz, OT.wholeL_nil, OT.wholeL_cons, OT.frz_nd', map_frz_fz, ixo0, ixo1, ixo2, ixt0, ixt1, ixl0, ixl1, unAt, reAt, wSl, wPt, wNoPt, wSlE, wPtE, wNoPtE, OT.cut, wSetIx, lName, atP_nil, putP_nil, gSetM, ixN30, ixN31, ixN32, ne_eq, not_false_eq_true, not_true_eq_false, reduceCtorEq, if_true, if_false, if_pos, decide_true, decide_false, Bool.true_or, Bool.false_or, Bool.or_false, Bool.or_true, Bool.not_true, Bool.not_false, true_and, and_true, Option.some.injEq, exists_eq_left', String.reduceEq, Nat.zero_add, Nat.reduceAdd, Nat.reduceLT, Nat.lt_add_one, Bool.and_false, Bool.and_true, Bool.false_and, Bool.true_and, Bool.not_true, Bool.not_false, Bool.false_eq_true, pickL, eqv_int, eqv_bl, shaped_int, shaped_bl, shaped_non, wRev, wPeek, wListRg1, wLenSet, wMth, lIx, ixl2, ixl3, ixl4, ixt2, ixp0, ixp1, ixN20, ixN21, OT.flat_nd, wStar2, wTupOf, wDNew]
  by_cases e1 : w = 1
  · refine ifT e1 ?_
    unfold wLc
    simp only [wRet, wRetN, wEO, wPE, wOE, wC, wVar, wVarF, wAndV, wNotV, wOrV, wIsi, wNext, wSeq, wDrop, wIfS, wSet, wPar, wAsg, wCall, wCallB, wCallK, wCallG, wMove, wCons, wNil, wVCons, wVNil, wOCons, wONil, wFn, wFnE, wFnN, wS, wSE, wSV, wCh, wET, wAnd, wOr, DL.wNot, wTup, wLst, wIf, wIx, wRaise, wMthN, gAppend, gtName, gtCons, gtNil, gtSeq, iSeq, OT.tn, D.tn, NK.tn, isTy, gCmp, gEq, gNe, gIsN, gNotN, gIsB, gNotB, isNon_non, gLen, OT.size, OT.out, t0, List.getElem?_cons_zero, List.getElem?_cons_succ, List.set_cons_zero, List.set_cons_succ, List.map_cons, List.map_nil, OT.flat_fz, flat_nd', OT.dsOf_fz, dsOf_nil, dsOf_cons, Option.map_some, List.length_cons, List.length_nil, List.length_map, List.cons_append, List.nil_append, List.append_nil, wBin, gAdd, DL.gSub, gMul, gInt, List.getD_cons_zero, OT.whole_fz, OT.frz_fz, OT.whole_nd', OT.wholeL_fz, OT.wholeL_nil, OT.wholeL_cons, OT.frz_nd', map_frz_fz, ixo0, ixo1, ixo2, ixt0, ixt1, ixl0, ixl1, unAt, reAt, wSl, wPt, wNoPt, wSlE, wPtE, wNoPtE, OT.cut, wSetIx, lName, atP_nil, putP_nil, gSetM, ixN30, ixN31, ixN32, ne_eq, not_false_eq_true, not_true_eq_false, reduceCtorEq, if_true, if_false, if_pos, decide_true, decide_false, Bool.true_or, Bool.false_or, Bool.or_false, Bool.or_true, Bool.not_true, Bool.not_false, true_and, and_true, Option.some.injEq, exists_eq_left', String.reduceEq, Nat.zero_add, Nat.reduceAdd, Nat.reduceLT, Nat.lt_add_one, Bool.and_false, Bool.and_true, Bool.false_and, Bool.true_and, Bool.not_true, Bool.not_false, Bool.false_eq_true, pickL, eqv_int, eqv_bl, shaped_int, shaped_bl, shaped_non, wRev, wPeek, wListRg1, wLenSet, wMth, lIx, ixl2, ixl3, ixl4, ixt2, ixp0, ixp1, ixN20, ixN21, OT.flat_nd, wStar2, wTupOf, wDNew]
    refine lc_pure (fun e => e = [t1, .fz (.nd .lst (frs ps)), .fz (.int w), .un, .un, .un]) (fun d => match d with | .nd .tup [.int p, .int l] => .int (p - 1) | _ => .non) (frs ps) [] _ rfl (fun d hd env Q' hI q => ?_) s8 fun e he => ?_
    · subst hI
      obtain ⟨x, hx, rfl⟩ := List.mem_map.mp hd
      simp only [fr, wRet, wRetN, wEO, wPE, wOE, wC, wVar, wVarF, wAndV, wNotV, wOrV, wIsi, wNext, wSeq, wDrop, wIfS, wSet, wPar, wAsg, wCall, wCallB, wCallK, wCallG, wMove, wCons, wNil, wVCons, wVNil, wOCons, wONil, wFn, wFnE, wFnN, wS, wSE, wSV, wCh, wET, wAnd, wOr, DL.wNot, wTup, wLst, wIf, wIx, wRaise, wMthN, gAppend, gtName, gtCons, gtNil, gtSeq, iSeq, OT.tn, D.tn, NK.tn, isTy, gCmp, gEq, gNe, gIsN, gNotN, gIsB, gNotB, isNon_non, gLen, OT.size, OT.out, t0, List.getElem?_cons_zero, List.getElem?_cons_succ, List.set_cons_zero, List.set_cons_succ, List.map_cons, List.map_nil, OT.flat_fz, flat_nd', OT.dsOf_fz, dsOf_nil, dsOf_cons, Option.map_some, List.length_cons, List.length_nil, List.length_map, List.cons_append, List.nil_append, List.append_nil, wBin, gAdd, DL.gSub, gMul, gInt, List.getD_cons_zero, OT.whole_fz, OT.frz_fz, OT.whole_nd', OT.wholeL_fz, OT.wholeL_nil, OT.wholeL_cons, OT.frz_nd', map_frz_fz, ixo0, ixo1, ixo2, ixt0, ixt1, ixl0, ixl1, unAt, reAt, wSl, wPt, wNoPt, wSlE, wPtE, wNoPtE, OT.cut, wSetIx, lName, atP_nil, putP_nil, gSetM, ixN30, ixN31, ixN32, ne_eq, not_false_eq_true, not_true_eq_false, reduceCtorEq, if_true, if_false, if_pos, decide_true, decide_false, Bool.true_or, Bool.false_or, Bool.or_false, Bool.or_true, Bool.not_true, Bool.not_false, true_and, and_true, Option.some.injEq, exists_eq_left', String.reduceEq, Nat.zero_add, Nat.reduceAdd, Nat.reduceLT, Nat.lt_add_one, Bool.and_false, Bool.and_true, Bool.false_and, Bool.true_and, Bool.not_true, Bool.not_false, Bool.false_eq_true, pickL, eqv_int, eqv_bl, shaped_int, shaped_bl, shaped_non, wRev, wPeek, wListRg1, wLenSet, wMth, lIx, ixl2, ixl3, ixl4, ixt2, ixp0, ixp1, ixN20, ixN21, OT.flat_nd, wStar2, wTupOf, wDNew]
      exact q _ rfl
    subst he
    rw [List.nil_append, map_nums (fun q => q.1 - 1) _ (fun _ => rfl)]
    refine h _ t1 ⟨by simp, fun p hp => ?_⟩ (zip_map_lt fun q hq => by omega) p1.mono
    obtain ⟨q, hq, rfl⟩ := List.mem_map.mp hp
    have := (pl.2 q hq).1
    omega
  refine ifF e1 (hN _ ?_)
  unfold wRet wLc
  simp only [wRet, wRetN, wEO, wPE, wOE, wC, wVar, wVarF, wAndV, wNotV, wOrV, wIsi, wNext, wSeq, wDrop, wIfS, wSet, wPar, wAsg, wCall, wCallB, wCallK, wCallG, wMove, wCons, wNil, wVCons, wVNil, wOCons, wONil, wFn, wFnE, wFnN, wS, wSE, wSV, wCh, wET, wAnd, wOr, DL.wNot, wTup, wLst, wIf, wIx, wRaise, wMthN, gAppend, gtName, gtCons, gtNil, gtSeq, iSeq, OT.tn, D.tn, NK.tn, isTy, gCmp, gEq, gNe, gIsN, gNotN, gIsB, gNotB, isNon_non, gLen, OT.size, OT.out, t0, List.getElem?_cons_zero, List.getElem?_cons_succ, List.set_cons_zero, List.set_cons_succ, List.map_cons, List.map_nil, OT.flat_fz, flat_nd', OT.dsOf_fz, dsOf_nil, dsOf_cons, Option.map_some, List.length_cons, List.length_nil, List.length_map, List.cons_append, List.nil_append, List.append_nil, wBin, gAdd, DL.gSub, gMul, gInt, List.getD_cons_zero, OT.whole_fz, OT.frz_fz, OT.whole_nd', OT.wholeL_fz, OT.wholeL_nil, OT.wholeL_cons, OT.frz_nd', map_frz_fz, ixo0, ixo1, ixo2, ixt0, ixt1, ixl0, ixl1, unAt, reAt, wSl, wPt, wNoPt, wSlE, wPtE, wNoPtE, OT.cut, wSetIx, lName, atP_nil, putP_nil, gSetM, ixN30, ixN31, ixN32, ne_eq, not_false_eq_true, not_true_eq_false, reduceCtorEq, if_true, if_false, if_pos, decide_true, decide_false, Bool.true_or, Bool.false_or, Bool.or_false, Bool.or_true, Bool.not_true, Bool.not_false, true_and, and_true, Option.some.injEq, exists_eq_left', String.reduceEq, Nat.zero_add, Nat.reduceAdd, Nat.reduceLT, Nat.lt_add_one, Bool.and_false, Bool.and_true, Bool.false_and, Bool.true_and, Bool.not_true, Bool.not_false, Bool.false_eq_true, pickL, eqv_int, eqv_bl, shaped_int, shaped_bl, shaped_non, wRev, wPeek, wListRg1, wLenSet, wMth, lIx, ixl2, ixl3, ixl4, ixt2, ixp0, ixp1, ixN20, ixN21, OT.flat_nd, wStar2, wTupOf, wDNew]
  refine lc_inv (fun ds acc e => ∃ (rs hs : List (Int × Int)) (got : List Int) (t' : OT), ds = frs rs ∧ ps = hs ++ rs ∧ acc = numsD got ∧ got.length = hs.length ∧ (∀ q ∈ hs.zip got, q.2 < q.1.1) ∧ (∀ d ∈ got, 0 ≤ d ∧ d ≤ 400) ∧ Pot (b + 1 + got.length) t' ∧ e = [t', .fz (.nd .lst (frs ps)), .fz (.int w), .un, .un, .un]) ?_ ?_ _ _ _ ⟨ps, [], [], t1, rfl, rfl, rfl, rfl, (fun _ z => nomatch z), (fun _ z => nomatch z), p1.mono (by simp), rfl⟩ ?_
  · rintro d ds acc env E ⟨rs, hs, got, t'', e1, eps, rfl, lg, kz, kg, p'', rfl⟩ hE
    cases rs with
    | nil => cases e1
    | cons x rs =>
      cases e1
      have hx := pl.2 x (by rw [eps]; simp)
      have l8 : hs.length + rs.length + 1 ≤ 8 := by rw [eps, List.length_append, List.length_cons] at n8; omega
      simp only [fr, wRet, wRetN, wEO, wPE, wOE, wC, wVar, wVarF, wAndV, wNotV, wOrV, wIsi, wNext, wSeq, wDrop, wIfS, wSet, wPar, wAsg, wCall, wCallB, wCallK, wCallG, wMove, wCons, wNil, wVCons, wVNil, wOCons, wONil, wFn, wFnE, wFnN, wS, wSE, wSV, wCh, wET, wAnd, wOr, DL.wNot, wTup, wLst, wIf, wIx, wRaise, wMthN, gAppend, gtName, gtCons, gtNil, gtSeq, iSeq, OT.tn, D.tn, NK.tn, isTy, gCmp, gEq, gNe, gIsN, gNotN, gIsB, gNotB, isNon_non, gLen, OT.size, OT.out, t0, List.getElem?_cons_zero, List.getElem?_cons_succ, List.set_cons_zero, List.set_cons_succ, List.map_cons, List.map_nil, OT.flat_fz, flat_nd', OT.dsOf_fz, dsOf_nil, dsOf_cons, Option.map_some, List.length_cons, List.length_nil, List.length_map, List.cons_append, List.nil_append, List.append_nil, wBin, gAdd, DL.gSub, gMul, gInt, List.getD_cons_zero, OT.whole_fz, OT.frz_fz, OT.whole_nd', OT.wholeL_fz, OT.wholeL_nil, OT.wholeL_cons, OT.frz_nd', map_frz_fz, ixo0, ixo1, ixo2, ixt0, ixt1, ixl0, ixl1, unAt, reAt, wSl, wPt, wNoPt, wSlE, wPtE, wNoPtE, OT.cut, wSetIx, lName, atP_nil, putP_nil, gSetM, ixN30, ixN31, ixN32, ne_eq, not_false_eq_true, not_true_eq_false, reduceCtorEq, if_true, if_false, if_pos, decide_true, decide_false, Bool.true_or, Bool.false_or, Bool.or_false, Bool.or_true, Bool.not_true, Bool.not_false, true_and, and_true, Option.some.injEq, exists_eq_left', String.reduceEq, Nat.zero_add, Nat.reduceAdd, Nat.reduceLT, Nat.lt_add_one, Bool.and_false, Bool.and_true, Bool.false_and, Bool.true_and, Bool.not_true, Bool.not_false, Bool.false_eq_true, pickL, eqv_int, eqv_bl, shaped_int, shaped_bl, shaped_non, wRev, wPeek, wListRg1, wLenSet, wMth, lIx, ixl2, ixl3, ixl4, ixt2, ixp0, ixp1, ixN20, ixN21, OT.flat_nd, wStar2, wTupOf, wDNew]
      have := hx.1
      refine ⟨p''.ne, p''.ne, b + 1 + got.length, t'', x.1, rfl, p'', by omega, by omega, by omega, fun n t4 n0 n1 p4 => ?_⟩
      simp only [wRet, wRetN, wEO, wPE, wOE, wC, wVar, wVarF, wAndV, wNotV, wOrV, wIsi, wNext, wSeq, wDrop, wIfS, wSet, wPar, wAsg, wCall, wCallB, wCallK, wCallG, wMove, wCons, wNil, wVCons, wVNil, wOCons, wONil, wFn, wFnE, wFnN, wS, wSE, wSV, wCh, wET, wAnd, wOr, DL.wNot, wTup, wLst, wIf, wIx, wRaise, wMthN, gAppend, gtName, gtCons, gtNil, gtSeq, iSeq, OT.tn, D.tn, NK.tn, isTy, gCmp, gEq, gNe, gIsN, gNotN, gIsB, gNotB, isNon_non, gLen, OT.size, OT.out, t0, List.getElem?_cons_zero, List.getElem?_cons_succ, List.set_cons_zero, List.set_cons_succ, List.map_cons, List.map_nil, OT.flat_fz, flat_nd', OT.dsOf_fz, dsOf_nil, dsOf_cons, Option.map_some, List.length_cons, List.length_nil, List.length_map, List.cons_append, List.nil_append, List.append_nil, wBin, gAdd, DL.gSub, gMul, gInt, List.getD_cons_zero, OT.whole_fz, OT.frz_fz, OT.whole_nd', OT.wholeL_fz, OT.wholeL_nil, OT.wholeL_cons, OT.frz_nd', map_frz_fz, ixo0, ixo1, ixo2, ixt0, ixt1, ixl0, ixl1, unAt, reAt, wSl, wPt, wNoPt, wSlE, wPtE, wNoPtE, OT.cut, wSetIx, lName, atP_nil, putP_nil, gSetM, ixN30, ixN31, ixN32, ne_eq, not_false_eq_true, not_true_eq_false, reduceCtorEq, if_true, if_false, if_pos, decide_true, decide_false, Bool.true_or, Bool.false_or, Bool.or_false, Bool.or_true, Bool.not_true, Bool.not_false, true_and, and_true, Option.some.injEq, exists_eq_left', String.reduceEq, Nat.zero_add, Nat.reduceAdd, Nat.reduceLT, Nat.lt_add_one, Bool.and_false, Bool.and_true, Bool.false_and, Bool.true_and, Bool.not_true, Bool.not_false, Bool.false_eq_true, pickL, eqv_int, eqv_bl, shaped_int, shaped_bl, shaped_non, wRev, wPeek, wListRg1, wLenSet, wMth, lIx, ixl2, ixl3, ixl4, ixt2, ixp0, ixp1, ixN20, ixN21, OT.flat_nd, wStar2, wTupOf, wDNew]
      refine hE _ _ ⟨rs, hs ++ [x], got ++ [n], t4, rfl, by rw [eps]; simp, by rw [← nums_app]; rfl, by rw [List.length_append, List.length_append, lg]; rfl, fun q hq => ?_, fun d hd => ?_, p4.mono (by rw [List.length_append, List.length_singleton]; omega), rfl⟩
      · rw [List.zip_append lg.symm] at hq
        rcases List.mem_append.mp hq with hq | hq
        · exact kz q hq
        · rw [show [x].zip [n] = [(x, n)] from rfl, List.mem_singleton] at hq
          rw [hq]; exact n1
      · rcases List.mem_append.mp hd with hd | hd
        · exact kg d hd
        · rw [List.mem_singleton.mp hd]; omega
  · rintro acc e ⟨rs, hs, got, t'', e1, eps, rfl, lg, kz, kg, p'', rfl⟩
    cases rs with
    | cons x rs => cases e1
    | nil =>
      rw [List.append_nil] at eps
      subst eps
      simp only [wRet, wRetN, wEO, wPE, wOE, wC, wVar, wVarF, wAndV, wNotV, wOrV, wIsi, wNext, wSeq, wDrop, wIfS, wSet, wPar, wAsg, wCall, wCallB, wCallK, wCallG, wMove, wCons, wNil, wVCons, wVNil, wOCons, wONil, wFn, wFnE, wFnN, wS, wSE, wSV, wCh, wET, wAnd, wOr, DL.wNot, wTup, wLst, wIf, wIx, wRaise, wMthN, gAppend, gtName, gtCons, gtNil, gtSeq, iSeq, OT.tn, D.tn, NK.tn, isTy, gCmp, gEq, gNe, gIsN, gNotN, gIsB, gNotB, isNon_non, gLen, OT.size, OT.out, t0, List.getElem?_cons_zero, List.getElem?_cons_succ, List.set_cons_zero, List.set_cons_succ, List.map_cons, List.map_nil, OT.flat_fz, flat_nd', OT.dsOf_fz, dsOf_nil, dsOf_cons, Option.map_some, List.length_cons, List.length_nil, List.length_map, List.cons_append, List.nil_append, List.append_nil, wBin, gAdd, DL.gSub, gMul, gInt, List.getD_cons_zero, OT.whole_fz, OT.frz_fz, OT.whole_nd', OT.wholeL_fz, OT.wholeL_nil, OT.wholeL_cons, OT.frz_nd', map_frz_fz, ixo0, ixo1, ixo2, ixt0, ixt1, ixl0, ixl1, unAt, reAt, wSl, wPt, wNoPt, wSlE, wPtE, wNoPtE, OT.cut, wSetIx, lName, atP_nil, putP_nil, gSetM, ixN30, ixN31, ixN32, ne_eq, not_false_eq_true, not_true_eq_false, reduceCtorEq, if_true, if_false, if_pos, decide_true, decide_false, Bool.true_or, Bool.false_or, Bool.or_false, Bool.or_true, Bool.not_true, Bool.not_false, true_and, and_true, Option.some.injEq, exists_eq_left', String.reduceEq, Nat.zero_add, Nat.reduceAdd, Nat.reduceLT, Nat.lt_add_one, Bool.and_false, Bool.and_true, Bool.false_and, Bool.true_and, Bool.not_true, Bool.not_false, Bool.false_eq_true, pickL, eqv_int, eqv_bl, shaped_int, shaped_bl, shaped_non, wRev, wPeek, wListRg1, wLenSet, wMth, lIx, ixl2, ixl3, ixl4, ixt2, ixp0, ixp1, ixN20, ixN21, OT.flat_nd, wStar2, wTupOf, wDNew]
      exact h got t'' ⟨lg, kg⟩ kz (p''.mono (by omega))
  · exact s8
/-- rising ticks -/
def BrOk (hs : List Int) : Prop := hs.length ≤ 25 ∧ hs.Pairwise (· < ·) ∧ ∀ x ∈ hs, 0 ≤ x
def sp__law_breaks : FSpec := fun args R _ => ∃ (b : Int) (t : OT) (reach : Int), args = [t, .fz (.int reach)] ∧ Pot b t ∧ b + 40 ≤ 10 ^ 6 ∧ 0 ≤ reach ∧ reach ≤ 10000 ∧ ∀ (hs : List Int) (t' : OT), BrOk hs → Pot (b + 40) t' → R (.fz (.nd .tup (numsD hs))) t'
theorem rising_snoc {hs : List Int} {a x : Int} (h : hs.Pairwise (· < ·)) (k : ∀ y ∈ hs, y ≤ a) (l : a < x) : (hs ++ [x]).Pairwise (· < ·) := by
  rw [List.pairwise_append]
  refine ⟨h, List.pairwise_singleton _ _, fun y hy z hz => ?_⟩
  rw [List.mem_singleton.mp hz]
  have := k y hy
  omega
def w__law_breaks (xq : XQ) : WS := (wSeq (wSet 2 (wCallB 0 sp__law_dip xq [] (wCons (wPE (wC (.int 4))) wNil)))
    (wSeq (wIfS (wET (wPE (wS gEq (wVar 2) (wC (.int 0))))) (wRet (wEO (wTup wNil))) wNext)
    (wSeq (wSet 3 (wLst wNil))
    (wSeq (wSet 4 (wBin gSub (wOE (wCallB 0 sp__law_dip xq [] (wCons (wPE (wC (.int 12))) wNil))) (wPE (wC (.int 1)))))
    (wSeq (wFor (iRange1 (wCons (wOE (wCallB 0 sp__law_dip xq [] (wCons (wIxE (wOE (wLst (wCons (wPE (wC (.int 6))) (wCons (wPE (wC (.int 12))) (wCons (wPE (wC (.int 25))) wNil))))) (wOE (wBin gSub (wVarF 2) (wPE (wC (.int 1)))))) wNil))) wNil)) (gtName 5) (wSeq (wSet 4 (wBin gAdd (wOE (wBin gAdd (wVarF 4) (wPE (wC (.int 1))))) (wOE (wCallB 0 sp__law_dip xq [] (wCons (wIxE (wOE (wLst (wCons (wOE (wBin gAdd (wOE (wBin gDiv (wVarF 1) (wPE (wC (.int 4))))) (wPE (wC (.int 1))))) (wCons (wPE (wC (.int 12))) (wCons (wPE (wC (.int 3))) wNil))))) (wOE (wBin gSub (wVarF 2) (wPE (wC (.int 1)))))) wNil)))))
    (wDrop (wMthN 3 gAppend (wOCons (wEO (wVarF 4)) wONil)))))
    (wRet (wTupOf (wVarF 3))))))))
theorem len__law_breaks : ∀ args R RX, sp__law_breaks args R RX → args.length = 2 := by rintro _ _ _ ⟨b, t, ps, rfl, _⟩; rfl
theorem pu__law_breaks : ∀ args R RX, sp__law_breaks args R RX → w__law_breaks (fun x env => RX x (t0 true env)) { nx := fun env => R (.fz .non) (t0 true env), rt := fun t env => R t (t0 true env) } (args ++ List.replicate (["pot", "reach", "way", "found", "at", "k"].length - args.length) .un) := by
  rintro _ R RX ⟨b, t, reach, rfl, ht, hb, r0, r1, h⟩
  change w__law_breaks _ _ [t, .fz (.int reach), .un, .un, .un, .un]
  refine cut fun N hN => ?_
  simp only [wRet, wRetN, wEO, wPE, wOE, wC, wVar, wVarF, wAndV, wNotV, wOrV, wIsi, wNext, wSeq, wDrop, wIfS, wSet, wPar, wAsg, wCall, wCallB, wCallK, wCallG, wMove, wCons, wNil, wVCons, wVNil, wOCons, wONil, wFn, wFnE, wFnN, wS, wSE, wSV, wCh, wET, wAnd, wOr, DL.wNot, wTup, wLst, wIf, wIx, wRaise, wMthN, gAppend, gtName, gtCons, gtNil, gtSeq, iSeq, OT.tn, D.tn, NK.tn, isTy, gCmp, gEq, gNe, gIsN, gNotN, gIsB, gNotB, isNon_non, gLen, OT.size, OT.out, t0, List.getElem?_cons_zero, List.getElem?_cons_succ, List.set_cons_zero, List.set_cons_succ, List.map_cons, List.map_nil, OT.flat_fz, flat_nd', OT.dsOf_fz, dsOf_nil, dsOf_cons, Option.map_some, List.length_cons, List.length_nil, List.length_map, List.cons_append, List.nil_append, List.append_nil, wBin, gAdd, DL.gSub, gMul, gInt, List.getD_cons_zero, OT.whole_fz, OT.frz_fz, OT.whole_nd', OT.wholeL_fz, OT.wholeL_nil, OT.wholeL_cons, OT.frz_nd', map_frz_fz, ixo0, ixo1, ixo2, ixt0, ixt1, ixl0, ixl1, unAt, reAt, wSl, wPt, wNoPt, wSlE, wPtE, wNoPtE, OT.cut, wSetIx, lName, atP_nil, putP_nil, gSetM, ixN30, ixN31, ixN32, ne_eq, not_false_eq_true, not_true_eq_false, reduceCtorEq, if_true, if_false, if_pos, decide_true, decide_false, Bool.true_or, Bool.false_or, Bool.or_false, Bool.or_true, Bool.not_true, Bool.not_false, true_and, and_true, Option.some.injEq, exists_eq_left', String.reduceEq, Nat.zero_add, Nat.reduceAdd, Nat.reduceLT, Nat.lt_add_one, Bool.and_false, Bool.and_true, Bool.false_and, Bool.true_and, Bool.not_true, Bool.not_false, Bool.false_eq_true, pickL, eqv_int, eqv_bl, shaped_int, shaped_bl, shaped_non, wRev, wPeek, wListRg1, wLenSet, wMth, lIx, ixl2, ixl3, ixl4, ixt2, ixp0, ixp1, ixN20, ixN21, OT.flat_nd, wStar2, wTupOf, wDNew]
  refine ⟨ht.ne, ht.ne, b, t, 4, rfl, ht, by omega, by omega, by omega, fun w t1 w0 w6 p1 => ?_⟩
  simp only [wRet, wRetN, wEO, wPE, wOE, wC, wVar, wVarF, wAndV, wNotV, wOrV, wIsi, wNext, wSeq, wDrop, wIfS, wSet, wPar, wAsg, wCall, wCallB, wCallK, wCallG, wMove, wCons, wNil, wVCons, wVNil, wOCons, wONil, wFn, wFnE, wFnN, wS, wSE, wSV, wCh, wET, wAnd, wOr, DL.wNot, wTup, wLst, wIf, wIx, wRaise, wMthN, gAppend, gtName, gtCons, gtNil, gtSeq, iSeq, OT.tn, D.tn, NK.tn, isTy, gCmp, gEq, gNe, gIsN, gNotN, gIsB, gNotB, isNon_non, gLen, OT.size, OT.out, t0, List.getElem?_cons_zero, List.getElem?_cons_succ, List.set_cons_zero, List.set_cons_succ, List.map_cons, List.map_nil, OT.flat_fz, flat_nd', OT.dsOf_fz, dsOf_nil, dsOf_cons, Option.map_some, List.length_cons, List.length_nil, List.length_map, List.cons_append, List.nil_append, List.append_nil, wBin, gAdd, DL.gSub, gMul, gInt, List.getD_cons_zero, OT.whole_fz, OT.frz_fz, OT.whole_nd', OT.wholeL_fz, OT.wholeL_nil, OT.wholeL_cons, OT.frz_nd', map_frz_fz, ixo0, ixo1, ixo2, ixt0, ixt1, ixl0, ixl1, unAt, reAt, wSl, wPt, wNoPt, wSlE, wPtE, wNoPtE, OT.cut, wSetIx, lName, atP_nil, putP_nil, gSetM, ixN30, ixN31, ixN32, ne_eq, not_false_eq_true, not_true_eq_false, reduceCtorEq, if_true, if_false, if_pos, decide_true, decide_false, Bool.true_or, Bool.false_or, Bool.or_false, Bool.or_true, Bool.not_true, Bool.not_false, true_and, and_true, Option.some.injEq, exists_eq_left', String.reduceEq, Nat.zero_add, Nat.reduceAdd, Nat.reduceLT, Nat.lt_add_one, Bool.and_false, Bool.and_true, Bool.false_and, Bool.true_and, Bool.not_true, Bool.not_false, Bool.false_eq_true, pickL, eqv_int, eqv_bl, shaped_int, shaped_bl, shaped_non, wRev, wPeek, wListRg1, wLenSet, wMth, lIx, ixl2, ixl3, ixl4, ixt2, ixp0, ixp1, ixN20, ixN21, OT.flat_nd, wStar2, wTupOf, wDNew]
  refine hN _ (cut fun N hN => ?_)
  simp only [wRet, wRetN, wEO, wPE, wOE, wC, wVar, wVarF, wAndV, wNotV, wOrV, wIsi, wNext, wSeq, wDrop, wIfS, wSet, wPar, wAsg, wCall, wCallB, wCallK, wCallG, wMove, wCons, wNil, wVCons, wVNil, wOCons, wONil, wFn, wFnE, wFnN, wS, wSE, wSV, wCh, wET, wAnd, wOr, DL.wNot, wTup, wLst, wIf, wIx, wRaise, wMthN, gAppend, gtName, gtCons, gtNil, gtSeq, iSeq, OT.tn, D.tn, NK.tn, isTy, gCmp, gEq, gNe, gIsN, gNotN, gIsB, gNotB, isNon_non, gLen, OT.size, OT.out, t0, List.getElem?_cons_zero, List.getElem?_cons_succ, List.set_cons_zero, List.set_cons_succ, List.map_cons, List.map_nil, OT.flat_fz, flat_nd', OT.dsOf_fz, dsOf_nil, dsOf_cons, Option.map_some, List.length_cons, List.length_nil, List.length_map, List.cons_append, List.nil_append, List.append_nil, wBin, gAdd, DL.gSub, gMul, gInt, List.getD_cons_zero, OT.whole_fz, OT.frz_fz, OT.whole_nd', OT.wholeL_fz, OT.wholeL_nil, OT.wholeL_cons, OT.frz_nd', map_frz_fz, ixo0, ixo1, ixo2, ixt0, ixt1, ixl0, ixl1, unAt, reAt, wSl, wPt, wNoPt, wSlE, wPtE, wNoPtE, OT.cut, wSetIx, lName, atP_nil, putP_nil, gSetM, ixN30, ixN31, ixN32, ne_eq, not_false_eq_true, not_true_eq_false, reduceCtorEq, if_true, if_false, if_pos, decide_true, decide_false, Bool.true_or, Bool.false_or, Bool.or_false, Bool.or_true, Bool.not_true, Bool.not_false, true_and, and_true, Option.some.injEq, exists_eq_left', String.reduceEq, Nat.zero_add, Nat.reduceAdd, Nat.reduceLT, Nat.lt_add_one, Bool.and_false, Bool.and_true, Bool.false_and, Bool.true_and, Bool.not_true, Bool.not_false, Bool.false_eq_true, pickL, eqv_int, eqv_bl, shaped_int, shaped_bl, shaped_non, wRev, wPeek, wListRg1, wLenSet, wMth, lIx, ixl2, ixl3, ixl4, ixt2, ixp0, ixp1, ixN20, ixN21, OT.flat_nd, wStar2, wTupOf, wDNew]
  by_cases e0 : w = 0
  · refine ifT e0 ?_
    exact ⟨by decide, h [] t1 ⟨by decide, List.Pairwise.nil, fun _ z => nomatch z⟩ p1.mono⟩
  refine ifF e0 (hN _ (cut fun N hN => ?_))
  simp only [wRet, wRetN, wEO, wPE, wOE, wC, wVar, wVarF, wAndV, wNotV, wOrV, wIsi, wNext, wSeq, wDrop, wIfS, wSet, wPar, wAsg, wCall, wCallB, wCallK, wCallG, wMove, wCons, wNil, wVCons, wVNil, wOCons, wONil, wFn, wFnE, wFnN, wS, wSE, wSV, wCh, wET, wAnd, wOr, DL.wNot, wTup, wLst, wIf, wIx, wRaise, wMthN, gAppend, gtName, gtCons, gtNil, gtSeq, iSeq, OT.tn, D.tn, NK.tn, isTy, gCmp, gEq, gNe, gIsN, gNotN, gIsB, gNotB, isNon_non, gLen, OT.size, OT.out, t0, List.getElem?_cons_zero, List.getElem?_cons_succ, List.set_cons_zero, List.set_cons_succ, List.map_cons, List.map_nil, OT.flat_fz, flat_nd', OT.dsOf_fz, dsOf_nil, dsOf_cons, Option.map_some, List.length_cons, List.length_nil, List.length_map, List.cons_append, List.nil_append, List.append_nil, wBin, gAdd, DL.gSub, gMul, gInt, List.getD_cons_zero, OT.whole_fz, OT.frz_fz, OT.whole_nd', OT.wholeL_fz, OT.wholeL_nil, OT.wholeL_cons, OT.frz_nd', map_frz_fz, ixo0, ixo1, ixo2, ixt0, ixt1, ixl0, ixl1, unAt, reAt, wSl, wPt, wNoPt, wSlE, wPtE, wNoPtE, OT.cut, wSetIx, lName, atP_nil, putP_nil, gSetM, ixN30, ixN31, ixN32, ne_eq, not_false_eq_true, not_true_eq_false, reduceCtorEq, if_true, if_false, if_pos, decide_true, decide_false, Bool.true_or, Bool.false_or, Bool.or_false, Bool.or_true, Bool.not_true, Bool.not_false, true_and, and_true, Option.some.injEq, exists_eq_left', String.reduceEq, Nat.zero_add, Nat.reduceAdd, Nat.reduceLT, Nat.lt_add_one, Bool.and_false, Bool.and_true, Bool.false_and, Bool.true_and, Bool.not_true, Bool.not_false, Bool.false_eq_true, pickL, eqv_int, eqv_bl, shaped_int, shaped_bl, shaped_non, wRev, wPeek, wListRg1, wLenSet, wMth, lIx, ixl2, ixl3, ixl4, ixt2, ixp0, ixp1, ixN20, ixN21, OT.flat_nd, wStar2, wTupOf, wDNew]
  refine ⟨by decide, hN _ (cut fun N hN => ?_)⟩
  simp only [wRet, wRetN, wEO, wPE, wOE, wC, wVar, wVarF, wAndV, wNotV, wOrV, wIsi, wNext, wSeq, wDrop, wIfS, wSet, wPar, wAsg, wCall, wCallB, wCallK, wCallG, wMove, wCons, wNil, wVCons, wVNil, wOCons, wONil, wFn, wFnE, wFnN, wS, wSE, wSV, wCh, wET, wAnd, wOr, DL.wNot, wTup, wLst, wIf, wIx, wRaise, wMthN, gAppend, gtName, gtCons, gtNil, gtSeq, iSeq, OT.tn, D.tn, NK.tn, isTy, gCmp, gEq, gNe, gIsN, gNotN, gIsB, gNotB, isNon_non, gLen, OT.size, OT.out, t0, List.getElem?_cons_zero, List.getElem?_cons_succ, List.set_cons_zero, List.set_cons_succ, List.map_cons, List.map_nil, OT.flat_fz, flat_nd', OT.dsOf_fz, dsOf_nil, dsOf_cons, Option.map_some, List.length_cons, List.length_nil, List.length_map, List.cons_append, List.nil_append, List.append_nil, wBin, gAdd, DL.gSub, gMul, gInt, List.getD_cons_zero, OT.whole_fz, OT.frz_fz, OT.whole_nd', OT.wholeL_fz, OT.wholeL_nil, OT.wholeL_cons, OT.frz_nd', map_frz_fz, ixo0, ixo1, ixo2, ixt0, ixt1, ixl0, ixl1, unAt, reAt, wSl, wPt, wNoPt, wSlE, wPtE, wNoPtE, OT.cut, wSetIx, lName, atP_nil, putP_nil, gSetM, ixN30, ixN31, ixN32, ne_eq, not_false_eq_true, not_true_eq_false, reduceCtorEq, if_true, if_false, if_pos, decide_true, decide_false, Bool.true_or, Bool.false_or, Bool.or_false, Bool.or_true, Bool.not_true, Bool.not_false, true_and, and_true, Option.some.injEq, exists_eq_left', String.reduceEq, Nat.zero_add, Nat.reduceAdd, Nat.reduceLT, Nat.lt_add_one, Bool.and_false, Bool.and_true, Bool.false_and, Bool.true_and, Bool.not_true, Bool.not_false, Bool.false_eq_true, pickL, eqv_int, eqv_bl, shaped_int, shaped_bl, shaped_non, wRev, wPeek, wListRg1, wLenSet, wMth, lIx, ixl2, ixl3, ixl4, ixt2, ixp0, ixp1, ixN20, ixN21, OT.flat_nd, wStar2, wTupOf, wDNew]
  refine ⟨p1.ne, p1.ne, b + 1, t1, 12, rfl, p1, by omega, by omega, by omega, fun a t2 a0 a1 p2 => ?_⟩
  simp only [wRet, wRetN, wEO, wPE, wOE, wC, wVar, wVarF, wAndV, wNotV, wOrV, wIsi, wNext, wSeq, wDrop, wIfS, wSet, wPar, wAsg, wCall, wCallB, wCallK, wCallG, wMove, wCons, wNil, wVCons, wVNil, wOCons, wONil, wFn, wFnE, wFnN, wS, wSE, wSV, wCh, wET, wAnd, wOr, DL.wNot, wTup, wLst, wIf, wIx, wRaise, wMthN, gAppend, gtName, gtCons, gtNil, gtSeq, iSeq, OT.tn, D.tn, NK.tn, isTy, gCmp, gEq, gNe, gIsN, gNotN, gIsB, gNotB, isNon_non, gLen, OT.size, OT.out, t0, List.getElem?_cons_zero, List.getElem?_cons_succ, List.set_cons_zero, List.set_cons_succ, List.map_cons, List.map_nil, OT.flat_fz, flat_nd', OT.dsOf_fz, dsOf_nil, dsOf_cons, Option.map_some, List.length_cons, List.length_nil, List.length_map, List.cons_append, List.nil_append, List.append_nil, wBin, gAdd, DL.gSub, gMul, gInt, List.getD_cons_zero, OT.whole_fz, OT.frz_fz, OT.whole_nd', OT.wholeL_fz, OT.wholeL_nil, OT.wholeL_cons, OT.frz_nd', map_frz_fz, ixo0, ixo1, ixo2, ixt0, ixt1, ixl0, ixl1, unAt, reAt, wSl, wPt, wNoPt, wSlE, wPtE, wNoPtE, OT.cut, wSetIx, lName, atP_nil, putP_nil, gSetM, ixN30, ixN31, ixN32, ne_eq, not_false_eq_true, not_true_eq_false, reduceCtorEq, if_true, if_false, if_pos, decide_true, decide_false, Bool.true_or, Bool.false_or, Bool.or_false, Bool.or_true, Bool.not_true, Bool.not_false, true_and, and_true, Option.some.injEq, exists_eq_left', String.reduceEq, Nat.zero_add, Nat.reduceAdd, Nat.reduceLT, Nat.lt_add_one, Bool.and_false, Bool.and_true, Bool.false_and, Bool.true_and, Bool.not_true, Bool.not_false, Bool.false_eq_true, pickL, eqv_int, eqv_bl, shaped_int, shaped_bl, shaped_non, wRev, wPeek, wListRg1, wLenSet, wMth, lIx, ixl2, ixl3, ixl4, ixt2, ixp0, ixp1, ixN20, ixN21, OT.flat_nd, wStar2, wTupOf, wDNew]
  refine hN _ (cut fun N hN => ?_)
  obtain ⟨v, ev, ixv⟩ := ix_ints (ns := [6, 12, 25]) (show 0 ≤ w - 1 by omega) (by show w - 1 < 3; omega)
  obtain ⟨u, eu, ixu⟩ := ix_ints (ns := [reach / 4 + 1, 12, 3]) (show 0 ≤ w - 1 by omega) (by show w - 1 < 3; omega)
  have hv : (6 ≤ v ∧ v ≤ 25) ∧ 1 ≤ u ∧ u ≤ 2501 := by
    have hw : w = 1 ∨ w = 2 ∨ w = 3 := by omega
    rcases hw with rfl | rfl | rfl <;> (cases ev; cases eu; omega)
  unfold wFor
  simp only [wIxE, iRange1, wRet, wRetN, wEO, wPE, wOE, wC, wVar, wVarF, wAndV, wNotV, wOrV, wIsi, wNext, wSeq, wDrop, wIfS, wSet, wPar, wAsg, wCall, wCallB, wCallK, wCallG, wMove, wCons, wNil, wVCons, wVNil, wOCons, wONil, wFn, wFnE, wFnN, wS, wSE, wSV, wCh, wET, wAnd, wOr, DL.wNot, wTup, wLst, wIf, wIx, wRaise, wMthN, gAppend, gtName, gtCons, gtNil, gtSeq, iSeq, OT.tn, D.tn, NK.tn, isTy, gCmp, gEq, gNe, gIsN, gNotN, gIsB, gNotB, isNon_non, gLen, OT.size, OT.out, t0, List.getElem?_cons_zero, List.getElem?_cons_succ, List.set_cons_zero, List.set_cons_succ, List.map_cons, List.map_nil, OT.flat_fz, flat_nd', OT.dsOf_fz, dsOf_nil, dsOf_cons, Option.map_some, List.length_cons, List.length_nil, List.length_map, List.cons_append, List.nil_append, List.append_nil, wBin, gAdd, DL.gSub, gMul, gInt, List.getD_cons_zero, OT.whole_fz, OT.frz_fz, OT.whole_nd', OT.wholeL_fz, OT.wholeL_nil, OT.wholeL_cons, OT.frz_nd', map_frz_fz, ixo0, ixo1, ixo2, ixt0, ixt1, ixl0, ixl1, unAt, reAt, wSl, wPt, wNoPt, wSlE, wPtE, wNoPtE, OT.cut, wSetIx, lName, atP_nil, putP_nil, gSetM, ixN30, ixN31, ixN32, ne_eq, not_false_eq_true, not_true_eq_false, reduceCtorEq, if_true, if_false, if_pos, decide_true, decide_false, Bool.true_or, Bool.false_or, Bool.or_false, Bool.or_true, Bool.not_true, Bool.not_false, true_and, and_true, Option.some.injEq, exists_eq_left', String.reduceEq, Nat.zero_add, Nat.reduceAdd, Nat.reduceLT, Nat.lt_add_one, Bool.and_false, Bool.and_true, Bool.false_and, Bool.true_and, Bool.not_true, Bool.not_false, Bool.false_eq_true, pickL, eqv_int, eqv_bl, shaped_int, shaped_bl, shaped_non, wRev, wPeek, wListRg1, wLenSet, wMth, lIx, ixl2, ixl3, ixl4, ixt2, ixp0, ixp1, ixN20, ixN21, OT.flat_nd, wStar2, wTupOf, wDNew]
  rw [show ([D.int 6, .int 12, .int 25] : List D) = ([6, 12, 25] : List Int).map .int from rfl, ixv]
  simp only [wRet, wRetN, wEO, wPE, wOE, wC, wVar, wVarF, wAndV, wNotV, wOrV, wIsi, wNext, wSeq, wDrop, wIfS, wSet, wPar, wAsg, wCall, wCallB, wCallK, wCallG, wMove, wCons, wNil, wVCons, wVNil, wOCons, wONil, wFn, wFnE, wFnN, wS, wSE, wSV, wCh, wET, wAnd, wOr, DL.wNot, wTup, wLst, wIf, wIx, wRaise, wMthN, gAppend, gtName, gtCons, gtNil, gtSeq, iSeq, OT.tn, D.tn, NK.tn, isTy, gCmp, gEq, gNe, gIsN, gNotN, gIsB, gNotB, isNon_non, gLen, OT.size, OT.out, t0, List.getElem?_cons_zero, List.getElem?_cons_succ, List.set_cons_zero, List.set_cons_succ, List.map_cons, List.map_nil, OT.flat_fz, flat_nd', OT.dsOf_fz, dsOf_nil, dsOf_cons, Option.map_some, List.length_cons, List.length_nil, List.length_map, List.cons_append, List.nil_append, List.append_nil, wBin, gAdd, DL.gSub, gMul, gInt, List.getD_cons_zero, OT.whole_fz, OT.frz_fz, OT.whole_nd', OT.wholeL_fz, OT.wholeL_nil, OT.wholeL_cons, OT.frz_nd', map_frz_fz, ixo0, ixo1, ixo2, ixt0, ixt1, ixl0, ixl1, unAt, reAt, wSl, wPt, wNoPt, wSlE, wPtE, wNoPtE, OT.cut, wSetIx, lName, atP_nil, putP_nil, gSetM, ixN30, ixN31, ixN32, ne_eq, not_false_eq_true, not_true_eq_false, reduceCtorEq, if_true, if_false, if_pos, decide_true, decide_false, Bool.true_or, Bool.false_or, Bool.or_false, Bool.or_true, Bool.not_true, Bool.not_false, true_and, and_true, Option.some.injEq, exists_eq_left', String.reduceEq, Nat.zero_add, Nat.reduceAdd, Nat.reduceLT, Nat.lt_add_one, Bool.and_false, Bool.and_true, Bool.false_and, Bool.true_and, Bool.not_true, Bool.not_false, Bool.false_eq_true, pickL, eqv_int, eqv_bl, shaped_int, shaped_bl, shaped_non, wRev, wPeek, wListRg1, wLenSet, wMth, lIx, ixl2, ixl3, ixl4, ixt2, ixp0, ixp1, ixN20, ixN21, OT.flat_nd, wStar2, wTupOf, wDNew]
  refine ⟨p2.ne, by decide, p2.ne, b + 2, t2, v, rfl, p2.mono, by omega, by omega, by omega, fun n t3 n0 n1 p3 => ?_⟩
  simp only [wRet, wRetN, wEO, wPE, wOE, wC, wVar, wVarF, wAndV, wNotV, wOrV, wIsi, wNext, wSeq, wDrop, wIfS, wSet, wPar, wAsg, wCall, wCallB, wCallK, wCallG, wMove, wCons, wNil, wVCons, wVNil, wOCons, wONil, wFn, wFnE, wFnN, wS, wSE, wSV, wCh, wET, wAnd, wOr, DL.wNot, wTup, wLst, wIf, wIx, wRaise, wMthN, gAppend, gtName, gtCons, gtNil, gtSeq, iSeq, OT.tn, D.tn, NK.tn, isTy, gCmp, gEq, gNe, gIsN, gNotN, gIsB, gNotB, isNon_non, gLen, OT.size, OT.out, t0, List.getElem?_cons_zero, List.getElem?_cons_succ, List.set_cons_zero, List.set_cons_succ, List.map_cons, List.map_nil, OT.flat_fz, flat_nd', OT.dsOf_fz, dsOf_nil, dsOf_cons, Option.map_some, List.length_cons, List.length_nil, List.length_map, List.cons_append, List.nil_append, List.append_nil, wBin, gAdd, DL.gSub, gMul, gInt, List.getD_cons_zero, OT.whole_fz, OT.frz_fz, OT.whole_nd', OT.wholeL_fz, OT.wholeL_nil, OT.wholeL_cons, OT.frz_nd', map_frz_fz, ixo0, ixo1, ixo2, ixt0, ixt1, ixl0, ixl1, unAt, reAt, wSl, wPt, wNoPt, wSlE, wPtE, wNoPtE, OT.cut, wSetIx, lName, atP_nil, putP_nil, gSetM, ixN30, ixN31, ixN32, ne_eq, not_false_eq_true, not_true_eq_false, reduceCtorEq, if_true, if_false, if_pos, decide_true, decide_false, Bool.true_or, Bool.false_or, Bool.or_false, Bool.or_true, Bool.not_true, Bool.not_false, true_and, and_true, Option.some.injEq, exists_eq_left', String.reduceEq, Nat.zero_add, Nat.reduceAdd, Nat.reduceLT, Nat.lt_add_one, Bool.and_false, Bool.and_true, Bool.false_and, Bool.true_and, Bool.not_true, Bool.not_false, Bool.false_eq_true, pickL, eqv_int, eqv_bl, shaped_int, shaped_bl, shaped_non, wRev, wPeek, wListRg1, wLenSet, wMth, lIx, ixl2, ixl3, ixl4, ixt2, ixp0, ixp1, ixN20, ixN21, OT.flat_nd, wStar2, wTupOf, wDNew]
  refine ⟨by unfold Small62; omega, ?_⟩
  refine for_inv (fun ds e => ∃ (hs : List Int) (c a : Int) (t : OT) (z : OT), e = [t, .fz (.int reach), .fz (.int w), .nd .lst ((numsD hs).map .fz), .fz (.int a), z] ∧ Pot c t ∧ c + ds.length ≤ b + 40 ∧ -1 ≤ a ∧ hs.Pairwise (· < ·) ∧ (∀ x ∈ hs, 0 ≤ x ∧ x ≤ a) ∧ hs.length + ds.length ≤ 25) ?_ ?_ _ _ ?_
  · rintro d ds env M hM ⟨hs, c, a, t, z, rfl, pc, hc, ha, hp, hk, hl⟩
    rw [List.length_cons] at hc hl
    refine ⟨by simp, cut fun N3 hN3 => ?_⟩
    simp only [wIxE, wRet, wRetN, wEO, wPE, wOE, wC, wVar, wVarF, wAndV, wNotV, wOrV, wIsi, wNext, wSeq, wDrop, wIfS, wSet, wPar, wAsg, wCall, wCallB, wCallK, wCallG, wMove, wCons, wNil, wVCons, wVNil, wOCons, wONil, wFn, wFnE, wFnN, wS, wSE, wSV, wCh, wET, wAnd, wOr, DL.wNot, wTup, wLst, wIf, wIx, wRaise, wMthN, gAppend, gtName, gtCons, gtNil, gtSeq, iSeq, OT.tn, D.tn, NK.tn, isTy, gCmp, gEq, gNe, gIsN, gNotN, gIsB, gNotB, isNon_non, gLen, OT.size, OT.out, t0, List.getElem?_cons_zero, List.getElem?_cons_succ, List.set_cons_zero, List.set_cons_succ, List.map_cons, List.map_nil, OT.flat_fz, flat_nd', OT.dsOf_fz, dsOf_nil, dsOf_cons, Option.map_some, List.length_cons, List.length_nil, List.length_map, List.cons_append, List.nil_append, List.append_nil, wBin, gAdd, DL.gSub, gMul, gInt, List.getD_cons_zero, OT.whole_fz, OT.frz_fz, OT.whole_nd', OT.wholeL_fz, OT.wholeL_nil, OT.wholeL_cons, OT.frz_nd', map_frz_fz, ixo0, ixo1, ixo2, ixt0, ixt1, ixl0, ixl1, unAt, reAt, wSl, wPt, wNoPt, wSlE, wPtE, wNoPtE, OT.cut, wSetIx, lName, atP_nil, putP_nil, gSetM, ixN30, ixN31, ixN32, ne_eq, not_false_eq_true, not_true_eq_false, reduceCtorEq, if_true, if_false, if_pos, decide_true, decide_false, Bool.true_or, Bool.false_or, Bool.or_false, Bool.or_true, Bool.not_true, Bool.not_false, true_and, and_true, Option.some.injEq, exists_eq_left', String.reduceEq, Nat.zero_add, Nat.reduceAdd, Nat.reduceLT, Nat.lt_add_one, Bool.and_false, Bool.and_true, Bool.false_and, Bool.true_and, Bool.not_true, Bool.not_false, Bool.false_eq_true, pickL, eqv_int, eqv_bl, shaped_int, shaped_bl, shaped_non, wRev, wPeek, wListRg1, wLenSet, wMth, lIx, ixl2, ixl3, ixl4, ixt2, ixp0, ixp1, ixN20, ixN21, OT.flat_nd, wStar2, wTupOf, wDNew]
    rw [show ([D.int (reach / 4 + 1), .int 12, .int 3] : List D) = ([reach / 4 + 1, 12, 3] : List Int).map .int from rfl, ixu]
    simp only [wRet, wRetN, wEO, wPE, wOE, wC, wVar, wVarF, wAndV, wNotV, wOrV, wIsi, wNext, wSeq, wDrop, wIfS, wSet, wPar, wAsg, wCall, wCallB, wCallK, wCallG, wMove, wCons, wNil, wVCons, wVNil, wOCons, wONil, wFn, wFnE, wFnN, wS, wSE, wSV, wCh, wET, wAnd, wOr, DL.wNot, wTup, wLst, wIf, wIx, wRaise, wMthN, gAppend, gtName, gtCons, gtNil, gtSeq, iSeq, OT.tn, D.tn, NK.tn, isTy, gCmp, gEq, gNe, gIsN, gNotN, gIsB, gNotB, isNon_non, gLen, OT.size, OT.out, t0, List.getElem?_cons_zero, List.getElem?_cons_succ, List.set_cons_zero, List.set_cons_succ, List.map_cons, List.map_nil, OT.flat_fz, flat_nd', OT.dsOf_fz, dsOf_nil, dsOf_cons, Option.map_some, List.length_cons, List.length_nil, List.length_map, List.cons_append, List.nil_append, List.append_nil, wBin, gAdd, DL.gSub, gMul, gInt, List.getD_cons_zero, OT.whole_fz, OT.frz_fz, OT.whole_nd', OT.wholeL_fz, OT.wholeL_nil, OT.wholeL_cons, OT.frz_nd', map_frz_fz, ixo0, ixo1, ixo2, ixt0, ixt1, ixl0, ixl1, unAt, reAt, wSl, wPt, wNoPt, wSlE, wPtE, wNoPtE, OT.cut, wSetIx, lName, atP_nil, putP_nil, gSetM, ixN30, ixN31, ixN32, ne_eq, not_false_eq_true, not_true_eq_false, reduceCtorEq, if_true, if_false, if_pos, decide_true, decide_false, Bool.true_or, Bool.false_or, Bool.or_false, Bool.or_true, Bool.not_true, Bool.not_false, true_and, and_true, Option.some.injEq, exists_eq_left', String.reduceEq, Nat.zero_add, Nat.reduceAdd, Nat.reduceLT, Nat.lt_add_one, Bool.and_false, Bool.and_true, Bool.false_and, Bool.true_and, Bool.not_true, Bool.not_false, Bool.false_eq_true, pickL, eqv_int, eqv_bl, shaped_int, shaped_bl, shaped_non, wRev, wPeek, wListRg1, wLenSet, wMth, lIx, ixl2, ixl3, ixl4, ixt2, ixp0, ixp1, ixN20, ixN21, OT.flat_nd, wStar2, wTupOf, wDNew]
    refine ⟨pc.ne, Sm.divW (n := 4) (Sm.of (by omega)) (by omega), by decide, pc.ne, c, t, u, rfl, pc, by omega, by omega, by omega, fun x t4 x0 x1 p4 => ?_⟩
    simp only [wRet, wRetN, wEO, wPE, wOE, wC, wVar, wVarF, wAndV, wNotV, wOrV, wIsi, wNext, wSeq, wDrop, wIfS, wSet, wPar, wAsg, wCall, wCallB, wCallK, wCallG, wMove, wCons, wNil, wVCons, wVNil, wOCons, wONil, wFn, wFnE, wFnN, wS, wSE, wSV, wCh, wET, wAnd, wOr, DL.wNot, wTup, wLst, wIf, wIx, wRaise, wMthN, gAppend, gtName, gtCons, gtNil, gtSeq, iSeq, OT.tn, D.tn, NK.tn, isTy, gCmp, gEq, gNe, gIsN, gNotN, gIsB, gNotB, isNon_non, gLen, OT.size, OT.out, t0, List.getElem?_cons_zero, List.getElem?_cons_succ, List.set_cons_zero, List.set_cons_succ, List.map_cons, List.map_nil, OT.flat_fz, flat_nd', OT.dsOf_fz, dsOf_nil, dsOf_cons, Option.map_some, List.length_cons, List.length_nil, List.length_map, List.cons_append, List.nil_append, List.append_nil, wBin, gAdd, DL.gSub, gMul, gInt, List.getD_cons_zero, OT.whole_fz, OT.frz_fz, OT.whole_nd', OT.wholeL_fz, OT.wholeL_nil, OT.wholeL_cons, OT.frz_nd', map_frz_fz, ixo0, ixo1, ixo2, ixt0, ixt1, ixl0, ixl1, unAt, reAt, wSl, wPt, wNoPt, wSlE, wPtE, wNoPtE, OT.cut, wSetIx, lName, atP_nil, putP_nil, gSetM, ixN30, ixN31, ixN32, ne_eq, not_false_eq_true, not_true_eq_false, reduceCtorEq, if_true, if_false, if_pos, decide_true, decide_false, Bool.true_or, Bool.false_or, Bool.or_false, Bool.or_true, Bool.not_true, Bool.not_false, true_and, and_true, Option.some.injEq, exists_eq_left', String.reduceEq, Nat.zero_add, Nat.reduceAdd, Nat.reduceLT, Nat.lt_add_one, Bool.and_false, Bool.and_true, Bool.false_and, Bool.true_and, Bool.not_true, Bool.not_false, Bool.false_eq_true, pickL, eqv_int, eqv_bl, shaped_int, shaped_bl, shaped_non, wRev, wPeek, wListRg1, wLenSet, wMth, lIx, ixl2, ixl3, ixl4, ixt2, ixp0, ixp1, ixN20, ixN21, OT.flat_nd, wStar2, wTupOf, wDNew]
    refine hN3 _ ?_
    simp only [numsD_len, wRet, wRetN, wEO, wPE, wOE, wC, wVar, wVarF, wAndV, wNotV, wOrV, wIsi, wNext, wSeq, wDrop, wIfS, wSet, wPar, wAsg, wCall, wCallB, wCallK, wCallG, wMove, wCons, wNil, wVCons, wVNil, wOCons, wONil, wFn, wFnE, wFnN, wS, wSE, wSV, wCh, wET, wAnd, wOr, DL.wNot, wTup, wLst, wIf, wIx, wRaise, wMthN, gAppend, gtName, gtCons, gtNil, gtSeq, iSeq, OT.tn, D.tn, NK.tn, isTy, gCmp, gEq, gNe, gIsN, gNotN, gIsB, gNotB, isNon_non, gLen, OT.size, OT.out, t0, List.getElem?_cons_zero, List.getElem?_cons_succ, List.set_cons_zero, List.set_cons_succ, List.map_cons, List.map_nil, OT.flat_fz, flat_nd', OT.dsOf_fz, dsOf_nil, dsOf_cons, Option.map_some, List.length_cons, List.length_nil, List.length_map, List.cons_append, List.nil_append, List.append_nil, wBin, gAdd, DL.gSub, gMul, gInt, List.getD_cons_zero, OT.whole_fz, OT.frz_fz, OT.whole_nd', OT.wholeL_fz, OT.wholeL_nil, OT.wholeL_cons, OT.frz_nd', map_frz_fz, ixo0, ixo1, ixo2, ixt0, ixt1, ixl0, ixl1, unAt, reAt, wSl, wPt, wNoPt, wSlE, wPtE, wNoPtE, OT.cut, wSetIx, lName, atP_nil, putP_nil, gSetM, ixN30, ixN31, ixN32, ne_eq, not_false_eq_true, not_true_eq_false, reduceCtorEq, if_true, if_false, if_pos, decide_true, decide_false, Bool.true_or, Bool.false_or, Bool.or_false, Bool.or_true, Bool.not_true, Bool.not_false, true_and, and_true, Option.some.injEq, exists_eq_left', String.reduceEq, Nat.zero_add, Nat.reduceAdd, Nat.reduceLT, Nat.lt_add_one, Bool.and_false, Bool.and_true, Bool.false_and, Bool.true_and, Bool.not_true, Bool.not_false, Bool.false_eq_true, pickL, eqv_int, eqv_bl, shaped_int, shaped_bl, shaped_non, wRev, wPeek, wListRg1, wLenSet, wMth, lIx, ixl2, ixl3, ixl4, ixt2, ixp0, ixp1, ixN20, ixN21, OT.flat_nd, wStar2, wTupOf, wDNew]
    refine ⟨by simp, Nat.lt_of_le_of_lt (by omega : hs.length ≤ 25) (by decide), ?_⟩
    have en : (numsD hs).map OT.fz ++ [.fz (.int (a + 1 + x))] = (numsD (hs ++ [a + 1 + x])).map .fz := by
      rw [← nums_app, List.map_append]; rfl
    rw [en]
    refine hM _ ⟨hs ++ [a + 1 + x], c + 1, a + 1 + x, t4, _, rfl, p4, by omega, by omega, rising_snoc hp (fun y hy => (hk y hy).2) (by omega), fun y hy => ?_, by rw [List.length_append, List.length_singleton]; omega⟩
    rcases List.mem_append.mp hy with hy | hy
    · have := hk y hy; omega
    · rw [List.mem_singleton.mp hy]; omega
  · rintro env ⟨hs, c, a, t, z, rfl, pc, hc, ha, hp, hk, hl⟩
    apply hN
    simp only [wRet, wRetN, wEO, wPE, wOE, wC, wVar, wVarF, wAndV, wNotV, wOrV, wIsi, wNext, wSeq, wDrop, wIfS, wSet, wPar, wAsg, wCall, wCallB, wCallK, wCallG, wMove, wCons, wNil, wVCons, wVNil, wOCons, wONil, wFn, wFnE, wFnN, wS, wSE, wSV, wCh, wET, wAnd, wOr, DL.wNot, wTup, wLst, wIf, wIx, wRaise, wMthN, gAppend, gtName, gtCons, gtNil, gtSeq, iSeq, OT.tn, D.tn, NK.tn, isTy, gCmp, gEq, gNe, gIsN, gNotN, gIsB, gNotB, isNon_non, gLen, OT.size, OT.out, t0, List.getElem?_cons_zero, List.getElem?_cons_succ, List.set_cons_zero, List.set_cons_succ, List.map_cons, List.map_nil, OT.flat_fz, flat_nd', OT.dsOf_fz, dsOf_nil, dsOf_cons, Option.map_some, List.length_cons, List.length_nil, List.length_map, List.cons_append, List.nil_append, List.append_nil, wBin, gAdd, DL.gSub, gMul, gInt, List.getD_cons_zero, OT.whole_fz, OT.frz_fz, OT.whole_nd', OT.wholeL_fz, OT.wholeL_nil, OT.wholeL_cons, OT.frz_nd', map_frz_fz, ixo0, ixo1, ixo2, ixt0, ixt1, ixl0, ixl1, unAt, reAt, wSl, wPt, wNoPt, wSlE, wPtE, wNoPtE, OT.cut, wSetIx, lName, atP_nil, putP_nil, gSetM, ixN30, ixN31, ixN32, ne_eq, not_false_eq_true, not_true_eq_false, reduceCtorEq, if_true, if_false, if_pos, decide_true, decide_false, Bool.true_or, Bool.false_or, Bool.or_false, Bool.or_true, Bool.not_true, Bool.not_false, true_and, and_true, Option.some.injEq, exists_eq_left', String.reduceEq, Nat.zero_add, Nat.reduceAdd, Nat.reduceLT, Nat.lt_add_one, Bool.and_false, Bool.and_true, Bool.false_and, Bool.true_and, Bool.not_true, Bool.not_false, Bool.false_eq_true, pickL, eqv_int, eqv_bl, shaped_int, shaped_bl, shaped_non, wRev, wPeek, wListRg1, wLenSet, wMth, lIx, ixl2, ixl3, ixl4, ixt2, ixp0, ixp1, ixN20, ixN21, OT.flat_nd, wStar2, wTupOf, wDNew]
    rw [List.length_nil] at hc hl
    exact h hs t ⟨by omega, hp, fun x hx => (hk x hx).1⟩ pc.mono
  · exact ⟨[], b + 3, a - 1, t3, _, rfl, p3.mono, by rw [rangeD_len]; omega, by omega, List.Pairwise.nil, (fun _ z => nomatch z), by rw [rangeD_len]; simp only [List.length_nil]; omega⟩
def al : Nat → D → Bool
  | 0, _ => false
  | n + 1, d => match d with
    | .non => true
    | .bl _ => true
    | .int _ => true
    | .str x => PyData.strOk x
    | .nd .lst ds => decide (ds.length ≤ sizeLine) && ds.all (al n)
    | .nd .tup ds => decide (ds.length ≤ sizeLine) && ds.all (al n)
    | _ => false
def sp__law_alike (n : Nat) : FSpec := fun args R _ => ∃ d, args = [.fz d, .fz d] ∧ al n d = true ∧ R (.fz (.bl true)) .un
theorem pz__law_alike : ∀ args R RX, ¬ sp__law_alike 0 args R RX := by
  rintro _ _ _ ⟨d, _, h, _⟩
  cases h
theorem zip_self : ∀ ds : List D, zipD ds ds = ds.map fun d => .nd .tup [d, d]
  | [] => rfl
  | d :: ds => by unfold zipD; rw [zip_self ds]; rfl
theorem trues (ds : List D) : D.bools (ds.map fun _ => D.bl true) = some (ds.map fun _ => true) := by
  induction ds with
  | nil => rfl
  | cons d ds ih => rw [List.map_cons, D.bools, ih]; rfl
theorem all_trues (ds : List D) : (ds.map fun _ => true).all id = true := by simp
theorem nn_int (i : Int) : (D.int i).isNon = false := rfl
theorem nn_bl (i : Bool) : (D.bl i).isNon = false := rfl
theorem nn_str (i : Str) : (D.str i).isNon = false := rfl
theorem nn_nd (k : NK) (ds : List D) : (D.nd k ds).isNon = false := rfl
theorem shaped_str {x : Str} (h : PyData.strOk x = true) : (D.str x).shaped = true := shaped_of 0 h
theorem ok_str {x : Str} (h : PyData.strOk x = true) : (D.str x).ok = true := (sh_ok 0 (.str x) h).1
def w__law_alike (n : Nat) (xq : XQ) : WS := (wSeq (wIfS (wET (wPE (wS gIsN (wVar 1) (wC .non)))) (wRet (wEO (wPE (wS gIsN (wVar 0) (wC .non))))) wNext)
    (wSeq (wIfS (wET (wIsi2 "list" "tuple" (wVar 1))) (wSeq (wIfS (wOr (wNot (wET (wIsi2 "list" "tuple" (wVar 0)))) (wET (wPE (wS gNe (wIsi "list" (wVar 0)) (wIsi "list" (wVar 1)))))) (wRet (wEO (wPE (wC (.bl false))))) wNext)
    (wSeq (wIfS (wET (wPE (wS gNe (wFn gLen (wVCons (wVar 0) wVNil)) (wFn gLen (wVCons (wVar 1) wVNil))))) (wRet (wEO (wPE (wC (.bl false))))) wNext)
    (wRet (wEO (wFnE (gL1 hAll) (wCons (wOE (wLc [2, 3] (iZipD (wCons (wVarF 0) (wCons (wVarF 1) wNil))) (gtSeq 2 (gtCons (gtName 2) (gtCons (gtName 3) gtNil))) wYes (wOE (wPeek (sp__law_alike n) noX (wVCons (wVar 2) (wVCons (wVar 3) wVNil)))))) wNil)))))) wNext)
    (wSeq (wIfS (wET (wPE (wS gNe (wIsi "bool" (wVar 0)) (wIsi "bool" (wVar 1))))) (wRet (wEO (wPE (wC (.bl false))))) wNext)
    (wSeq (wIfS (wET (wPE (wS gNe (wIsi "int" (wVar 0)) (wIsi "int" (wVar 1))))) (wRet (wEO (wPE (wC (.bl false))))) wNext)
    (wRet (wEO (wAndV (wPE (wS gEq (wIsi "str" (wVar 0)) (wIsi "str" (wVar 1)))) (wPE (wS gEq (wVar 0) (wVar 1))))))))))
theorem len__law_alike : ∀ (n : Nat) args R RX, sp__law_alike n args R RX → args.length = 2 := by rintro n _ _ _ ⟨d, rfl, _⟩; rfl
theorem pu__law_alike : ∀ (n : Nat) args R RX, sp__law_alike (n + 1) args R RX → w__law_alike n (fun x env => RX x (t0 false env)) { nx := fun env => R (.fz .non) (t0 false env), rt := fun t env => R t (t0 false env) } (args ++ List.replicate (["found", "due", "one", "other"].length - args.length) .un) := by
  rintro n _ R RX ⟨d, rfl, ha, h⟩
  change w__law_alike n _ _ [.fz d, .fz d, .un, .un]
  have main : ∀ ds : List D, (ds.length ≤ sizeLine) → ds.all (al n) = true → ∀ (x : OT) (K : OT → Env' → Prop), (∀ e, K (.nd .lst ((ds.map fun _ => D.bl true).map .fz)) e) → lcD [2, 3] (gtSeq 2 (gtCons (gtName 2) (gtCons (gtName 3) gtNil))) wYes (wOE (wPeek (sp__law_alike n) noX (wVCons (wVar 2) (wVCons (wVar 3) wVNil)))) (zipD ds ds) [] [x, x, .un, .un] K := by
    intro ds hl hall x K hK
    rw [zip_self]
    refine lc_pure (fun e => e = [x, x, .un, .un]) (fun _ => .bl true) (ds.map fun d => .nd .tup [d, d]) [] _ rfl (fun z hz env Q' hI q => ?_) (by rw [List.length_map, List.length_nil, Nat.zero_add]; exact hl) fun e he => ?_
    · subst hI
      obtain ⟨d, hd, rfl⟩ := List.mem_map.mp hz
      simp only [wRet, wRetN, wEO, wPE, wOE, wC, wVar, wVarF, wAndV, wNotV, wOrV, wIsi, wNext, wSeq, wDrop, wIfS, wSet, wPar, wAsg, wCall, wCallB, wCallK, wCallG, wMove, wCons, wNil, wVCons, wVNil, wOCons, wONil, wFn, wFnE, wFnN, wS, wSE, wSV, wCh, wET, wAnd, wOr, DL.wNot, wTup, wLst, wIf, wIx, wRaise, wMthN, gAppend, gtName, gtCons, gtNil, gtSeq, iSeq, OT.tn, D.tn, NK.tn, isTy, gCmp, gEq, gNe, gIsN, gNotN, gIsB, gNotB, isNon_non, gLen, OT.size, OT.out, t0, List.getElem?_cons_zero, List.getElem?_cons_succ, List.set_cons_zero, List.set_cons_succ, List.map_cons, List.map_nil, OT.flat_fz, flat_nd', OT.dsOf_fz, dsOf_nil, dsOf_cons, Option.map_some, List.length_cons, List.length_nil, List.length_map, List.cons_append, List.nil_append, List.append_nil, wBin, gAdd, DL.gSub, gMul, gInt, List.getD_cons_zero, OT.whole_fz, OT.frz_fz, OT.whole_nd', OT.wholeL_fz, OT.wholeL_nil, OT.wholeL_cons, OT.frz_nd', map_frz_fz, ixo0, ixo1, ixo2, ixt0, ixt1, ixl0, ixl1, unAt, reAt, wSl, wPt, wNoPt, wSlE, wPtE, wNoPtE, OT.cut, wSetIx, lName, atP_nil, putP_nil, gSetM, ixN30, ixN31, ixN32, ne_eq, not_false_eq_true, not_true_eq_false, reduceCtorEq, if_true, if_false, if_pos, decide_true, decide_false, Bool.true_or, Bool.false_or, Bool.or_false, Bool.or_true, Bool.not_true, Bool.not_false, true_and, and_true, Option.some.injEq, exists_eq_left', String.reduceEq, Nat.zero_add, Nat.reduceAdd, Nat.reduceLT, Nat.lt_add_one, Bool.and_false, Bool.and_true, Bool.false_and, Bool.true_and, Bool.not_true, Bool.not_false, Bool.false_eq_true, pickL, eqv_int, eqv_bl, shaped_int, shaped_bl, shaped_non, wRev, wPeek, wListRg1, wLenSet, wMth, lIx, ixl2, ixl3, ixl4, ixt2, ixp0, ixp1, ixN20, ixN21, OT.flat_nd, wStar2, wTupOf, wDNew]
      refine ⟨d, rfl, List.all_eq_true.mp hall d hd, ?_⟩
      simp only [wRet, wRetN, wEO, wPE, wOE, wC, wVar, wVarF, wAndV, wNotV, wOrV, wIsi, wNext, wSeq, wDrop, wIfS, wSet, wPar, wAsg, wCall, wCallB, wCallK, wCallG, wMove, wCons, wNil, wVCons, wVNil, wOCons, wONil, wFn, wFnE, wFnN, wS, wSE, wSV, wCh, wET, wAnd, wOr, DL.wNot, wTup, wLst, wIf, wIx, wRaise, wMthN, gAppend, gtName, gtCons, gtNil, gtSeq, iSeq, OT.tn, D.tn, NK.tn, isTy, gCmp, gEq, gNe, gIsN, gNotN, gIsB, gNotB, isNon_non, gLen, OT.size, OT.out, t0, List.getElem?_cons_zero, List.getElem?_cons_succ, List.set_cons_zero, List.set_cons_succ, List.map_cons, List.map_nil, OT.flat_fz, flat_nd', OT.dsOf_fz, dsOf_nil, dsOf_cons, Option.map_some, List.length_cons, List.length_nil, List.length_map, List.cons_append, List.nil_append, List.append_nil, wBin, gAdd, DL.gSub, gMul, gInt, List.getD_cons_zero, OT.whole_fz, OT.frz_fz, OT.whole_nd', OT.wholeL_fz, OT.wholeL_nil, OT.wholeL_cons, OT.frz_nd', map_frz_fz, ixo0, ixo1, ixo2, ixt0, ixt1, ixl0, ixl1, unAt, reAt, wSl, wPt, wNoPt, wSlE, wPtE, wNoPtE, OT.cut, wSetIx, lName, atP_nil, putP_nil, gSetM, ixN30, ixN31, ixN32, ne_eq, not_false_eq_true, not_true_eq_false, reduceCtorEq, if_true, if_false, if_pos, decide_true, decide_false, Bool.true_or, Bool.false_or, Bool.or_false, Bool.or_true, Bool.not_true, Bool.not_false, true_and, and_true, Option.some.injEq, exists_eq_left', String.reduceEq, Nat.zero_add, Nat.reduceAdd, Nat.reduceLT, Nat.lt_add_one, Bool.and_false, Bool.and_true, Bool.false_and, Bool.true_and, Bool.not_true, Bool.not_false, Bool.false_eq_true, pickL, eqv_int, eqv_bl, shaped_int, shaped_bl, shaped_non, wRev, wPeek, wListRg1, wLenSet, wMth, lIx, ixl2, ixl3, ixl4, ixt2, ixp0, ixp1, ixN20, ixN21, OT.flat_nd, wStar2, wTupOf, wDNew]
      exact ⟨.bl true, rfl, rfl, q _ rfl⟩
    · rw [List.nil_append, show (ds.map fun d => D.nd .tup [d, d]).map (fun _ => D.bl true) = ds.map fun _ => .bl true from by rw [List.map_map]; rfl]
      exact hK e
  cases d with
  | non => simp only [w__law_alike, wRet, wRetN, wEO, wPE, wOE, wC, wVar, wVarF, wAndV, wNotV, wOrV, wIsi, wNext, wSeq, wDrop, wIfS, wSet, wPar, wAsg, wCall, wCallB, wCallK, wCallG, wMove, wCons, wNil, wVCons, wVNil, wOCons, wONil, wFn, wFnE, wFnN, wS, wSE, wSV, wCh, wET, wAnd, wOr, DL.wNot, wTup, wLst, wIf, wIx, wRaise, wMthN, gAppend, gtName, gtCons, gtNil, gtSeq, iSeq, OT.tn, D.tn, NK.tn, isTy, gCmp, gEq, gNe, gIsN, gNotN, gIsB, gNotB, isNon_non, gLen, OT.size, OT.out, t0, List.getElem?_cons_zero, List.getElem?_cons_succ, List.set_cons_zero, List.set_cons_succ, List.map_cons, List.map_nil, OT.flat_fz, flat_nd', OT.dsOf_fz, dsOf_nil, dsOf_cons, Option.map_some, List.length_cons, List.length_nil, List.length_map, List.cons_append, List.nil_append, List.append_nil, wBin, gAdd, DL.gSub, gMul, gInt, List.getD_cons_zero, OT.whole_fz, OT.frz_fz, OT.whole_nd', OT.wholeL_fz, OT.wholeL_nil, OT.wholeL_cons, OT.frz_nd', map_frz_fz, ixo0, ixo1, ixo2, ixt0, ixt1, ixl0, ixl1, unAt, reAt, wSl, wPt, wNoPt, wSlE, wPtE, wNoPtE, OT.cut, wSetIx, lName, atP_nil, putP_nil, gSetM, ixN30, ixN31, ixN32, ne_eq, not_false_eq_true, not_true_eq_false, reduceCtorEq, if_true, if_false, if_pos, decide_true, decide_false, Bool.true_or, Bool.false_or, Bool.or_false, Bool.or_true, Bool.not_true, Bool.not_false, true_and, and_true, Option.some.injEq, exists_eq_left', String.reduceEq, Nat.zero_add, Nat.reduceAdd, Nat.reduceLT, Nat.lt_add_one, Bool.and_false, Bool.and_true, Bool.false_and, Bool.true_and, Bool.not_true, Bool.not_false, Bool.false_eq_true, pickL, eqv_int, eqv_bl, shaped_int, shaped_bl, shaped_non, wRev, wPeek, wListRg1, wLenSet, wMth, lIx, ixl2, ixl3, ixl4, ixt2, ixp0, ixp1, ixN20, ixN21, OT.flat_nd, wStar2, wTupOf, wDNew]; exact h
  | bl b =>
    simp only [w__law_alike, nn_int, nn_bl, nn_str, nn_nd, wIsi2, wRet, wRetN, wEO, wPE, wOE, wC, wVar, wVarF, wAndV, wNotV, wOrV, wIsi, wNext, wSeq, wDrop, wIfS, wSet, wPar, wAsg, wCall, wCallB, wCallK, wCallG, wMove, wCons, wNil, wVCons, wVNil, wOCons, wONil, wFn, wFnE, wFnN, wS, wSE, wSV, wCh, wET, wAnd, wOr, DL.wNot, wTup, wLst, wIf, wIx, wRaise, wMthN, gAppend, gtName, gtCons, gtNil, gtSeq, iSeq, OT.tn, D.tn, NK.tn, isTy, gCmp, gEq, gNe, gIsN, gNotN, gIsB, gNotB, isNon_non, gLen, OT.size, OT.out, t0, List.getElem?_cons_zero, List.getElem?_cons_succ, List.set_cons_zero, List.set_cons_succ, List.map_cons, List.map_nil, OT.flat_fz, flat_nd', OT.dsOf_fz, dsOf_nil, dsOf_cons, Option.map_some, List.length_cons, List.length_nil, List.length_map, List.cons_append, List.nil_append, List.append_nil, wBin, gAdd, DL.gSub, gMul, gInt, List.getD_cons_zero, OT.whole_fz, OT.frz_fz, OT.whole_nd', OT.wholeL_fz, OT.wholeL_nil, OT.wholeL_cons, OT.frz_nd', map_frz_fz, ixo0, ixo1, ixo2, ixt0, ixt1, ixl0, ixl1, unAt, reAt, wSl, wPt, wNoPt, wSlE, wPtE, wNoPtE, OT.cut, wSetIx, lName, atP_nil, putP_nil, gSetM, ixN30, ixN31, ixN32, ne_eq, not_false_eq_true, not_true_eq_false, reduceCtorEq, if_true, if_false, if_pos, decide_true, decide_false, Bool.true_or, Bool.false_or, Bool.or_false, Bool.or_true, Bool.not_true, Bool.not_false, true_and, and_true, Option.some.injEq, exists_eq_left', String.reduceEq, Nat.zero_add, Nat.reduceAdd, Nat.reduceLT, Nat.lt_add_one, Bool.and_false, Bool.and_true, Bool.false_and, Bool.true_and, Bool.not_true, Bool.not_false, Bool.false_eq_true, pickL, eqv_int, eqv_bl, shaped_int, shaped_bl, shaped_non, wRev, wPeek, wListRg1, wLenSet, wMth, lIx, ixl2, ixl3, ixl4, ixt2, ixp0, ixp1, ixN20, ixN21, OT.flat_nd, wStar2, wTupOf, wDNew]
    cases b <;> exact h
  | int i =>
    simp only [w__law_alike, nn_int, nn_bl, nn_str, nn_nd, wIsi2, wRet, wRetN, wEO, wPE, wOE, wC, wVar, wVarF, wAndV, wNotV, wOrV, wIsi, wNext, wSeq, wDrop, wIfS, wSet, wPar, wAsg, wCall, wCallB, wCallK, wCallG, wMove, wCons, wNil, wVCons, wVNil, wOCons, wONil, wFn, wFnE, wFnN, wS, wSE, wSV, wCh, wET, wAnd, wOr, DL.wNot, wTup, wLst, wIf, wIx, wRaise, wMthN, gAppend, gtName, gtCons, gtNil, gtSeq, iSeq, OT.tn, D.tn, NK.tn, isTy, gCmp, gEq, gNe, gIsN, gNotN, gIsB, gNotB, isNon_non, gLen, OT.size, OT.out, t0, List.getElem?_cons_zero, List.getElem?_cons_succ, List.set_cons_zero, List.set_cons_succ, List.map_cons, List.map_nil, OT.flat_fz, flat_nd', OT.dsOf_fz, dsOf_nil, dsOf_cons, Option.map_some, List.length_cons, List.length_nil, List.length_map, List.cons_append, List.nil_append, List.append_nil, wBin, gAdd, DL.gSub, gMul, gInt, List.getD_cons_zero, OT.whole_fz, OT.frz_fz, OT.whole_nd', OT.wholeL_fz, OT.wholeL_nil, OT.wholeL_cons, OT.frz_nd', map_frz_fz, ixo0, ixo1, ixo2, ixt0, ixt1, ixl0, ixl1, unAt, reAt, wSl, wPt, wNoPt, wSlE, wPtE, wNoPtE, OT.cut, wSetIx, lName, atP_nil, putP_nil, gSetM, ixN30, ixN31, ixN32, ne_eq, not_false_eq_true, not_true_eq_false, reduceCtorEq, if_true, if_false, if_pos, decide_true, decide_false, Bool.true_or, Bool.false_or, Bool.or_false, Bool.or_true, Bool.not_true, Bool.not_false, true_and, and_true, Option.some.injEq, exists_eq_left', String.reduceEq, Nat.zero_add, Nat.reduceAdd, Nat.reduceLT, Nat.lt_add_one, Bool.and_false, Bool.and_true, Bool.false_and, Bool.true_and, Bool.not_true, Bool.not_false, Bool.false_eq_true, pickL, eqv_int, eqv_bl, shaped_int, shaped_bl, shaped_non, wRev, wPeek, wListRg1, wLenSet, wMth, lIx, ixl2, ixl3, ixl4, ixt2, ixp0, ixp1, ixN20, ixN21, OT.flat_nd, wStar2, wTupOf, wDNew]
    exact h
  | str x =>
    simp only [w__law_alike, nn_int, nn_bl, nn_str, nn_nd, wIsi2, wRet, wRetN, wEO, wPE, wOE, wC, wVar, wVarF, wAndV, wNotV, wOrV, wIsi, wNext, wSeq, wDrop, wIfS, wSet, wPar, wAsg, wCall, wCallB, wCallK, wCallG, wMove, wCons, wNil, wVCons, wVNil, wOCons, wONil, wFn, wFnE, wFnN, wS, wSE, wSV, wCh, wET, wAnd, wOr, DL.wNot, wTup, wLst, wIf, wIx, wRaise, wMthN, gAppend, gtName, gtCons, gtNil, gtSeq, iSeq, OT.tn, D.tn, NK.tn, isTy, gCmp, gEq, gNe, gIsN, gNotN, gIsB, gNotB, isNon_non, gLen, OT.size, OT.out, t0, List.getElem?_cons_zero, List.getElem?_cons_succ, List.set_cons_zero, List.set_cons_succ, List.map_cons, List.map_nil, OT.flat_fz, flat_nd', OT.dsOf_fz, dsOf_nil, dsOf_cons, Option.map_some, List.length_cons, List.length_nil, List.length_map, List.cons_append, List.nil_append, List.append_nil, wBin, gAdd, DL.gSub, gMul, gInt, List.getD_cons_zero, OT.whole_fz, OT.frz_fz, OT.whole_nd', OT.wholeL_fz, OT.wholeL_nil, OT.wholeL_cons, OT.frz_nd', map_frz_fz, ixo0, ixo1, ixo2, ixt0, ixt1, ixl0, ixl1, unAt, reAt, wSl, wPt, wNoPt, wSlE, wPtE, wNoPtE, OT.cut, wSetIx, lName, atP_nil, putP_nil, gSetM, ixN30, ixN31, ixN32, ne_eq, not_false_eq_true, not_true_eq_false, reduceCtorEq, if_true, if_false, if_pos, decide_true, decide_false, Bool.true_or, Bool.false_or, Bool.or_false, Bool.or_true, Bool.not_true, Bool.not_false, true_and, and_true, Option.some.injEq, exists_eq_left', String.reduceEq, Nat.zero_add, Nat.reduceAdd, Nat.reduceLT, Nat.lt_add_one, Bool.and_false, Bool.and_true, Bool.false_and, Bool.true_and, Bool.not_true, Bool.not_false, Bool.false_eq_true, pickL, eqv_int, eqv_bl, shaped_int, shaped_bl, shaped_non, wRev, wPeek, wListRg1, wLenSet, wMth, lIx, ixl2, ixl3, ixl4, ixt2, ixp0, ixp1, ixN20, ixN21, OT.flat_nd, wStar2, wTupOf, wDNew]
    have hx : PyData.strOk x = true := ha
    rw [eqv_refl (ok_str hx)]
    exact ⟨shaped_str hx, shaped_str hx, h⟩
  | ty _ => cases ha
  | adr _ => cases ha
  | nd k ds =>
    cases k with
    | lst =>
      have ha2 := Bool.and_eq_true _ _ ▸ (show (decide (ds.length ≤ sizeLine) && ds.all (al n)) = true from ha)
      simp only [w__law_alike, nn_int, nn_bl, nn_str, nn_nd, wIsi2, wRet, wRetN, wEO, wPE, wOE, wC, wVar, wVarF, wAndV, wNotV, wOrV, wIsi, wNext, wSeq, wDrop, wIfS, wSet, wPar, wAsg, wCall, wCallB, wCallK, wCallG, wMove, wCons, wNil, wVCons, wVNil, wOCons, wONil, wFn, wFnE, wFnN, wS, wSE, wSV, wCh, wET, wAnd, wOr, DL.wNot, wTup, wLst, wIf, wIx, wRaise, wMthN, gAppend, gtName, gtCons, gtNil, gtSeq, iSeq, OT.tn, D.tn, NK.tn, isTy, gCmp, gEq, gNe, gIsN, gNotN, gIsB, gNotB, isNon_non, gLen, OT.size, OT.out, t0, List.getElem?_cons_zero, List.getElem?_cons_succ, List.set_cons_zero, List.set_cons_succ, List.map_cons, List.map_nil, OT.flat_fz, flat_nd', OT.dsOf_fz, dsOf_nil, dsOf_cons, Option.map_some, List.length_cons, List.length_nil, List.length_map, List.cons_append, List.nil_append, List.append_nil, wBin, gAdd, DL.gSub, gMul, gInt, List.getD_cons_zero, OT.whole_fz, OT.frz_fz, OT.whole_nd', OT.wholeL_fz, OT.wholeL_nil, OT.wholeL_cons, OT.frz_nd', map_frz_fz, ixo0, ixo1, ixo2, ixt0, ixt1, ixl0, ixl1, unAt, reAt, wSl, wPt, wNoPt, wSlE, wPtE, wNoPtE, OT.cut, wSetIx, lName, atP_nil, putP_nil, gSetM, ixN30, ixN31, ixN32, ne_eq, not_false_eq_true, not_true_eq_false, reduceCtorEq, if_true, if_false, if_pos, decide_true, decide_false, Bool.true_or, Bool.false_or, Bool.or_false, Bool.or_true, Bool.not_true, Bool.not_false, true_and, and_true, Option.some.injEq, exists_eq_left', String.reduceEq, Nat.zero_add, Nat.reduceAdd, Nat.reduceLT, Nat.lt_add_one, Bool.and_false, Bool.and_true, Bool.false_and, Bool.true_and, Bool.not_true, Bool.not_false, Bool.false_eq_true, pickL, eqv_int, eqv_bl, shaped_int, shaped_bl, shaped_non, wRev, wPeek, wListRg1, wLenSet, wMth, lIx, ixl2, ixl3, ixl4, ixt2, ixp0, ixp1, ixN20, ixN21, OT.flat_nd, wStar2, wTupOf, wDNew]
      rw [if_neg (by decide)]
      unfold wLc
      simp only [iZipD, wRet, wRetN, wEO, wPE, wOE, wC, wVar, wVarF, wAndV, wNotV, wOrV, wIsi, wNext, wSeq, wDrop, wIfS, wSet, wPar, wAsg, wCall, wCallB, wCallK, wCallG, wMove, wCons, wNil, wVCons, wVNil, wOCons, wONil, wFn, wFnE, wFnN, wS, wSE, wSV, wCh, wET, wAnd, wOr, DL.wNot, wTup, wLst, wIf, wIx, wRaise, wMthN, gAppend, gtName, gtCons, gtNil, gtSeq, iSeq, OT.tn, D.tn, NK.tn, isTy, gCmp, gEq, gNe, gIsN, gNotN, gIsB, gNotB, isNon_non, gLen, OT.size, OT.out, t0, List.getElem?_cons_zero, List.getElem?_cons_succ, List.set_cons_zero, List.set_cons_succ, List.map_cons, List.map_nil, OT.flat_fz, flat_nd', OT.dsOf_fz, dsOf_nil, dsOf_cons, Option.map_some, List.length_cons, List.length_nil, List.length_map, List.cons_append, List.nil_append, List.append_nil, wBin, gAdd, DL.gSub, gMul, gInt, List.getD_cons_zero, OT.whole_fz, OT.frz_fz, OT.whole_nd', OT.wholeL_fz, OT.wholeL_nil, OT.wholeL_cons, OT.frz_nd', map_frz_fz, ixo0, ixo1, ixo2, ixt0, ixt1, ixl0, ixl1, unAt, reAt, wSl, wPt, wNoPt, wSlE, wPtE, wNoPtE, OT.cut, wSetIx, lName, atP_nil, putP_nil, gSetM, ixN30, ixN31, ixN32, ne_eq, not_false_eq_true, not_true_eq_false, reduceCtorEq, if_true, if_false, if_pos, decide_true, decide_false, Bool.true_or, Bool.false_or, Bool.or_false, Bool.or_true, Bool.not_true, Bool.not_false, true_and, and_true, Option.some.injEq, exists_eq_left', String.reduceEq, Nat.zero_add, Nat.reduceAdd, Nat.reduceLT, Nat.lt_add_one, Bool.and_false, Bool.and_true, Bool.false_and, Bool.true_and, Bool.not_true, Bool.not_false, Bool.false_eq_true, pickL, eqv_int, eqv_bl, shaped_int, shaped_bl, shaped_non, wRev, wPeek, wListRg1, wLenSet, wMth, lIx, ixl2, ixl3, ixl4, ixt2, ixp0, ixp1, ixN20, ixN21, OT.flat_nd, wStar2, wTupOf, wDNew]
      refine main ds (of_decide_eq_true ha2.1) ha2.2 _ _ fun e => ?_
      simp only [gL1, hAll, wRet, wRetN, wEO, wPE, wOE, wC, wVar, wVarF, wAndV, wNotV, wOrV, wIsi, wNext, wSeq, wDrop, wIfS, wSet, wPar, wAsg, wCall, wCallB, wCallK, wCallG, wMove, wCons, wNil, wVCons, wVNil, wOCons, wONil, wFn, wFnE, wFnN, wS, wSE, wSV, wCh, wET, wAnd, wOr, DL.wNot, wTup, wLst, wIf, wIx, wRaise, wMthN, gAppend, gtName, gtCons, gtNil, gtSeq, iSeq, OT.tn, D.tn, NK.tn, isTy, gCmp, gEq, gNe, gIsN, gNotN, gIsB, gNotB, isNon_non, gLen, OT.size, OT.out, t0, List.getElem?_cons_zero, List.getElem?_cons_succ, List.set_cons_zero, List.set_cons_succ, List.map_cons, List.map_nil, OT.flat_fz, flat_nd', OT.dsOf_fz, dsOf_nil, dsOf_cons, Option.map_some, List.length_cons, List.length_nil, List.length_map, List.cons_append, List.nil_append, List.append_nil, wBin, gAdd, DL.gSub, gMul, gInt, List.getD_cons_zero, OT.whole_fz, OT.frz_fz, OT.whole_nd', OT.wholeL_fz, OT.wholeL_nil, OT.wholeL_cons, OT.frz_nd', map_frz_fz, ixo0, ixo1, ixo2, ixt0, ixt1, ixl0, ixl1, unAt, reAt, wSl, wPt, wNoPt, wSlE, wPtE, wNoPtE, OT.cut, wSetIx, lName, atP_nil, putP_nil, gSetM, ixN30, ixN31, ixN32, ne_eq, not_false_eq_true, not_true_eq_false, reduceCtorEq, if_true, if_false, if_pos, decide_true, decide_false, Bool.true_or, Bool.false_or, Bool.or_false, Bool.or_true, Bool.not_true, Bool.not_false, true_and, and_true, Option.some.injEq, exists_eq_left', String.reduceEq, Nat.zero_add, Nat.reduceAdd, Nat.reduceLT, Nat.lt_add_one, Bool.and_false, Bool.and_true, Bool.false_and, Bool.true_and, Bool.not_true, Bool.not_false, Bool.false_eq_true, pickL, eqv_int, eqv_bl, shaped_int, shaped_bl, shaped_non, wRev, wPeek, wListRg1, wLenSet, wMth, lIx, ixl2, ixl3, ixl4, ixt2, ixp0, ixp1, ixN20, ixN21, OT.flat_nd, wStar2, wTupOf, wDNew]
      rw [trues]
      simp only [Option.map_some, wRet, wRetN, wEO, wPE, wOE, wC, wVar, wVarF, wAndV, wNotV, wOrV, wIsi, wNext, wSeq, wDrop, wIfS, wSet, wPar, wAsg, wCall, wCallB, wCallK, wCallG, wMove, wCons, wNil, wVCons, wVNil, wOCons, wONil, wFn, wFnE, wFnN, wS, wSE, wSV, wCh, wET, wAnd, wOr, DL.wNot, wTup, wLst, wIf, wIx, wRaise, wMthN, gAppend, gtName, gtCons, gtNil, gtSeq, iSeq, OT.tn, D.tn, NK.tn, isTy, gCmp, gEq, gNe, gIsN, gNotN, gIsB, gNotB, isNon_non, gLen, OT.size, OT.out, t0, List.getElem?_cons_zero, List.getElem?_cons_succ, List.set_cons_zero, List.set_cons_succ, List.map_cons, List.map_nil, OT.flat_fz, flat_nd', OT.dsOf_fz, dsOf_nil, dsOf_cons, Option.map_some, List.length_cons, List.length_nil, List.length_map, List.cons_append, List.nil_append, List.append_nil, wBin, gAdd, DL.gSub, gMul, gInt, List.getD_cons_zero, OT.whole_fz, OT.frz_fz, OT.whole_nd', OT.wholeL_fz, OT.wholeL_nil, OT.wholeL_cons, OT.frz_nd', map_frz_fz, ixo0, ixo1, ixo2, ixt0, ixt1, ixl0, ixl1, unAt, reAt, wSl, wPt, wNoPt, wSlE, wPtE, wNoPtE, OT.cut, wSetIx, lName, atP_nil, putP_nil, gSetM, ixN30, ixN31, ixN32, ne_eq, not_false_eq_true, not_true_eq_false, reduceCtorEq, if_true, if_false, if_pos, decide_true, decide_false, Bool.true_or, Bool.false_or, Bool.or_false, Bool.or_true, Bool.not_true, Bool.not_false, true_and, and_true, Option.some.injEq, exists_eq_left', String.reduceEq, Nat.zero_add, Nat.reduceAdd, Nat.reduceLT, Nat.lt_add_one, Bool.and_false, Bool.and_true, Bool.false_and, Bool.true_and, Bool.not_true, Bool.not_false, Bool.false_eq_true, pickL, eqv_int, eqv_bl, shaped_int, shaped_bl, shaped_non, wRev, wPeek, wListRg1, wLenSet, wMth, lIx, ixl2, ixl3, ixl4, ixt2, ixp0, ixp1, ixN20, ixN21, OT.flat_nd, wStar2, wTupOf, wDNew]
      rw [all_trues]
      exact h
    | tup =>
      have ha2 := Bool.and_eq_true _ _ ▸ (show (decide (ds.length ≤ sizeLine) && ds.all (al n)) = true from ha)
      simp only [w__law_alike, nn_int, nn_bl, nn_str, nn_nd, wIsi2, wRet, wRetN, wEO, wPE, wOE, wC, wVar, wVarF, wAndV, wNotV, wOrV, wIsi, wNext, wSeq, wDrop, wIfS, wSet, wPar, wAsg, wCall, wCallB, wCallK, wCallG, wMove, wCons, wNil, wVCons, wVNil, wOCons, wONil, wFn, wFnE, wFnN, wS, wSE, wSV, wCh, wET, wAnd, wOr, DL.wNot, wTup, wLst, wIf, wIx, wRaise, wMthN, gAppend, gtName, gtCons, gtNil, gtSeq, iSeq, OT.tn, D.tn, NK.tn, isTy, gCmp, gEq, gNe, gIsN, gNotN, gIsB, gNotB, isNon_non, gLen, OT.size, OT.out, t0, List.getElem?_cons_zero, List.getElem?_cons_succ, List.set_cons_zero, List.set_cons_succ, List.map_cons, List.map_nil, OT.flat_fz, flat_nd', OT.dsOf_fz, dsOf_nil, dsOf_cons, Option.map_some, List.length_cons, List.length_nil, List.length_map, List.cons_append, List.nil_append, List.append_nil, wBin, gAdd, DL.gSub, gMul, gInt, List.getD_cons_zero, OT.whole_fz, OT.frz_fz, OT.whole_nd', OT.wholeL_fz, OT.wholeL_nil, OT.wholeL_cons, OT.frz_nd', map_frz_fz, ixo0, ixo1, ixo2, ixt0, ixt1, ixl0, ixl1, unAt, reAt, wSl, wPt, wNoPt, wSlE, wPtE, wNoPtE, OT.cut, wSetIx, lName, atP_nil, putP_nil, gSetM, ixN30, ixN31, ixN32, ne_eq, not_false_eq_true, not_true_eq_false, reduceCtorEq, if_true, if_false, if_pos, decide_true, decide_false, Bool.true_or, Bool.false_or, Bool.or_false, Bool.or_true, Bool.not_true, Bool.not_false, true_and, and_true, Option.some.injEq, exists_eq_left', String.reduceEq, Nat.zero_add, Nat.reduceAdd, Nat.reduceLT, Nat.lt_add_one, Bool.and_false, Bool.and_true, Bool.false_and, Bool.true_and, Bool.not_true, Bool.not_false, Bool.false_eq_true, pickL, eqv_int, eqv_bl, shaped_int, shaped_bl, shaped_non, wRev, wPeek, wListRg1, wLenSet, wMth, lIx, ixl2, ixl3, ixl4, ixt2, ixp0, ixp1, ixN20, ixN21, OT.flat_nd, wStar2, wTupOf, wDNew]
      rw [if_neg (by decide)]
      unfold wLc
      simp only [iZipD, wRet, wRetN, wEO, wPE, wOE, wC, wVar, wVarF, wAndV, wNotV, wOrV, wIsi, wNext, wSeq, wDrop, wIfS, wSet, wPar, wAsg, wCall, wCallB, wCallK, wCallG, wMove, wCons, wNil, wVCons, wVNil, wOCons, wONil, wFn, wFnE, wFnN, wS, wSE, wSV, wCh, wET, wAnd, wOr, DL.wNot, wTup, wLst, wIf, wIx, wRaise, wMthN, gAppend, gtName, gtCons, gtNil, gtSeq, iSeq, OT.tn, D.tn, NK.tn, isTy, gCmp, gEq, gNe, gIsN, gNotN, gIsB, gNotB, isNon_non, gLen, OT.size, OT.out, t0, List.getElem?_cons_zero, List.getElem?_cons_succ, List.set_cons_zero, List.set_cons_succ, List.map_cons, List.map_nil, OT.flat_fz, flat_nd', OT.dsOf_fz, dsOf_nil, dsOf_cons, Option.map_some, List.length_cons, List.length_nil, List.length_map, List.cons_append, List.nil_append, List.append_nil, wBin, gAdd, DL.gSub, gMul, gInt, List.getD_cons_zero, OT.whole_fz, OT.frz_fz, OT.whole_nd', OT.wholeL_fz, OT.wholeL_nil, OT.wholeL_cons, OT.frz_nd', map_frz_fz, ixo0, ixo1, ixo2, ixt0, ixt1, ixl0, ixl1, unAt, reAt, wSl, wPt, wNoPt, wSlE, wPtE, wNoPtE, OT.cut, wSetIx, lName, atP_nil, putP_nil, gSetM, ixN30, ixN31, ixN32, ne_eq, not_false_eq_true, not_true_eq_false, reduceCtorEq, if_true, if_false, if_pos, decide_true, decide_false, Bool.true_or, Bool.false_or, Bool.or_false, Bool.or_true, Bool.not_true, Bool.not_false, true_and, and_true, Option.some.injEq, exists_eq_left', String.reduceEq, Nat.zero_add, Nat.reduceAdd, Nat.reduceLT, Nat.lt_add_one, Bool.and_false, Bool.and_true, Bool.false_and, Bool.true_and, Bool.not_true, Bool.not_false, Bool.false_eq_true, pickL, eqv_int, eqv_bl, shaped_int, shaped_bl, shaped_non, wRev, wPeek, wListRg1, wLenSet, wMth, lIx, ixl2, ixl3, ixl4, ixt2, ixp0, ixp1, ixN20, ixN21, OT.flat_nd, wStar2, wTupOf, wDNew]
      refine main ds (of_decide_eq_true ha2.1) ha2.2 _ _ fun e => ?_
      simp only [gL1, hAll, wRet, wRetN, wEO, wPE, wOE, wC, wVar, wVarF, wAndV, wNotV, wOrV, wIsi, wNext, wSeq, wDrop, wIfS, wSet, wPar, wAsg, wCall, wCallB, wCallK, wCallG, wMove, wCons, wNil, wVCons, wVNil, wOCons, wONil, wFn, wFnE, wFnN, wS, wSE, wSV, wCh, wET, wAnd, wOr, DL.wNot, wTup, wLst, wIf, wIx, wRaise, wMthN, gAppend, gtName, gtCons, gtNil, gtSeq, iSeq, OT.tn, D.tn, NK.tn, isTy, gCmp, gEq, gNe, gIsN, gNotN, gIsB, gNotB, isNon_non, gLen, OT.size, OT.out, t0, List.getElem?_cons_zero, List.getElem?_cons_succ, List.set_cons_zero, List.set_cons_succ, List.map_cons, List.map_nil, OT.flat_fz, flat_nd', OT.dsOf_fz, dsOf_nil, dsOf_cons, Option.map_some, List.length_cons, List.length_nil, List.length_map, List.cons_append, List.nil_append, List.append_nil, wBin, gAdd, DL.gSub, gMul, gInt, List.getD_cons_zero, OT.whole_fz, OT.frz_fz, OT.whole_nd', OT.wholeL_fz, OT.wholeL_nil, OT.wholeL_cons, OT.frz_nd', map_frz_fz, ixo0, ixo1, ixo2, ixt0, ixt1, ixl0, ixl1, unAt, reAt, wSl, wPt, wNoPt, wSlE, wPtE, wNoPtE, OT.cut, wSetIx, lName, atP_nil, putP_nil, gSetM, ixN30, ixN31, ixN32, ne_eq, not_false_eq_true, not_true_eq_false, reduceCtorEq, if_true, if_false, if_pos, decide_true, decide_false, Bool.true_or, Bool.false_or, Bool.or_false, Bool.or_true, Bool.not_true, Bool.not_false, true_and, and_true, Option.some.injEq, exists_eq_left', String.reduceEq, Nat.zero_add, Nat.reduceAdd, Nat.reduceLT, Nat.lt_add_one, Bool.and_false, Bool.and_true, Bool.false_and, Bool.true_and, Bool.not_true, Bool.not_false, Bool.false_eq_true, pickL, eqv_int, eqv_bl, shaped_int, shaped_bl, shaped_non, wRev, wPeek, wListRg1, wLenSet, wMth, lIx, ixl2, ixl3, ixl4, ixt2, ixp0, ixp1, ixN20, ixN21, OT.flat_nd, wStar2, wTupOf, wDNew]
      rw [trues]
      simp only [Option.map_some, wRet, wRetN, wEO, wPE, wOE, wC, wVar, wVarF, wAndV, wNotV, wOrV, wIsi, wNext, wSeq, wDrop, wIfS, wSet, wPar, wAsg, wCall, wCallB, wCallK, wCallG, wMove, wCons, wNil, wVCons, wVNil, wOCons, wONil, wFn, wFnE, wFnN, wS, wSE, wSV, wCh, wET, wAnd, wOr, DL.wNot, wTup, wLst, wIf, wIx, wRaise, wMthN, gAppend, gtName, gtCons, gtNil, gtSeq, iSeq, OT.tn, D.tn, NK.tn, isTy, gCmp, gEq, gNe, gIsN, gNotN, gIsB, gNotB, isNon_non, gLen, OT.size, OT.out, t0, List.getElem?_cons_zero, List.getElem?_cons_succ, List.set_cons_zero, List.set_cons_succ, List.map_cons, List.map_nil, OT.flat_fz, flat_nd', OT.dsOf_fz, dsOf_nil, dsOf_cons, Option.map_some, List.length_cons, List.length_nil, List.length_map, List.cons_append, List.nil_append, List.append_nil, wBin, gAdd, DL.gSub, gMul, gInt, List.getD_cons_zero, OT.whole_fz, OT.frz_fz, OT.whole_nd', OT.wholeL_fz, OT.wholeL_nil, OT.wholeL_cons, OT.frz_nd', map_frz_fz, ixo0, ixo1, ixo2, ixt0, ixt1, ixl0, ixl1, unAt, reAt, wSl, wPt, wNoPt, wSlE, wPtE, wNoPtE, OT.cut, wSetIx, lName, atP_nil, putP_nil, gSetM, ixN30, ixN31, ixN32, ne_eq, not_false_eq_true, not_true_eq_false, reduceCtorEq, if_true, if_false, if_pos, decide_true, decide_false, Bool.true_or, Bool.false_or, Bool.or_false, Bool.or_true, Bool.not_true, Bool.not_false, true_and, and_true, Option.some.injEq, exists_eq_left', String.reduceEq, Nat.zero_add, Nat.reduceAdd, Nat.reduceLT, Nat.lt_add_one, Bool.and_false, Bool.and_true, Bool.false_and, Bool.true_and, Bool.not_true, Bool.not_false, Bool.false_eq_true, pickL, eqv_int, eqv_bl, shaped_int, shaped_bl, shaped_non, wRev, wPeek, wListRg1, wLenSet, wMth, lIx, ixl2, ixl3, ixl4, ixt2, ixp0, ixp1, ixN20, ixN21, OT.flat_nd, wStar2, wTupOf, wDNew]
      rw [all_trues]
      exact h
    | _ => cases ha
/-- the rows of a run -/
def RowsOk (n : Nat) (reach : Int) (rs : List Row) : Prop := (rs.length : Int) ≤ 2 * reach + 2 ∧ ∀ r ∈ rs, r.rank < n ∧ (0 ≤ r.since ∧ r.since ≤ 30 * (2 * reach + 2))
def sp__law_run : FSpec := fun args R _ => ∃ (ps : List (Int × Int)) (phs hs : List Int) (pause reach : Int), args = [.fz (planD ps), .fz (.nd .lst (numsD phs)), .fz (.nd .tup (numsD hs)), .fz (.int pause), .fz (.int reach)] ∧ PlOk ps ∧ PhOk ps.length phs ∧ hs.length ≤ 25 ∧ 0 ≤ pause ∧ pause ≤ 9 ∧ 0 ≤ reach ∧ reach ≤ 10000 ∧
  ∀ rs, RowsOk ps.length reach rs → R (.nd .lst ((rowsD rs).map .fz)) .un
theorem putKs_len (ks : List Key) (k : Key) : (putKs ks k).length ≤ ks.length + 1 := by
  unfold putKs
  split
  · omega
  · simp
theorem ix_numsF {ds : List Int} {r : Nat} (h : r < ds.length) : OT.ix (.fz (.nd .lst (numsD ds))) (.fz (.int (r : Int))) = some (.fz (.int ds[r])) := atI_nat (by
  unfold numsD
  rw [List.getElem?_map, List.getElem?_map, List.getElem?_eq_getElem h]; rfl)
theorem ix_numsOO {ds : List Int} {r : Nat} (h : r < ds.length) : OT.ix (.nd .lst ((numsD ds).map .fz)) (.fz (.int (r : Int))) = some (.fz (.int ds[r])) := atI_nat (by
  unfold numsD
  rw [List.getElem?_map, List.getElem?_map, List.getElem?_eq_getElem h]; rfl)
theorem ix_frsF {ps : List (Int × Int)} {r : Nat} (h : r < ps.length) : OT.ix (.fz (.nd .lst (frs ps))) (.fz (.int (r : Int))) = some (.fz (fr ps[r])) := atI_nat (by
  unfold frs
  rw [List.getElem?_map, List.getElem?_map, List.getElem?_eq_getElem h]; rfl)
theorem set_nums (ds : List Int) (k : Nat) (x : Int) : ((numsD ds).map OT.fz).set k (.fz (.int x)) = (numsD (ds.set k x)).map .fz := by
  unfold numsD
  rw [List.map_set, List.map_set]
theorem zeros (n : Nat) : (List.replicate n ([D.int 0] : List D)).flatten = numsD (List.replicate n 0) := by
  induction n with
  | zero => rfl
  | succ n ih => rw [List.replicate_succ, List.flatten_cons, ih, List.replicate_succ]; rfl
/-- turns of the law's own run -/
def DnOk (n : Nat) (j : Int) (dn : List Int) : Prop := dn.length = n ∧ ∀ x ∈ dn, 0 ≤ x ∧ x ≤ j
def w__law_run (xq : XQ) : WS := (wSeq (wSet 5 (wLst wNil))
    (wSeq (wSet 6 (wBin gMul (wOE (wLst (wCons (wPE (wC (.int 0))) wNil))) (wPE (wFn gLen (wVCons (wVar 0) wVNil)))))
    (wSeq (wSet 7 wDNew)
    (wSeq (wFor (iSeq (wVarF 2)) (gtName 8) (wDPut 7 (wPE (wC (.bl true))) (wVar 8)))
    (wSeq (wSet 9 (wEO (wPE (wC (.int 0)))))
    (wSeq (wFor (iRange1 (wCons (wOE (wBin gAdd (wOE (wBin gMul (wPE (wC (.int 2))) (wVarF 4))) (wPE (wC (.int 2))))) wNil)) (gtName 10) (wSeq (wIfS (wET (wPE (wS (gCmp fun i j => decide (j ≤ i)) (wVar 9) (wVar 4)))) (wRet (wMove 5)) wNext)
    (wSeq (wSet 11 (wLc [15] (iRange1 (wCons (wPE (wFn gLen (wVCons (wVar 0) wVNil))) wNil)) (gtName 15) (wET (wSE (gCmp fun i j => decide (j < i)) (wOE (wBin gAdd (wOE (wBin gDiv (wOE (wBin gSub (wVarF 9) (wPE (wIx (wVar 1) (wVar 15))))) (wPE (wIx (wIx (wVar 0) (wVar 15)) (wC (.int 0)))))) (wPE (wC (.int 1))))) (wPE (wIx (wVar 6) (wVar 15))))) (wVarF 15)))
    (wIfS (wET (wSV 11 gEq (wOE (wLst wNil)))) (wSet 9 (wBin gAdd (wVarF 9) (wPE (wC (.int 1))))) (wSeq (wSet 12 (wEO (wPE (wIx (wVar 11) (wC (.int 0))))))
    (wSeq (wSet 13 (wBin gAdd (wVarF 9) (wPE (wIx (wIx (wVar 0) (wVar 12)) (wC (.int 1))))))
    (wSeq (wSet 14 (wEO (wSE gEq (wOE (wLc [8] (iRange2 (wCons (wVarF 9) (wCons (wVarF 13) wNil))) (gtName 8) (wET (wPE (wS (gInD false) (wVar 8) (wVar 7)))) (wVarF 8))) (wOE (wLst wNil)))))
    (wSeq (wIfS (wET (wPE (wS (gCmp fun i j => decide (i ≤ j)) (wVar 13) (wVar 4)))) (wDrop (wMthN 5 gAppend (wOCons (wEO (wTup (wCons (wVarF 12) (wCons (wPE (wIx (wVar 6) (wVar 12))) (wCons (wOE (wBin gAdd (wPE (wIx (wVar 1) (wVar 12))) (wOE (wBin gMul (wPE (wIx (wVar 6) (wVar 12))) (wPE (wIx (wIx (wVar 0) (wVar 12)) (wC (.int 0)))))))) (wCons (wVarF 9) (wCons (wVarF 14) wNil))))))) wONil))) wNext)
    (wSeq (wSetIx (wBin gAdd (wPE (wIx (wVar 6) (wVar 12))) (wFnE gToInt (wCons (wVarF 14) wNil))) (lName 6) (wVar 12))
    (wSet 9 (wBin gAdd (wVarF 13) (wOE (wBin gMul (wVarF 3) (wFnE gToInt (wCons (wNotV (wVarF 14)) wNil)))))))))))))))
    (wRet (wMove 5))))))))
theorem len__law_run : ∀ args R RX, sp__law_run args R RX → args.length = 5 := by rintro _ _ _ ⟨ps, phs, hs, pause, reach, rfl, _⟩; rfl
theorem pu__law_run : ∀ args R RX, sp__law_run args R RX → w__law_run (fun x env => RX x (t0 false env)) { nx := fun env => R (.fz .non) (t0 false env), rt := fun t env => R t (t0 false env) } (args ++ List.replicate (["plan", "phases", "hurts", "pause", "reach", "rows", "done", "struck", "one", "now", "turn", "ready", "rank", "behind", "whole", "k"].length - args.length) .un) := by
  rintro _ R RX ⟨ps, phs, hs, pause, reach, rfl, pl, ph, hl, pa0, pa1, r0, r1, h⟩
  have n8 := pl.1
  change w__law_run _ _ [.fz (planD ps), .fz (.nd .lst (numsD phs)), .fz (.nd .tup (numsD hs)), .fz (.int pause), .fz (.int reach), .un, .un, .un, .un, .un, .un, .un, .un, .un, .un, .un]
  refine cut fun N hN => ?_
  simp only [wRet, wRetN, wEO, wPE, wOE, wC, wVar, wVarF, wAndV, wNotV, wOrV, wIsi, wNext, wSeq, wDrop, wIfS, wSet, wPar, wAsg, wCall, wCallB, wCallK, wCallG, wMove, wCons, wNil, wVCons, wVNil, wOCons, wONil, wFn, wFnE, wFnN, wS, wSE, wSV, wCh, wET, wAnd, wOr, DL.wNot, wTup, wLst, wIf, wIx, wRaise, wMthN, gAppend, gtName, gtCons, gtNil, gtSeq, iSeq, OT.tn, D.tn, NK.tn, isTy, gCmp, gEq, gNe, gIsN, gNotN, gIsB, gNotB, isNon_non, gLen, OT.size, OT.out, t0, List.getElem?_cons_zero, List.getElem?_cons_succ, List.set_cons_zero, List.set_cons_succ, List.map_cons, List.map_nil, OT.flat_fz, flat_nd', OT.dsOf_fz, dsOf_nil, dsOf_cons, Option.map_some, List.length_cons, List.length_nil, List.length_map, List.cons_append, List.nil_append, List.append_nil, wBin, gAdd, DL.gSub, gMul, gInt, List.getD_cons_zero, OT.whole_fz, OT.frz_fz, OT.whole_nd', OT.wholeL_fz, OT.wholeL_nil, OT.wholeL_cons, OT.frz_nd', map_frz_fz, ixo0, ixo1, ixo2, ixt0, ixt1, ixl0, ixl1, unAt, reAt, wSl, wPt, wNoPt, wSlE, wPtE, wNoPtE, OT.cut, wSetIx, lName, atP_nil, putP_nil, gSetM, ixN30, ixN31, ixN32, ne_eq, not_false_eq_true, not_true_eq_false, reduceCtorEq, if_true, if_false, if_pos, decide_true, decide_false, Bool.true_or, Bool.false_or, Bool.or_false, Bool.or_true, Bool.not_true, Bool.not_false, true_and, and_true, Option.some.injEq, exists_eq_left', String.reduceEq, Nat.zero_add, Nat.reduceAdd, Nat.reduceLT, Nat.lt_add_one, Bool.and_false, Bool.and_true, Bool.false_and, Bool.true_and, Bool.not_true, Bool.not_false, Bool.false_eq_true, pickL, eqv_int, eqv_bl, shaped_int, shaped_bl, shaped_non, wRev, wPeek, wListRg1, wLenSet, wMth, lIx, ixl2, ixl3, ixl4, ixt2, ixp0, ixp1, ixN20, ixN21, OT.flat_nd, wStar2, wTupOf, wDNew]
  refine ⟨by decide, hN _ (cut fun N hN => ?_)⟩
  simp only [planD, frs_len, wRet, wRetN, wEO, wPE, wOE, wC, wVar, wVarF, wAndV, wNotV, wOrV, wIsi, wNext, wSeq, wDrop, wIfS, wSet, wPar, wAsg, wCall, wCallB, wCallK, wCallG, wMove, wCons, wNil, wVCons, wVNil, wOCons, wONil, wFn, wFnE, wFnN, wS, wSE, wSV, wCh, wET, wAnd, wOr, DL.wNot, wTup, wLst, wIf, wIx, wRaise, wMthN, gAppend, gtName, gtCons, gtNil, gtSeq, iSeq, OT.tn, D.tn, NK.tn, isTy, gCmp, gEq, gNe, gIsN, gNotN, gIsB, gNotB, isNon_non, gLen, OT.size, OT.out, t0, List.getElem?_cons_zero, List.getElem?_cons_succ, List.set_cons_zero, List.set_cons_succ, List.map_cons, List.map_nil, OT.flat_fz, flat_nd', OT.dsOf_fz, dsOf_nil, dsOf_cons, Option.map_some, List.length_cons, List.length_nil, List.length_map, List.cons_append, List.nil_append, List.append_nil, wBin, gAdd, DL.gSub, gMul, gInt, List.getD_cons_zero, OT.whole_fz, OT.frz_fz, OT.whole_nd', OT.wholeL_fz, OT.wholeL_nil, OT.wholeL_cons, OT.frz_nd', map_frz_fz, ixo0, ixo1, ixo2, ixt0, ixt1, ixl0, ixl1, unAt, reAt, wSl, wPt, wNoPt, wSlE, wPtE, wNoPtE, OT.cut, wSetIx, lName, atP_nil, putP_nil, gSetM, ixN30, ixN31, ixN32, ne_eq, not_false_eq_true, not_true_eq_false, reduceCtorEq, if_true, if_false, if_pos, decide_true, decide_false, Bool.true_or, Bool.false_or, Bool.or_false, Bool.or_true, Bool.not_true, Bool.not_false, true_and, and_true, Option.some.injEq, exists_eq_left', String.reduceEq, Nat.zero_add, Nat.reduceAdd, Nat.reduceLT, Nat.lt_add_one, Bool.and_false, Bool.and_true, Bool.false_and, Bool.true_and, Bool.not_true, Bool.not_false, Bool.false_eq_true, pickL, eqv_int, eqv_bl, shaped_int, shaped_bl, shaped_non, wRev, wPeek, wListRg1, wLenSet, wMth, lIx, ixl2, ixl3, ixl4, ixt2, ixp0, ixp1, ixN20, ixN21, OT.flat_nd, wStar2, wTupOf, wDNew]
  rw [Int.toNat_natCast, zeros]
  refine ⟨by decide, ⟨by omega, by omega, Nat.le_trans (by omega : _ ≤ 8) (by decide)⟩, hN _ (cut fun N hN => ?_)⟩
  simp only [wRet, wRetN, wEO, wPE, wOE, wC, wVar, wVarF, wAndV, wNotV, wOrV, wIsi, wNext, wSeq, wDrop, wIfS, wSet, wPar, wAsg, wCall, wCallB, wCallK, wCallG, wMove, wCons, wNil, wVCons, wVNil, wOCons, wONil, wFn, wFnE, wFnN, wS, wSE, wSV, wCh, wET, wAnd, wOr, DL.wNot, wTup, wLst, wIf, wIx, wRaise, wMthN, gAppend, gtName, gtCons, gtNil, gtSeq, iSeq, OT.tn, D.tn, NK.tn, isTy, gCmp, gEq, gNe, gIsN, gNotN, gIsB, gNotB, isNon_non, gLen, OT.size, OT.out, t0, List.getElem?_cons_zero, List.getElem?_cons_succ, List.set_cons_zero, List.set_cons_succ, List.map_cons, List.map_nil, OT.flat_fz, flat_nd', OT.dsOf_fz, dsOf_nil, dsOf_cons, Option.map_some, List.length_cons, List.length_nil, List.length_map, List.cons_append, List.nil_append, List.append_nil, wBin, gAdd, DL.gSub, gMul, gInt, List.getD_cons_zero, OT.whole_fz, OT.frz_fz, OT.whole_nd', OT.wholeL_fz, OT.wholeL_nil, OT.wholeL_cons, OT.frz_nd', map_frz_fz, ixo0, ixo1, ixo2, ixt0, ixt1, ixl0, ixl1, unAt, reAt, wSl, wPt, wNoPt, wSlE, wPtE, wNoPtE, OT.cut, wSetIx, lName, atP_nil, putP_nil, gSetM, ixN30, ixN31, ixN32, ne_eq, not_false_eq_true, not_true_eq_false, reduceCtorEq, if_true, if_false, if_pos, decide_true, decide_false, Bool.true_or, Bool.false_or, Bool.or_false, Bool.or_true, Bool.not_true, Bool.not_false, true_and, and_true, Option.some.injEq, exists_eq_left', String.reduceEq, Nat.zero_add, Nat.reduceAdd, Nat.reduceLT, Nat.lt_add_one, Bool.and_false, Bool.and_true, Bool.false_and, Bool.true_and, Bool.not_true, Bool.not_false, Bool.false_eq_true, pickL, eqv_int, eqv_bl, shaped_int, shaped_bl, shaped_non, wRev, wPeek, wListRg1, wLenSet, wMth, lIx, ixl2, ixl3, ixl4, ixt2, ixp0, ixp1, ixN20, ixN21, OT.flat_nd, wStar2, wTupOf, wDNew]
  refine hN _ (cut fun N hN => ?_)
  unfold wFor
  simp only [wRet, wRetN, wEO, wPE, wOE, wC, wVar, wVarF, wAndV, wNotV, wOrV, wIsi, wNext, wSeq, wDrop, wIfS, wSet, wPar, wAsg, wCall, wCallB, wCallK, wCallG, wMove, wCons, wNil, wVCons, wVNil, wOCons, wONil, wFn, wFnE, wFnN, wS, wSE, wSV, wCh, wET, wAnd, wOr, DL.wNot, wTup, wLst, wIf, wIx, wRaise, wMthN, gAppend, gtName, gtCons, gtNil, gtSeq, iSeq, OT.tn, D.tn, NK.tn, isTy, gCmp, gEq, gNe, gIsN, gNotN, gIsB, gNotB, isNon_non, gLen, OT.size, OT.out, t0, List.getElem?_cons_zero, List.getElem?_cons_succ, List.set_cons_zero, List.set_cons_succ, List.map_cons, List.map_nil, OT.flat_fz, flat_nd', OT.dsOf_fz, dsOf_nil, dsOf_cons, Option.map_some, List.length_cons, List.length_nil, List.length_map, List.cons_append, List.nil_append, List.append_nil, wBin, gAdd, DL.gSub, gMul, gInt, List.getD_cons_zero, OT.whole_fz, OT.frz_fz, OT.whole_nd', OT.wholeL_fz, OT.wholeL_nil, OT.wholeL_cons, OT.frz_nd', map_frz_fz, ixo0, ixo1, ixo2, ixt0, ixt1, ixl0, ixl1, unAt, reAt, wSl, wPt, wNoPt, wSlE, wPtE, wNoPtE, OT.cut, wSetIx, lName, atP_nil, putP_nil, gSetM, ixN30, ixN31, ixN32, ne_eq, not_false_eq_true, not_true_eq_false, reduceCtorEq, if_true, if_false, if_pos, decide_true, decide_false, Bool.true_or, Bool.false_or, Bool.or_false, Bool.or_true, Bool.not_true, Bool.not_false, true_and, and_true, Option.some.injEq, exists_eq_left', String.reduceEq, Nat.zero_add, Nat.reduceAdd, Nat.reduceLT, Nat.lt_add_one, Bool.and_false, Bool.and_true, Bool.false_and, Bool.true_and, Bool.not_true, Bool.not_false, Bool.false_eq_true, pickL, eqv_int, eqv_bl, shaped_int, shaped_bl, shaped_non, wRev, wPeek, wListRg1, wLenSet, wMth, lIx, ixl2, ixl3, ixl4, ixt2, ixp0, ixp1, ixN20, ixN21, OT.flat_nd, wStar2, wTupOf, wDNew]
  refine for_inv (fun ds e => ∃ (ks : List Key) (es : List D) (z : OT), (z = .un ∨ ∃ d, z = .fz d) ∧ ks.length + ds.length ≤ 25 ∧ (∀ d ∈ ds, ∃ i, d = .int i) ∧ e = [.fz (.nd .lst (frs ps)), .fz (.nd .lst (numsD phs)), .fz (.nd .tup (numsD hs)), .fz (.int pause), .fz (.int reach), .nd .lst [], .nd .lst ((numsD (List.replicate ps.length 0)).map .fz), .nd (.dic ks) (es.map .fz), z, .un, .un, .un, .un, .un, .un, .un]) ?_ ?_ _ _ ⟨[], [], _, .inl rfl, by rw [numsD_len]; simp; omega, fun d hd => by obtain ⟨x, _, rfl⟩ := List.mem_map.mp hd; exact ⟨x, rfl⟩, rfl⟩
  · rintro d ds env M hM ⟨ks, es, z, hz, kl, di, rfl⟩
    obtain ⟨i, rfl⟩ := di d List.mem_cons_self
    rw [List.length_cons] at kl
    simp only [wDPut, wRet, wRetN, wEO, wPE, wOE, wC, wVar, wVarF, wAndV, wNotV, wOrV, wIsi, wNext, wSeq, wDrop, wIfS, wSet, wPar, wAsg, wCall, wCallB, wCallK, wCallG, wMove, wCons, wNil, wVCons, wVNil, wOCons, wONil, wFn, wFnE, wFnN, wS, wSE, wSV, wCh, wET, wAnd, wOr, DL.wNot, wTup, wLst, wIf, wIx, wRaise, wMthN, gAppend, gtName, gtCons, gtNil, gtSeq, iSeq, OT.tn, D.tn, NK.tn, isTy, gCmp, gEq, gNe, gIsN, gNotN, gIsB, gNotB, isNon_non, gLen, OT.size, OT.out, t0, List.getElem?_cons_zero, List.getElem?_cons_succ, List.set_cons_zero, List.set_cons_succ, List.map_cons, List.map_nil, OT.flat_fz, flat_nd', OT.dsOf_fz, dsOf_nil, dsOf_cons, Option.map_some, List.length_cons, List.length_nil, List.length_map, List.cons_append, List.nil_append, List.append_nil, wBin, gAdd, DL.gSub, gMul, gInt, List.getD_cons_zero, OT.whole_fz, OT.frz_fz, OT.whole_nd', OT.wholeL_fz, OT.wholeL_nil, OT.wholeL_cons, OT.frz_nd', map_frz_fz, ixo0, ixo1, ixo2, ixt0, ixt1, ixl0, ixl1, unAt, reAt, wSl, wPt, wNoPt, wSlE, wPtE, wNoPtE, OT.cut, wSetIx, lName, atP_nil, putP_nil, gSetM, ixN30, ixN31, ixN32, ne_eq, not_false_eq_true, not_true_eq_false, reduceCtorEq, if_true, if_false, if_pos, decide_true, decide_false, Bool.true_or, Bool.false_or, Bool.or_false, Bool.or_true, Bool.not_true, Bool.not_false, true_and, and_true, Option.some.injEq, exists_eq_left', String.reduceEq, Nat.zero_add, Nat.reduceAdd, Nat.reduceLT, Nat.lt_add_one, Bool.and_false, Bool.and_true, Bool.false_and, Bool.true_and, Bool.not_true, Bool.not_false, Bool.false_eq_true, pickL, eqv_int, eqv_bl, shaped_int, shaped_bl, shaped_non, wRev, wPeek, wListRg1, wLenSet, wMth, lIx, ixl2, ixl3, ixl4, ixt2, ixp0, ixp1, ixN20, ixN21, OT.flat_nd, wStar2, wTupOf, wDNew]
    refine ⟨Nat.lt_of_le_of_lt (by omega : ks.length ≤ 25) (by decide), ?_⟩
    show M _
    refine hM _ ⟨_, _, _, .inr ⟨_, rfl⟩, ?_, fun d hd => di d (List.mem_cons_of_mem _ hd), rfl⟩
    have := putKs_len ks (.inl i)
    omega
  rintro env ⟨ks, es, z, hz, kl, di, rfl⟩
  refine hN _ (cut fun N hN => ?_)
  simp only [wRet, wRetN, wEO, wPE, wOE, wC, wVar, wVarF, wAndV, wNotV, wOrV, wIsi, wNext, wSeq, wDrop, wIfS, wSet, wPar, wAsg, wCall, wCallB, wCallK, wCallG, wMove, wCons, wNil, wVCons, wVNil, wOCons, wONil, wFn, wFnE, wFnN, wS, wSE, wSV, wCh, wET, wAnd, wOr, DL.wNot, wTup, wLst, wIf, wIx, wRaise, wMthN, gAppend, gtName, gtCons, gtNil, gtSeq, iSeq, OT.tn, D.tn, NK.tn, isTy, gCmp, gEq, gNe, gIsN, gNotN, gIsB, gNotB, isNon_non, gLen, OT.size, OT.out, t0, List.getElem?_cons_zero, List.getElem?_cons_succ, List.set_cons_zero, List.set_cons_succ, List.map_cons, List.map_nil, OT.flat_fz, flat_nd', OT.dsOf_fz, dsOf_nil, dsOf_cons, Option.map_some, List.length_cons, List.length_nil, List.length_map, List.cons_append, List.nil_append, List.append_nil, wBin, gAdd, DL.gSub, gMul, gInt, List.getD_cons_zero, OT.whole_fz, OT.frz_fz, OT.whole_nd', OT.wholeL_fz, OT.wholeL_nil, OT.wholeL_cons, OT.frz_nd', map_frz_fz, ixo0, ixo1, ixo2, ixt0, ixt1, ixl0, ixl1, unAt, reAt, wSl, wPt, wNoPt, wSlE, wPtE, wNoPtE, OT.cut, wSetIx, lName, atP_nil, putP_nil, gSetM, ixN30, ixN31, ixN32, ne_eq, not_false_eq_true, not_true_eq_false, reduceCtorEq, if_true, if_false, if_pos, decide_true, decide_false, Bool.true_or, Bool.false_or, Bool.or_false, Bool.or_true, Bool.not_true, Bool.not_false, true_and, and_true, Option.some.injEq, exists_eq_left', String.reduceEq, Nat.zero_add, Nat.reduceAdd, Nat.reduceLT, Nat.lt_add_one, Bool.and_false, Bool.and_true, Bool.false_and, Bool.true_and, Bool.not_true, Bool.not_false, Bool.false_eq_true, pickL, eqv_int, eqv_bl, shaped_int, shaped_bl, shaped_non, wRev, wPeek, wListRg1, wLenSet, wMth, lIx, ixl2, ixl3, ixl4, ixt2, ixp0, ixp1, ixN20, ixN21, OT.flat_nd, wStar2, wTupOf, wDNew]
  refine hN _ (cut fun N hN => ?_)
  unfold wFor
  simp only [iRange1, wRet, wRetN, wEO, wPE, wOE, wC, wVar, wVarF, wAndV, wNotV, wOrV, wIsi, wNext, wSeq, wDrop, wIfS, wSet, wPar, wAsg, wCall, wCallB, wCallK, wCallG, wMove, wCons, wNil, wVCons, wVNil, wOCons, wONil, wFn, wFnE, wFnN, wS, wSE, wSV, wCh, wET, wAnd, wOr, DL.wNot, wTup, wLst, wIf, wIx, wRaise, wMthN, gAppend, gtName, gtCons, gtNil, gtSeq, iSeq, OT.tn, D.tn, NK.tn, isTy, gCmp, gEq, gNe, gIsN, gNotN, gIsB, gNotB, isNon_non, gLen, OT.size, OT.out, t0, List.getElem?_cons_zero, List.getElem?_cons_succ, List.set_cons_zero, List.set_cons_succ, List.map_cons, List.map_nil, OT.flat_fz, flat_nd', OT.dsOf_fz, dsOf_nil, dsOf_cons, Option.map_some, List.length_cons, List.length_nil, List.length_map, List.cons_append, List.nil_append, List.append_nil, wBin, gAdd, DL.gSub, gMul, gInt, List.getD_cons_zero, OT.whole_fz, OT.frz_fz, OT.whole_nd', OT.wholeL_fz, OT.wholeL_nil, OT.wholeL_cons, OT.frz_nd', map_frz_fz, ixo0, ixo1, ixo2, ixt0, ixt1, ixl0, ixl1, unAt, reAt, wSl, wPt, wNoPt, wSlE, wPtE, wNoPtE, OT.cut, wSetIx, lName, atP_nil, putP_nil, gSetM, ixN30, ixN31, ixN32, ne_eq, not_false_eq_true, not_true_eq_false, reduceCtorEq, if_true, if_false, if_pos, decide_true, decide_false, Bool.true_or, Bool.false_or, Bool.or_false, Bool.or_true, Bool.not_true, Bool.not_false, true_and, and_true, Option.some.injEq, exists_eq_left', String.reduceEq, Nat.zero_add, Nat.reduceAdd, Nat.reduceLT, Nat.lt_add_one, Bool.and_false, Bool.and_true, Bool.false_and, Bool.true_and, Bool.not_true, Bool.not_false, Bool.false_eq_true, pickL, eqv_int, eqv_bl, shaped_int, shaped_bl, shaped_non, wRev, wPeek, wListRg1, wLenSet, wMth, lIx, ixl2, ixl3, ixl4, ixt2, ixp0, ixp1, ixN20, ixN21, OT.flat_nd, wStar2, wTupOf, wDNew]
  refine ⟨Sm.mulB (n := 3) (m := 20) (Sm.of (by omega)) (Sm.of (by omega)), by unfold Small62; omega, ?_⟩
  refine for_inv (fun ds e => ∃ (j m : Nat) (now : Int) (dn : List Int) (rs : List Row) (z8 z10 z11 z12 z13 z14 : OT), ds = rangeD j m ∧ (z8 = .un ∨ ∃ d, z8 = .fz d) ∧ (j : Int) + m = 2 * reach + 2 ∧ 0 ≤ now ∧ now ≤ 30 * j ∧ DnOk ps.length j dn ∧ (rs.length : Int) ≤ j ∧ (∀ r ∈ rs, r.rank < ps.length ∧ (0 ≤ r.since ∧ r.since ≤ 30 * (2 * reach + 2))) ∧
    e = [.fz (.nd .lst (frs ps)), .fz (.nd .lst (numsD phs)), .fz (.nd .tup (numsD hs)), .fz (.int pause), .fz (.int reach), .nd .lst ((rowsD rs).map .fz), .nd .lst ((numsD dn).map .fz), .nd (.dic ks) (es.map .fz), z8, .fz (.int now), z10, z11, z12, z13, z14, .un]) ?_ ?_ _ _ ⟨0, (2 * reach + 2).toNat, 0, List.replicate ps.length 0, [], _, _, _, _, _, _, rfl, hz, by omega, by omega, by omega, ⟨List.length_replicate, fun x hx => by rw [List.eq_of_mem_replicate hx]; omega⟩, by simp, (fun _ z => nomatch z), rfl⟩
  · rintro d ds env E hE ⟨j, m, now, dn, rs, z8, z10, z11, z12, z13, z14, e1, hz, jm, w0, w1, dk, rl, rk, rfl⟩
    have done : ∀ t, R (.nd .lst ((rowsD rs).map .fz)) t → R (.nd .lst ((rowsD rs).map .fz)) t := fun _ z => z
    cases m with
    | zero => cases e1
    | succ m =>
      rw [rangeD_succ] at e1
      cases e1
      refine ⟨by simp, cut fun N1 hN1 => ?_⟩
      simp only [wRet, wRetN, wEO, wPE, wOE, wC, wVar, wVarF, wAndV, wNotV, wOrV, wIsi, wNext, wSeq, wDrop, wIfS, wSet, wPar, wAsg, wCall, wCallB, wCallK, wCallG, wMove, wCons, wNil, wVCons, wVNil, wOCons, wONil, wFn, wFnE, wFnN, wS, wSE, wSV, wCh, wET, wAnd, wOr, DL.wNot, wTup, wLst, wIf, wIx, wRaise, wMthN, gAppend, gtName, gtCons, gtNil, gtSeq, iSeq, OT.tn, D.tn, NK.tn, isTy, gCmp, gEq, gNe, gIsN, gNotN, gIsB, gNotB, isNon_non, gLen, OT.size, OT.out, t0, List.getElem?_cons_zero, List.getElem?_cons_succ, List.set_cons_zero, List.set_cons_succ, List.map_cons, List.map_nil, OT.flat_fz, flat_nd', OT.dsOf_fz, dsOf_nil, dsOf_cons, Option.map_some, List.length_cons, List.length_nil, List.length_map, List.cons_append, List.nil_append, List.append_nil, wBin, gAdd, DL.gSub, gMul, gInt, List.getD_cons_zero, OT.whole_fz, OT.frz_fz, OT.whole_nd', OT.wholeL_fz, OT.wholeL_nil, OT.wholeL_cons, OT.frz_nd', map_frz_fz, ixo0, ixo1, ixo2, ixt0, ixt1, ixl0, ixl1, unAt, reAt, wSl, wPt, wNoPt, wSlE, wPtE, wNoPtE, OT.cut, wSetIx, lName, atP_nil, putP_nil, gSetM, ixN30, ixN31, ixN32, ne_eq, not_false_eq_true, not_true_eq_false, reduceCtorEq, if_true, if_false, if_pos, decide_true, decide_false, Bool.true_or, Bool.false_or, Bool.or_false, Bool.or_true, Bool.not_true, Bool.not_false, true_and, and_true, Option.some.injEq, exists_eq_left', String.reduceEq, Nat.zero_add, Nat.reduceAdd, Nat.reduceLT, Nat.lt_add_one, Bool.and_false, Bool.and_true, Bool.false_and, Bool.true_and, Bool.not_true, Bool.not_false, Bool.false_eq_true, pickL, eqv_int, eqv_bl, shaped_int, shaped_bl, shaped_non, wRev, wPeek, wListRg1, wLenSet, wMth, lIx, ixl2, ixl3, ixl4, ixt2, ixp0, ixp1, ixN20, ixN21, OT.flat_nd, wStar2, wTupOf, wDNew]
      by_cases en : reach ≤ now
      · refine ifT en ?_
        exact h rs ⟨by omega, rk⟩
      refine ifF en (hN1 _ (cut fun N2 hN2 => ?_))
      unfold wLc
      simp only [iRange1, frs_len, wRet, wRetN, wEO, wPE, wOE, wC, wVar, wVarF, wAndV, wNotV, wOrV, wIsi, wNext, wSeq, wDrop, wIfS, wSet, wPar, wAsg, wCall, wCallB, wCallK, wCallG, wMove, wCons, wNil, wVCons, wVNil, wOCons, wONil, wFn, wFnE, wFnN, wS, wSE, wSV, wCh, wET, wAnd, wOr, DL.wNot, wTup, wLst, wIf, wIx, wRaise, wMthN, gAppend, gtName, gtCons, gtNil, gtSeq, iSeq, OT.tn, D.tn, NK.tn, isTy, gCmp, gEq, gNe, gIsN, gNotN, gIsB, gNotB, isNon_non, gLen, OT.size, OT.out, t0, List.getElem?_cons_zero, List.getElem?_cons_succ, List.set_cons_zero, List.set_cons_succ, List.map_cons, List.map_nil, OT.flat_fz, flat_nd', OT.dsOf_fz, dsOf_nil, dsOf_cons, Option.map_some, List.length_cons, List.length_nil, List.length_map, List.cons_append, List.nil_append, List.append_nil, wBin, gAdd, DL.gSub, gMul, gInt, List.getD_cons_zero, OT.whole_fz, OT.frz_fz, OT.whole_nd', OT.wholeL_fz, OT.wholeL_nil, OT.wholeL_cons, OT.frz_nd', map_frz_fz, ixo0, ixo1, ixo2, ixt0, ixt1, ixl0, ixl1, unAt, reAt, wSl, wPt, wNoPt, wSlE, wPtE, wNoPtE, OT.cut, wSetIx, lName, atP_nil, putP_nil, gSetM, ixN30, ixN31, ixN32, ne_eq, not_false_eq_true, not_true_eq_false, reduceCtorEq, if_true, if_false, if_pos, decide_true, decide_false, Bool.true_or, Bool.false_or, Bool.or_false, Bool.or_true, Bool.not_true, Bool.not_false, true_and, and_true, Option.some.injEq, exists_eq_left', String.reduceEq, Nat.zero_add, Nat.reduceAdd, Nat.reduceLT, Nat.lt_add_one, Bool.and_false, Bool.and_true, Bool.false_and, Bool.true_and, Bool.not_true, Bool.not_false, Bool.false_eq_true, pickL, eqv_int, eqv_bl, shaped_int, shaped_bl, shaped_non, wRev, wPeek, wListRg1, wLenSet, wMth, lIx, ixl2, ixl3, ixl4, ixt2, ixp0, ixp1, ixN20, ixN21, OT.flat_nd, wStar2, wTupOf, wDNew]
      refine ⟨by unfold Small62; omega, ?_⟩
      refine lc_invF (fun ds acc e => ∃ (i q : Nat) (got : List Nat), ds = rangeD i q ∧ i + q = ps.length ∧ acc = rksD got ∧ got.length ≤ i ∧ (∀ k ∈ got, k < ps.length) ∧ e = [.fz (.nd .lst (frs ps)), .fz (.nd .lst (numsD phs)), .fz (.nd .tup (numsD hs)), .fz (.int pause), .fz (.int reach), .nd .lst ((rowsD rs).map .fz), .nd .lst ((numsD dn).map .fz), .nd (.dic ks) (es.map .fz), z8, .fz (.int now), .fz (.int (j : Int)), z11, z12, z13, z14, .un]) ?_ ?_ _ _ _ ⟨0, ps.length, [], by rw [Int.toNat_natCast]; rfl, by omega, rfl, by simp, (fun _ z => nomatch z), rfl⟩
      · rintro d ds acc env F ⟨i, q, got, e2, iq, rfl, gl, gk, rfl⟩ hF
        cases q with
        | zero => cases e2
        | succ q =>
          rw [rangeD_succ] at e2
          cases e2
          have ip : i < ps.length := by omega
          have iph : i < phs.length := by rw [ph.1]; exact ip
          have idn : i < dn.length := by rw [dk.1]; exact ip
          have hq := pl.2 ps[i] (List.getElem_mem ip)
          simp only [ix_numsF iph, ix_frsF ip, ix_numsOO idn, fr, wRet, wRetN, wEO, wPE, wOE, wC, wVar, wVarF, wAndV, wNotV, wOrV, wIsi, wNext, wSeq, wDrop, wIfS, wSet, wPar, wAsg, wCall, wCallB, wCallK, wCallG, wMove, wCons, wNil, wVCons, wVNil, wOCons, wONil, wFn, wFnE, wFnN, wS, wSE, wSV, wCh, wET, wAnd, wOr, DL.wNot, wTup, wLst, wIf, wIx, wRaise, wMthN, gAppend, gtName, gtCons, gtNil, gtSeq, iSeq, OT.tn, D.tn, NK.tn, isTy, gCmp, gEq, gNe, gIsN, gNotN, gIsB, gNotB, isNon_non, gLen, OT.size, OT.out, t0, List.getElem?_cons_zero, List.getElem?_cons_succ, List.set_cons_zero, List.set_cons_succ, List.map_cons, List.map_nil, OT.flat_fz, flat_nd', OT.dsOf_fz, dsOf_nil, dsOf_cons, Option.map_some, List.length_cons, List.length_nil, List.length_map, List.cons_append, List.nil_append, List.append_nil, wBin, gAdd, DL.gSub, gMul, gInt, List.getD_cons_zero, OT.whole_fz, OT.frz_fz, OT.whole_nd', OT.wholeL_fz, OT.wholeL_nil, OT.wholeL_cons, OT.frz_nd', map_frz_fz, ixo0, ixo1, ixo2, ixt0, ixt1, ixl0, ixl1, unAt, reAt, wSl, wPt, wNoPt, wSlE, wPtE, wNoPtE, OT.cut, wSetIx, lName, atP_nil, putP_nil, gSetM, ixN30, ixN31, ixN32, ne_eq, not_false_eq_true, not_true_eq_false, reduceCtorEq, if_true, if_false, if_pos, decide_true, decide_false, Bool.true_or, Bool.false_or, Bool.or_false, Bool.or_true, Bool.not_true, Bool.not_false, true_and, and_true, Option.some.injEq, exists_eq_left', String.reduceEq, Nat.zero_add, Nat.reduceAdd, Nat.reduceLT, Nat.lt_add_one, Bool.and_false, Bool.and_true, Bool.false_and, Bool.true_and, Bool.not_true, Bool.not_false, Bool.false_eq_true, pickL, eqv_int, eqv_bl, shaped_int, shaped_bl, shaped_non, wRev, wPeek, wListRg1, wLenSet, wMth, lIx, ixl2, ixl3, ixl4, ixt2, ixp0, ixp1, ixN20, ixN21, OT.flat_nd, wStar2, wTupOf, wDNew]
          refine ⟨Sm.divW (n := 10) (Sm.of (by have := hq.1; omega)) (by have := hq.1; omega), ?_⟩
          by_cases c : dn[i] < (now - phs[i]) / ps[i].1 + 1
          · refine ifT c ?_
            refine ⟨by rw [rksD_len]; exact Nat.lt_of_le_of_lt (by omega : got.length ≤ 8) (by decide), ?_⟩
            exact hF _ _ ⟨i + 1, q, got ++ [i], rfl, by omega, by rw [← rksD_app]; rfl, by rw [List.length_append, List.length_singleton]; omega, fun k hk => (List.mem_append.mp hk).elim (gk k) fun hk => by rw [List.mem_singleton.mp hk]; exact ip, rfl⟩
          · refine ifF c ?_
            exact hF _ _ ⟨i + 1, q, got, rfl, by omega, rfl, by omega, gk, rfl⟩
      · rintro acc e ⟨i, q, got, e2, iq, rfl, gl, gk, rfl⟩
        cases q with
        | succ q => rw [rangeD_succ] at e2; cases e2
        | zero =>
          simp only [wRet, wRetN, wEO, wPE, wOE, wC, wVar, wVarF, wAndV, wNotV, wOrV, wIsi, wNext, wSeq, wDrop, wIfS, wSet, wPar, wAsg, wCall, wCallB, wCallK, wCallG, wMove, wCons, wNil, wVCons, wVNil, wOCons, wONil, wFn, wFnE, wFnN, wS, wSE, wSV, wCh, wET, wAnd, wOr, DL.wNot, wTup, wLst, wIf, wIx, wRaise, wMthN, gAppend, gtName, gtCons, gtNil, gtSeq, iSeq, OT.tn, D.tn, NK.tn, isTy, gCmp, gEq, gNe, gIsN, gNotN, gIsB, gNotB, isNon_non, gLen, OT.size, OT.out, t0, List.getElem?_cons_zero, List.getElem?_cons_succ, List.set_cons_zero, List.set_cons_succ, List.map_cons, List.map_nil, OT.flat_fz, flat_nd', OT.dsOf_fz, dsOf_nil, dsOf_cons, Option.map_some, List.length_cons, List.length_nil, List.length_map, List.cons_append, List.nil_append, List.append_nil, wBin, gAdd, DL.gSub, gMul, gInt, List.getD_cons_zero, OT.whole_fz, OT.frz_fz, OT.whole_nd', OT.wholeL_fz, OT.wholeL_nil, OT.wholeL_cons, OT.frz_nd', map_frz_fz, ixo0, ixo1, ixo2, ixt0, ixt1, ixl0, ixl1, unAt, reAt, wSl, wPt, wNoPt, wSlE, wPtE, wNoPtE, OT.cut, wSetIx, lName, atP_nil, putP_nil, gSetM, ixN30, ixN31, ixN32, ne_eq, not_false_eq_true, not_true_eq_false, reduceCtorEq, if_true, if_false, if_pos, decide_true, decide_false, Bool.true_or, Bool.false_or, Bool.or_false, Bool.or_true, Bool.not_true, Bool.not_false, true_and, and_true, Option.some.injEq, exists_eq_left', String.reduceEq, Nat.zero_add, Nat.reduceAdd, Nat.reduceLT, Nat.lt_add_one, Bool.and_false, Bool.and_true, Bool.false_and, Bool.true_and, Bool.not_true, Bool.not_false, Bool.false_eq_true, pickL, eqv_int, eqv_bl, shaped_int, shaped_bl, shaped_non, wRev, wPeek, wListRg1, wLenSet, wMth, lIx, ixl2, ixl3, ixl4, ixt2, ixp0, ixp1, ixN20, ixN21, OT.flat_nd, wStar2, wTupOf, wDNew]
          refine hN2 _ (ifS fun W U hW hU => ?_)
          simp only [eqv_rks_nil, wRet, wRetN, wEO, wPE, wOE, wC, wVar, wVarF, wAndV, wNotV, wOrV, wIsi, wNext, wSeq, wDrop, wIfS, wSet, wPar, wAsg, wCall, wCallB, wCallK, wCallG, wMove, wCons, wNil, wVCons, wVNil, wOCons, wONil, wFn, wFnE, wFnN, wS, wSE, wSV, wCh, wET, wAnd, wOr, DL.wNot, wTup, wLst, wIf, wIx, wRaise, wMthN, gAppend, gtName, gtCons, gtNil, gtSeq, iSeq, OT.tn, D.tn, NK.tn, isTy, gCmp, gEq, gNe, gIsN, gNotN, gIsB, gNotB, isNon_non, gLen, OT.size, OT.out, t0, List.getElem?_cons_zero, List.getElem?_cons_succ, List.set_cons_zero, List.set_cons_succ, List.map_cons, List.map_nil, OT.flat_fz, flat_nd', OT.dsOf_fz, dsOf_nil, dsOf_cons, Option.map_some, List.length_cons, List.length_nil, List.length_map, List.cons_append, List.nil_append, List.append_nil, wBin, gAdd, DL.gSub, gMul, gInt, List.getD_cons_zero, OT.whole_fz, OT.frz_fz, OT.whole_nd', OT.wholeL_fz, OT.wholeL_nil, OT.wholeL_cons, OT.frz_nd', map_frz_fz, ixo0, ixo1, ixo2, ixt0, ixt1, ixl0, ixl1, unAt, reAt, wSl, wPt, wNoPt, wSlE, wPtE, wNoPtE, OT.cut, wSetIx, lName, atP_nil, putP_nil, gSetM, ixN30, ixN31, ixN32, ne_eq, not_false_eq_true, not_true_eq_false, reduceCtorEq, if_true, if_false, if_pos, decide_true, decide_false, Bool.true_or, Bool.false_or, Bool.or_false, Bool.or_true, Bool.not_true, Bool.not_false, true_and, and_true, Option.some.injEq, exists_eq_left', String.reduceEq, Nat.zero_add, Nat.reduceAdd, Nat.reduceLT, Nat.lt_add_one, Bool.and_false, Bool.and_true, Bool.false_and, Bool.true_and, Bool.not_true, Bool.not_false, Bool.false_eq_true, pickL, eqv_int, eqv_bl, shaped_int, shaped_bl, shaped_non, wRev, wPeek, wListRg1, wLenSet, wMth, lIx, ixl2, ixl3, ixl4, ixt2, ixp0, ixp1, ixN20, ixN21, OT.flat_nd, wStar2, wTupOf, wDNew]
          refine ⟨by decide, shaped_nb 1 (nb_rks got), shaped_lnil, ?_⟩
          by_cases eg : got = []
          · refine ifT eg (hW _ ?_)
            simp only [wRet, wRetN, wEO, wPE, wOE, wC, wVar, wVarF, wAndV, wNotV, wOrV, wIsi, wNext, wSeq, wDrop, wIfS, wSet, wPar, wAsg, wCall, wCallB, wCallK, wCallG, wMove, wCons, wNil, wVCons, wVNil, wOCons, wONil, wFn, wFnE, wFnN, wS, wSE, wSV, wCh, wET, wAnd, wOr, DL.wNot, wTup, wLst, wIf, wIx, wRaise, wMthN, gAppend, gtName, gtCons, gtNil, gtSeq, iSeq, OT.tn, D.tn, NK.tn, isTy, gCmp, gEq, gNe, gIsN, gNotN, gIsB, gNotB, isNon_non, gLen, OT.size, OT.out, t0, List.getElem?_cons_zero, List.getElem?_cons_succ, List.set_cons_zero, List.set_cons_succ, List.map_cons, List.map_nil, OT.flat_fz, flat_nd', OT.dsOf_fz, dsOf_nil, dsOf_cons, Option.map_some, List.length_cons, List.length_nil, List.length_map, List.cons_append, List.nil_append, List.append_nil, wBin, gAdd, DL.gSub, gMul, gInt, List.getD_cons_zero, OT.whole_fz, OT.frz_fz, OT.whole_nd', OT.wholeL_fz, OT.wholeL_nil, OT.wholeL_cons, OT.frz_nd', map_frz_fz, ixo0, ixo1, ixo2, ixt0, ixt1, ixl0, ixl1, unAt, reAt, wSl, wPt, wNoPt, wSlE, wPtE, wNoPtE, OT.cut, wSetIx, lName, atP_nil, putP_nil, gSetM, ixN30, ixN31, ixN32, ne_eq, not_false_eq_true, not_true_eq_false, reduceCtorEq, if_true, if_false, if_pos, decide_true, decide_false, Bool.true_or, Bool.false_or, Bool.or_false, Bool.or_true, Bool.not_true, Bool.not_false, true_and, and_true, Option.some.injEq, exists_eq_left', String.reduceEq, Nat.zero_add, Nat.reduceAdd, Nat.reduceLT, Nat.lt_add_one, Bool.and_false, Bool.and_true, Bool.false_and, Bool.true_and, Bool.not_true, Bool.not_false, Bool.false_eq_true, pickL, eqv_int, eqv_bl, shaped_int, shaped_bl, shaped_non, wRev, wPeek, wListRg1, wLenSet, wMth, lIx, ixl2, ixl3, ixl4, ixt2, ixp0, ixp1, ixN20, ixN21, OT.flat_nd, wStar2, wTupOf, wDNew]
            exact hE _ ⟨j + 1, m, now + 1, dn, rs, _, _, _, _, _, _, rfl, hz, by omega, by omega, by omega, ⟨dk.1, fun x hx => by have := dk.2 x hx; omega⟩, by omega, rk, rfl⟩
          refine ifF eg (hU _ (cut fun N3 hN3 => ?_))
          obtain ⟨k, got, rfl⟩ := List.exists_cons_of_ne_nil eg
          have ip : k < ps.length := gk k List.mem_cons_self
          have iph : k < phs.length := by rw [ph.1]; exact ip
          have idn : k < dn.length := by rw [dk.1]; exact ip
          have hq := pl.2 ps[k] (List.getElem_mem ip)
          obtain ⟨⟨hq1, hq2⟩, hq3, hq4⟩ := hq
          have hd := dk.2 dn[k] (List.getElem_mem idn)
          simp only [rksD, wRet, wRetN, wEO, wPE, wOE, wC, wVar, wVarF, wAndV, wNotV, wOrV, wIsi, wNext, wSeq, wDrop, wIfS, wSet, wPar, wAsg, wCall, wCallB, wCallK, wCallG, wMove, wCons, wNil, wVCons, wVNil, wOCons, wONil, wFn, wFnE, wFnN, wS, wSE, wSV, wCh, wET, wAnd, wOr, DL.wNot, wTup, wLst, wIf, wIx, wRaise, wMthN, gAppend, gtName, gtCons, gtNil, gtSeq, iSeq, OT.tn, D.tn, NK.tn, isTy, gCmp, gEq, gNe, gIsN, gNotN, gIsB, gNotB, isNon_non, gLen, OT.size, OT.out, t0, List.getElem?_cons_zero, List.getElem?_cons_succ, List.set_cons_zero, List.set_cons_succ, List.map_cons, List.map_nil, OT.flat_fz, flat_nd', OT.dsOf_fz, dsOf_nil, dsOf_cons, Option.map_some, List.length_cons, List.length_nil, List.length_map, List.cons_append, List.nil_append, List.append_nil, wBin, gAdd, DL.gSub, gMul, gInt, List.getD_cons_zero, OT.whole_fz, OT.frz_fz, OT.whole_nd', OT.wholeL_fz, OT.wholeL_nil, OT.wholeL_cons, OT.frz_nd', map_frz_fz, ixo0, ixo1, ixo2, ixt0, ixt1, ixl0, ixl1, unAt, reAt, wSl, wPt, wNoPt, wSlE, wPtE, wNoPtE, OT.cut, wSetIx, lName, atP_nil, putP_nil, gSetM, ixN30, ixN31, ixN32, ne_eq, not_false_eq_true, not_true_eq_false, reduceCtorEq, if_true, if_false, if_pos, decide_true, decide_false, Bool.true_or, Bool.false_or, Bool.or_false, Bool.or_true, Bool.not_true, Bool.not_false, true_and, and_true, Option.some.injEq, exists_eq_left', String.reduceEq, Nat.zero_add, Nat.reduceAdd, Nat.reduceLT, Nat.lt_add_one, Bool.and_false, Bool.and_true, Bool.false_and, Bool.true_and, Bool.not_true, Bool.not_false, Bool.false_eq_true, pickL, eqv_int, eqv_bl, shaped_int, shaped_bl, shaped_non, wRev, wPeek, wListRg1, wLenSet, wMth, lIx, ixl2, ixl3, ixl4, ixt2, ixp0, ixp1, ixN20, ixN21, OT.flat_nd, wStar2, wTupOf, wDNew]
          refine hN3 _ (cut fun N4 hN4 => ?_)
          simp only [ix_frsF ip, fr, wRet, wRetN, wEO, wPE, wOE, wC, wVar, wVarF, wAndV, wNotV, wOrV, wIsi, wNext, wSeq, wDrop, wIfS, wSet, wPar, wAsg, wCall, wCallB, wCallK, wCallG, wMove, wCons, wNil, wVCons, wVNil, wOCons, wONil, wFn, wFnE, wFnN, wS, wSE, wSV, wCh, wET, wAnd, wOr, DL.wNot, wTup, wLst, wIf, wIx, wRaise, wMthN, gAppend, gtName, gtCons, gtNil, gtSeq, iSeq, OT.tn, D.tn, NK.tn, isTy, gCmp, gEq, gNe, gIsN, gNotN, gIsB, gNotB, isNon_non, gLen, OT.size, OT.out, t0, List.getElem?_cons_zero, List.getElem?_cons_succ, List.set_cons_zero, List.set_cons_succ, List.map_cons, List.map_nil, OT.flat_fz, flat_nd', OT.dsOf_fz, dsOf_nil, dsOf_cons, Option.map_some, List.length_cons, List.length_nil, List.length_map, List.cons_append, List.nil_append, List.append_nil, wBin, gAdd, DL.gSub, gMul, gInt, List.getD_cons_zero, OT.whole_fz, OT.frz_fz, OT.whole_nd', OT.wholeL_fz, OT.wholeL_nil, OT.wholeL_cons, OT.frz_nd', map_frz_fz, ixo0, ixo1, ixo2, ixt0, ixt1, ixl0, ixl1, unAt, reAt, wSl, wPt, wNoPt, wSlE, wPtE, wNoPtE, OT.cut, wSetIx, lName, atP_nil, putP_nil, gSetM, ixN30, ixN31, ixN32, ne_eq, not_false_eq_true, not_true_eq_false, reduceCtorEq, if_true, if_false, if_pos, decide_true, decide_false, Bool.true_or, Bool.false_or, Bool.or_false, Bool.or_true, Bool.not_true, Bool.not_false, true_and, and_true, Option.some.injEq, exists_eq_left', String.reduceEq, Nat.zero_add, Nat.reduceAdd, Nat.reduceLT, Nat.lt_add_one, Bool.and_false, Bool.and_true, Bool.false_and, Bool.true_and, Bool.not_true, Bool.not_false, Bool.false_eq_true, pickL, eqv_int, eqv_bl, shaped_int, shaped_bl, shaped_non, wRev, wPeek, wListRg1, wLenSet, wMth, lIx, ixl2, ixl3, ixl4, ixt2, ixp0, ixp1, ixN20, ixN21, OT.flat_nd, wStar2, wTupOf, wDNew]
          refine hN4 _ (cut fun N5 hN5 => ?_)
          have nx : ∀ b : Bool, N5 [.fz (.nd .lst (frs ps)), .fz (.nd .lst (numsD phs)), .fz (.nd .tup (numsD hs)), .fz (.int pause), .fz (.int reach), .nd .lst ((rowsD rs).map .fz), .nd .lst ((numsD dn).map .fz), .nd (.dic ks) (es.map .fz), z8, .fz (.int now), .fz (.int (j : Int)), .nd .lst ((rksD (k :: got)).map .fz), .fz (.int (k : Int)), .fz (.int (now + ps[k].2)), .fz (.bl b), .un] := by
            intro b
            refine hN5 _ (cut fun N6 hN6 => ?_)
            have r6 : ∀ rs' : List Row, (rs'.length : Int) ≤ j + 1 → (∀ r ∈ rs', r.rank < ps.length ∧ (0 ≤ r.since ∧ r.since ≤ 30 * (2 * reach + 2))) → N6 [.fz (.nd .lst (frs ps)), .fz (.nd .lst (numsD phs)), .fz (.nd .tup (numsD hs)), .fz (.int pause), .fz (.int reach), .nd .lst ((rowsD rs').map .fz), .nd .lst ((numsD dn).map .fz), .nd (.dic ks) (es.map .fz), z8, .fz (.int now), .fz (.int (j : Int)), .nd .lst ((rksD (k :: got)).map .fz), .fz (.int (k : Int)), .fz (.int (now + ps[k].2)), .fz (.bl b), .un] := by
              intro rs' hl' hk'
              refine hN6 _ (cut fun N7 hN7 => ?_)
              simp only [ix_numsOO idn, gToInt, numsD_len, ixN_nat idn, set_nums, wRet, wRetN, wEO, wPE, wOE, wC, wVar, wVarF, wAndV, wNotV, wOrV, wIsi, wNext, wSeq, wDrop, wIfS, wSet, wPar, wAsg, wCall, wCallB, wCallK, wCallG, wMove, wCons, wNil, wVCons, wVNil, wOCons, wONil, wFn, wFnE, wFnN, wS, wSE, wSV, wCh, wET, wAnd, wOr, DL.wNot, wTup, wLst, wIf, wIx, wRaise, wMthN, gAppend, gtName, gtCons, gtNil, gtSeq, iSeq, OT.tn, D.tn, NK.tn, isTy, gCmp, gEq, gNe, gIsN, gNotN, gIsB, gNotB, isNon_non, gLen, OT.size, OT.out, t0, List.getElem?_cons_zero, List.getElem?_cons_succ, List.set_cons_zero, List.set_cons_succ, List.map_cons, List.map_nil, OT.flat_fz, flat_nd', OT.dsOf_fz, dsOf_nil, dsOf_cons, Option.map_some, List.length_cons, List.length_nil, List.length_map, List.cons_append, List.nil_append, List.append_nil, wBin, gAdd, DL.gSub, gMul, gInt, List.getD_cons_zero, OT.whole_fz, OT.frz_fz, OT.whole_nd', OT.wholeL_fz, OT.wholeL_nil, OT.wholeL_cons, OT.frz_nd', map_frz_fz, ixo0, ixo1, ixo2, ixt0, ixt1, ixl0, ixl1, unAt, reAt, wSl, wPt, wNoPt, wSlE, wPtE, wNoPtE, OT.cut, wSetIx, lName, atP_nil, putP_nil, gSetM, ixN30, ixN31, ixN32, ne_eq, not_false_eq_true, not_true_eq_false, reduceCtorEq, if_true, if_false, if_pos, decide_true, decide_false, Bool.true_or, Bool.false_or, Bool.or_false, Bool.or_true, Bool.not_true, Bool.not_false, true_and, and_true, Option.some.injEq, exists_eq_left', String.reduceEq, Nat.zero_add, Nat.reduceAdd, Nat.reduceLT, Nat.lt_add_one, Bool.and_false, Bool.and_true, Bool.false_and, Bool.true_and, Bool.not_true, Bool.not_false, Bool.false_eq_true, pickL, eqv_int, eqv_bl, shaped_int, shaped_bl, shaped_non, wRev, wPeek, wListRg1, wLenSet, wMth, lIx, ixl2, ixl3, ixl4, ixt2, ixp0, ixp1, ixN20, ixN21, OT.flat_nd, wStar2, wTupOf, wDNew]
              refine hN7 _ ?_
              simp only [gToInt, wRet, wRetN, wEO, wPE, wOE, wC, wVar, wVarF, wAndV, wNotV, wOrV, wIsi, wNext, wSeq, wDrop, wIfS, wSet, wPar, wAsg, wCall, wCallB, wCallK, wCallG, wMove, wCons, wNil, wVCons, wVNil, wOCons, wONil, wFn, wFnE, wFnN, wS, wSE, wSV, wCh, wET, wAnd, wOr, DL.wNot, wTup, wLst, wIf, wIx, wRaise, wMthN, gAppend, gtName, gtCons, gtNil, gtSeq, iSeq, OT.tn, D.tn, NK.tn, isTy, gCmp, gEq, gNe, gIsN, gNotN, gIsB, gNotB, isNon_non, gLen, OT.size, OT.out, t0, List.getElem?_cons_zero, List.getElem?_cons_succ, List.set_cons_zero, List.set_cons_succ, List.map_cons, List.map_nil, OT.flat_fz, flat_nd', OT.dsOf_fz, dsOf_nil, dsOf_cons, Option.map_some, List.length_cons, List.length_nil, List.length_map, List.cons_append, List.nil_append, List.append_nil, wBin, gAdd, DL.gSub, gMul, gInt, List.getD_cons_zero, OT.whole_fz, OT.frz_fz, OT.whole_nd', OT.wholeL_fz, OT.wholeL_nil, OT.wholeL_cons, OT.frz_nd', map_frz_fz, ixo0, ixo1, ixo2, ixt0, ixt1, ixl0, ixl1, unAt, reAt, wSl, wPt, wNoPt, wSlE, wPtE, wNoPtE, OT.cut, wSetIx, lName, atP_nil, putP_nil, gSetM, ixN30, ixN31, ixN32, ne_eq, not_false_eq_true, not_true_eq_false, reduceCtorEq, if_true, if_false, if_pos, decide_true, decide_false, Bool.true_or, Bool.false_or, Bool.or_false, Bool.or_true, Bool.not_true, Bool.not_false, true_and, and_true, Option.some.injEq, exists_eq_left', String.reduceEq, Nat.zero_add, Nat.reduceAdd, Nat.reduceLT, Nat.lt_add_one, Bool.and_false, Bool.and_true, Bool.false_and, Bool.true_and, Bool.not_true, Bool.not_false, Bool.false_eq_true, pickL, eqv_int, eqv_bl, shaped_int, shaped_bl, shaped_non, wRev, wPeek, wListRg1, wLenSet, wMth, lIx, ixl2, ixl3, ixl4, ixt2, ixp0, ixp1, ixN20, ixN21, OT.flat_nd, wStar2, wTupOf, wDNew]
              refine ⟨Sm.mulB (n := 4) (m := 2) (Sm.of (by omega)) (Sm.of (by cases b <;> decide)), ?_⟩
              have dk2 : DnOk ps.length ((j + 1 : Nat) : Int) (dn.set k (dn[k] + if b = true then 1 else 0)) := by
                refine ⟨by rw [List.length_set]; exact dk.1, fun x hx => ?_⟩
                rcases List.mem_or_eq_of_mem_set hx with hx | rfl
                · have := dk.2 x hx; omega
                · split <;> omega
              have nw : 0 ≤ (if (!b) = true then (1 : Int) else 0) ∧ (if (!b) = true then (1 : Int) else 0) ≤ 1 := by split <;> omega
              have nw2 : 0 ≤ pause * (if (!b) = true then (1 : Int) else 0) ∧ pause * (if (!b) = true then (1 : Int) else 0) ≤ 9 := by split <;> omega
              exact hE _ ⟨j + 1, m, _, _, rs', _, _, _, _, _, _, rfl, hz, by omega, by omega, by omega, dk2, by omega, hk', rfl⟩
            simp only [ix_numsOO idn, ix_numsF iph, ix_frsF ip, fr, rowsD_len, wRet, wRetN, wEO, wPE, wOE, wC, wVar, wVarF, wAndV, wNotV, wOrV, wIsi, wNext, wSeq, wDrop, wIfS, wSet, wPar, wAsg, wCall, wCallB, wCallK, wCallG, wMove, wCons, wNil, wVCons, wVNil, wOCons, wONil, wFn, wFnE, wFnN, wS, wSE, wSV, wCh, wET, wAnd, wOr, DL.wNot, wTup, wLst, wIf, wIx, wRaise, wMthN, gAppend, gtName, gtCons, gtNil, gtSeq, iSeq, OT.tn, D.tn, NK.tn, isTy, gCmp, gEq, gNe, gIsN, gNotN, gIsB, gNotB, isNon_non, gLen, OT.size, OT.out, t0, List.getElem?_cons_zero, List.getElem?_cons_succ, List.set_cons_zero, List.set_cons_succ, List.map_cons, List.map_nil, OT.flat_fz, flat_nd', OT.dsOf_fz, dsOf_nil, dsOf_cons, Option.map_some, List.length_cons, List.length_nil, List.length_map, List.cons_append, List.nil_append, List.append_nil, wBin, gAdd, DL.gSub, gMul, gInt, List.getD_cons_zero, OT.whole_fz, OT.frz_fz, OT.whole_nd', OT.wholeL_fz, OT.wholeL_nil, OT.wholeL_cons, OT.frz_nd', map_frz_fz, ixo0, ixo1, ixo2, ixt0, ixt1, ixl0, ixl1, unAt, reAt, wSl, wPt, wNoPt, wSlE, wPtE, wNoPtE, OT.cut, wSetIx, lName, atP_nil, putP_nil, gSetM, ixN30, ixN31, ixN32, ne_eq, not_false_eq_true, not_true_eq_false, reduceCtorEq, if_true, if_false, if_pos, decide_true, decide_false, Bool.true_or, Bool.false_or, Bool.or_false, Bool.or_true, Bool.not_true, Bool.not_false, true_and, and_true, Option.some.injEq, exists_eq_left', String.reduceEq, Nat.zero_add, Nat.reduceAdd, Nat.reduceLT, Nat.lt_add_one, Bool.and_false, Bool.and_true, Bool.false_and, Bool.true_and, Bool.not_true, Bool.not_false, Bool.false_eq_true, pickL, eqv_int, eqv_bl, shaped_int, shaped_bl, shaped_non, wRev, wPeek, wListRg1, wLenSet, wMth, lIx, ixl2, ixl3, ixl4, ixt2, ixp0, ixp1, ixN20, ixN21, OT.flat_nd, wStar2, wTupOf, wDNew]
            by_cases c : now + ps[k].2 ≤ reach
            · refine ifT c ?_
              refine ⟨⟨_, rfl⟩, Sm.mulB (n := 20) (m := 9) (Sm.of (by omega)) (Sm.of (by omega)), by decide, Nat.lt_of_le_of_lt (by omega : rs.length ≤ 30000) (by decide), ?_⟩
              have er : (rowsD rs).map OT.fz ++ [OT.fz (.nd .tup [.int (k : Int), .int dn[k], .int (phs[k] + dn[k] * ps[k].1), .int now, .bl b])] = (rowsD (rs ++ [⟨k, dn[k], phs[k] + dn[k] * ps[k].1, now, b⟩])).map .fz := by
                rw [← rows_app, List.map_append]; rfl
              rw [er]
              refine r6 _ (by rw [List.length_append, List.length_singleton]; omega) fun r hr => ?_
              rcases List.mem_append.mp hr with hr | hr
              · exact rk r hr
              · rw [List.mem_singleton.mp hr]
                refine ⟨ip, ?_⟩
                show 0 ≤ now ∧ now ≤ 30 * (2 * reach + 2)
                omega
            · exact ifF c (r6 rs (by omega) rk)
          rcases hz with rfl | ⟨d, rfl⟩
          all_goals
            unfold wLc
            simp only [iRange2, wRet, wRetN, wEO, wPE, wOE, wC, wVar, wVarF, wAndV, wNotV, wOrV, wIsi, wNext, wSeq, wDrop, wIfS, wSet, wPar, wAsg, wCall, wCallB, wCallK, wCallG, wMove, wCons, wNil, wVCons, wVNil, wOCons, wONil, wFn, wFnE, wFnN, wS, wSE, wSV, wCh, wET, wAnd, wOr, DL.wNot, wTup, wLst, wIf, wIx, wRaise, wMthN, gAppend, gtName, gtCons, gtNil, gtSeq, iSeq, OT.tn, D.tn, NK.tn, isTy, gCmp, gEq, gNe, gIsN, gNotN, gIsB, gNotB, isNon_non, gLen, OT.size, OT.out, t0, List.getElem?_cons_zero, List.getElem?_cons_succ, List.set_cons_zero, List.set_cons_succ, List.map_cons, List.map_nil, OT.flat_fz, flat_nd', OT.dsOf_fz, dsOf_nil, dsOf_cons, Option.map_some, List.length_cons, List.length_nil, List.length_map, List.cons_append, List.nil_append, List.append_nil, wBin, gAdd, DL.gSub, gMul, gInt, List.getD_cons_zero, OT.whole_fz, OT.frz_fz, OT.whole_nd', OT.wholeL_fz, OT.wholeL_nil, OT.wholeL_cons, OT.frz_nd', map_frz_fz, ixo0, ixo1, ixo2, ixt0, ixt1, ixl0, ixl1, unAt, reAt, wSl, wPt, wNoPt, wSlE, wPtE, wNoPtE, OT.cut, wSetIx, lName, atP_nil, putP_nil, gSetM, ixN30, ixN31, ixN32, ne_eq, not_false_eq_true, not_true_eq_false, reduceCtorEq, if_true, if_false, if_pos, decide_true, decide_false, Bool.true_or, Bool.false_or, Bool.or_false, Bool.or_true, Bool.not_true, Bool.not_false, true_and, and_true, Option.some.injEq, exists_eq_left', String.reduceEq, Nat.zero_add, Nat.reduceAdd, Nat.reduceLT, Nat.lt_add_one, Bool.and_false, Bool.and_true, Bool.false_and, Bool.true_and, Bool.not_true, Bool.not_false, Bool.false_eq_true, pickL, eqv_int, eqv_bl, shaped_int, shaped_bl, shaped_non, wRev, wPeek, wListRg1, wLenSet, wMth, lIx, ixl2, ixl3, ixl4, ixt2, ixp0, ixp1, ixN20, ixN21, OT.flat_nd, wStar2, wTupOf, wDNew]
            refine ⟨by unfold Small62; omega, by unfold Small62; omega, ?_⟩
            refine lc_invF (fun ds acc e => ∃ (a : Int) (q : Nat) (qs : List Int), ds = rangeD a q ∧ acc = numsD qs ∧ qs.length + q ≤ 20 ∧ e = [.fz (.nd .lst (frs ps)), .fz (.nd .lst (numsD phs)), .fz (.nd .tup (numsD hs)), .fz (.int pause), .fz (.int reach), .nd .lst ((rowsD rs).map .fz), .nd .lst ((numsD dn).map .fz), .nd (.dic ks) (es.map .fz), .un, .fz (.int now), .fz (.int (j : Int)), .nd .lst ((rksD (k :: got)).map .fz), .fz (.int (k : Int)), .fz (.int (now + ps[k].2)), z14, .un]) ?_ ?_ _ _ _ ⟨now, (now + ps[k].2 - now).toNat, [], rfl, rfl, by simp; omega, rfl⟩
            · rintro d' ds acc env F ⟨a, q, qs, e2, rfl, ql, rfl⟩ hF
              cases q with
              | zero => cases e2
              | succ q =>
                rw [rangeD_succ] at e2
                cases e2
                simp only [gInD, D.key, numsD_len, wRet, wRetN, wEO, wPE, wOE, wC, wVar, wVarF, wAndV, wNotV, wOrV, wIsi, wNext, wSeq, wDrop, wIfS, wSet, wPar, wAsg, wCall, wCallB, wCallK, wCallG, wMove, wCons, wNil, wVCons, wVNil, wOCons, wONil, wFn, wFnE, wFnN, wS, wSE, wSV, wCh, wET, wAnd, wOr, DL.wNot, wTup, wLst, wIf, wIx, wRaise, wMthN, gAppend, gtName, gtCons, gtNil, gtSeq, iSeq, OT.tn, D.tn, NK.tn, isTy, gCmp, gEq, gNe, gIsN, gNotN, gIsB, gNotB, isNon_non, gLen, OT.size, OT.out, t0, List.getElem?_cons_zero, List.getElem?_cons_succ, List.set_cons_zero, List.set_cons_succ, List.map_cons, List.map_nil, OT.flat_fz, flat_nd', OT.dsOf_fz, dsOf_nil, dsOf_cons, Option.map_some, List.length_cons, List.length_nil, List.length_map, List.cons_append, List.nil_append, List.append_nil, wBin, gAdd, DL.gSub, gMul, gInt, List.getD_cons_zero, OT.whole_fz, OT.frz_fz, OT.whole_nd', OT.wholeL_fz, OT.wholeL_nil, OT.wholeL_cons, OT.frz_nd', map_frz_fz, ixo0, ixo1, ixo2, ixt0, ixt1, ixl0, ixl1, unAt, reAt, wSl, wPt, wNoPt, wSlE, wPtE, wNoPtE, OT.cut, wSetIx, lName, atP_nil, putP_nil, gSetM, ixN30, ixN31, ixN32, ne_eq, not_false_eq_true, not_true_eq_false, reduceCtorEq, if_true, if_false, if_pos, decide_true, decide_false, Bool.true_or, Bool.false_or, Bool.or_false, Bool.or_true, Bool.not_true, Bool.not_false, true_and, and_true, Option.some.injEq, exists_eq_left', String.reduceEq, Nat.zero_add, Nat.reduceAdd, Nat.reduceLT, Nat.lt_add_one, Bool.and_false, Bool.and_true, Bool.false_and, Bool.true_and, Bool.not_true, Bool.not_false, Bool.false_eq_true, pickL, eqv_int, eqv_bl, shaped_int, shaped_bl, shaped_non, wRev, wPeek, wListRg1, wLenSet, wMth, lIx, ixl2, ixl3, ixl4, ixt2, ixp0, ixp1, ixN20, ixN21, OT.flat_nd, wStar2, wTupOf, wDNew]
                cases hasK ks (.inl a) with
                | true =>
                  try simp only [wRet, wRetN, wEO, wPE, wOE, wC, wVar, wVarF, wAndV, wNotV, wOrV, wIsi, wNext, wSeq, wDrop, wIfS, wSet, wPar, wAsg, wCall, wCallB, wCallK, wCallG, wMove, wCons, wNil, wVCons, wVNil, wOCons, wONil, wFn, wFnE, wFnN, wS, wSE, wSV, wCh, wET, wAnd, wOr, DL.wNot, wTup, wLst, wIf, wIx, wRaise, wMthN, gAppend, gtName, gtCons, gtNil, gtSeq, iSeq, OT.tn, D.tn, NK.tn, isTy, gCmp, gEq, gNe, gIsN, gNotN, gIsB, gNotB, isNon_non, gLen, OT.size, OT.out, t0, List.getElem?_cons_zero, List.getElem?_cons_succ, List.set_cons_zero, List.set_cons_succ, List.map_cons, List.map_nil, OT.flat_fz, flat_nd', OT.dsOf_fz, dsOf_nil, dsOf_cons, Option.map_some, List.length_cons, List.length_nil, List.length_map, List.cons_append, List.nil_append, List.append_nil, wBin, gAdd, DL.gSub, gMul, gInt, List.getD_cons_zero, OT.whole_fz, OT.frz_fz, OT.whole_nd', OT.wholeL_fz, OT.wholeL_nil, OT.wholeL_cons, OT.frz_nd', map_frz_fz, ixo0, ixo1, ixo2, ixt0, ixt1, ixl0, ixl1, unAt, reAt, wSl, wPt, wNoPt, wSlE, wPtE, wNoPtE, OT.cut, wSetIx, lName, atP_nil, putP_nil, gSetM, ixN30, ixN31, ixN32, ne_eq, not_false_eq_true, not_true_eq_false, reduceCtorEq, if_true, if_false, if_pos, decide_true, decide_false, Bool.true_or, Bool.false_or, Bool.or_false, Bool.or_true, Bool.not_true, Bool.not_false, true_and, and_true, Option.some.injEq, exists_eq_left', String.reduceEq, Nat.zero_add, Nat.reduceAdd, Nat.reduceLT, Nat.lt_add_one, Bool.and_false, Bool.and_true, Bool.false_and, Bool.true_and, Bool.not_true, Bool.not_false, Bool.false_eq_true, pickL, eqv_int, eqv_bl, shaped_int, shaped_bl, shaped_non, wRev, wPeek, wListRg1, wLenSet, wMth, lIx, ixl2, ixl3, ixl4, ixt2, ixp0, ixp1, ixN20, ixN21, OT.flat_nd, wStar2, wTupOf, wDNew]
                  refine ⟨Nat.lt_of_le_of_lt (by omega : qs.length ≤ 20) (by decide), ?_⟩
                  exact hF _ _ ⟨a + 1, q, qs ++ [a], rfl, by rw [← nums_app]; rfl, by rw [List.length_append, List.length_singleton]; omega, rfl⟩
                | false =>
                  try simp only [wRet, wRetN, wEO, wPE, wOE, wC, wVar, wVarF, wAndV, wNotV, wOrV, wIsi, wNext, wSeq, wDrop, wIfS, wSet, wPar, wAsg, wCall, wCallB, wCallK, wCallG, wMove, wCons, wNil, wVCons, wVNil, wOCons, wONil, wFn, wFnE, wFnN, wS, wSE, wSV, wCh, wET, wAnd, wOr, DL.wNot, wTup, wLst, wIf, wIx, wRaise, wMthN, gAppend, gtName, gtCons, gtNil, gtSeq, iSeq, OT.tn, D.tn, NK.tn, isTy, gCmp, gEq, gNe, gIsN, gNotN, gIsB, gNotB, isNon_non, gLen, OT.size, OT.out, t0, List.getElem?_cons_zero, List.getElem?_cons_succ, List.set_cons_zero, List.set_cons_succ, List.map_cons, List.map_nil, OT.flat_fz, flat_nd', OT.dsOf_fz, dsOf_nil, dsOf_cons, Option.map_some, List.length_cons, List.length_nil, List.length_map, List.cons_append, List.nil_append, List.append_nil, wBin, gAdd, DL.gSub, gMul, gInt, List.getD_cons_zero, OT.whole_fz, OT.frz_fz, OT.whole_nd', OT.wholeL_fz, OT.wholeL_nil, OT.wholeL_cons, OT.frz_nd', map_frz_fz, ixo0, ixo1, ixo2, ixt0, ixt1, ixl0, ixl1, unAt, reAt, wSl, wPt, wNoPt, wSlE, wPtE, wNoPtE, OT.cut, wSetIx, lName, atP_nil, putP_nil, gSetM, ixN30, ixN31, ixN32, ne_eq, not_false_eq_true, not_true_eq_false, reduceCtorEq, if_true, if_false, if_pos, decide_true, decide_false, Bool.true_or, Bool.false_or, Bool.or_false, Bool.or_true, Bool.not_true, Bool.not_false, true_and, and_true, Option.some.injEq, exists_eq_left', String.reduceEq, Nat.zero_add, Nat.reduceAdd, Nat.reduceLT, Nat.lt_add_one, Bool.and_false, Bool.and_true, Bool.false_and, Bool.true_and, Bool.not_true, Bool.not_false, Bool.false_eq_true, pickL, eqv_int, eqv_bl, shaped_int, shaped_bl, shaped_non, wRev, wPeek, wListRg1, wLenSet, wMth, lIx, ixl2, ixl3, ixl4, ixt2, ixp0, ixp1, ixN20, ixN21, OT.flat_nd, wStar2, wTupOf, wDNew]
                  exact hF _ _ ⟨a + 1, q, qs, rfl, rfl, by omega, rfl⟩
            · rintro acc e ⟨a, q, qs, e2, rfl, ql, rfl⟩
              cases q with
              | succ q => rw [rangeD_succ] at e2; cases e2
              | zero =>
                simp only [wRet, wRetN, wEO, wPE, wOE, wC, wVar, wVarF, wAndV, wNotV, wOrV, wIsi, wNext, wSeq, wDrop, wIfS, wSet, wPar, wAsg, wCall, wCallB, wCallK, wCallG, wMove, wCons, wNil, wVCons, wVNil, wOCons, wONil, wFn, wFnE, wFnN, wS, wSE, wSV, wCh, wET, wAnd, wOr, DL.wNot, wTup, wLst, wIf, wIx, wRaise, wMthN, gAppend, gtName, gtCons, gtNil, gtSeq, iSeq, OT.tn, D.tn, NK.tn, isTy, gCmp, gEq, gNe, gIsN, gNotN, gIsB, gNotB, isNon_non, gLen, OT.size, OT.out, t0, List.getElem?_cons_zero, List.getElem?_cons_succ, List.set_cons_zero, List.set_cons_succ, List.map_cons, List.map_nil, OT.flat_fz, flat_nd', OT.dsOf_fz, dsOf_nil, dsOf_cons, Option.map_some, List.length_cons, List.length_nil, List.length_map, List.cons_append, List.nil_append, List.append_nil, wBin, gAdd, DL.gSub, gMul, gInt, List.getD_cons_zero, OT.whole_fz, OT.frz_fz, OT.whole_nd', OT.wholeL_fz, OT.wholeL_nil, OT.wholeL_cons, OT.frz_nd', map_frz_fz, ixo0, ixo1, ixo2, ixt0, ixt1, ixl0, ixl1, unAt, reAt, wSl, wPt, wNoPt, wSlE, wPtE, wNoPtE, OT.cut, wSetIx, lName, atP_nil, putP_nil, gSetM, ixN30, ixN31, ixN32, ne_eq, not_false_eq_true, not_true_eq_false, reduceCtorEq, if_true, if_false, if_pos, decide_true, decide_false, Bool.true_or, Bool.false_or, Bool.or_false, Bool.or_true, Bool.not_true, Bool.not_false, true_and, and_true, Option.some.injEq, exists_eq_left', String.reduceEq, Nat.zero_add, Nat.reduceAdd, Nat.reduceLT, Nat.lt_add_one, Bool.and_false, Bool.and_true, Bool.false_and, Bool.true_and, Bool.not_true, Bool.not_false, Bool.false_eq_true, pickL, eqv_int, eqv_bl, shaped_int, shaped_bl, shaped_non, wRev, wPeek, wListRg1, wLenSet, wMth, lIx, ixl2, ixl3, ixl4, ixt2, ixp0, ixp1, ixN20, ixN21, OT.flat_nd, wStar2, wTupOf, wDNew]
                exact ⟨by decide, shaped_nb 1 (nb_numsD qs), shaped_lnil, nx _⟩
  · rintro env ⟨j, m, now, dn, rs, z8, z10, z11, z12, z13, z14, e1, hz, jm, w0, w1, dk, rl, rk, rfl⟩
    cases m with
    | succ m => rw [rangeD_succ] at e1; cases e1
    | zero =>
      apply hN
      simp only [wRet, wRetN, wEO, wPE, wOE, wC, wVar, wVarF, wAndV, wNotV, wOrV, wIsi, wNext, wSeq, wDrop, wIfS, wSet, wPar, wAsg, wCall, wCallB, wCallK, wCallG, wMove, wCons, wNil, wVCons, wVNil, wOCons, wONil, wFn, wFnE, wFnN, wS, wSE, wSV, wCh, wET, wAnd, wOr, DL.wNot, wTup, wLst, wIf, wIx, wRaise, wMthN, gAppend, gtName, gtCons, gtNil, gtSeq, iSeq, OT.tn, D.tn, NK.tn, isTy, gCmp, gEq, gNe, gIsN, gNotN, gIsB, gNotB, isNon_non, gLen, OT.size, OT.out, t0, List.getElem?_cons_zero, List.getElem?_cons_succ, List.set_cons_zero, List.set_cons_succ, List.map_cons, List.map_nil, OT.flat_fz, flat_nd', OT.dsOf_fz, dsOf_nil, dsOf_cons, Option.map_some, List.length_cons, List.length_nil, List.length_map, List.cons_append, List.nil_append, List.append_nil, wBin, gAdd, DL.gSub, gMul, gInt, List.getD_cons_zero, OT.whole_fz, OT.frz_fz, OT.whole_nd', OT.wholeL_fz, OT.wholeL_nil, OT.wholeL_cons, OT.frz_nd', map_frz_fz, ixo0, ixo1, ixo2, ixt0, ixt1, ixl0, ixl1, unAt, reAt, wSl, wPt, wNoPt, wSlE, wPtE, wNoPtE, OT.cut, wSetIx, lName, atP_nil, putP_nil, gSetM, ixN30, ixN31, ixN32, ne_eq, not_false_eq_true, not_true_eq_false, reduceCtorEq, if_true, if_false, if_pos, decide_true, decide_false, Bool.true_or, Bool.false_or, Bool.or_false, Bool.or_true, Bool.not_true, Bool.not_false, true_and, and_true, Option.some.injEq, exists_eq_left', String.reduceEq, Nat.zero_add, Nat.reduceAdd, Nat.reduceLT, Nat.lt_add_one, Bool.and_false, Bool.and_true, Bool.false_and, Bool.true_and, Bool.not_true, Bool.not_false, Bool.false_eq_true, pickL, eqv_int, eqv_bl, shaped_int, shaped_bl, shaped_non, wRev, wPeek, wListRg1, wLenSet, wMth, lIx, ixl2, ixl3, ixl4, ixt2, ixp0, ixp1, ixN20, ixN21, OT.flat_nd, wStar2, wTupOf, wDNew]
      exact h rs ⟨by omega, rk⟩
def sp__law_due : FSpec := fun args R _ => ∃ (ps : List (Int × Int)) (rs : List Row), args = [.fz (planD ps), .fz (.nd .lst (rowsD rs))] ∧ PlOk ps ∧ (∀ r ∈ rs, r.rank < ps.length) ∧ R (.nd .lst ((worstD ps rs).map .fz)) .un
theorem bestO_snoc (xs : List Int) (t : Int) : bestO (xs ++ [t]) = some (match bestO xs with | none => t | some m => max m t) := by
  cases xs with
  | nil => rfl
  | cons x xs =>
    show some (maxI x (xs ++ [t])) = some (max (maxI x xs) t)
    unfold maxI
    rw [List.foldl_append]; rfl
theorem ix_opts {os : List (Option Int)} {r : Nat} (h : r < os.length) : OT.ix (.nd .lst ((optsD os).map .fz)) (.fz (.int (r : Int))) = some (.fz (optD os[r])) := atI_nat (by
  unfold optsD
  rw [List.getElem?_map, List.getElem?_map, List.getElem?_eq_getElem h]; rfl)
theorem optsD_len (os : List (Option Int)) : (optsD os).length = os.length := by unfold optsD; rw [List.length_map]
theorem set_opts (os : List (Option Int)) (k : Nat) (x : Option Int) : ((optsD os).map OT.fz).set k (.fz (optD x)) = (optsD (os.set k x)).map .fz := by
  unfold optsD
  rw [List.map_set, List.map_set]
theorem wk_snoc (ps : List (Int × Int)) (pre : List Row) (q : Row) (k : Nat) : wkO ps (pre ++ [q]) k = if q.rank = k ∧ q.whole = true then some (match wkO ps pre k with | none => q.since + (ps.getD k (0, 0)).2 - q.put | some m => max m (q.since + (ps.getD k (0, 0)).2 - q.put)) else wkO ps pre k := by
  unfold wkO
  rw [times_app, times_cons]
  by_cases e : q.rank = k ∧ q.whole = true
  · rw [if_pos e, if_pos e]
    exact bestO_snoc _ _
  · rw [if_neg e, if_neg e]
    show bestO (_ ++ ([] ++ [])) = _
    rw [List.append_nil, List.append_nil]
theorem range_set {α : Type} (n k : Nat) (f g : Nat → α) (h : ∀ i, i ≠ k → g i = f i) (hk : k < n) : ((List.range n).map f).set k (g k) = (List.range n).map g := by
  refine List.ext_getElem (by simp) fun i h1 h2 => ?_
  rw [List.getElem_set]
  by_cases e : k = i
  · subst e; simp
  · rw [if_neg e]
    simp
    exact (h i (Ne.symm e)).symm
def w__law_due (xq : XQ) : WS := (wSeq (wSet 2 (wLc [3] (iSeq (wVarF 0)) (gtName 3) wYes (wPE (wC .non))))
    (wSeq (wFor (iSeq (wVarF 1)) (gtSeq 5 (gtCons (gtName 4) (gtCons (gtName 5) (gtCons (gtName 6) (gtCons (gtName 7) (gtCons (gtName 8) gtNil)))))) (wIfS (wET (wPE (wVar 8))) (wSeq (wSet 9 (wBin gSub (wOE (wBin gAdd (wVarF 7) (wPE (wIx (wIx (wVar 0) (wVar 4)) (wC (.int 1)))))) (wVarF 6)))
    (wIfS (wOr (wET (wPE (wS gIsN (wIx (wVar 2) (wVar 4)) (wC .non)))) (wET (wPE (wS (gCmp fun i j => decide (i < j)) (wIx (wVar 2) (wVar 4)) (wVar 9))))) (wSetIx (wEO (wVarF 9)) (lName 2) (wVar 4)) wNext)) wNext))
    (wRet (wMove 2))))
theorem len__law_due : ∀ args R RX, sp__law_due args R RX → args.length = 2 := by rintro _ _ _ ⟨ps, rs, rfl, _⟩; rfl
theorem pu__law_due : ∀ args R RX, sp__law_due args R RX → w__law_due (fun x env => RX x (t0 false env)) { nx := fun env => R (.fz .non) (t0 false env), rt := fun t env => R t (t0 false env) } (args ++ List.replicate (["plan", "record", "found", "one", "rank", "number", "put", "since", "whole", "time"].length - args.length) .un) := by
  rintro _ R RX ⟨ps, rs, rfl, pl, rk, h⟩
  have n8 := pl.1
  change w__law_due _ _ [.fz (planD ps), .fz (.nd .lst (rowsD rs)), .un, .un, .un, .un, .un, .un, .un, .un]
  refine cut fun N hN => ?_
  unfold wSet wLc
  simp only [planD, wRet, wRetN, wEO, wPE, wOE, wC, wVar, wVarF, wAndV, wNotV, wOrV, wIsi, wNext, wSeq, wDrop, wIfS, wSet, wPar, wAsg, wCall, wCallB, wCallK, wCallG, wMove, wCons, wNil, wVCons, wVNil, wOCons, wONil, wFn, wFnE, wFnN, wS, wSE, wSV, wCh, wET, wAnd, wOr, DL.wNot, wTup, wLst, wIf, wIx, wRaise, wMthN, gAppend, gtName, gtCons, gtNil, gtSeq, iSeq, OT.tn, D.tn, NK.tn, isTy, gCmp, gEq, gNe, gIsN, gNotN, gIsB, gNotB, isNon_non, gLen, OT.size, OT.out, t0, List.getElem?_cons_zero, List.getElem?_cons_succ, List.set_cons_zero, List.set_cons_succ, List.map_cons, List.map_nil, OT.flat_fz, flat_nd', OT.dsOf_fz, dsOf_nil, dsOf_cons, Option.map_some, List.length_cons, List.length_nil, List.length_map, List.cons_append, List.nil_append, List.append_nil, wBin, gAdd, DL.gSub, gMul, gInt, List.getD_cons_zero, OT.whole_fz, OT.frz_fz, OT.whole_nd', OT.wholeL_fz, OT.wholeL_nil, OT.wholeL_cons, OT.frz_nd', map_frz_fz, ixo0, ixo1, ixo2, ixt0, ixt1, ixl0, ixl1, unAt, reAt, wSl, wPt, wNoPt, wSlE, wPtE, wNoPtE, OT.cut, wSetIx, lName, atP_nil, putP_nil, gSetM, ixN30, ixN31, ixN32, ne_eq, not_false_eq_true, not_true_eq_false, reduceCtorEq, if_true, if_false, if_pos, decide_true, decide_false, Bool.true_or, Bool.false_or, Bool.or_false, Bool.or_true, Bool.not_true, Bool.not_false, true_and, and_true, Option.some.injEq, exists_eq_left', String.reduceEq, Nat.zero_add, Nat.reduceAdd, Nat.reduceLT, Nat.lt_add_one, Bool.and_false, Bool.and_true, Bool.false_and, Bool.true_and, Bool.not_true, Bool.not_false, Bool.false_eq_true, pickL, eqv_int, eqv_bl, shaped_int, shaped_bl, shaped_non, wRev, wPeek, wListRg1, wLenSet, wMth, lIx, ixl2, ixl3, ixl4, ixt2, ixp0, ixp1, ixN20, ixN21, OT.flat_nd, wStar2, wTupOf, wDNew]
  refine lc_pure (fun e => e = [.fz (.nd .lst (frs ps)), .fz (.nd .lst (rowsD rs)), .un, .un, .un, .un, .un, .un, .un, .un]) (fun _ => .non) (frs ps) [] _ rfl (fun d hd env Q' hI q => ?_) (by rw [frs_len, List.length_nil]; exact Nat.le_trans (by omega : _ ≤ 8) (by decide)) fun e he => ?_
  · subst hI
    simp only [wRet, wRetN, wEO, wPE, wOE, wC, wVar, wVarF, wAndV, wNotV, wOrV, wIsi, wNext, wSeq, wDrop, wIfS, wSet, wPar, wAsg, wCall, wCallB, wCallK, wCallG, wMove, wCons, wNil, wVCons, wVNil, wOCons, wONil, wFn, wFnE, wFnN, wS, wSE, wSV, wCh, wET, wAnd, wOr, DL.wNot, wTup, wLst, wIf, wIx, wRaise, wMthN, gAppend, gtName, gtCons, gtNil, gtSeq, iSeq, OT.tn, D.tn, NK.tn, isTy, gCmp, gEq, gNe, gIsN, gNotN, gIsB, gNotB, isNon_non, gLen, OT.size, OT.out, t0, List.getElem?_cons_zero, List.getElem?_cons_succ, List.set_cons_zero, List.set_cons_succ, List.map_cons, List.map_nil, OT.flat_fz, flat_nd', OT.dsOf_fz, dsOf_nil, dsOf_cons, Option.map_some, List.length_cons, List.length_nil, List.length_map, List.cons_append, List.nil_append, List.append_nil, wBin, gAdd, DL.gSub, gMul, gInt, List.getD_cons_zero, OT.whole_fz, OT.frz_fz, OT.whole_nd', OT.wholeL_fz, OT.wholeL_nil, OT.wholeL_cons, OT.frz_nd', map_frz_fz, ixo0, ixo1, ixo2, ixt0, ixt1, ixl0, ixl1, unAt, reAt, wSl, wPt, wNoPt, wSlE, wPtE, wNoPtE, OT.cut, wSetIx, lName, atP_nil, putP_nil, gSetM, ixN30, ixN31, ixN32, ne_eq, not_false_eq_true, not_true_eq_false, reduceCtorEq, if_true, if_false, if_pos, decide_true, decide_false, Bool.true_or, Bool.false_or, Bool.or_false, Bool.or_true, Bool.not_true, Bool.not_false, true_and, and_true, Option.some.injEq, exists_eq_left', String.reduceEq, Nat.zero_add, Nat.reduceAdd, Nat.reduceLT, Nat.lt_add_one, Bool.and_false, Bool.and_true, Bool.false_and, Bool.true_and, Bool.not_true, Bool.not_false, Bool.false_eq_true, pickL, eqv_int, eqv_bl, shaped_int, shaped_bl, shaped_non, wRev, wPeek, wListRg1, wLenSet, wMth, lIx, ixl2, ixl3, ixl4, ixt2, ixp0, ixp1, ixN20, ixN21, OT.flat_nd, wStar2, wTupOf, wDNew]
    exact q _ rfl
  subst he
  simp only [wRet, wRetN, wEO, wPE, wOE, wC, wVar, wVarF, wAndV, wNotV, wOrV, wIsi, wNext, wSeq, wDrop, wIfS, wSet, wPar, wAsg, wCall, wCallB, wCallK, wCallG, wMove, wCons, wNil, wVCons, wVNil, wOCons, wONil, wFn, wFnE, wFnN, wS, wSE, wSV, wCh, wET, wAnd, wOr, DL.wNot, wTup, wLst, wIf, wIx, wRaise, wMthN, gAppend, gtName, gtCons, gtNil, gtSeq, iSeq, OT.tn, D.tn, NK.tn, isTy, gCmp, gEq, gNe, gIsN, gNotN, gIsB, gNotB, isNon_non, gLen, OT.size, OT.out, t0, List.getElem?_cons_zero, List.getElem?_cons_succ, List.set_cons_zero, List.set_cons_succ, List.map_cons, List.map_nil, OT.flat_fz, flat_nd', OT.dsOf_fz, dsOf_nil, dsOf_cons, Option.map_some, List.length_cons, List.length_nil, List.length_map, List.cons_append, List.nil_append, List.append_nil, wBin, gAdd, DL.gSub, gMul, gInt, List.getD_cons_zero, OT.whole_fz, OT.frz_fz, OT.whole_nd', OT.wholeL_fz, OT.wholeL_nil, OT.wholeL_cons, OT.frz_nd', map_frz_fz, ixo0, ixo1, ixo2, ixt0, ixt1, ixl0, ixl1, unAt, reAt, wSl, wPt, wNoPt, wSlE, wPtE, wNoPtE, OT.cut, wSetIx, lName, atP_nil, putP_nil, gSetM, ixN30, ixN31, ixN32, ne_eq, not_false_eq_true, not_true_eq_false, reduceCtorEq, if_true, if_false, if_pos, decide_true, decide_false, Bool.true_or, Bool.false_or, Bool.or_false, Bool.or_true, Bool.not_true, Bool.not_false, true_and, and_true, Option.some.injEq, exists_eq_left', String.reduceEq, Nat.zero_add, Nat.reduceAdd, Nat.reduceLT, Nat.lt_add_one, Bool.and_false, Bool.and_true, Bool.false_and, Bool.true_and, Bool.not_true, Bool.not_false, Bool.false_eq_true, pickL, eqv_int, eqv_bl, shaped_int, shaped_bl, shaped_non, wRev, wPeek, wListRg1, wLenSet, wMth, lIx, ixl2, ixl3, ixl4, ixt2, ixp0, ixp1, ixN20, ixN21, OT.flat_nd, wStar2, wTupOf, wDNew]
  refine hN _ (cut fun N hN => ?_)
  unfold wFor
  simp only [wRet, wRetN, wEO, wPE, wOE, wC, wVar, wVarF, wAndV, wNotV, wOrV, wIsi, wNext, wSeq, wDrop, wIfS, wSet, wPar, wAsg, wCall, wCallB, wCallK, wCallG, wMove, wCons, wNil, wVCons, wVNil, wOCons, wONil, wFn, wFnE, wFnN, wS, wSE, wSV, wCh, wET, wAnd, wOr, DL.wNot, wTup, wLst, wIf, wIx, wRaise, wMthN, gAppend, gtName, gtCons, gtNil, gtSeq, iSeq, OT.tn, D.tn, NK.tn, isTy, gCmp, gEq, gNe, gIsN, gNotN, gIsB, gNotB, isNon_non, gLen, OT.size, OT.out, t0, List.getElem?_cons_zero, List.getElem?_cons_succ, List.set_cons_zero, List.set_cons_succ, List.map_cons, List.map_nil, OT.flat_fz, flat_nd', OT.dsOf_fz, dsOf_nil, dsOf_cons, Option.map_some, List.length_cons, List.length_nil, List.length_map, List.cons_append, List.nil_append, List.append_nil, wBin, gAdd, DL.gSub, gMul, gInt, List.getD_cons_zero, OT.whole_fz, OT.frz_fz, OT.whole_nd', OT.wholeL_fz, OT.wholeL_nil, OT.wholeL_cons, OT.frz_nd', map_frz_fz, ixo0, ixo1, ixo2, ixt0, ixt1, ixl0, ixl1, unAt, reAt, wSl, wPt, wNoPt, wSlE, wPtE, wNoPtE, OT.cut, wSetIx, lName, atP_nil, putP_nil, gSetM, ixN30, ixN31, ixN32, ne_eq, not_false_eq_true, not_true_eq_false, reduceCtorEq, if_true, if_false, if_pos, decide_true, decide_false, Bool.true_or, Bool.false_or, Bool.or_false, Bool.or_true, Bool.not_true, Bool.not_false, true_and, and_true, Option.some.injEq, exists_eq_left', String.reduceEq, Nat.zero_add, Nat.reduceAdd, Nat.reduceLT, Nat.lt_add_one, Bool.and_false, Bool.and_true, Bool.false_and, Bool.true_and, Bool.not_true, Bool.not_false, Bool.false_eq_true, pickL, eqv_int, eqv_bl, shaped_int, shaped_bl, shaped_non, wRev, wPeek, wListRg1, wLenSet, wMth, lIx, ixl2, ixl3, ixl4, ixt2, ixp0, ixp1, ixN20, ixN21, OT.flat_nd, wStar2, wTupOf, wDNew]
  have e0 : (frs ps).map (fun _ => D.non) = optsD ((List.range ps.length).map (wkO ps [])) := by
    unfold optsD
    refine List.ext_getElem (by simp [frs_len]) fun i h1 h2 => ?_
    rw [List.getElem_map, List.getElem_map, List.getElem_map]
    rfl
  rw [e0]
  refine for_inv (fun ds e => ∃ (qs pre : List Row) (z3 z4 z5 z6 z7 z8 z9 : OT), ds = rowsD qs ∧ rs = pre ++ qs ∧ e = [.fz (.nd .lst (frs ps)), .fz (.nd .lst (rowsD rs)), .nd .lst ((optsD ((List.range ps.length).map (wkO ps pre))).map .fz), z3, z4, z5, z6, z7, z8, z9]) ?_ ?_ _ _ ⟨rs, [], _, _, _, _, _, _, _, rfl, rfl, rfl⟩
  · rintro d ds env E hE ⟨qs, pre, z3, z4, z5, z6, z7, z8, z9, e1, erq, rfl⟩
    cases qs with
    | nil => cases e1
    | cons q qs =>
      cases e1
      have hq := rk q (by rw [erq]; simp)
      have hl : q.rank < ((List.range ps.length).map (wkO ps pre)).length := by simpa using hq
      simp only [rowD, wRet, wRetN, wEO, wPE, wOE, wC, wVar, wVarF, wAndV, wNotV, wOrV, wIsi, wNext, wSeq, wDrop, wIfS, wSet, wPar, wAsg, wCall, wCallB, wCallK, wCallG, wMove, wCons, wNil, wVCons, wVNil, wOCons, wONil, wFn, wFnE, wFnN, wS, wSE, wSV, wCh, wET, wAnd, wOr, DL.wNot, wTup, wLst, wIf, wIx, wRaise, wMthN, gAppend, gtName, gtCons, gtNil, gtSeq, iSeq, OT.tn, D.tn, NK.tn, isTy, gCmp, gEq, gNe, gIsN, gNotN, gIsB, gNotB, isNon_non, gLen, OT.size, OT.out, t0, List.getElem?_cons_zero, List.getElem?_cons_succ, List.set_cons_zero, List.set_cons_succ, List.map_cons, List.map_nil, OT.flat_fz, flat_nd', OT.dsOf_fz, dsOf_nil, dsOf_cons, Option.map_some, List.length_cons, List.length_nil, List.length_map, List.cons_append, List.nil_append, List.append_nil, wBin, gAdd, DL.gSub, gMul, gInt, List.getD_cons_zero, OT.whole_fz, OT.frz_fz, OT.whole_nd', OT.wholeL_fz, OT.wholeL_nil, OT.wholeL_cons, OT.frz_nd', map_frz_fz, ixo0, ixo1, ixo2, ixt0, ixt1, ixl0, ixl1, unAt, reAt, wSl, wPt, wNoPt, wSlE, wPtE, wNoPtE, OT.cut, wSetIx, lName, atP_nil, putP_nil, gSetM, ixN30, ixN31, ixN32, ne_eq, not_false_eq_true, not_true_eq_false, reduceCtorEq, if_true, if_false, if_pos, decide_true, decide_false, Bool.true_or, Bool.false_or, Bool.or_false, Bool.or_true, Bool.not_true, Bool.not_false, true_and, and_true, Option.some.injEq, exists_eq_left', String.reduceEq, Nat.zero_add, Nat.reduceAdd, Nat.reduceLT, Nat.lt_add_one, Bool.and_false, Bool.and_true, Bool.false_and, Bool.true_and, Bool.not_true, Bool.not_false, Bool.false_eq_true, pickL, eqv_int, eqv_bl, shaped_int, shaped_bl, shaped_non, wRev, wPeek, wListRg1, wLenSet, wMth, lIx, ixl2, ixl3, ixl4, ixt2, ixp0, ixp1, ixN20, ixN21, OT.flat_nd, wStar2, wTupOf, wDNew]
      have nx : ∀ z9, (List.range ps.length).map (wkO ps (pre ++ [q])) = (List.range ps.length).map (wkO ps pre) → E [.fz (.nd .lst (frs ps)), .fz (.nd .lst (rowsD rs)), .nd .lst ((optsD ((List.range ps.length).map (wkO ps pre))).map .fz), z3, .fz (.int (q.rank : Int)), .fz (.int q.number), .fz (.int q.put), .fz (.int q.since), .fz (.bl q.whole), z9] := fun z9 e => hE _ ⟨qs, pre ++ [q], _, _, _, _, _, _, _, rfl, by rw [erq]; simp, by rw [e]⟩
      cases ew : q.whole with
      | false =>
        rw [if_neg (by decide)]
        rw [← ew]
        refine nx _ (List.map_congr_left fun k _ => ?_)
        rw [wk_snoc, if_neg (by rw [ew]; simp)]
      | true =>
        rw [if_pos rfl]
        simp only [ix_frsF hq, fr, ix_opts hl, wRet, wRetN, wEO, wPE, wOE, wC, wVar, wVarF, wAndV, wNotV, wOrV, wIsi, wNext, wSeq, wDrop, wIfS, wSet, wPar, wAsg, wCall, wCallB, wCallK, wCallG, wMove, wCons, wNil, wVCons, wVNil, wOCons, wONil, wFn, wFnE, wFnN, wS, wSE, wSV, wCh, wET, wAnd, wOr, DL.wNot, wTup, wLst, wIf, wIx, wRaise, wMthN, gAppend, gtName, gtCons, gtNil, gtSeq, iSeq, OT.tn, D.tn, NK.tn, isTy, gCmp, gEq, gNe, gIsN, gNotN, gIsB, gNotB, isNon_non, gLen, OT.size, OT.out, t0, List.getElem?_cons_zero, List.getElem?_cons_succ, List.set_cons_zero, List.set_cons_succ, List.map_cons, List.map_nil, OT.flat_fz, flat_nd', OT.dsOf_fz, dsOf_nil, dsOf_cons, Option.map_some, List.length_cons, List.length_nil, List.length_map, List.cons_append, List.nil_append, List.append_nil, wBin, gAdd, DL.gSub, gMul, gInt, List.getD_cons_zero, OT.whole_fz, OT.frz_fz, OT.whole_nd', OT.wholeL_fz, OT.wholeL_nil, OT.wholeL_cons, OT.frz_nd', map_frz_fz, ixo0, ixo1, ixo2, ixt0, ixt1, ixl0, ixl1, unAt, reAt, wSl, wPt, wNoPt, wSlE, wPtE, wNoPtE, OT.cut, wSetIx, lName, atP_nil, putP_nil, gSetM, ixN30, ixN31, ixN32, ne_eq, not_false_eq_true, not_true_eq_false, reduceCtorEq, if_true, if_false, if_pos, decide_true, decide_false, Bool.true_or, Bool.false_or, Bool.or_false, Bool.or_true, Bool.not_true, Bool.not_false, true_and, and_true, Option.some.injEq, exists_eq_left', String.reduceEq, Nat.zero_add, Nat.reduceAdd, Nat.reduceLT, Nat.lt_add_one, Bool.and_false, Bool.and_true, Bool.false_and, Bool.true_and, Bool.not_true, Bool.not_false, Bool.false_eq_true, pickL, eqv_int, eqv_bl, shaped_int, shaped_bl, shaped_non, wRev, wPeek, wListRg1, wLenSet, wMth, lIx, ixl2, ixl3, ixl4, ixt2, ixp0, ixp1, ixN20, ixN21, OT.flat_nd, wStar2, wTupOf, wDNew]
        have eg : (ps.getD q.rank (0, 0)).2 = ps[q.rank].2 := by rw [List.getD_eq_getElem?_getD, List.getElem?_eq_getElem hq]; rfl
        have st : ∀ v : Int, some v = wkO ps (pre ++ [q]) q.rank → ((List.range ps.length).map (wkO ps pre)).set q.rank (some v) = (List.range ps.length).map (wkO ps (pre ++ [q])) := fun v hv => by
          rw [hv]
          refine range_set _ _ _ _ (fun i hi => ?_) hq
          rw [wk_snoc, if_neg (fun z => hi z.1.symm)]
        have el : ((List.range ps.length).map (wkO ps pre))[q.rank] = wkO ps pre q.rank := by simp
        rw [el]
        have ws := wk_snoc ps pre q q.rank
        rw [if_pos ⟨rfl, ew⟩, eg] at ws
        cases eo : wkO ps pre q.rank with
        | none =>
          rw [eo] at ws
          simp only [optD, ixN_nat hq, optsD_len, List.length_range, wRet, wRetN, wEO, wPE, wOE, wC, wVar, wVarF, wAndV, wNotV, wOrV, wIsi, wNext, wSeq, wDrop, wIfS, wSet, wPar, wAsg, wCall, wCallB, wCallK, wCallG, wMove, wCons, wNil, wVCons, wVNil, wOCons, wONil, wFn, wFnE, wFnN, wS, wSE, wSV, wCh, wET, wAnd, wOr, DL.wNot, wTup, wLst, wIf, wIx, wRaise, wMthN, gAppend, gtName, gtCons, gtNil, gtSeq, iSeq, OT.tn, D.tn, NK.tn, isTy, gCmp, gEq, gNe, gIsN, gNotN, gIsB, gNotB, isNon_non, gLen, OT.size, OT.out, t0, List.getElem?_cons_zero, List.getElem?_cons_succ, List.set_cons_zero, List.set_cons_succ, List.map_cons, List.map_nil, OT.flat_fz, flat_nd', OT.dsOf_fz, dsOf_nil, dsOf_cons, Option.map_some, List.length_cons, List.length_nil, List.length_map, List.cons_append, List.nil_append, List.append_nil, wBin, gAdd, DL.gSub, gMul, gInt, List.getD_cons_zero, OT.whole_fz, OT.frz_fz, OT.whole_nd', OT.wholeL_fz, OT.wholeL_nil, OT.wholeL_cons, OT.frz_nd', map_frz_fz, ixo0, ixo1, ixo2, ixt0, ixt1, ixl0, ixl1, unAt, reAt, wSl, wPt, wNoPt, wSlE, wPtE, wNoPtE, OT.cut, wSetIx, lName, atP_nil, putP_nil, gSetM, ixN30, ixN31, ixN32, ne_eq, not_false_eq_true, not_true_eq_false, reduceCtorEq, if_true, if_false, if_pos, decide_true, decide_false, Bool.true_or, Bool.false_or, Bool.or_false, Bool.or_true, Bool.not_true, Bool.not_false, true_and, and_true, Option.some.injEq, exists_eq_left', String.reduceEq, Nat.zero_add, Nat.reduceAdd, Nat.reduceLT, Nat.lt_add_one, Bool.and_false, Bool.and_true, Bool.false_and, Bool.true_and, Bool.not_true, Bool.not_false, Bool.false_eq_true, pickL, eqv_int, eqv_bl, shaped_int, shaped_bl, shaped_non, wRev, wPeek, wListRg1, wLenSet, wMth, lIx, ixl2, ixl3, ixl4, ixt2, ixp0, ixp1, ixN20, ixN21, OT.flat_nd, wStar2, wTupOf, wDNew]
          rw [show OT.fz (D.int (q.since + ps[q.rank].2 - q.put)) = .fz (optD (some (q.since + ps[q.rank].2 - q.put))) from rfl, set_opts, st _ ws.symm]
          exact hE _ ⟨qs, pre ++ [q], _, _, _, _, _, _, _, rfl, by rw [erq]; simp, rfl⟩
        | some m =>
          rw [eo] at ws
          simp only [optD, nn_int, wRet, wRetN, wEO, wPE, wOE, wC, wVar, wVarF, wAndV, wNotV, wOrV, wIsi, wNext, wSeq, wDrop, wIfS, wSet, wPar, wAsg, wCall, wCallB, wCallK, wCallG, wMove, wCons, wNil, wVCons, wVNil, wOCons, wONil, wFn, wFnE, wFnN, wS, wSE, wSV, wCh, wET, wAnd, wOr, DL.wNot, wTup, wLst, wIf, wIx, wRaise, wMthN, gAppend, gtName, gtCons, gtNil, gtSeq, iSeq, OT.tn, D.tn, NK.tn, isTy, gCmp, gEq, gNe, gIsN, gNotN, gIsB, gNotB, isNon_non, gLen, OT.size, OT.out, t0, List.getElem?_cons_zero, List.getElem?_cons_succ, List.set_cons_zero, List.set_cons_succ, List.map_cons, List.map_nil, OT.flat_fz, flat_nd', OT.dsOf_fz, dsOf_nil, dsOf_cons, Option.map_some, List.length_cons, List.length_nil, List.length_map, List.cons_append, List.nil_append, List.append_nil, wBin, gAdd, DL.gSub, gMul, gInt, List.getD_cons_zero, OT.whole_fz, OT.frz_fz, OT.whole_nd', OT.wholeL_fz, OT.wholeL_nil, OT.wholeL_cons, OT.frz_nd', map_frz_fz, ixo0, ixo1, ixo2, ixt0, ixt1, ixl0, ixl1, unAt, reAt, wSl, wPt, wNoPt, wSlE, wPtE, wNoPtE, OT.cut, wSetIx, lName, atP_nil, putP_nil, gSetM, ixN30, ixN31, ixN32, ne_eq, not_false_eq_true, not_true_eq_false, reduceCtorEq, if_true, if_false, if_pos, decide_true, decide_false, Bool.true_or, Bool.false_or, Bool.or_false, Bool.or_true, Bool.not_true, Bool.not_false, true_and, and_true, Option.some.injEq, exists_eq_left', String.reduceEq, Nat.zero_add, Nat.reduceAdd, Nat.reduceLT, Nat.lt_add_one, Bool.and_false, Bool.and_true, Bool.false_and, Bool.true_and, Bool.not_true, Bool.not_false, Bool.false_eq_true, pickL, eqv_int, eqv_bl, shaped_int, shaped_bl, shaped_non, wRev, wPeek, wListRg1, wLenSet, wMth, lIx, ixl2, ixl3, ixl4, ixt2, ixp0, ixp1, ixN20, ixN21, OT.flat_nd, wStar2, wTupOf, wDNew]
          by_cases c : m < q.since + ps[q.rank].2 - q.put
          · refine ifT c ?_
            simp only [ixN_nat hq, optsD_len, List.length_range, wRet, wRetN, wEO, wPE, wOE, wC, wVar, wVarF, wAndV, wNotV, wOrV, wIsi, wNext, wSeq, wDrop, wIfS, wSet, wPar, wAsg, wCall, wCallB, wCallK, wCallG, wMove, wCons, wNil, wVCons, wVNil, wOCons, wONil, wFn, wFnE, wFnN, wS, wSE, wSV, wCh, wET, wAnd, wOr, DL.wNot, wTup, wLst, wIf, wIx, wRaise, wMthN, gAppend, gtName, gtCons, gtNil, gtSeq, iSeq, OT.tn, D.tn, NK.tn, isTy, gCmp, gEq, gNe, gIsN, gNotN, gIsB, gNotB, isNon_non, gLen, OT.size, OT.out, t0, List.getElem?_cons_zero, List.getElem?_cons_succ, List.set_cons_zero, List.set_cons_succ, List.map_cons, List.map_nil, OT.flat_fz, flat_nd', OT.dsOf_fz, dsOf_nil, dsOf_cons, Option.map_some, List.length_cons, List.length_nil, List.length_map, List.cons_append, List.nil_append, List.append_nil, wBin, gAdd, DL.gSub, gMul, gInt, List.getD_cons_zero, OT.whole_fz, OT.frz_fz, OT.whole_nd', OT.wholeL_fz, OT.wholeL_nil, OT.wholeL_cons, OT.frz_nd', map_frz_fz, ixo0, ixo1, ixo2, ixt0, ixt1, ixl0, ixl1, unAt, reAt, wSl, wPt, wNoPt, wSlE, wPtE, wNoPtE, OT.cut, wSetIx, lName, atP_nil, putP_nil, gSetM, ixN30, ixN31, ixN32, ne_eq, not_false_eq_true, not_true_eq_false, reduceCtorEq, if_true, if_false, if_pos, decide_true, decide_false, Bool.true_or, Bool.false_or, Bool.or_false, Bool.or_true, Bool.not_true, Bool.not_false, true_and, and_true, Option.some.injEq, exists_eq_left', String.reduceEq, Nat.zero_add, Nat.reduceAdd, Nat.reduceLT, Nat.lt_add_one, Bool.and_false, Bool.and_true, Bool.false_and, Bool.true_and, Bool.not_true, Bool.not_false, Bool.false_eq_true, pickL, eqv_int, eqv_bl, shaped_int, shaped_bl, shaped_non, wRev, wPeek, wListRg1, wLenSet, wMth, lIx, ixl2, ixl3, ixl4, ixt2, ixp0, ixp1, ixN20, ixN21, OT.flat_nd, wStar2, wTupOf, wDNew]
            rw [show OT.fz (D.int (q.since + ps[q.rank].2 - q.put)) = .fz (optD (some (q.since + ps[q.rank].2 - q.put))) from rfl, set_opts, st _ (by rw [ws]; congr 1; show _ = max m _; omega)]
            exact hE _ ⟨qs, pre ++ [q], _, _, _, _, _, _, _, rfl, by rw [erq]; simp, rfl⟩
          · refine ifF c ?_
            rw [← ew]
            refine nx _ (List.map_congr_left fun k _ => ?_)
            by_cases ek : q.rank = k
            · subst ek
              rw [ws, eo]; congr 1
              show max m _ = m
              omega
            · rw [wk_snoc, if_neg (fun z => ek z.1)]
  · rintro env ⟨qs, pre, z3, z4, z5, z6, z7, z8, z9, e1, erq, rfl⟩
    cases qs with
    | cons q qs => cases e1
    | nil =>
      rw [List.append_nil] at erq
      subst erq
      apply hN
      simp only [wRet, wRetN, wEO, wPE, wOE, wC, wVar, wVarF, wAndV, wNotV, wOrV, wIsi, wNext, wSeq, wDrop, wIfS, wSet, wPar, wAsg, wCall, wCallB, wCallK, wCallG, wMove, wCons, wNil, wVCons, wVNil, wOCons, wONil, wFn, wFnE, wFnN, wS, wSE, wSV, wCh, wET, wAnd, wOr, DL.wNot, wTup, wLst, wIf, wIx, wRaise, wMthN, gAppend, gtName, gtCons, gtNil, gtSeq, iSeq, OT.tn, D.tn, NK.tn, isTy, gCmp, gEq, gNe, gIsN, gNotN, gIsB, gNotB, isNon_non, gLen, OT.size, OT.out, t0, List.getElem?_cons_zero, List.getElem?_cons_succ, List.set_cons_zero, List.set_cons_succ, List.map_cons, List.map_nil, OT.flat_fz, flat_nd', OT.dsOf_fz, dsOf_nil, dsOf_cons, Option.map_some, List.length_cons, List.length_nil, List.length_map, List.cons_append, List.nil_append, List.append_nil, wBin, gAdd, DL.gSub, gMul, gInt, List.getD_cons_zero, OT.whole_fz, OT.frz_fz, OT.whole_nd', OT.wholeL_fz, OT.wholeL_nil, OT.wholeL_cons, OT.frz_nd', map_frz_fz, ixo0, ixo1, ixo2, ixt0, ixt1, ixl0, ixl1, unAt, reAt, wSl, wPt, wNoPt, wSlE, wPtE, wNoPtE, OT.cut, wSetIx, lName, atP_nil, putP_nil, gSetM, ixN30, ixN31, ixN32, ne_eq, not_false_eq_true, not_true_eq_false, reduceCtorEq, if_true, if_false, if_pos, decide_true, decide_false, Bool.true_or, Bool.false_or, Bool.or_false, Bool.or_true, Bool.not_true, Bool.not_false, true_and, and_true, Option.some.injEq, exists_eq_left', String.reduceEq, Nat.zero_add, Nat.reduceAdd, Nat.reduceLT, Nat.lt_add_one, Bool.and_false, Bool.and_true, Bool.false_and, Bool.true_and, Bool.not_true, Bool.not_false, Bool.false_eq_true, pickL, eqv_int, eqv_bl, shaped_int, shaped_bl, shaped_non, wRev, wPeek, wListRg1, wLenSet, wMth, lIx, ixl2, ixl3, ixl4, ixt2, ixp0, ixp1, ixN20, ixN21, OT.flat_nd, wStar2, wTupOf, wDNew]
      exact h
def sp__law_right : FSpec := fun args R _ => ∃ t, args = [t] ∧ Pot 0 t ∧ ∀ t', R (.fz (.bl true)) t'
theorem al_worst (ps : List (Int × Int)) (rs : List Row) (h : ps.length ≤ 8) : al 3 (.nd .lst (worstD ps rs)) = true := by
  show (decide ((worstD ps rs).length ≤ sizeLine) && (worstD ps rs).all (al 2)) = true
  have hl : (worstD ps rs).length ≤ sizeLine := by
    unfold worstD optsD
    rw [List.length_map, List.length_map, List.length_range]
    exact Nat.le_trans h (by decide)
  rw [decide_eq_true hl, Bool.true_and]
  refine List.all_eq_true.mpr fun d hd => ?_
  unfold worstD optsD at hd
  obtain ⟨o, _, rfl⟩ := List.mem_map.mp hd
  cases o <;> rfl
theorem sh_two (ps : List (Int × Int)) (rs : List Row) : sh 3 (.nd .lst [.nd .lst (frs ps), .nd .lst (rowsD rs)]) = true := by
  have h1 : sh 2 (.nd .lst (frs ps)) = true := nb_sh 2 _ (nb_planD ps)
  have h2 := sh_rows rs
  show (sh 2 (.nd .lst (frs ps)) && (sh 2 (.nd .lst (rowsD rs)) && true)) = true
  rw [h1, h2]; rfl
def w__law_right (xq : XQ) : WS := (wSeq (wSet 1 (wCallB 0 sp__law_dip xq [] (wCons (wPE (wC (.int 10))) wNil)))
    (wSeq (wSet 2 (wCallB 0 sp__law_dip xq [] (wCons (wIxE (wOE (wLst (wCons (wPE (wC (.int 401))) (wCons (wPE (wC (.int 60))) (wCons (wPE (wC (.int 12))) (wCons (wPE (wC (.int 2001))) wNil)))))) (wOE (wCallB 0 sp__law_dip xq [] (wCons (wPE (wC (.int 4))) wNil)))) wNil)))
    (wSeq (wSet 3 (wCallB 0 sp__law_busy_plan xq [] (wCons (wPE (wC (.int 8))) wNil)))
    (wSeq (wSet 4 (wCallB 0 sp__law_phases xq [] (wCons (wVarF 3) wNil)))
    (wSeq (wSet 5 (wCall sp__law_run xq [] (wCons (wVarF 3) (wCons (wVarF 4) (wCons (wOE (wCallB 0 sp__law_breaks xq [] (wCons (wVarF 2) wNil))) (wCons (wVarF 1) (wCons (wVarF 2) wNil)))))))
    (wSeq (wSet 6 (wCall sp__law_due xq [] (wCons (wVarF 3) (wCons (wVarF 5) wNil))))
    (wSeq (wSet 7 (wLst (wCons (wOE (wFnN gToList (wVCons (wVar 3) wVNil))) (wCons (wOE (wFnN gToList (wVCons (wVar 5) wVNil))) wNil))))
    (wSeq (wSet 8 (wCall sp_worst_seen xq [] (wCons (wPE (wIx (wVar 7) (wC (.int 0)))) (wCons (wPE (wIx (wVar 7) (wC (.int 1)))) wNil))))
    (wSeq (wIfS (wOr (wNot (wET (wOE (wPeek (sp__law_alike 3) xq (wVCons (wVar 8) (wVCons (wVar 6) wVNil)))))) (wET (wSV 7 gNe (wOE (wLst (wCons (wVarF 3) (wCons (wVarF 5) wNil))))))) (wRet (wEO (wPE (wC (.bl false))))) wNext)
    (wSeq (wDrop (wMthN 8 gAppend (wOCons (wEO (wPE (wC (.int 0)))) wONil)))
    (wSeq (wDrop (wMthN 8 gReverse wONil))
    (wRet (wCall (sp__law_alike 3) xq [] (wCons (wOE (wCall sp_worst_seen xq [] (wCons (wPE (wIx (wVar 7) (wC (.int 0)))) (wCons (wPE (wIx (wVar 7) (wC (.int 1)))) wNil)))) (wCons (wVarF 6) wNil)))))))))))))))
theorem len__law_right : ∀ args R RX, sp__law_right args R RX → args.length = 1 := by rintro _ _ _ ⟨t, rfl, _⟩; rfl
theorem pu__law_right : ∀ args R RX, sp__law_right args R RX → w__law_right (fun x env => RX x (t0 true env)) { nx := fun env => R (.fz .non) (t0 true env), rt := fun t env => R t (t0 true env) } (args ++ List.replicate (["pot", "pause", "reach", "plan", "phases", "record", "due", "handed", "found"].length - args.length) .un) := by
  rintro _ R RX ⟨t, rfl, ht, h⟩
  change w__law_right _ _ [t, .un, .un, .un, .un, .un, .un, .un, .un]
  refine cut fun N hN => ?_
  simp only [wRet, wRetN, wEO, wPE, wOE, wC, wVar, wVarF, wAndV, wNotV, wOrV, wIsi, wNext, wSeq, wDrop, wIfS, wSet, wPar, wAsg, wCall, wCallB, wCallK, wCallG, wMove, wCons, wNil, wVCons, wVNil, wOCons, wONil, wFn, wFnE, wFnN, wS, wSE, wSV, wCh, wET, wAnd, wOr, DL.wNot, wTup, wLst, wIf, wIx, wRaise, wMthN, gAppend, gtName, gtCons, gtNil, gtSeq, iSeq, OT.tn, D.tn, NK.tn, isTy, gCmp, gEq, gNe, gIsN, gNotN, gIsB, gNotB, isNon_non, gLen, OT.size, OT.out, t0, List.getElem?_cons_zero, List.getElem?_cons_succ, List.set_cons_zero, List.set_cons_succ, List.map_cons, List.map_nil, OT.flat_fz, flat_nd', OT.dsOf_fz, dsOf_nil, dsOf_cons, Option.map_some, List.length_cons, List.length_nil, List.length_map, List.cons_append, List.nil_append, List.append_nil, wBin, gAdd, DL.gSub, gMul, gInt, List.getD_cons_zero, OT.whole_fz, OT.frz_fz, OT.whole_nd', OT.wholeL_fz, OT.wholeL_nil, OT.wholeL_cons, OT.frz_nd', map_frz_fz, ixo0, ixo1, ixo2, ixt0, ixt1, ixl0, ixl1, unAt, reAt, wSl, wPt, wNoPt, wSlE, wPtE, wNoPtE, OT.cut, wSetIx, lName, atP_nil, putP_nil, gSetM, ixN30, ixN31, ixN32, ne_eq, not_false_eq_true, not_true_eq_false, reduceCtorEq, if_true, if_false, if_pos, decide_true, decide_false, Bool.true_or, Bool.false_or, Bool.or_false, Bool.or_true, Bool.not_true, Bool.not_false, true_and, and_true, Option.some.injEq, exists_eq_left', String.reduceEq, Nat.zero_add, Nat.reduceAdd, Nat.reduceLT, Nat.lt_add_one, Bool.and_false, Bool.and_true, Bool.false_and, Bool.true_and, Bool.not_true, Bool.not_false, Bool.false_eq_true, pickL, eqv_int, eqv_bl, shaped_int, shaped_bl, shaped_non, wRev, wPeek, wListRg1, wLenSet, wMth, lIx, ixl2, ixl3, ixl4, ixt2, ixp0, ixp1, ixN20, ixN21, OT.flat_nd, wStar2, wTupOf, wDNew]
  refine ⟨ht.ne, ht.ne, 0, t, 10, rfl, ht, by omega, by omega, by omega, fun pa t1 pa0 pa1 p1 => ?_⟩
  simp only [wRet, wRetN, wEO, wPE, wOE, wC, wVar, wVarF, wAndV, wNotV, wOrV, wIsi, wNext, wSeq, wDrop, wIfS, wSet, wPar, wAsg, wCall, wCallB, wCallK, wCallG, wMove, wCons, wNil, wVCons, wVNil, wOCons, wONil, wFn, wFnE, wFnN, wS, wSE, wSV, wCh, wET, wAnd, wOr, DL.wNot, wTup, wLst, wIf, wIx, wRaise, wMthN, gAppend, gtName, gtCons, gtNil, gtSeq, iSeq, OT.tn, D.tn, NK.tn, isTy, gCmp, gEq, gNe, gIsN, gNotN, gIsB, gNotB, isNon_non, gLen, OT.size, OT.out, t0, List.getElem?_cons_zero, List.getElem?_cons_succ, List.set_cons_zero, List.set_cons_succ, List.map_cons, List.map_nil, OT.flat_fz, flat_nd', OT.dsOf_fz, dsOf_nil, dsOf_cons, Option.map_some, List.length_cons, List.length_nil, List.length_map, List.cons_append, List.nil_append, List.append_nil, wBin, gAdd, DL.gSub, gMul, gInt, List.getD_cons_zero, OT.whole_fz, OT.frz_fz, OT.whole_nd', OT.wholeL_fz, OT.wholeL_nil, OT.wholeL_cons, OT.frz_nd', map_frz_fz, ixo0, ixo1, ixo2, ixt0, ixt1, ixl0, ixl1, unAt, reAt, wSl, wPt, wNoPt, wSlE, wPtE, wNoPtE, OT.cut, wSetIx, lName, atP_nil, putP_nil, gSetM, ixN30, ixN31, ixN32, ne_eq, not_false_eq_true, not_true_eq_false, reduceCtorEq, if_true, if_false, if_pos, decide_true, decide_false, Bool.true_or, Bool.false_or, Bool.or_false, Bool.or_true, Bool.not_true, Bool.not_false, true_and, and_true, Option.some.injEq, exists_eq_left', String.reduceEq, Nat.zero_add, Nat.reduceAdd, Nat.reduceLT, Nat.lt_add_one, Bool.and_false, Bool.and_true, Bool.false_and, Bool.true_and, Bool.not_true, Bool.not_false, Bool.false_eq_true, pickL, eqv_int, eqv_bl, shaped_int, shaped_bl, shaped_non, wRev, wPeek, wListRg1, wLenSet, wMth, lIx, ixl2, ixl3, ixl4, ixt2, ixp0, ixp1, ixN20, ixN21, OT.flat_nd, wStar2, wTupOf, wDNew]
  refine hN _ (cut fun N hN => ?_)
  simp only [wIxE, wRet, wRetN, wEO, wPE, wOE, wC, wVar, wVarF, wAndV, wNotV, wOrV, wIsi, wNext, wSeq, wDrop, wIfS, wSet, wPar, wAsg, wCall, wCallB, wCallK, wCallG, wMove, wCons, wNil, wVCons, wVNil, wOCons, wONil, wFn, wFnE, wFnN, wS, wSE, wSV, wCh, wET, wAnd, wOr, DL.wNot, wTup, wLst, wIf, wIx, wRaise, wMthN, gAppend, gtName, gtCons, gtNil, gtSeq, iSeq, OT.tn, D.tn, NK.tn, isTy, gCmp, gEq, gNe, gIsN, gNotN, gIsB, gNotB, isNon_non, gLen, OT.size, OT.out, t0, List.getElem?_cons_zero, List.getElem?_cons_succ, List.set_cons_zero, List.set_cons_succ, List.map_cons, List.map_nil, OT.flat_fz, flat_nd', OT.dsOf_fz, dsOf_nil, dsOf_cons, Option.map_some, List.length_cons, List.length_nil, List.length_map, List.cons_append, List.nil_append, List.append_nil, wBin, gAdd, DL.gSub, gMul, gInt, List.getD_cons_zero, OT.whole_fz, OT.frz_fz, OT.whole_nd', OT.wholeL_fz, OT.wholeL_nil, OT.wholeL_cons, OT.frz_nd', map_frz_fz, ixo0, ixo1, ixo2, ixt0, ixt1, ixl0, ixl1, unAt, reAt, wSl, wPt, wNoPt, wSlE, wPtE, wNoPtE, OT.cut, wSetIx, lName, atP_nil, putP_nil, gSetM, ixN30, ixN31, ixN32, ne_eq, not_false_eq_true, not_true_eq_false, reduceCtorEq, if_true, if_false, if_pos, decide_true, decide_false, Bool.true_or, Bool.false_or, Bool.or_false, Bool.or_true, Bool.not_true, Bool.not_false, true_and, and_true, Option.some.injEq, exists_eq_left', String.reduceEq, Nat.zero_add, Nat.reduceAdd, Nat.reduceLT, Nat.lt_add_one, Bool.and_false, Bool.and_true, Bool.false_and, Bool.true_and, Bool.not_true, Bool.not_false, Bool.false_eq_true, pickL, eqv_int, eqv_bl, shaped_int, shaped_bl, shaped_non, wRev, wPeek, wListRg1, wLenSet, wMth, lIx, ixl2, ixl3, ixl4, ixt2, ixp0, ixp1, ixN20, ixN21, OT.flat_nd, wStar2, wTupOf, wDNew]
  refine ⟨p1.ne, by decide, p1.ne, p1.ne, 1, t1, 4, rfl, p1, by omega, by omega, by omega, fun w t2 w0 w1 p2 => ?_⟩
  obtain ⟨v, ev, ixv⟩ := ix_ints (ns := [401, 60, 12, 2001]) w0 (by simpa using w1)
  have hv : 12 ≤ v ∧ v ≤ 2001 := by
    have hw : w = 0 ∨ w = 1 ∨ w = 2 ∨ w = 3 := by omega
    rcases hw with rfl | rfl | rfl | rfl <;> (cases ev; omega)
  simp only [wRet, wRetN, wEO, wPE, wOE, wC, wVar, wVarF, wAndV, wNotV, wOrV, wIsi, wNext, wSeq, wDrop, wIfS, wSet, wPar, wAsg, wCall, wCallB, wCallK, wCallG, wMove, wCons, wNil, wVCons, wVNil, wOCons, wONil, wFn, wFnE, wFnN, wS, wSE, wSV, wCh, wET, wAnd, wOr, DL.wNot, wTup, wLst, wIf, wIx, wRaise, wMthN, gAppend, gtName, gtCons, gtNil, gtSeq, iSeq, OT.tn, D.tn, NK.tn, isTy, gCmp, gEq, gNe, gIsN, gNotN, gIsB, gNotB, isNon_non, gLen, OT.size, OT.out, t0, List.getElem?_cons_zero, List.getElem?_cons_succ, List.set_cons_zero, List.set_cons_succ, List.map_cons, List.map_nil, OT.flat_fz, flat_nd', OT.dsOf_fz, dsOf_nil, dsOf_cons, Option.map_some, List.length_cons, List.length_nil, List.length_map, List.cons_append, List.nil_append, List.append_nil, wBin, gAdd, DL.gSub, gMul, gInt, List.getD_cons_zero, OT.whole_fz, OT.frz_fz, OT.whole_nd', OT.wholeL_fz, OT.wholeL_nil, OT.wholeL_cons, OT.frz_nd', map_frz_fz, ixo0, ixo1, ixo2, ixt0, ixt1, ixl0, ixl1, unAt, reAt, wSl, wPt, wNoPt, wSlE, wPtE, wNoPtE, OT.cut, wSetIx, lName, atP_nil, putP_nil, gSetM, ixN30, ixN31, ixN32, ne_eq, not_false_eq_true, not_true_eq_false, reduceCtorEq, if_true, if_false, if_pos, decide_true, decide_false, Bool.true_or, Bool.false_or, Bool.or_false, Bool.or_true, Bool.not_true, Bool.not_false, true_and, and_true, Option.some.injEq, exists_eq_left', String.reduceEq, Nat.zero_add, Nat.reduceAdd, Nat.reduceLT, Nat.lt_add_one, Bool.and_false, Bool.and_true, Bool.false_and, Bool.true_and, Bool.not_true, Bool.not_false, Bool.false_eq_true, pickL, eqv_int, eqv_bl, shaped_int, shaped_bl, shaped_non, wRev, wPeek, wListRg1, wLenSet, wMth, lIx, ixl2, ixl3, ixl4, ixt2, ixp0, ixp1, ixN20, ixN21, OT.flat_nd, wStar2, wTupOf, wDNew]
  rw [show ([D.int 401, .int 60, .int 12, .int 2001] : List D) = ([401, 60, 12, 2001] : List Int).map .int from rfl, ixv]
  simp only [wRet, wRetN, wEO, wPE, wOE, wC, wVar, wVarF, wAndV, wNotV, wOrV, wIsi, wNext, wSeq, wDrop, wIfS, wSet, wPar, wAsg, wCall, wCallB, wCallK, wCallG, wMove, wCons, wNil, wVCons, wVNil, wOCons, wONil, wFn, wFnE, wFnN, wS, wSE, wSV, wCh, wET, wAnd, wOr, DL.wNot, wTup, wLst, wIf, wIx, wRaise, wMthN, gAppend, gtName, gtCons, gtNil, gtSeq, iSeq, OT.tn, D.tn, NK.tn, isTy, gCmp, gEq, gNe, gIsN, gNotN, gIsB, gNotB, isNon_non, gLen, OT.size, OT.out, t0, List.getElem?_cons_zero, List.getElem?_cons_succ, List.set_cons_zero, List.set_cons_succ, List.map_cons, List.map_nil, OT.flat_fz, flat_nd', OT.dsOf_fz, dsOf_nil, dsOf_cons, Option.map_some, List.length_cons, List.length_nil, List.length_map, List.cons_append, List.nil_append, List.append_nil, wBin, gAdd, DL.gSub, gMul, gInt, List.getD_cons_zero, OT.whole_fz, OT.frz_fz, OT.whole_nd', OT.wholeL_fz, OT.wholeL_nil, OT.wholeL_cons, OT.frz_nd', map_frz_fz, ixo0, ixo1, ixo2, ixt0, ixt1, ixl0, ixl1, unAt, reAt, wSl, wPt, wNoPt, wSlE, wPtE, wNoPtE, OT.cut, wSetIx, lName, atP_nil, putP_nil, gSetM, ixN30, ixN31, ixN32, ne_eq, not_false_eq_true, not_true_eq_false, reduceCtorEq, if_true, if_false, if_pos, decide_true, decide_false, Bool.true_or, Bool.false_or, Bool.or_false, Bool.or_true, Bool.not_true, Bool.not_false, true_and, and_true, Option.some.injEq, exists_eq_left', String.reduceEq, Nat.zero_add, Nat.reduceAdd, Nat.reduceLT, Nat.lt_add_one, Bool.and_false, Bool.and_true, Bool.false_and, Bool.true_and, Bool.not_true, Bool.not_false, Bool.false_eq_true, pickL, eqv_int, eqv_bl, shaped_int, shaped_bl, shaped_non, wRev, wPeek, wListRg1, wLenSet, wMth, lIx, ixl2, ixl3, ixl4, ixt2, ixp0, ixp1, ixN20, ixN21, OT.flat_nd, wStar2, wTupOf, wDNew]
  refine ⟨p2.ne, 2, t2, v, rfl, p2, by omega, by omega, by omega, fun re t3 re0 re1 p3 => ?_⟩
  refine hN _ (cut fun N hN => ?_)
  simp only [wRet, wRetN, wEO, wPE, wOE, wC, wVar, wVarF, wAndV, wNotV, wOrV, wIsi, wNext, wSeq, wDrop, wIfS, wSet, wPar, wAsg, wCall, wCallB, wCallK, wCallG, wMove, wCons, wNil, wVCons, wVNil, wOCons, wONil, wFn, wFnE, wFnN, wS, wSE, wSV, wCh, wET, wAnd, wOr, DL.wNot, wTup, wLst, wIf, wIx, wRaise, wMthN, gAppend, gtName, gtCons, gtNil, gtSeq, iSeq, OT.tn, D.tn, NK.tn, isTy, gCmp, gEq, gNe, gIsN, gNotN, gIsB, gNotB, isNon_non, gLen, OT.size, OT.out, t0, List.getElem?_cons_zero, List.getElem?_cons_succ, List.set_cons_zero, List.set_cons_succ, List.map_cons, List.map_nil, OT.flat_fz, flat_nd', OT.dsOf_fz, dsOf_nil, dsOf_cons, Option.map_some, List.length_cons, List.length_nil, List.length_map, List.cons_append, List.nil_append, List.append_nil, wBin, gAdd, DL.gSub, gMul, gInt, List.getD_cons_zero, OT.whole_fz, OT.frz_fz, OT.whole_nd', OT.wholeL_fz, OT.wholeL_nil, OT.wholeL_cons, OT.frz_nd', map_frz_fz, ixo0, ixo1, ixo2, ixt0, ixt1, ixl0, ixl1, unAt, reAt, wSl, wPt, wNoPt, wSlE, wPtE, wNoPtE, OT.cut, wSetIx, lName, atP_nil, putP_nil, gSetM, ixN30, ixN31, ixN32, ne_eq, not_false_eq_true, not_true_eq_false, reduceCtorEq, if_true, if_false, if_pos, decide_true, decide_false, Bool.true_or, Bool.false_or, Bool.or_false, Bool.or_true, Bool.not_true, Bool.not_false, true_and, and_true, Option.some.injEq, exists_eq_left', String.reduceEq, Nat.zero_add, Nat.reduceAdd, Nat.reduceLT, Nat.lt_add_one, Bool.and_false, Bool.and_true, Bool.false_and, Bool.true_and, Bool.not_true, Bool.not_false, Bool.false_eq_true, pickL, eqv_int, eqv_bl, shaped_int, shaped_bl, shaped_non, wRev, wPeek, wListRg1, wLenSet, wMth, lIx, ixl2, ixl3, ixl4, ixt2, ixp0, ixp1, ixN20, ixN21, OT.flat_nd, wStar2, wTupOf, wDNew]
  refine ⟨p3.ne, p3.ne, 3, t3, 8, rfl, p3, by omega, by omega, by omega, fun ps t4 n8 hf p4 => ?_⟩
  have pl : PlOk ps := ⟨by omega, hf⟩
  refine hN _ (cut fun N hN => ?_)
  simp only [planO, wRet, wRetN, wEO, wPE, wOE, wC, wVar, wVarF, wAndV, wNotV, wOrV, wIsi, wNext, wSeq, wDrop, wIfS, wSet, wPar, wAsg, wCall, wCallB, wCallK, wCallG, wMove, wCons, wNil, wVCons, wVNil, wOCons, wONil, wFn, wFnE, wFnN, wS, wSE, wSV, wCh, wET, wAnd, wOr, DL.wNot, wTup, wLst, wIf, wIx, wRaise, wMthN, gAppend, gtName, gtCons, gtNil, gtSeq, iSeq, OT.tn, D.tn, NK.tn, isTy, gCmp, gEq, gNe, gIsN, gNotN, gIsB, gNotB, isNon_non, gLen, OT.size, OT.out, t0, List.getElem?_cons_zero, List.getElem?_cons_succ, List.set_cons_zero, List.set_cons_succ, List.map_cons, List.map_nil, OT.flat_fz, flat_nd', OT.dsOf_fz, dsOf_nil, dsOf_cons, Option.map_some, List.length_cons, List.length_nil, List.length_map, List.cons_append, List.nil_append, List.append_nil, wBin, gAdd, DL.gSub, gMul, gInt, List.getD_cons_zero, OT.whole_fz, OT.frz_fz, OT.whole_nd', OT.wholeL_fz, OT.wholeL_nil, OT.wholeL_cons, OT.frz_nd', map_frz_fz, ixo0, ixo1, ixo2, ixt0, ixt1, ixl0, ixl1, unAt, reAt, wSl, wPt, wNoPt, wSlE, wPtE, wNoPtE, OT.cut, wSetIx, lName, atP_nil, putP_nil, gSetM, ixN30, ixN31, ixN32, ne_eq, not_false_eq_true, not_true_eq_false, reduceCtorEq, if_true, if_false, if_pos, decide_true, decide_false, Bool.true_or, Bool.false_or, Bool.or_false, Bool.or_true, Bool.not_true, Bool.not_false, true_and, and_true, Option.some.injEq, exists_eq_left', String.reduceEq, Nat.zero_add, Nat.reduceAdd, Nat.reduceLT, Nat.lt_add_one, Bool.and_false, Bool.and_true, Bool.false_and, Bool.true_and, Bool.not_true, Bool.not_false, Bool.false_eq_true, pickL, eqv_int, eqv_bl, shaped_int, shaped_bl, shaped_non, wRev, wPeek, wListRg1, wLenSet, wMth, lIx, ixl2, ixl3, ixl4, ixt2, ixp0, ixp1, ixN20, ixN21, OT.flat_nd, wStar2, wTupOf, wDNew]
  refine ⟨p4.ne, p4.ne, 43, t4, ps, rfl, p4, by omega, pl, fun phs t5 ph _ p5 => ?_⟩
  refine hN _ (cut fun N hN => ?_)
  simp only [wRet, wRetN, wEO, wPE, wOE, wC, wVar, wVarF, wAndV, wNotV, wOrV, wIsi, wNext, wSeq, wDrop, wIfS, wSet, wPar, wAsg, wCall, wCallB, wCallK, wCallG, wMove, wCons, wNil, wVCons, wVNil, wOCons, wONil, wFn, wFnE, wFnN, wS, wSE, wSV, wCh, wET, wAnd, wOr, DL.wNot, wTup, wLst, wIf, wIx, wRaise, wMthN, gAppend, gtName, gtCons, gtNil, gtSeq, iSeq, OT.tn, D.tn, NK.tn, isTy, gCmp, gEq, gNe, gIsN, gNotN, gIsB, gNotB, isNon_non, gLen, OT.size, OT.out, t0, List.getElem?_cons_zero, List.getElem?_cons_succ, List.set_cons_zero, List.set_cons_succ, List.map_cons, List.map_nil, OT.flat_fz, flat_nd', OT.dsOf_fz, dsOf_nil, dsOf_cons, Option.map_some, List.length_cons, List.length_nil, List.length_map, List.cons_append, List.nil_append, List.append_nil, wBin, gAdd, DL.gSub, gMul, gInt, List.getD_cons_zero, OT.whole_fz, OT.frz_fz, OT.whole_nd', OT.wholeL_fz, OT.wholeL_nil, OT.wholeL_cons, OT.frz_nd', map_frz_fz, ixo0, ixo1, ixo2, ixt0, ixt1, ixl0, ixl1, unAt, reAt, wSl, wPt, wNoPt, wSlE, wPtE, wNoPtE, OT.cut, wSetIx, lName, atP_nil, putP_nil, gSetM, ixN30, ixN31, ixN32, ne_eq, not_false_eq_true, not_true_eq_false, reduceCtorEq, if_true, if_false, if_pos, decide_true, decide_false, Bool.true_or, Bool.false_or, Bool.or_false, Bool.or_true, Bool.not_true, Bool.not_false, true_and, and_true, Option.some.injEq, exists_eq_left', String.reduceEq, Nat.zero_add, Nat.reduceAdd, Nat.reduceLT, Nat.lt_add_one, Bool.and_false, Bool.and_true, Bool.false_and, Bool.true_and, Bool.not_true, Bool.not_false, Bool.false_eq_true, pickL, eqv_int, eqv_bl, shaped_int, shaped_bl, shaped_non, wRev, wPeek, wListRg1, wLenSet, wMth, lIx, ixl2, ixl3, ixl4, ixt2, ixp0, ixp1, ixN20, ixN21, OT.flat_nd, wStar2, wTupOf, wDNew]
  refine ⟨p5.ne, p5.ne, 53, t5, re, rfl, p5, by omega, re0, by omega, fun hs t6 bk p6 => ?_⟩
  simp only [wRet, wRetN, wEO, wPE, wOE, wC, wVar, wVarF, wAndV, wNotV, wOrV, wIsi, wNext, wSeq, wDrop, wIfS, wSet, wPar, wAsg, wCall, wCallB, wCallK, wCallG, wMove, wCons, wNil, wVCons, wVNil, wOCons, wONil, wFn, wFnE, wFnN, wS, wSE, wSV, wCh, wET, wAnd, wOr, DL.wNot, wTup, wLst, wIf, wIx, wRaise, wMthN, gAppend, gtName, gtCons, gtNil, gtSeq, iSeq, OT.tn, D.tn, NK.tn, isTy, gCmp, gEq, gNe, gIsN, gNotN, gIsB, gNotB, isNon_non, gLen, OT.size, OT.out, t0, List.getElem?_cons_zero, List.getElem?_cons_succ, List.set_cons_zero, List.set_cons_succ, List.map_cons, List.map_nil, OT.flat_fz, flat_nd', OT.dsOf_fz, dsOf_nil, dsOf_cons, Option.map_some, List.length_cons, List.length_nil, List.length_map, List.cons_append, List.nil_append, List.append_nil, wBin, gAdd, DL.gSub, gMul, gInt, List.getD_cons_zero, OT.whole_fz, OT.frz_fz, OT.whole_nd', OT.wholeL_fz, OT.wholeL_nil, OT.wholeL_cons, OT.frz_nd', map_frz_fz, ixo0, ixo1, ixo2, ixt0, ixt1, ixl0, ixl1, unAt, reAt, wSl, wPt, wNoPt, wSlE, wPtE, wNoPtE, OT.cut, wSetIx, lName, atP_nil, putP_nil, gSetM, ixN30, ixN31, ixN32, ne_eq, not_false_eq_true, not_true_eq_false, reduceCtorEq, if_true, if_false, if_pos, decide_true, decide_false, Bool.true_or, Bool.false_or, Bool.or_false, Bool.or_true, Bool.not_true, Bool.not_false, true_and, and_true, Option.some.injEq, exists_eq_left', String.reduceEq, Nat.zero_add, Nat.reduceAdd, Nat.reduceLT, Nat.lt_add_one, Bool.and_false, Bool.and_true, Bool.false_and, Bool.true_and, Bool.not_true, Bool.not_false, Bool.false_eq_true, pickL, eqv_int, eqv_bl, shaped_int, shaped_bl, shaped_non, wRev, wPeek, wListRg1, wLenSet, wMth, lIx, ixl2, ixl3, ixl4, ixt2, ixp0, ixp1, ixN20, ixN21, OT.flat_nd, wStar2, wTupOf, wDNew]
  refine ⟨ps, phs, hs, pa, re, rfl, pl, ph, bk.1, pa0, by omega, re0, by omega, fun rs rk => ?_⟩
  have rl : rs.length ≤ 100000 := by have := rk.1; omega
  have rl2 : (rowsD rs).length ≤ sizeLine := by rw [rowsD_len]; exact Nat.le_trans rl (by decide)
  refine hN _ (cut fun N hN => ?_)
  simp only [wRet, wRetN, wEO, wPE, wOE, wC, wVar, wVarF, wAndV, wNotV, wOrV, wIsi, wNext, wSeq, wDrop, wIfS, wSet, wPar, wAsg, wCall, wCallB, wCallK, wCallG, wMove, wCons, wNil, wVCons, wVNil, wOCons, wONil, wFn, wFnE, wFnN, wS, wSE, wSV, wCh, wET, wAnd, wOr, DL.wNot, wTup, wLst, wIf, wIx, wRaise, wMthN, gAppend, gtName, gtCons, gtNil, gtSeq, iSeq, OT.tn, D.tn, NK.tn, isTy, gCmp, gEq, gNe, gIsN, gNotN, gIsB, gNotB, isNon_non, gLen, OT.size, OT.out, t0, List.getElem?_cons_zero, List.getElem?_cons_succ, List.set_cons_zero, List.set_cons_succ, List.map_cons, List.map_nil, OT.flat_fz, flat_nd', OT.dsOf_fz, dsOf_nil, dsOf_cons, Option.map_some, List.length_cons, List.length_nil, List.length_map, List.cons_append, List.nil_append, List.append_nil, wBin, gAdd, DL.gSub, gMul, gInt, List.getD_cons_zero, OT.whole_fz, OT.frz_fz, OT.whole_nd', OT.wholeL_fz, OT.wholeL_nil, OT.wholeL_cons, OT.frz_nd', map_frz_fz, ixo0, ixo1, ixo2, ixt0, ixt1, ixl0, ixl1, unAt, reAt, wSl, wPt, wNoPt, wSlE, wPtE, wNoPtE, OT.cut, wSetIx, lName, atP_nil, putP_nil, gSetM, ixN30, ixN31, ixN32, ne_eq, not_false_eq_true, not_true_eq_false, reduceCtorEq, if_true, if_false, if_pos, decide_true, decide_false, Bool.true_or, Bool.false_or, Bool.or_false, Bool.or_true, Bool.not_true, Bool.not_false, true_and, and_true, Option.some.injEq, exists_eq_left', String.reduceEq, Nat.zero_add, Nat.reduceAdd, Nat.reduceLT, Nat.lt_add_one, Bool.and_false, Bool.and_true, Bool.false_and, Bool.true_and, Bool.not_true, Bool.not_false, Bool.false_eq_true, pickL, eqv_int, eqv_bl, shaped_int, shaped_bl, shaped_non, wRev, wPeek, wListRg1, wLenSet, wMth, lIx, ixl2, ixl3, ixl4, ixt2, ixp0, ixp1, ixN20, ixN21, OT.flat_nd, wStar2, wTupOf, wDNew]
  refine ⟨ps, rs, rfl, pl, fun r hr => (rk.2 r hr).1, ?_⟩
  refine hN _ (cut fun N hN => ?_)
  simp only [gToList, wRet, wRetN, wEO, wPE, wOE, wC, wVar, wVarF, wAndV, wNotV, wOrV, wIsi, wNext, wSeq, wDrop, wIfS, wSet, wPar, wAsg, wCall, wCallB, wCallK, wCallG, wMove, wCons, wNil, wVCons, wVNil, wOCons, wONil, wFn, wFnE, wFnN, wS, wSE, wSV, wCh, wET, wAnd, wOr, DL.wNot, wTup, wLst, wIf, wIx, wRaise, wMthN, gAppend, gtName, gtCons, gtNil, gtSeq, iSeq, OT.tn, D.tn, NK.tn, isTy, gCmp, gEq, gNe, gIsN, gNotN, gIsB, gNotB, isNon_non, gLen, OT.size, OT.out, t0, List.getElem?_cons_zero, List.getElem?_cons_succ, List.set_cons_zero, List.set_cons_succ, List.map_cons, List.map_nil, OT.flat_fz, flat_nd', OT.dsOf_fz, dsOf_nil, dsOf_cons, Option.map_some, List.length_cons, List.length_nil, List.length_map, List.cons_append, List.nil_append, List.append_nil, wBin, gAdd, DL.gSub, gMul, gInt, List.getD_cons_zero, OT.whole_fz, OT.frz_fz, OT.whole_nd', OT.wholeL_fz, OT.wholeL_nil, OT.wholeL_cons, OT.frz_nd', map_frz_fz, ixo0, ixo1, ixo2, ixt0, ixt1, ixl0, ixl1, unAt, reAt, wSl, wPt, wNoPt, wSlE, wPtE, wNoPtE, OT.cut, wSetIx, lName, atP_nil, putP_nil, gSetM, ixN30, ixN31, ixN32, ne_eq, not_false_eq_true, not_true_eq_false, reduceCtorEq, if_true, if_false, if_pos, decide_true, decide_false, Bool.true_or, Bool.false_or, Bool.or_false, Bool.or_true, Bool.not_true, Bool.not_false, true_and, and_true, Option.some.injEq, exists_eq_left', String.reduceEq, Nat.zero_add, Nat.reduceAdd, Nat.reduceLT, Nat.lt_add_one, Bool.and_false, Bool.and_true, Bool.false_and, Bool.true_and, Bool.not_true, Bool.not_false, Bool.false_eq_true, pickL, eqv_int, eqv_bl, shaped_int, shaped_bl, shaped_non, wRev, wPeek, wListRg1, wLenSet, wMth, lIx, ixl2, ixl3, ixl4, ixt2, ixp0, ixp1, ixN20, ixN21, OT.flat_nd, wStar2, wTupOf, wDNew]
  refine ⟨by decide, hN _ (cut fun N hN => ?_)⟩
  simp only [wRet, wRetN, wEO, wPE, wOE, wC, wVar, wVarF, wAndV, wNotV, wOrV, wIsi, wNext, wSeq, wDrop, wIfS, wSet, wPar, wAsg, wCall, wCallB, wCallK, wCallG, wMove, wCons, wNil, wVCons, wVNil, wOCons, wONil, wFn, wFnE, wFnN, wS, wSE, wSV, wCh, wET, wAnd, wOr, DL.wNot, wTup, wLst, wIf, wIx, wRaise, wMthN, gAppend, gtName, gtCons, gtNil, gtSeq, iSeq, OT.tn, D.tn, NK.tn, isTy, gCmp, gEq, gNe, gIsN, gNotN, gIsB, gNotB, isNon_non, gLen, OT.size, OT.out, t0, List.getElem?_cons_zero, List.getElem?_cons_succ, List.set_cons_zero, List.set_cons_succ, List.map_cons, List.map_nil, OT.flat_fz, flat_nd', OT.dsOf_fz, dsOf_nil, dsOf_cons, Option.map_some, List.length_cons, List.length_nil, List.length_map, List.cons_append, List.nil_append, List.append_nil, wBin, gAdd, DL.gSub, gMul, gInt, List.getD_cons_zero, OT.whole_fz, OT.frz_fz, OT.whole_nd', OT.wholeL_fz, OT.wholeL_nil, OT.wholeL_cons, OT.frz_nd', map_frz_fz, ixo0, ixo1, ixo2, ixt0, ixt1, ixl0, ixl1, unAt, reAt, wSl, wPt, wNoPt, wSlE, wPtE, wNoPtE, OT.cut, wSetIx, lName, atP_nil, putP_nil, gSetM, ixN30, ixN31, ixN32, ne_eq, not_false_eq_true, not_true_eq_false, reduceCtorEq, if_true, if_false, if_pos, decide_true, decide_false, Bool.true_or, Bool.false_or, Bool.or_false, Bool.or_true, Bool.not_true, Bool.not_false, true_and, and_true, Option.some.injEq, exists_eq_left', String.reduceEq, Nat.zero_add, Nat.reduceAdd, Nat.reduceLT, Nat.lt_add_one, Bool.and_false, Bool.and_true, Bool.false_and, Bool.true_and, Bool.not_true, Bool.not_false, Bool.false_eq_true, pickL, eqv_int, eqv_bl, shaped_int, shaped_bl, shaped_non, wRev, wPeek, wListRg1, wLenSet, wMth, lIx, ixl2, ixl3, ixl4, ixt2, ixp0, ixp1, ixN20, ixN21, OT.flat_nd, wStar2, wTupOf, wDNew]
  refine ⟨ps, rs, rfl, pl, rl, ?_⟩
  refine hN _ (cut fun N hN => ?_)
  have ala := al_worst ps rs pl.1
  generalize hws : worstD ps rs = ws at ala
  simp only [wRet, wRetN, wEO, wPE, wOE, wC, wVar, wVarF, wAndV, wNotV, wOrV, wIsi, wNext, wSeq, wDrop, wIfS, wSet, wPar, wAsg, wCall, wCallB, wCallK, wCallG, wMove, wCons, wNil, wVCons, wVNil, wOCons, wONil, wFn, wFnE, wFnN, wS, wSE, wSV, wCh, wET, wAnd, wOr, DL.wNot, wTup, wLst, wIf, wIx, wRaise, wMthN, gAppend, gtName, gtCons, gtNil, gtSeq, iSeq, OT.tn, D.tn, NK.tn, isTy, gCmp, gEq, gNe, gIsN, gNotN, gIsB, gNotB, isNon_non, gLen, OT.size, OT.out, t0, List.getElem?_cons_zero, List.getElem?_cons_succ, List.set_cons_zero, List.set_cons_succ, List.map_cons, List.map_nil, OT.flat_fz, flat_nd', OT.dsOf_fz, dsOf_nil, dsOf_cons, Option.map_some, List.length_cons, List.length_nil, List.length_map, List.cons_append, List.nil_append, List.append_nil, wBin, gAdd, DL.gSub, gMul, gInt, List.getD_cons_zero, OT.whole_fz, OT.frz_fz, OT.whole_nd', OT.wholeL_fz, OT.wholeL_nil, OT.wholeL_cons, OT.frz_nd', map_frz_fz, ixo0, ixo1, ixo2, ixt0, ixt1, ixl0, ixl1, unAt, reAt, wSl, wPt, wNoPt, wSlE, wPtE, wNoPtE, OT.cut, wSetIx, lName, atP_nil, putP_nil, gSetM, ixN30, ixN31, ixN32, ne_eq, not_false_eq_true, not_true_eq_false, reduceCtorEq, if_true, if_false, if_pos, decide_true, decide_false, Bool.true_or, Bool.false_or, Bool.or_false, Bool.or_true, Bool.not_true, Bool.not_false, true_and, and_true, Option.some.injEq, exists_eq_left', String.reduceEq, Nat.zero_add, Nat.reduceAdd, Nat.reduceLT, Nat.lt_add_one, Bool.and_false, Bool.and_true, Bool.false_and, Bool.true_and, Bool.not_true, Bool.not_false, Bool.false_eq_true, pickL, eqv_int, eqv_bl, shaped_int, shaped_bl, shaped_non, wRev, wPeek, wListRg1, wLenSet, wMth, lIx, ixl2, ixl3, ixl4, ixt2, ixp0, ixp1, ixN20, ixN21, OT.flat_nd, wStar2, wTupOf, wDNew]
  refine ⟨.nd .lst ws, rfl, ala, .bl true, rfl, rfl, ?_⟩
  simp only [wRet, wRetN, wEO, wPE, wOE, wC, wVar, wVarF, wAndV, wNotV, wOrV, wIsi, wNext, wSeq, wDrop, wIfS, wSet, wPar, wAsg, wCall, wCallB, wCallK, wCallG, wMove, wCons, wNil, wVCons, wVNil, wOCons, wONil, wFn, wFnE, wFnN, wS, wSE, wSV, wCh, wET, wAnd, wOr, DL.wNot, wTup, wLst, wIf, wIx, wRaise, wMthN, gAppend, gtName, gtCons, gtNil, gtSeq, iSeq, OT.tn, D.tn, NK.tn, isTy, gCmp, gEq, gNe, gIsN, gNotN, gIsB, gNotB, isNon_non, gLen, OT.size, OT.out, t0, List.getElem?_cons_zero, List.getElem?_cons_succ, List.set_cons_zero, List.set_cons_succ, List.map_cons, List.map_nil, OT.flat_fz, flat_nd', OT.dsOf_fz, dsOf_nil, dsOf_cons, Option.map_some, List.length_cons, List.length_nil, List.length_map, List.cons_append, List.nil_append, List.append_nil, wBin, gAdd, DL.gSub, gMul, gInt, List.getD_cons_zero, OT.whole_fz, OT.frz_fz, OT.whole_nd', OT.wholeL_fz, OT.wholeL_nil, OT.wholeL_cons, OT.frz_nd', map_frz_fz, ixo0, ixo1, ixo2, ixt0, ixt1, ixl0, ixl1, unAt, reAt, wSl, wPt, wNoPt, wSlE, wPtE, wNoPtE, OT.cut, wSetIx, lName, atP_nil, putP_nil, gSetM, ixN30, ixN31, ixN32, ne_eq, not_false_eq_true, not_true_eq_false, reduceCtorEq, if_true, if_false, if_pos, decide_true, decide_false, Bool.true_or, Bool.false_or, Bool.or_false, Bool.or_true, Bool.not_true, Bool.not_false, true_and, and_true, Option.some.injEq, exists_eq_left', String.reduceEq, Nat.zero_add, Nat.reduceAdd, Nat.reduceLT, Nat.lt_add_one, Bool.and_false, Bool.and_true, Bool.false_and, Bool.true_and, Bool.not_true, Bool.not_false, Bool.false_eq_true, pickL, eqv_int, eqv_bl, shaped_int, shaped_bl, shaped_non, wRev, wPeek, wListRg1, wLenSet, wMth, lIx, ixl2, ixl3, ixl4, ixt2, ixp0, ixp1, ixN20, ixN21, OT.flat_nd, wStar2, wTupOf, wDNew]
  refine ⟨by decide, shaped_of 3 (sh_two ps rs), shaped_of 3 (sh_two ps rs), ?_⟩
  rw [eqv_refl (sh_ok 3 _ (sh_two ps rs)).1]
  simp only [wRet, wRetN, wEO, wPE, wOE, wC, wVar, wVarF, wAndV, wNotV, wOrV, wIsi, wNext, wSeq, wDrop, wIfS, wSet, wPar, wAsg, wCall, wCallB, wCallK, wCallG, wMove, wCons, wNil, wVCons, wVNil, wOCons, wONil, wFn, wFnE, wFnN, wS, wSE, wSV, wCh, wET, wAnd, wOr, DL.wNot, wTup, wLst, wIf, wIx, wRaise, wMthN, gAppend, gtName, gtCons, gtNil, gtSeq, iSeq, OT.tn, D.tn, NK.tn, isTy, gCmp, gEq, gNe, gIsN, gNotN, gIsB, gNotB, isNon_non, gLen, OT.size, OT.out, t0, List.getElem?_cons_zero, List.getElem?_cons_succ, List.set_cons_zero, List.set_cons_succ, List.map_cons, List.map_nil, OT.flat_fz, flat_nd', OT.dsOf_fz, dsOf_nil, dsOf_cons, Option.map_some, List.length_cons, List.length_nil, List.length_map, List.cons_append, List.nil_append, List.append_nil, wBin, gAdd, DL.gSub, gMul, gInt, List.getD_cons_zero, OT.whole_fz, OT.frz_fz, OT.whole_nd', OT.wholeL_fz, OT.wholeL_nil, OT.wholeL_cons, OT.frz_nd', map_frz_fz, ixo0, ixo1, ixo2, ixt0, ixt1, ixl0, ixl1, unAt, reAt, wSl, wPt, wNoPt, wSlE, wPtE, wNoPtE, OT.cut, wSetIx, lName, atP_nil, putP_nil, gSetM, ixN30, ixN31, ixN32, ne_eq, not_false_eq_true, not_true_eq_false, reduceCtorEq, if_true, if_false, if_pos, decide_true, decide_false, Bool.true_or, Bool.false_or, Bool.or_false, Bool.or_true, Bool.not_true, Bool.not_false, true_and, and_true, Option.some.injEq, exists_eq_left', String.reduceEq, Nat.zero_add, Nat.reduceAdd, Nat.reduceLT, Nat.lt_add_one, Bool.and_false, Bool.and_true, Bool.false_and, Bool.true_and, Bool.not_true, Bool.not_false, Bool.false_eq_true, pickL, eqv_int, eqv_bl, shaped_int, shaped_bl, shaped_non, wRev, wPeek, wListRg1, wLenSet, wMth, lIx, ixl2, ixl3, ixl4, ixt2, ixp0, ixp1, ixN20, ixN21, OT.flat_nd, wStar2, wTupOf, wDNew]
  refine hN _ (cut fun N hN => ?_)
  have wl : ws.length < sizeLine := by
    have := of_decide_eq_true (Bool.and_eq_true _ _ ▸ (show (decide (ws.length ≤ sizeLine) && ws.all (al 2)) = true from ala)).1
    have h8 : ws.length = ps.length := by rw [← hws]; unfold worstD optsD; rw [List.length_map, List.length_map, List.length_range]
    rw [h8]
    exact Nat.lt_of_le_of_lt pl.1 (by decide)
  simp only [wRet, wRetN, wEO, wPE, wOE, wC, wVar, wVarF, wAndV, wNotV, wOrV, wIsi, wNext, wSeq, wDrop, wIfS, wSet, wPar, wAsg, wCall, wCallB, wCallK, wCallG, wMove, wCons, wNil, wVCons, wVNil, wOCons, wONil, wFn, wFnE, wFnN, wS, wSE, wSV, wCh, wET, wAnd, wOr, DL.wNot, wTup, wLst, wIf, wIx, wRaise, wMthN, gAppend, gtName, gtCons, gtNil, gtSeq, iSeq, OT.tn, D.tn, NK.tn, isTy, gCmp, gEq, gNe, gIsN, gNotN, gIsB, gNotB, isNon_non, gLen, OT.size, OT.out, t0, List.getElem?_cons_zero, List.getElem?_cons_succ, List.set_cons_zero, List.set_cons_succ, List.map_cons, List.map_nil, OT.flat_fz, flat_nd', OT.dsOf_fz, dsOf_nil, dsOf_cons, Option.map_some, List.length_cons, List.length_nil, List.length_map, List.cons_append, List.nil_append, List.append_nil, wBin, gAdd, DL.gSub, gMul, gInt, List.getD_cons_zero, OT.whole_fz, OT.frz_fz, OT.whole_nd', OT.wholeL_fz, OT.wholeL_nil, OT.wholeL_cons, OT.frz_nd', map_frz_fz, ixo0, ixo1, ixo2, ixt0, ixt1, ixl0, ixl1, unAt, reAt, wSl, wPt, wNoPt, wSlE, wPtE, wNoPtE, OT.cut, wSetIx, lName, atP_nil, putP_nil, gSetM, ixN30, ixN31, ixN32, ne_eq, not_false_eq_true, not_true_eq_false, reduceCtorEq, if_true, if_false, if_pos, decide_true, decide_false, Bool.true_or, Bool.false_or, Bool.or_false, Bool.or_true, Bool.not_true, Bool.not_false, true_and, and_true, Option.some.injEq, exists_eq_left', String.reduceEq, Nat.zero_add, Nat.reduceAdd, Nat.reduceLT, Nat.lt_add_one, Bool.and_false, Bool.and_true, Bool.false_and, Bool.true_and, Bool.not_true, Bool.not_false, Bool.false_eq_true, pickL, eqv_int, eqv_bl, shaped_int, shaped_bl, shaped_non, wRev, wPeek, wListRg1, wLenSet, wMth, lIx, ixl2, ixl3, ixl4, ixt2, ixp0, ixp1, ixN20, ixN21, OT.flat_nd, wStar2, wTupOf, wDNew]
  refine ⟨⟨_, rfl⟩, wl, hN _ (cut fun N hN => ?_)⟩
  simp only [gReverse, wRet, wRetN, wEO, wPE, wOE, wC, wVar, wVarF, wAndV, wNotV, wOrV, wIsi, wNext, wSeq, wDrop, wIfS, wSet, wPar, wAsg, wCall, wCallB, wCallK, wCallG, wMove, wCons, wNil, wVCons, wVNil, wOCons, wONil, wFn, wFnE, wFnN, wS, wSE, wSV, wCh, wET, wAnd, wOr, DL.wNot, wTup, wLst, wIf, wIx, wRaise, wMthN, gAppend, gtName, gtCons, gtNil, gtSeq, iSeq, OT.tn, D.tn, NK.tn, isTy, gCmp, gEq, gNe, gIsN, gNotN, gIsB, gNotB, isNon_non, gLen, OT.size, OT.out, t0, List.getElem?_cons_zero, List.getElem?_cons_succ, List.set_cons_zero, List.set_cons_succ, List.map_cons, List.map_nil, OT.flat_fz, flat_nd', OT.dsOf_fz, dsOf_nil, dsOf_cons, Option.map_some, List.length_cons, List.length_nil, List.length_map, List.cons_append, List.nil_append, List.append_nil, wBin, gAdd, DL.gSub, gMul, gInt, List.getD_cons_zero, OT.whole_fz, OT.frz_fz, OT.whole_nd', OT.wholeL_fz, OT.wholeL_nil, OT.wholeL_cons, OT.frz_nd', map_frz_fz, ixo0, ixo1, ixo2, ixt0, ixt1, ixl0, ixl1, unAt, reAt, wSl, wPt, wNoPt, wSlE, wPtE, wNoPtE, OT.cut, wSetIx, lName, atP_nil, putP_nil, gSetM, ixN30, ixN31, ixN32, ne_eq, not_false_eq_true, not_true_eq_false, reduceCtorEq, if_true, if_false, if_pos, decide_true, decide_false, Bool.true_or, Bool.false_or, Bool.or_false, Bool.or_true, Bool.not_true, Bool.not_false, true_and, and_true, Option.some.injEq, exists_eq_left', String.reduceEq, Nat.zero_add, Nat.reduceAdd, Nat.reduceLT, Nat.lt_add_one, Bool.and_false, Bool.and_true, Bool.false_and, Bool.true_and, Bool.not_true, Bool.not_false, Bool.false_eq_true, pickL, eqv_int, eqv_bl, shaped_int, shaped_bl, shaped_non, wRev, wPeek, wListRg1, wLenSet, wMth, lIx, ixl2, ixl3, ixl4, ixt2, ixp0, ixp1, ixN20, ixN21, OT.flat_nd, wStar2, wTupOf, wDNew]
  refine ⟨⟨_, rfl⟩, hN _ ?_⟩
  simp only [wRet, wRetN, wEO, wPE, wOE, wC, wVar, wVarF, wAndV, wNotV, wOrV, wIsi, wNext, wSeq, wDrop, wIfS, wSet, wPar, wAsg, wCall, wCallB, wCallK, wCallG, wMove, wCons, wNil, wVCons, wVNil, wOCons, wONil, wFn, wFnE, wFnN, wS, wSE, wSV, wCh, wET, wAnd, wOr, DL.wNot, wTup, wLst, wIf, wIx, wRaise, wMthN, gAppend, gtName, gtCons, gtNil, gtSeq, iSeq, OT.tn, D.tn, NK.tn, isTy, gCmp, gEq, gNe, gIsN, gNotN, gIsB, gNotB, isNon_non, gLen, OT.size, OT.out, t0, List.getElem?_cons_zero, List.getElem?_cons_succ, List.set_cons_zero, List.set_cons_succ, List.map_cons, List.map_nil, OT.flat_fz, flat_nd', OT.dsOf_fz, dsOf_nil, dsOf_cons, Option.map_some, List.length_cons, List.length_nil, List.length_map, List.cons_append, List.nil_append, List.append_nil, wBin, gAdd, DL.gSub, gMul, gInt, List.getD_cons_zero, OT.whole_fz, OT.frz_fz, OT.whole_nd', OT.wholeL_fz, OT.wholeL_nil, OT.wholeL_cons, OT.frz_nd', map_frz_fz, ixo0, ixo1, ixo2, ixt0, ixt1, ixl0, ixl1, unAt, reAt, wSl, wPt, wNoPt, wSlE, wPtE, wNoPtE, OT.cut, wSetIx, lName, atP_nil, putP_nil, gSetM, ixN30, ixN31, ixN32, ne_eq, not_false_eq_true, not_true_eq_false, reduceCtorEq, if_true, if_false, if_pos, decide_true, decide_false, Bool.true_or, Bool.false_or, Bool.or_false, Bool.or_true, Bool.not_true, Bool.not_false, true_and, and_true, Option.some.injEq, exists_eq_left', String.reduceEq, Nat.zero_add, Nat.reduceAdd, Nat.reduceLT, Nat.lt_add_one, Bool.and_false, Bool.and_true, Bool.false_and, Bool.true_and, Bool.not_true, Bool.not_false, Bool.false_eq_true, pickL, eqv_int, eqv_bl, shaped_int, shaped_bl, shaped_non, wRev, wPeek, wListRg1, wLenSet, wMth, lIx, ixl2, ixl3, ixl4, ixt2, ixp0, ixp1, ixN20, ixN21, OT.flat_nd, wStar2, wTupOf, wDNew]
  refine ⟨ps, rs, rfl, pl, rl, ?_⟩
  rw [hws]
  simp only [wRet, wRetN, wEO, wPE, wOE, wC, wVar, wVarF, wAndV, wNotV, wOrV, wIsi, wNext, wSeq, wDrop, wIfS, wSet, wPar, wAsg, wCall, wCallB, wCallK, wCallG, wMove, wCons, wNil, wVCons, wVNil, wOCons, wONil, wFn, wFnE, wFnN, wS, wSE, wSV, wCh, wET, wAnd, wOr, DL.wNot, wTup, wLst, wIf, wIx, wRaise, wMthN, gAppend, gtName, gtCons, gtNil, gtSeq, iSeq, OT.tn, D.tn, NK.tn, isTy, gCmp, gEq, gNe, gIsN, gNotN, gIsB, gNotB, isNon_non, gLen, OT.size, OT.out, t0, List.getElem?_cons_zero, List.getElem?_cons_succ, List.set_cons_zero, List.set_cons_succ, List.map_cons, List.map_nil, OT.flat_fz, flat_nd', OT.dsOf_fz, dsOf_nil, dsOf_cons, Option.map_some, List.length_cons, List.length_nil, List.length_map, List.cons_append, List.nil_append, List.append_nil, wBin, gAdd, DL.gSub, gMul, gInt, List.getD_cons_zero, OT.whole_fz, OT.frz_fz, OT.whole_nd', OT.wholeL_fz, OT.wholeL_nil, OT.wholeL_cons, OT.frz_nd', map_frz_fz, ixo0, ixo1, ixo2, ixt0, ixt1, ixl0, ixl1, unAt, reAt, wSl, wPt, wNoPt, wSlE, wPtE, wNoPtE, OT.cut, wSetIx, lName, atP_nil, putP_nil, gSetM, ixN30, ixN31, ixN32, ne_eq, not_false_eq_true, not_true_eq_false, reduceCtorEq, if_true, if_false, if_pos, decide_true, decide_false, Bool.true_or, Bool.false_or, Bool.or_false, Bool.or_true, Bool.not_true, Bool.not_false, true_and, and_true, Option.some.injEq, exists_eq_left', String.reduceEq, Nat.zero_add, Nat.reduceAdd, Nat.reduceLT, Nat.lt_add_one, Bool.and_false, Bool.and_true, Bool.false_and, Bool.true_and, Bool.not_true, Bool.not_false, Bool.false_eq_true, pickL, eqv_int, eqv_bl, shaped_int, shaped_bl, shaped_non, wRev, wPeek, wListRg1, wLenSet, wMth, lIx, ixl2, ixl3, ixl4, ixt2, ixp0, ixp1, ixN20, ixN21, OT.flat_nd, wStar2, wTupOf, wDNew]
  refine ⟨.nd .lst ws, rfl, ala, h _⟩
def sp_law : FSpec := fun args R _ => ∃ ns : List Int, args = [.fz (.nd .scr (numsD ns))] ∧ ns.length ≤ 63 ∧ R (.fz (.bl true)) .un
def w_law (xq : XQ) : WS := (wSeq (wFor (iRange1 (wCons (wFnE (gI2 max) (wCons (wPE (wC (.int 1))) (wCons (wFnE (gI2 min) (wCons (wPE (wFn gLen (wVCons (wVar 0) wVNil))) (wCons (wPE (wC (.int 8))) wNil))) wNil))) wNil)) (gtName 1) (wIfS (wNot (wET (wOE (wCallG sp__law_right xq (wCall sp__law_pot xq [] (wCons (wVarF 0) (wCons (wVarF 1) wNil))) wNil)))) (wRet (wEO (wPE (wC (.bl false))))) wNext))
    (wRet (wEO (wPE (wC (.bl true))))))
theorem len_law : ∀ args R RX, sp_law args R RX → args.length = 1 := by rintro _ _ _ ⟨ns, rfl, _⟩; rfl
theorem pu_law : ∀ args R RX, sp_law args R RX → w_law (fun x env => RX x (t0 false env)) { nx := fun env => R (.fz .non) (t0 false env), rt := fun t env => R t (t0 false env) } (args ++ List.replicate (["script", "k"].length - args.length) .un) := by
  rintro _ R RX ⟨ns, rfl, hl, h⟩
  change w_law _ _ [.fz (.nd .scr (numsD ns)), .un]
  refine cut fun N hN => ?_
  unfold wFor
  simp only [iRange1, gI2, wRet, wRetN, wEO, wPE, wOE, wC, wVar, wVarF, wAndV, wNotV, wOrV, wIsi, wNext, wSeq, wDrop, wIfS, wSet, wPar, wAsg, wCall, wCallB, wCallK, wCallG, wMove, wCons, wNil, wVCons, wVNil, wOCons, wONil, wFn, wFnE, wFnN, wS, wSE, wSV, wCh, wET, wAnd, wOr, DL.wNot, wTup, wLst, wIf, wIx, wRaise, wMthN, gAppend, gtName, gtCons, gtNil, gtSeq, iSeq, OT.tn, D.tn, NK.tn, isTy, gCmp, gEq, gNe, gIsN, gNotN, gIsB, gNotB, isNon_non, gLen, OT.size, OT.out, t0, List.getElem?_cons_zero, List.getElem?_cons_succ, List.set_cons_zero, List.set_cons_succ, List.map_cons, List.map_nil, OT.flat_fz, flat_nd', OT.dsOf_fz, dsOf_nil, dsOf_cons, Option.map_some, List.length_cons, List.length_nil, List.length_map, List.cons_append, List.nil_append, List.append_nil, wBin, gAdd, DL.gSub, gMul, gInt, List.getD_cons_zero, OT.whole_fz, OT.frz_fz, OT.whole_nd', OT.wholeL_fz, OT.wholeL_nil, OT.wholeL_cons, OT.frz_nd', map_frz_fz, ixo0, ixo1, ixo2, ixt0, ixt1, ixl0, ixl1, unAt, reAt, wSl, wPt, wNoPt, wSlE, wPtE, wNoPtE, OT.cut, wSetIx, lName, atP_nil, putP_nil, gSetM, ixN30, ixN31, ixN32, ne_eq, not_false_eq_true, not_true_eq_false, reduceCtorEq, if_true, if_false, if_pos, decide_true, decide_false, Bool.true_or, Bool.false_or, Bool.or_false, Bool.or_true, Bool.not_true, Bool.not_false, true_and, and_true, Option.some.injEq, exists_eq_left', String.reduceEq, Nat.zero_add, Nat.reduceAdd, Nat.reduceLT, Nat.lt_add_one, Bool.and_false, Bool.and_true, Bool.false_and, Bool.true_and, Bool.not_true, Bool.not_false, Bool.false_eq_true, pickL, eqv_int, eqv_bl, shaped_int, shaped_bl, shaped_non, wRev, wPeek, wListRg1, wLenSet, wMth, lIx, ixl2, ixl3, ixl4, ixt2, ixp0, ixp1, ixN20, ixN21, OT.flat_nd, wStar2, wTupOf, wDNew]
  have e : (numsD ns).length = ns.length := by unfold numsD; rw [List.length_map]
  refine ⟨by unfold Small62; omega, ?_⟩
  refine for_inv (fun ds e => ∃ (k m : Nat) (z : OT), e = [.fz (.nd .scr (numsD ns)), z] ∧ ds = (List.range' k m).map (fun i : Nat => D.int (i : Int)) ∧ k + m ≤ 8) ?_ ?_ _ _ ?_
  · rintro d ds env M hM ⟨k, m, z, rfl, ed, hk⟩
    cases m with
    | zero => cases ed
    | succ m =>
      rw [List.range'_succ, List.map_cons, List.cons.injEq] at ed
      obtain ⟨rfl, rfl⟩ := ed
      simp only [wRet, wRetN, wEO, wPE, wOE, wC, wVar, wVarF, wAndV, wNotV, wOrV, wIsi, wNext, wSeq, wDrop, wIfS, wSet, wPar, wAsg, wCall, wCallB, wCallK, wCallG, wMove, wCons, wNil, wVCons, wVNil, wOCons, wONil, wFn, wFnE, wFnN, wS, wSE, wSV, wCh, wET, wAnd, wOr, DL.wNot, wTup, wLst, wIf, wIx, wRaise, wMthN, gAppend, gtName, gtCons, gtNil, gtSeq, iSeq, OT.tn, D.tn, NK.tn, isTy, gCmp, gEq, gNe, gIsN, gNotN, gIsB, gNotB, isNon_non, gLen, OT.size, OT.out, t0, List.getElem?_cons_zero, List.getElem?_cons_succ, List.set_cons_zero, List.set_cons_succ, List.map_cons, List.map_nil, OT.flat_fz, flat_nd', OT.dsOf_fz, dsOf_nil, dsOf_cons, Option.map_some, List.length_cons, List.length_nil, List.length_map, List.cons_append, List.nil_append, List.append_nil, wBin, gAdd, DL.gSub, gMul, gInt, List.getD_cons_zero, OT.whole_fz, OT.frz_fz, OT.whole_nd', OT.wholeL_fz, OT.wholeL_nil, OT.wholeL_cons, OT.frz_nd', map_frz_fz, ixo0, ixo1, ixo2, ixt0, ixt1, ixl0, ixl1, unAt, reAt, wSl, wPt, wNoPt, wSlE, wPtE, wNoPtE, OT.cut, wSetIx, lName, atP_nil, putP_nil, gSetM, ixN30, ixN31, ixN32, ne_eq, not_false_eq_true, not_true_eq_false, reduceCtorEq, if_true, if_false, if_pos, decide_true, decide_false, Bool.true_or, Bool.false_or, Bool.or_false, Bool.or_true, Bool.not_true, Bool.not_false, true_and, and_true, Option.some.injEq, exists_eq_left', String.reduceEq, Nat.zero_add, Nat.reduceAdd, Nat.reduceLT, Nat.lt_add_one, Bool.and_false, Bool.and_true, Bool.false_and, Bool.true_and, Bool.not_true, Bool.not_false, Bool.false_eq_true, pickL, eqv_int, eqv_bl, shaped_int, shaped_bl, shaped_non, wRev, wPeek, wListRg1, wLenSet, wMth, lIx, ixl2, ixl3, ixl4, ixt2, ixp0, ixp1, ixN20, ixN21, OT.flat_nd, wStar2, wTupOf, wDNew]
      refine ⟨ns, k, rfl, by omega, by omega, fun t pt => ?_⟩
      simp only [wRet, wRetN, wEO, wPE, wOE, wC, wVar, wVarF, wAndV, wNotV, wOrV, wIsi, wNext, wSeq, wDrop, wIfS, wSet, wPar, wAsg, wCall, wCallB, wCallK, wCallG, wMove, wCons, wNil, wVCons, wVNil, wOCons, wONil, wFn, wFnE, wFnN, wS, wSE, wSV, wCh, wET, wAnd, wOr, DL.wNot, wTup, wLst, wIf, wIx, wRaise, wMthN, gAppend, gtName, gtCons, gtNil, gtSeq, iSeq, OT.tn, D.tn, NK.tn, isTy, gCmp, gEq, gNe, gIsN, gNotN, gIsB, gNotB, isNon_non, gLen, OT.size, OT.out, t0, List.getElem?_cons_zero, List.getElem?_cons_succ, List.set_cons_zero, List.set_cons_succ, List.map_cons, List.map_nil, OT.flat_fz, flat_nd', OT.dsOf_fz, dsOf_nil, dsOf_cons, Option.map_some, List.length_cons, List.length_nil, List.length_map, List.cons_append, List.nil_append, List.append_nil, wBin, gAdd, DL.gSub, gMul, gInt, List.getD_cons_zero, OT.whole_fz, OT.frz_fz, OT.whole_nd', OT.wholeL_fz, OT.wholeL_nil, OT.wholeL_cons, OT.frz_nd', map_frz_fz, ixo0, ixo1, ixo2, ixt0, ixt1, ixl0, ixl1, unAt, reAt, wSl, wPt, wNoPt, wSlE, wPtE, wNoPtE, OT.cut, wSetIx, lName, atP_nil, putP_nil, gSetM, ixN30, ixN31, ixN32, ne_eq, not_false_eq_true, not_true_eq_false, reduceCtorEq, if_true, if_false, if_pos, decide_true, decide_false, Bool.true_or, Bool.false_or, Bool.or_false, Bool.or_true, Bool.not_true, Bool.not_false, true_and, and_true, Option.some.injEq, exists_eq_left', String.reduceEq, Nat.zero_add, Nat.reduceAdd, Nat.reduceLT, Nat.lt_add_one, Bool.and_false, Bool.and_true, Bool.false_and, Bool.true_and, Bool.not_true, Bool.not_false, Bool.false_eq_true, pickL, eqv_int, eqv_bl, shaped_int, shaped_bl, shaped_non, wRev, wPeek, wListRg1, wLenSet, wMth, lIx, ixl2, ixl3, ixl4, ixt2, ixp0, ixp1, ixN20, ixN21, OT.flat_nd, wStar2, wTupOf, wDNew]
      refine ⟨pt.ne, t, rfl, pt, fun t' => ?_⟩
      simp only [wRet, wRetN, wEO, wPE, wOE, wC, wVar, wVarF, wAndV, wNotV, wOrV, wIsi, wNext, wSeq, wDrop, wIfS, wSet, wPar, wAsg, wCall, wCallB, wCallK, wCallG, wMove, wCons, wNil, wVCons, wVNil, wOCons, wONil, wFn, wFnE, wFnN, wS, wSE, wSV, wCh, wET, wAnd, wOr, DL.wNot, wTup, wLst, wIf, wIx, wRaise, wMthN, gAppend, gtName, gtCons, gtNil, gtSeq, iSeq, OT.tn, D.tn, NK.tn, isTy, gCmp, gEq, gNe, gIsN, gNotN, gIsB, gNotB, isNon_non, gLen, OT.size, OT.out, t0, List.getElem?_cons_zero, List.getElem?_cons_succ, List.set_cons_zero, List.set_cons_succ, List.map_cons, List.map_nil, OT.flat_fz, flat_nd', OT.dsOf_fz, dsOf_nil, dsOf_cons, Option.map_some, List.length_cons, List.length_nil, List.length_map, List.cons_append, List.nil_append, List.append_nil, wBin, gAdd, DL.gSub, gMul, gInt, List.getD_cons_zero, OT.whole_fz, OT.frz_fz, OT.whole_nd', OT.wholeL_fz, OT.wholeL_nil, OT.wholeL_cons, OT.frz_nd', map_frz_fz, ixo0, ixo1, ixo2, ixt0, ixt1, ixl0, ixl1, unAt, reAt, wSl, wPt, wNoPt, wSlE, wPtE, wNoPtE, OT.cut, wSetIx, lName, atP_nil, putP_nil, gSetM, ixN30, ixN31, ixN32, ne_eq, not_false_eq_true, not_true_eq_false, reduceCtorEq, if_true, if_false, if_pos, decide_true, decide_false, Bool.true_or, Bool.false_or, Bool.or_false, Bool.or_true, Bool.not_true, Bool.not_false, true_and, and_true, Option.some.injEq, exists_eq_left', String.reduceEq, Nat.zero_add, Nat.reduceAdd, Nat.reduceLT, Nat.lt_add_one, Bool.and_false, Bool.and_true, Bool.false_and, Bool.true_and, Bool.not_true, Bool.not_false, Bool.false_eq_true, pickL, eqv_int, eqv_bl, shaped_int, shaped_bl, shaped_non, wRev, wPeek, wListRg1, wLenSet, wMth, lIx, ixl2, ixl3, ixl4, ixt2, ixp0, ixp1, ixN20, ixN21, OT.flat_nd, wStar2, wTupOf, wDNew]
      exact hM _ ⟨k + 1, m, _, rfl, rfl, by omega⟩
  · rintro env ⟨k, m, z, rfl, ed, hk⟩
    apply hN
    simp only [wRet, wRetN, wEO, wPE, wOE, wC, wVar, wVarF, wAndV, wNotV, wOrV, wIsi, wNext, wSeq, wDrop, wIfS, wSet, wPar, wAsg, wCall, wCallB, wCallK, wCallG, wMove, wCons, wNil, wVCons, wVNil, wOCons, wONil, wFn, wFnE, wFnN, wS, wSE, wSV, wCh, wET, wAnd, wOr, DL.wNot, wTup, wLst, wIf, wIx, wRaise, wMthN, gAppend, gtName, gtCons, gtNil, gtSeq, iSeq, OT.tn, D.tn, NK.tn, isTy, gCmp, gEq, gNe, gIsN, gNotN, gIsB, gNotB, isNon_non, gLen, OT.size, OT.out, t0, List.getElem?_cons_zero, List.getElem?_cons_succ, List.set_cons_zero, List.set_cons_succ, List.map_cons, List.map_nil, OT.flat_fz, flat_nd', OT.dsOf_fz, dsOf_nil, dsOf_cons, Option.map_some, List.length_cons, List.length_nil, List.length_map, List.cons_append, List.nil_append, List.append_nil, wBin, gAdd, DL.gSub, gMul, gInt, List.getD_cons_zero, OT.whole_fz, OT.frz_fz, OT.whole_nd', OT.wholeL_fz, OT.wholeL_nil, OT.wholeL_cons, OT.frz_nd', map_frz_fz, ixo0, ixo1, ixo2, ixt0, ixt1, ixl0, ixl1, unAt, reAt, wSl, wPt, wNoPt, wSlE, wPtE, wNoPtE, OT.cut, wSetIx, lName, atP_nil, putP_nil, gSetM, ixN30, ixN31, ixN32, ne_eq, not_false_eq_true, not_true_eq_false, reduceCtorEq, if_true, if_false, if_pos, decide_true, decide_false, Bool.true_or, Bool.false_or, Bool.or_false, Bool.or_true, Bool.not_true, Bool.not_false, true_and, and_true, Option.some.injEq, exists_eq_left', String.reduceEq, Nat.zero_add, Nat.reduceAdd, Nat.reduceLT, Nat.lt_add_one, Bool.and_false, Bool.and_true, Bool.false_and, Bool.true_and, Bool.not_true, Bool.not_false, Bool.false_eq_true, pickL, eqv_int, eqv_bl, shaped_int, shaped_bl, shaped_non, wRev, wPeek, wListRg1, wLenSet, wMth, lIx, ixl2, ixl3, ixl4, ixt2, ixp0, ixp1, ixN20, ixN21, OT.flat_nd, wStar2, wTupOf, wDNew]
    exact h
  · refine ⟨0, (max 1 (min ((numsD ns).length : Int) 8)).toNat, _, rfl, ?_, by omega⟩
    unfold rangeD
    rw [List.range_eq_range']
    refine List.map_congr_left fun i _ => ?_
    simp
theorem law_ok (ns : List Int) (R : OT → OT → Prop) (RX : Exn → OT → Prop) (hl : ns.length ≤ 63) (h : ∀ t, R (.fz (.bl true)) t) : sp_law [.fz (.nd .scr (ns.map .int))] R RX := ⟨ns, rfl, hl, h _⟩
end Lw

namespace Lw
open PySem PySem.Spec PyProof.Rows L2 DL

end Lw

/-! printed by wip/gen.py: the defs of the text keep their promises -/
namespace Lw
open PySem PySem.Spec PyProof.Rows L2 DL
def topS (i : Nat) : Stmt := PySem.Challenge.pw_limplines_k11_worst_seen.main.body.getD i (.Pass ⟨0, 0, 0, 0⟩)
structure Tx (K : PySem.W.Frag) (mg : Str → Option Value) : Prop where
  glo_NoPlan : mg "NoPlan" = some (.ref (He.ga K "NoPlan"))
  exc_NoPlan : (He.Fa.exc "NoPlan").ok K = true
  free_all : mg "all" = none
  free_bool : mg "bool" = none
  free_enumerate : mg "enumerate" = none
  free_int : mg "int" = none
  free_isinstance : mg "isinstance" = none
  free_len : mg "len" = none
  free_list : mg "list" = none
  free_max : mg "max" = none
  free_min : mg "min" = none
  free_range : mg "range" = none
  free_str : mg "str" = none
  free_tuple : mg "tuple" = none
  free_zip : mg "zip" = none
  int_LEAST_PERIOD : ∃ t, mg "LEAST_PERIOD" = some (.int (2) t)
  int_MOST_FRAMES : ∃ t, mg "MOST_FRAMES" = some (.int (8) t)
  int_MOST_LENGTH : ∃ t, mg "MOST_LENGTH" = some (.int (20) t)
  int_MOST_PERIOD : ∃ t, mg "MOST_PERIOD" = some (.int (400) t)
section
variable {P : Program} {wd : World} {K : PySem.W.Frag} {mg : Str → Option Value} {base : Heap}
theorem sc_is_between : FnScope ["thing", "low", "high"] ["thing", "low", "high"] (defScope (topS 8)) := ⟨rfl, rfl, rfl, by decide +kernel, rfl, by decide +kernel, by decide +kernel⟩
theorem ok_is_between {f : Addr} {fd : FuncData} (F : FunD K "is_between" "is_between" (defArgs (topS 8)) (defBody (topS 8)) (defScope (topS 8)) [] [] f fd) (T : Tx K mg)  :
    FnOk P wd K mg base (L2.CX P wd) 1 f fd ["thing", "low", "high"] (spD K sp_is_between) := by
  have sc := sc_is_between
  refine fn_ok (wb := w_is_between) F sc_is_between false (by decide) len_is_between (fun cdv A outer s H E B xq hr hK hp hps tk => ?_) pu_is_between
  exact (dss_one (ds_ret (DE.oe (de_and (PV.de (pv_isi AskTy.int hK T.free_isinstance T.free_int boot_int (pv_var 0))) (de_and (de_not (PV.de (pv_isi AskTy.bool hK T.free_isinstance T.free_bool boot_bool (pv_var 0)))) (de_one (PV.de (pv_ch CmpG.le CmpG.le hK (pv_var 1) (pv_var 0) (pv_var 2)))))))))
theorem sc_is_length : FnScope ["thing"] ["thing"] (defScope (topS 9)) := ⟨rfl, rfl, rfl, by decide +kernel, rfl, by decide +kernel, by decide +kernel⟩
theorem ok_is_length {f : Addr} {fd : FuncData} (F : FunD K "is_length" "is_length" (defArgs (topS 9)) (defBody (topS 9)) (defScope (topS 9)) [] [] f fd) (T : Tx K mg) (C_is_between : CF P wd K mg base 1 "is_between" ["thing", "low", "high"] sp_is_between) :
    FnOk P wd K mg base (L2.CX P wd) 2 f fd ["thing"] (spD K sp_is_length) := by
  have sc := sc_is_length
  refine fn_ok (wb := w_is_length) F sc_is_length false (by decide) len_is_length (fun cdv A outer s H E B xq hr hK hp hps tk => ?_) pu_is_length
  exact (dss_one (ds_ret (oe_callF C_is_between hr hK tk (da_cons (de_var 0) (da_cons (PV.de pv_int) (da_cons (PV.de (pv_gint (x := "MOST_LENGTH") rfl T.int_MOST_LENGTH)) da_nil))))))
theorem sc_is_period : FnScope ["thing"] ["thing"] (defScope (topS 10)) := ⟨rfl, rfl, rfl, by decide +kernel, rfl, by decide +kernel, by decide +kernel⟩
theorem ok_is_period {f : Addr} {fd : FuncData} (F : FunD K "is_period" "is_period" (defArgs (topS 10)) (defBody (topS 10)) (defScope (topS 10)) [] [] f fd) (T : Tx K mg) (C_is_between : CF P wd K mg base 1 "is_between" ["thing", "low", "high"] sp_is_between) :
    FnOk P wd K mg base (L2.CX P wd) 2 f fd ["thing"] (spD K sp_is_period) := by
  have sc := sc_is_period
  refine fn_ok (wb := w_is_period) F sc_is_period false (by decide) len_is_period (fun cdv A outer s H E B xq hr hK hp hps tk => ?_) pu_is_period
  exact (dss_one (ds_ret (oe_callF C_is_between hr hK tk (da_cons (de_var 0) (da_cons (PV.de (pv_gint (x := "LEAST_PERIOD") rfl T.int_LEAST_PERIOD)) (da_cons (PV.de (pv_gint (x := "MOST_PERIOD") rfl T.int_MOST_PERIOD)) da_nil))))))
theorem sc_is_frame : FnScope ["thing"] ["thing"] (defScope (topS 11)) := ⟨rfl, rfl, rfl, by decide +kernel, rfl, by decide +kernel, by decide +kernel⟩
theorem ok_is_frame {f : Addr} {fd : FuncData} (F : FunD K "is_frame" "is_frame" (defArgs (topS 11)) (defBody (topS 11)) (defScope (topS 11)) [] [] f fd) (T : Tx K mg) (C_is_period : CF P wd K mg base 2 "is_period" ["thing"] sp_is_period) (C_is_length : CF P wd K mg base 2 "is_length" ["thing"] sp_is_length) :
    FnOk P wd K mg base (L2.CX P wd) 3 f fd ["thing"] (spD K sp_is_frame) := by
  have sc := sc_is_frame
  refine fn_ok (wb := w_is_frame) F sc_is_frame false (by decide) len_is_frame (fun cdv A outer s H E B xq hr hK hp hps tk => ?_) pu_is_frame
  exact (dss_one (ds_ret (DE.oe (de_and (PV.de (pv_isi AskTy.tuple hK T.free_isinstance T.free_tuple boot_tuple (pv_var 0))) (de_and (PV.de (pv_cmp (CmpG.eq hr.units) hK (pv_len hK T.free_len (va_cons (pv_var 0) va_nil)) pv_int (nomark _))) (de_and (OE.de (oe_callF C_is_period hr hK tk (da_cons (PV.de (pv_ix hK (pv_var 0) pv_int (fun _ _ => rfl))) da_nil))) (de_one (OE.de (oe_callF C_is_length hr hK tk (da_cons (PV.de (pv_ix hK (pv_var 0) pv_int (fun _ _ => rfl))) da_nil))))))))))
theorem sc_is_plan : FnScope ["thing", "one"] ["thing"] (defScope (topS 12)) := ⟨rfl, rfl, rfl, by decide +kernel, rfl, by decide +kernel, by decide +kernel⟩
theorem ok_is_plan {f : Addr} {fd : FuncData} (F : FunD K "is_plan" "is_plan" (defArgs (topS 12)) (defBody (topS 12)) (defScope (topS 12)) [] [] f fd) (T : Tx K mg) (C_is_frame : CF P wd K mg base 3 "is_frame" ["thing"] sp_is_frame) :
    FnOk P wd K mg base (L2.CX P wd) 4 f fd ["thing"] (spD K sp_is_plan) := by
  have sc := sc_is_plan
  refine fn_ok (wb := w_is_plan) F sc_is_plan false (by decide) len_is_plan (fun cdv A outer s H E B xq hr hK hp hps tk => ?_) pu_is_plan
  exact (dss_one (ds_ret (DE.oe (de_and (PV.de (pv_isi AskTy.list hK T.free_isinstance T.free_list boot_list (pv_var 0))) (de_and (PV.de (pv_cmp CmpG.le hK (pv_len hK T.free_len (va_cons (pv_var 0) va_nil)) (pv_gint (x := "MOST_FRAMES") rfl T.int_MOST_FRAMES) (nomark _))) (de_one (de_fn hK op_all (cr_all rfl) boot_all T.free_all (da_cons (OE.de (oe_lc rfl sc.nd (hps [1] rfl) (ok := blkOk_by (own := [("one", 1)]) (by show blkC ["thing", "one"] (defScope (topS 12)) _ [("one", 1)] = true; decide +kernel)) (own := [("one", 1)]) (di_seq hK (de_var 0)) (fun _ _ _ _ _ => (dg_name 1 (hp 1 rfl) sc.nd)) (fun _ _ _ _ _ => dts_nil) (fun _ _ _ _ _ => (OE.de (oe_callF C_is_frame hr hK takesNo (da_cons (de_var 1) da_nil)))))) da_nil))))))))
theorem sc_need_plan : FnScope ["thing"] ["thing"] (defScope (topS 13)) := ⟨rfl, rfl, rfl, by decide +kernel, rfl, by decide +kernel, by decide +kernel⟩
theorem ok_need_plan {f : Addr} {fd : FuncData} (F : FunD K "need_plan" "need_plan" (defArgs (topS 13)) (defBody (topS 13)) (defScope (topS 13)) [] [] f fd) (T : Tx K mg) (C_is_plan : CF P wd K mg base 4 "is_plan" ["thing"] sp_is_plan) :
    FnOk P wd K mg base (L2.CX P wd) 5 f fd ["thing"] (spD K sp_need_plan) := by
  have sc := sc_need_plan
  refine fn_ok (wb := w_need_plan) F sc_need_plan false (by decide) len_need_plan (fun cdv A outer s H E B xq hr hK hp hps tk => ?_) pu_need_plan
  exact (dss_one (ds_if (dt_not (DE.dt (OE.de (oe_callF C_is_plan hr hK tk (da_cons (de_var 0) da_nil))))) (dss_one (ds_raise rfl tk hK T.glo_NoPlan T.exc_NoPlan)) dss_nil))
theorem sc_worst_seen : FnScope ["plan", "record", "found", "rank", "times", "period", "length", "which", "number", "put", "begin", "whole"] ["plan", "record"] (defScope (topS 15)) := ⟨rfl, rfl, rfl, by decide +kernel, rfl, by decide +kernel, by decide +kernel⟩
theorem ok_worst_seen {f : Addr} {fd : FuncData} (F : FunD K "worst_seen" "worst_seen" (defArgs (topS 15)) (defBody (topS 15)) (defScope (topS 15)) [] [] f fd) (T : Tx K mg) (C_need_plan : CF P wd K mg base 5 "need_plan" ["thing"] sp_need_plan) :
    FnOk P wd K mg base (L2.CX P wd) 6 f fd ["plan", "record"] (spD K sp_worst_seen) := by
  have sc := sc_worst_seen
  refine fn_ok (wb := w_worst_seen) F sc_worst_seen false (by decide) len_worst_seen (fun cdv A outer s H E B xq hr hK hp hps tk => ?_) pu_worst_seen
  exact (dss_cons (ds_expr (oe_callF C_need_plan hr hK tk (da_cons (de_var 0) da_nil)))
    (dss_cons (ds_set 2 (hp 2 rfl) sc.nd (oe_lst da_nil))
    (dss_cons (ds_for (passes_of rfl) rfl (di_enum hK T.free_enumerate (da_cons (de_var 0) da_nil)) (dg_seq rfl hK (dgs_cons (dg_name 3 (hp 3 rfl) sc.nd) (dgs_cons (dg_seq rfl hK (dgs_cons (dg_name 5 (hp 5 rfl) sc.nd) (dgs_cons (dg_name 6 (hp 6 rfl) sc.nd) dgs_nil))) dgs_nil))) (dss_cons (ds_setLc 4 (hp 4 rfl) rfl sc.nd (hps [7, 8, 9, 10, 11] rfl) (ok := blkOk_by (own := [("which", 7), ("number", 8), ("put", 9), ("begin", 10), ("whole", 11)]) (by show blkC ["plan", "record", "found", "rank", "times", "period", "length", "which", "number", "put", "begin", "whole"] (defScope (topS 15)) _ [("which", 7), ("number", 8), ("put", 9), ("begin", 10), ("whole", 11)] = true; decide +kernel)) (own := [("which", 7), ("number", 8), ("put", 9), ("begin", 10), ("whole", 11)]) (di_seq hK (de_var 1)) (fun _ _ _ _ _ => (dg_seq rfl hK (dgs_cons (dg_name 7 (hp 7 rfl) sc.nd) (dgs_cons (dg_name 8 (hp 8 rfl) sc.nd) (dgs_cons (dg_name 9 (hp 9 rfl) sc.nd) (dgs_cons (dg_name 10 (hp 10 rfl) sc.nd) (dgs_cons (dg_name 11 (hp 11 rfl) sc.nd) dgs_nil))))))) (fun _ _ _ _ _ => (dts_one (DW.dt (dw_and (dt_cmp (CmpG.eq hr.units) hK (pv_var 7) (pv_var 3) (nomark _)) (dw_and1 (DE.dt (PV.de (pv_var 11)))))))) (fun _ _ _ _ _ => (OE.de (de_sub (OE.de (de_add hK (de_var 10) (de_var 6))) (de_var 9)))) (sw_true rfl rfl rfl (by decide +kernel)))
    (dss_one (ds_expr (oe_append hK 2 (oa_cons (DE.oe (de_maxD hK rfl hr.units T.free_max (da_cons (de_var 4) da_nil) (dk_cons (PV.de pv_non) dk_nil))) oa_nil))))))
    (dss_one (ds_ret (oe_move 2))))))
theorem sc__law_pot : FnScope ["script", "k", "cell"] ["script", "k"] (defScope (topS 17)) := ⟨rfl, rfl, rfl, by decide +kernel, rfl, by decide +kernel, by decide +kernel⟩
theorem ok__law_pot {f : Addr} {fd : FuncData} (F : FunD K "_law_pot" "_law_pot" (defArgs (topS 17)) (defBody (topS 17)) (defScope (topS 17)) [] [] f fd) (T : Tx K mg)  :
    FnOk P wd K mg base (L2.CX P wd) 1 f fd ["script", "k"] (spD K sp__law_pot) := by
  have sc := sc__law_pot
  refine fn_ok (wb := w__law_pot) F sc__law_pot false (by decide) len__law_pot (fun cdv A outer s H E B xq hr hK hp hps tk => ?_) pu__law_pot
  exact (dss_cons (ds_set 2 (hp 2 rfl) sc.nd (DE.oe (PV.de pv_int)))
    (dss_cons (ds_if (dt_cmp CmpG.lt hK (pv_var 1) (pv_len hK T.free_len (va_cons (pv_var 0) va_nil)) (nomark _)) (dss_one (ds_set 2 (hp 2 rfl) sc.nd (DE.oe (PV.de (pv_ix hK (pv_var 0) (pv_var 1) (fun _ _ => rfl)))))) dss_nil)
    (dss_one (ds_ret (oe_lst (da_cons (de_fn hK op_max2 (call_max2 rfl) boot_max T.free_max (da_cons (PV.de pv_int) (da_cons (OE.de (de_sub (de_var 2) (OE.de (de_pow (PV.de pv_int) (PV.de pv_int))))) da_nil))) (da_cons (OE.de (de_add hK (OE.de (de_mul (OE.de (de_mod (de_var 2) (OE.de (de_add hK (OE.de (de_pow (PV.de pv_int) (PV.de pv_int))) (PV.de pv_int))))) (PV.de pv_int))) (de_var 1))) (da_cons (PV.de pv_int) da_nil))))))))
theorem sc__law_dip : FnScope ["pot", "many", "found", "mixed"] ["pot", "many"] (defScope (topS 18)) := ⟨rfl, rfl, rfl, by decide +kernel, rfl, by decide +kernel, by decide +kernel⟩
theorem ok__law_dip {f : Addr} {fd : FuncData} (F : FunD K "_law_dip" "_law_dip" (defArgs (topS 18)) (defBody (topS 18)) (defScope (topS 18)) [] [] f fd) (T : Tx K mg)  :
    FnOk P wd K mg base (L2.CX P wd) 1 f fd ["pot", "many"] (spD K sp__law_dip) := by
  have sc := sc__law_dip
  refine fn_ok (wb := w__law_dip) F sc__law_dip true (by decide) len__law_dip (fun cdv A outer s H E B xq hr hK hp hps tk => ?_) pu__law_dip
  exact (dss_cons (ds_if (dt_cmp CmpG.gt hK (pv_ix hK (pv_var 0) pv_int (fun _ _ => rfl)) pv_int (nomark _)) (dss_cons (ds_set 2 (hp 2 rfl) sc.nd (de_mod (PV.de (pv_ix hK (pv_var 0) pv_int (fun _ _ => rfl))) (de_var 1)))
    (dss_cons (ds_setix (de_div (PV.de (pv_ix hK (pv_var 0) pv_int (fun _ _ => rfl))) (de_var 1)) (pl_name 0) pv_int)
    (dss_one (ds_ret (oe_move 2))))) dss_nil)
    (dss_cons (ds_setix (de_add hK (PV.de (pv_ix hK (pv_var 0) pv_int (fun _ _ => rfl))) (PV.de pv_int)) (pl_name 0) pv_int)
    (dss_cons (ds_set 3 (hp 3 rfl) sc.nd (de_mod (OE.de (de_pow (OE.de (de_add hK (OE.de (de_add hK (PV.de (pv_ix hK (pv_var 0) pv_int (fun _ _ => rfl))) (OE.de (de_mul (PV.de pv_int) (PV.de (pv_ix hK (pv_var 0) pv_int (fun _ _ => rfl))))))) (PV.de pv_int))) (PV.de pv_int))) (PV.de pv_int)))
    (dss_cons (ds_set 3 (hp 3 rfl) sc.nd (de_mod (OE.de (de_pow (OE.de (de_add hK (de_var 3) (OE.de (de_mul (OE.de (de_mul (PV.de pv_int) (PV.de (pv_ix hK (pv_var 0) pv_int (fun _ _ => rfl))))) (PV.de (pv_ix hK (pv_var 0) pv_int (fun _ _ => rfl))))))) (PV.de pv_int))) (PV.de pv_int)))
    (dss_one (ds_ret (de_mod (OE.de (de_div (de_var 3) (PV.de pv_int))) (de_var 1))))))))
theorem sc__law_busy_plan : FnScope ["pot", "most", "found", "k", "way", "period"] ["pot", "most"] (defScope (topS 19)) := ⟨rfl, rfl, rfl, by decide +kernel, rfl, by decide +kernel, by decide +kernel⟩
theorem ok__law_busy_plan {f : Addr} {fd : FuncData} (F : FunD K "_law_busy_plan" "_law_busy_plan" (defArgs (topS 19)) (defBody (topS 19)) (defScope (topS 19)) [] [] f fd) (T : Tx K mg) (C__law_dip : CF P wd K mg base 1 "_law_dip" ["pot", "many"] sp__law_dip) :
    FnOk P wd K mg base (L2.CX P wd) 2 f fd ["pot", "most"] (spD K sp__law_busy_plan) := by
  have sc := sc__law_busy_plan
  refine fn_ok (wb := w__law_busy_plan) F sc__law_busy_plan true (by decide) len__law_busy_plan (fun cdv A outer s H E B xq hr hK hp hps tk => ?_) pu__law_busy_plan
  exact (dss_cons (ds_set 2 (hp 2 rfl) sc.nd (oe_lst da_nil))
    (dss_cons (ds_for (passes_of rfl) rfl (di_range1 T.free_range (da_cons (OE.de (oe_lend C__law_dip hr hK tk 0 (da_cons (OE.de (de_add hK (de_var 1) (PV.de pv_int))) da_nil))) da_nil)) (dg_name 3 (hp 3 rfl) sc.nd) (dss_cons (ds_set 4 (hp 4 rfl) sc.nd (oe_lend C__law_dip hr hK tk 0 (da_cons (PV.de pv_int) da_nil)))
    (dss_cons (ds_set 5 (hp 5 rfl) sc.nd (de_add hK (PV.de pv_int) (OE.de (oe_lend C__law_dip hr hK tk 0 (da_cons (de_ixE hK (OE.de (oe_lst (da_cons (PV.de pv_int) (da_cons (PV.de pv_int) (da_cons (PV.de pv_int) (da_cons (PV.de pv_int) da_nil)))))) (de_var 4) (fun _ _ => rfl)) da_nil)))))
    (dss_one (ds_expr (oe_append hK 2 (oa_cons (DE.oe (de_tup (da_cons (de_var 5) (da_cons (OE.de (de_add hK (PV.de pv_int) (OE.de (oe_lend C__law_dip hr hK tk 0 (da_cons (de_ixE hK (OE.de (oe_lst (da_cons (PV.de pv_int) (da_cons (PV.de pv_int) (da_cons (PV.de pv_int) (da_cons (PV.de pv_int) da_nil)))))) (de_var 4) (fun _ _ => rfl)) da_nil))))) da_nil)))) oa_nil)))))))
    (dss_one (ds_ret (oe_move 2)))))
theorem sc__law_phases : FnScope ["pot", "plan", "way", "one", "period", "length"] ["pot", "plan"] (defScope (topS 20)) := ⟨rfl, rfl, rfl, by decide +kernel, rfl, by decide +kernel, by decide +kernel⟩
theorem ok__law_phases {f : Addr} {fd : FuncData} (F : FunD K "_law_phases" "_law_phases" (defArgs (topS 20)) (defBody (topS 20)) (defScope (topS 20)) [] [] f fd) (T : Tx K mg) (C__law_dip : CF P wd K mg base 1 "_law_dip" ["pot", "many"] sp__law_dip) :
    FnOk P wd K mg base (L2.CX P wd) 2 f fd ["pot", "plan"] (spD K sp__law_phases) := by
  have sc := sc__law_phases
  refine fn_ok (wb := w__law_phases) F sc__law_phases true (by decide) len__law_phases (fun cdv A outer s H E B xq hr hK hp hps tk => ?_) pu__law_phases
  exact (dss_cons (ds_set 2 (hp 2 rfl) sc.nd (oe_lend C__law_dip hr hK tk 0 (da_cons (PV.de pv_int) da_nil)))
    (dss_cons (ds_if (dt_cmp (CmpG.eq hr.units) hK (pv_var 2) pv_int (nomark _)) (dss_one (ds_ret (oe_lc rfl sc.nd (hps [3] rfl) (ok := blkOk_by (own := [("one", 3)]) (by show blkC ["pot", "plan", "way", "one", "period", "length"] (defScope (topS 20)) _ [("one", 3)] = true; decide +kernel)) (own := [("one", 3)]) (di_seq hK (de_var 1)) (fun _ _ _ _ _ => (dg_name 3 (hp 3 rfl) sc.nd)) (fun _ _ _ _ _ => dts_nil) (fun _ _ _ _ _ => (PV.de pv_int))))) dss_nil)
    (dss_cons (ds_if (dt_cmp (CmpG.eq hr.units) hK (pv_var 2) pv_int (nomark _)) (dss_one (ds_ret (oe_lc rfl sc.nd (hps [4, 5] rfl) (ok := blkOk_by (own := [("period", 4), ("length", 5)]) (by show blkC ["pot", "plan", "way", "one", "period", "length"] (defScope (topS 20)) _ [("period", 4), ("length", 5)] = true; decide +kernel)) (own := [("period", 4), ("length", 5)]) (di_seq hK (de_var 1)) (fun _ _ _ _ _ => (dg_seq rfl hK (dgs_cons (dg_name 4 (hp 4 rfl) sc.nd) (dgs_cons (dg_name 5 (hp 5 rfl) sc.nd) dgs_nil)))) (fun _ _ _ _ _ => dts_nil) (fun _ _ _ _ _ => (OE.de (de_sub (de_var 4) (PV.de pv_int))))))) dss_nil)
    (dss_one (ds_ret (oe_lc rfl sc.nd (hps [4, 5] rfl) (ok := blkOk_by (own := [("period", 4), ("length", 5)]) (by show blkC ["pot", "plan", "way", "one", "period", "length"] (defScope (topS 20)) _ [("period", 4), ("length", 5)] = true; decide +kernel)) (own := [("period", 4), ("length", 5)]) (di_seq hK (de_var 1)) (fun _ _ _ _ _ => (dg_seq rfl hK (dgs_cons (dg_name 4 (hp 4 rfl) sc.nd) (dgs_cons (dg_name 5 (hp 5 rfl) sc.nd) dgs_nil)))) (fun _ _ _ _ _ => dts_nil) (fun _ _ _ _ _ => (OE.de (oe_lend C__law_dip hr hK takesNo 0 (da_cons (de_var 4) da_nil))))))))))
theorem sc__law_breaks : FnScope ["pot", "reach", "way", "found", "at", "k"] ["pot", "reach"] (defScope (topS 21)) := ⟨rfl, rfl, rfl, by decide +kernel, rfl, by decide +kernel, by decide +kernel⟩
theorem ok__law_breaks {f : Addr} {fd : FuncData} (F : FunD K "_law_breaks" "_law_breaks" (defArgs (topS 21)) (defBody (topS 21)) (defScope (topS 21)) [] [] f fd) (T : Tx K mg) (C__law_dip : CF P wd K mg base 1 "_law_dip" ["pot", "many"] sp__law_dip) :
    FnOk P wd K mg base (L2.CX P wd) 2 f fd ["pot", "reach"] (spD K sp__law_breaks) := by
  have sc := sc__law_breaks
  refine fn_ok (wb := w__law_breaks) F sc__law_breaks true (by decide) len__law_breaks (fun cdv A outer s H E B xq hr hK hp hps tk => ?_) pu__law_breaks
  exact (dss_cons (ds_set 2 (hp 2 rfl) sc.nd (oe_lend C__law_dip hr hK tk 0 (da_cons (PV.de pv_int) da_nil)))
    (dss_cons (ds_if (dt_cmp (CmpG.eq hr.units) hK (pv_var 2) pv_int (nomark _)) (dss_one (ds_ret (DE.oe (de_tup da_nil)))) dss_nil)
    (dss_cons (ds_set 3 (hp 3 rfl) sc.nd (oe_lst da_nil))
    (dss_cons (ds_set 4 (hp 4 rfl) sc.nd (de_sub (OE.de (oe_lend C__law_dip hr hK tk 0 (da_cons (PV.de pv_int) da_nil))) (PV.de pv_int)))
    (dss_cons (ds_for (passes_of rfl) rfl (di_range1 T.free_range (da_cons (OE.de (oe_lend C__law_dip hr hK tk 0 (da_cons (de_ixE hK (OE.de (oe_lst (da_cons (PV.de pv_int) (da_cons (PV.de pv_int) (da_cons (PV.de pv_int) da_nil))))) (OE.de (de_sub (de_var 2) (PV.de pv_int))) (fun _ _ => rfl)) da_nil))) da_nil)) (dg_name 5 (hp 5 rfl) sc.nd) (dss_cons (ds_set 4 (hp 4 rfl) sc.nd (de_add hK (OE.de (de_add hK (de_var 4) (PV.de pv_int))) (OE.de (oe_lend C__law_dip hr hK tk 0 (da_cons (de_ixE hK (OE.de (oe_lst (da_cons (OE.de (de_add hK (OE.de (de_div (de_var 1) (PV.de pv_int))) (PV.de pv_int))) (da_cons (PV.de pv_int) (da_cons (PV.de pv_int) da_nil))))) (OE.de (de_sub (de_var 2) (PV.de pv_int))) (fun _ _ => rfl)) da_nil)))))
    (dss_one (ds_expr (oe_append hK 3 (oa_cons (DE.oe (de_var 4)) oa_nil))))))
    (dss_one (ds_ret (oe_tupleOf hK T.free_tuple (de_var 3)))))))))
theorem sc__law_alike : FnScope ["found", "due", "one", "other"] ["found", "due"] (defScope (topS 22)) := ⟨rfl, rfl, rfl, by decide +kernel, rfl, by decide +kernel, by decide +kernel⟩
theorem okz__law_alike {f : Addr} {fd : FuncData} (F : FunD K "_law_alike" "_law_alike" (defArgs (topS 22)) (defBody (topS 22)) (defScope (topS 22)) [] [] f fd) : FnOk P wd K mg base (L2.CX P wd) (0 + 1) f fd ["found", "due"] (spD K (sp__law_alike 0)) := by
  have sc := sc__law_alike
  exact fn_ok (wb := fun _ => wNever) F sc__law_alike false (by decide) (len__law_alike 0) (fun cdv A outer s H E B xq hr hK hp hps tk => dss_never) fun args R RX h => (pz__law_alike args R RX h).elim
theorem ok__law_alike (n : Nat) {f : Addr} {fd : FuncData} (F : FunD K "_law_alike" "_law_alike" (defArgs (topS 22)) (defBody (topS 22)) (defScope (topS 22)) [] [] f fd) (T : Tx K mg) (C__law_alike : CF P wd K mg base (0 + 1 + n) "_law_alike" ["found", "due"] (sp__law_alike n)) :
    FnOk P wd K mg base (L2.CX P wd) (0 + 1 + n + 1) f fd ["found", "due"] (spD K (sp__law_alike (n + 1))) := by
  have sc := sc__law_alike
  refine fn_ok (wb := w__law_alike n) F sc__law_alike false (by decide) (len__law_alike (n + 1)) (fun cdv A outer s H E B xq hr hK hp hps tk => ?_) (pu__law_alike n)
  exact (dss_cons (ds_if (dt_cmp CmpG.isN hK (pv_var 1) pv_non (nomark _)) (dss_one (ds_ret (DE.oe (PV.de (pv_cmp CmpG.isN hK (pv_var 0) pv_non (nomark _)))))) dss_nil)
    (dss_cons (ds_if (DE.dt (de_isi2 AskTy.list AskTy.tuple hK T.free_isinstance T.free_list boot_list T.free_tuple boot_tuple (pv_var 1))) (dss_cons (ds_if (DW.dt (dw_or (dt_not (DE.dt (de_isi2 AskTy.list AskTy.tuple hK T.free_isinstance T.free_list boot_list T.free_tuple boot_tuple (pv_var 0)))) (dw_or1 (dt_cmp (CmpG.ne hr.units) hK (pv_isi AskTy.list hK T.free_isinstance T.free_list boot_list (pv_var 0)) (pv_isi AskTy.list hK T.free_isinstance T.free_list boot_list (pv_var 1)) (nomark _))))) (dss_one (ds_ret (DE.oe (PV.de pv_bl)))) dss_nil)
    (dss_cons (ds_if (dt_cmp (CmpG.ne hr.units) hK (pv_len hK T.free_len (va_cons (pv_var 0) va_nil)) (pv_len hK T.free_len (va_cons (pv_var 1) va_nil)) (nomark _)) (dss_one (ds_ret (DE.oe (PV.de pv_bl)))) dss_nil)
    (dss_one (ds_ret (DE.oe (de_fn hK op_all (cr_all rfl) boot_all T.free_all (da_cons (OE.de (oe_lc rfl sc.nd (hps [2, 3] rfl) (ok := blkOk_by (own := [("one", 2), ("other", 3)]) (by show blkC ["found", "due", "one", "other"] (defScope (topS 22)) _ [("one", 2), ("other", 3)] = true; decide +kernel)) (own := [("one", 2), ("other", 3)]) (di_zip hK T.free_zip (da_cons (de_var 0) (da_cons (de_var 1) da_nil))) (fun _ _ _ _ _ => (dg_seq rfl hK (dgs_cons (dg_name 2 (hp 2 rfl) sc.nd) (dgs_cons (dg_name 3 (hp 3 rfl) sc.nd) dgs_nil)))) (fun _ _ _ _ _ => dts_nil) (fun _ _ _ _ _ => (OE.de (oe_peek (hkk := by omega) C__law_alike hr hK takesNo (va_cons (pv_var 2) (va_cons (pv_var 3) va_nil))))))) da_nil))))))) dss_nil)
    (dss_cons (ds_if (dt_cmp (CmpG.ne hr.units) hK (pv_isi AskTy.bool hK T.free_isinstance T.free_bool boot_bool (pv_var 0)) (pv_isi AskTy.bool hK T.free_isinstance T.free_bool boot_bool (pv_var 1)) (nomark _)) (dss_one (ds_ret (DE.oe (PV.de pv_bl)))) dss_nil)
    (dss_cons (ds_if (dt_cmp (CmpG.ne hr.units) hK (pv_isi AskTy.int hK T.free_isinstance T.free_int boot_int (pv_var 0)) (pv_isi AskTy.int hK T.free_isinstance T.free_int boot_int (pv_var 1)) (nomark _)) (dss_one (ds_ret (DE.oe (PV.de pv_bl)))) dss_nil)
    (dss_one (ds_ret (DE.oe (de_and (PV.de (pv_cmp (CmpG.eq hr.units) hK (pv_isi AskTy.str hK T.free_isinstance T.free_str boot_str (pv_var 0)) (pv_isi AskTy.str hK T.free_isinstance T.free_str boot_str (pv_var 1)) (nomark _))) (de_one (PV.de (pv_cmp (CmpG.eq hr.units) hK (pv_var 0) (pv_var 1) (nomark _))))))))))))
theorem sc__law_run : FnScope ["plan", "phases", "hurts", "pause", "reach", "rows", "done", "struck", "one", "now", "turn", "ready", "rank", "behind", "whole", "k"] ["plan", "phases", "hurts", "pause", "reach"] (defScope (topS 23)) := ⟨rfl, rfl, rfl, by decide +kernel, rfl, by decide +kernel, by decide +kernel⟩
theorem ok__law_run {f : Addr} {fd : FuncData} (F : FunD K "_law_run" "_law_run" (defArgs (topS 23)) (defBody (topS 23)) (defScope (topS 23)) [] [] f fd) (T : Tx K mg)  :
    FnOk P wd K mg base (L2.CX P wd) 1 f fd ["plan", "phases", "hurts", "pause", "reach"] (spD K sp__law_run) := by
  have sc := sc__law_run
  refine fn_ok (wb := w__law_run) F sc__law_run false (by decide) len__law_run (fun cdv A outer s H E B xq hr hK hp hps tk => ?_) pu__law_run
  exact (dss_cons (ds_set 5 (hp 5 rfl) sc.nd (oe_lst da_nil))
    (dss_cons (ds_set 6 (hp 6 rfl) sc.nd (de_mul (OE.de (oe_lst (da_cons (PV.de pv_int) da_nil))) (PV.de (pv_len hK T.free_len (va_cons (pv_var 0) va_nil)))))
    (dss_cons (ds_set 7 (hp 7 rfl) sc.nd oe_dnew)
    (dss_cons (ds_for (passes_of rfl) rfl (di_seq hK (de_var 2)) (dg_name 8 (hp 8 rfl) sc.nd) (dss_one (ds_dput (hu1 hr.units) hK 7 (PV.de pv_bl) (pv_var 8))))
    (dss_cons (ds_set 9 (hp 9 rfl) sc.nd (DE.oe (PV.de pv_int)))
    (dss_cons (ds_for (passes_of rfl) rfl (di_range1 T.free_range (da_cons (OE.de (de_add hK (OE.de (de_mul (PV.de pv_int) (de_var 4))) (PV.de pv_int))) da_nil)) (dg_name 10 (hp 10 rfl) sc.nd) (dss_cons (ds_if (dt_cmp CmpG.ge hK (pv_var 9) (pv_var 4) (nomark _)) (dss_one (ds_ret (oe_move 5))) dss_nil)
    (dss_cons (ds_setLc 11 (hp 11 rfl) rfl sc.nd (hps [15] rfl) (ok := blkOk_by (own := [("k", 15)]) (by show blkC ["plan", "phases", "hurts", "pause", "reach", "rows", "done", "struck", "one", "now", "turn", "ready", "rank", "behind", "whole", "k"] (defScope (topS 23)) _ [("k", 15)] = true; decide +kernel)) (own := [("k", 15)]) (di_range1 T.free_range (da_cons (PV.de (pv_len hK T.free_len (va_cons (pv_var 0) va_nil))) da_nil)) (fun _ _ _ _ _ => (dg_name 15 (hp 15 rfl) sc.nd)) (fun _ _ _ _ _ => (dts_one (dt_cmpE CmpG.gt hK (OE.de (de_add hK (OE.de (de_div (OE.de (de_sub (de_var 9) (PV.de (pv_ix hK (pv_var 1) (pv_var 15) (fun _ _ => rfl))))) (PV.de (pv_ix hK (pv_ix hK (pv_var 0) (pv_var 15) (fun _ _ => rfl)) pv_int (fun _ _ => rfl))))) (PV.de pv_int))) (PV.de (pv_ix hK (pv_var 6) (pv_var 15) (fun _ _ => rfl))) (nomark _)))) (fun _ _ _ _ _ => (de_var 15)) (sw_true rfl rfl rfl (by decide +kernel)))
    (dss_one (ds_if (dt_cmpV (CmpG.eq hr.units) hK 11 (OE.de (oe_lst da_nil)) (nomark _)) (dss_one (ds_set 9 (hp 9 rfl) sc.nd (de_add hK (de_var 9) (PV.de pv_int)))) (dss_cons (ds_set 12 (hp 12 rfl) sc.nd (DE.oe (PV.de (pv_ix hK (pv_var 11) pv_int (fun _ _ => rfl)))))
    (dss_cons (ds_set 13 (hp 13 rfl) sc.nd (de_add hK (de_var 9) (PV.de (pv_ix hK (pv_ix hK (pv_var 0) (pv_var 12) (fun _ _ => rfl)) pv_int (fun _ _ => rfl)))))
    (dss_cons (ds_set 14 (hp 14 rfl) sc.nd (DE.oe (de_cmpE (CmpG.eq hr.units) hK (OE.de (oe_lc rfl sc.nd (hps [8] rfl) (ok := blkOk_by (own := [("one", 8)]) (by show blkC ["plan", "phases", "hurts", "pause", "reach", "rows", "done", "struck", "one", "now", "turn", "ready", "rank", "behind", "whole", "k"] (defScope (topS 23)) _ [("one", 8)] = true; decide +kernel)) (own := [("one", 8)]) (di_range2 T.free_range (da_cons (de_var 9) (da_cons (de_var 13) da_nil))) (fun _ _ _ _ _ => (dg_name 8 (hp 8 rfl) sc.nd)) (fun _ _ _ _ _ => (dts_one (dt_inD (hu1 hr.units) hK (pv_var 8) (pv_var 7) rfl))) (fun _ _ _ _ _ => (de_var 8)))) (OE.de (oe_lst da_nil)) (nomark _))))
    (dss_cons (ds_if (dt_cmp CmpG.le hK (pv_var 13) (pv_var 4) (nomark _)) (dss_one (ds_expr (oe_append hK 5 (oa_cons (DE.oe (de_tup (da_cons (de_var 12) (da_cons (PV.de (pv_ix hK (pv_var 6) (pv_var 12) (fun _ _ => rfl))) (da_cons (OE.de (de_add hK (PV.de (pv_ix hK (pv_var 1) (pv_var 12) (fun _ _ => rfl))) (OE.de (de_mul (PV.de (pv_ix hK (pv_var 6) (pv_var 12) (fun _ _ => rfl))) (PV.de (pv_ix hK (pv_ix hK (pv_var 0) (pv_var 12) (fun _ _ => rfl)) pv_int (fun _ _ => rfl))))))) (da_cons (de_var 9) (da_cons (de_var 14) da_nil))))))) oa_nil)))) dss_nil)
    (dss_cons (ds_setix (de_add hK (PV.de (pv_ix hK (pv_var 6) (pv_var 12) (fun _ _ => rfl))) (de_ty hK op_toInt call_int1 boot_int T.free_int (da_cons (de_var 14) da_nil))) (pl_name 6) (pv_var 12))
    (dss_one (ds_set 9 (hp 9 rfl) sc.nd (de_add hK (de_var 13) (OE.de (de_mul (de_var 3) (de_ty hK op_toInt call_int1 boot_int T.free_int (da_cons (de_not (de_var 14)) da_nil)))))))))))))))))
    (dss_one (ds_ret (oe_move 5)))))))))
theorem sc__law_due : FnScope ["plan", "record", "found", "one", "rank", "number", "put", "since", "whole", "time"] ["plan", "record"] (defScope (topS 24)) := ⟨rfl, rfl, rfl, by decide +kernel, rfl, by decide +kernel, by decide +kernel⟩
theorem ok__law_due {f : Addr} {fd : FuncData} (F : FunD K "_law_due" "_law_due" (defArgs (topS 24)) (defBody (topS 24)) (defScope (topS 24)) [] [] f fd) (T : Tx K mg)  :
    FnOk P wd K mg base (L2.CX P wd) 1 f fd ["plan", "record"] (spD K sp__law_due) := by
  have sc := sc__law_due
  refine fn_ok (wb := w__law_due) F sc__law_due false (by decide) len__law_due (fun cdv A outer s H E B xq hr hK hp hps tk => ?_) pu__law_due
  exact (dss_cons (ds_setLc 2 (hp 2 rfl) rfl sc.nd (hps [3] rfl) (ok := blkOk_by (own := [("one", 3)]) (by show blkC ["plan", "record", "found", "one", "rank", "number", "put", "since", "whole", "time"] (defScope (topS 24)) _ [("one", 3)] = true; decide +kernel)) (own := [("one", 3)]) (di_seq hK (de_var 0)) (fun _ _ _ _ _ => (dg_name 3 (hp 3 rfl) sc.nd)) (fun _ _ _ _ _ => dts_nil) (fun _ _ _ _ _ => (PV.de pv_non)) (sw_true rfl rfl rfl (by decide +kernel)))
    (dss_cons (ds_for (passes_of rfl) rfl (di_seq hK (de_var 1)) (dg_seq rfl hK (dgs_cons (dg_name 4 (hp 4 rfl) sc.nd) (dgs_cons (dg_name 5 (hp 5 rfl) sc.nd) (dgs_cons (dg_name 6 (hp 6 rfl) sc.nd) (dgs_cons (dg_name 7 (hp 7 rfl) sc.nd) (dgs_cons (dg_name 8 (hp 8 rfl) sc.nd) dgs_nil)))))) (dss_one (ds_if (DE.dt (PV.de (pv_var 8))) (dss_cons (ds_set 9 (hp 9 rfl) sc.nd (de_sub (OE.de (de_add hK (de_var 7) (PV.de (pv_ix hK (pv_ix hK (pv_var 0) (pv_var 4) (fun _ _ => rfl)) pv_int (fun _ _ => rfl))))) (de_var 6)))
    (dss_one (ds_if (DW.dt (dw_or (dt_cmp CmpG.isN hK (pv_ix hK (pv_var 2) (pv_var 4) (fun _ _ => rfl)) pv_non (nomark _)) (dw_or1 (dt_cmp CmpG.lt hK (pv_ix hK (pv_var 2) (pv_var 4) (fun _ _ => rfl)) (pv_var 9) (nomark _))))) (dss_one (ds_setix (DE.oe (de_var 9)) (pl_name 2) (pv_var 4))) dss_nil))) dss_nil)))
    (dss_one (ds_ret (oe_move 2)))))
theorem sc__law_right : FnScope ["pot", "pause", "reach", "plan", "phases", "record", "due", "handed", "found"] ["pot"] (defScope (topS 25)) := ⟨rfl, rfl, rfl, by decide +kernel, rfl, by decide +kernel, by decide +kernel⟩
theorem ok__law_right {f : Addr} {fd : FuncData} (F : FunD K "_law_right" "_law_right" (defArgs (topS 25)) (defBody (topS 25)) (defScope (topS 25)) [] [] f fd) (T : Tx K mg) (C__law_alike : CF P wd K mg base 4 "_law_alike" ["found", "due"] (sp__law_alike 3)) (C_worst_seen : CF P wd K mg base 6 "worst_seen" ["plan", "record"] sp_worst_seen) (C__law_due : CF P wd K mg base 1 "_law_due" ["plan", "record"] sp__law_due) (C__law_run : CF P wd K mg base 1 "_law_run" ["plan", "phases", "hurts", "pause", "reach"] sp__law_run) (C__law_breaks : CF P wd K mg base 2 "_law_breaks" ["pot", "reach"] sp__law_breaks) (C__law_phases : CF P wd K mg base 2 "_law_phases" ["pot", "plan"] sp__law_phases) (C__law_busy_plan : CF P wd K mg base 2 "_law_busy_plan" ["pot", "most"] sp__law_busy_plan) (C__law_dip : CF P wd K mg base 1 "_law_dip" ["pot", "many"] sp__law_dip) :
    FnOk P wd K mg base (L2.CX P wd) 7 f fd ["pot"] (spD K sp__law_right) := by
  have sc := sc__law_right
  refine fn_ok (wb := w__law_right) F sc__law_right true (by decide) len__law_right (fun cdv A outer s H E B xq hr hK hp hps tk => ?_) pu__law_right
  exact (dss_cons (ds_set 1 (hp 1 rfl) sc.nd (oe_lend C__law_dip hr hK tk 0 (da_cons (PV.de pv_int) da_nil)))
    (dss_cons (ds_set 2 (hp 2 rfl) sc.nd (oe_lend C__law_dip hr hK tk 0 (da_cons (de_ixE hK (OE.de (oe_lst (da_cons (PV.de pv_int) (da_cons (PV.de pv_int) (da_cons (PV.de pv_int) (da_cons (PV.de pv_int) da_nil)))))) (OE.de (oe_lend C__law_dip hr hK tk 0 (da_cons (PV.de pv_int) da_nil))) (fun _ _ => rfl)) da_nil)))
    (dss_cons (ds_set 3 (hp 3 rfl) sc.nd (oe_lend C__law_busy_plan hr hK tk 0 (da_cons (PV.de pv_int) da_nil)))
    (dss_cons (ds_set 4 (hp 4 rfl) sc.nd (oe_lend C__law_phases hr hK tk 0 (da_cons (de_var 3) da_nil)))
    (dss_cons (ds_set 5 (hp 5 rfl) sc.nd (oe_callF C__law_run hr hK tk (da_cons (de_var 3) (da_cons (de_var 4) (da_cons (OE.de (oe_lend C__law_breaks hr hK tk 0 (da_cons (de_var 2) da_nil))) (da_cons (de_var 1) (da_cons (de_var 2) da_nil)))))))
    (dss_cons (ds_set 6 (hp 6 rfl) sc.nd (oe_callF C__law_due hr hK tk (da_cons (de_var 3) (da_cons (de_var 5) da_nil))))
    (dss_cons (ds_set 7 (hp 7 rfl) sc.nd (oe_lst (da_cons (OE.de (oe_tyV hK op_toList call_list_of boot_list T.free_list (va_cons (pv_var 3) va_nil))) (da_cons (OE.de (oe_tyV hK op_toList call_list_of boot_list T.free_list (va_cons (pv_var 5) va_nil))) da_nil))))
    (dss_cons (ds_set 8 (hp 8 rfl) sc.nd (oe_callF C_worst_seen hr hK tk (da_cons (PV.de (pv_ix hK (pv_var 7) pv_int (fun _ _ => rfl))) (da_cons (PV.de (pv_ix hK (pv_var 7) pv_int (fun _ _ => rfl))) da_nil))))
    (dss_cons (ds_if (DW.dt (dw_or (dt_not (DE.dt (OE.de (oe_peek C__law_alike hr hK tk (va_cons (pv_var 8) (va_cons (pv_var 6) va_nil)))))) (dw_or1 (dt_cmpV (CmpG.ne hr.units) hK 7 (OE.de (oe_lst (da_cons (de_var 3) (da_cons (de_var 5) da_nil)))) (nomark _))))) (dss_one (ds_ret (DE.oe (PV.de pv_bl)))) dss_nil)
    (dss_cons (ds_expr (oe_append hK 8 (oa_cons (DE.oe (PV.de pv_int)) oa_nil)))
    (dss_cons (ds_expr (oe_reverse hK 8))
    (dss_one (ds_ret (oe_callF C__law_alike hr hK tk (da_cons (OE.de (oe_callF C_worst_seen hr hK tk (da_cons (PV.de (pv_ix hK (pv_var 7) pv_int (fun _ _ => rfl))) (da_cons (PV.de (pv_ix hK (pv_var 7) pv_int (fun _ _ => rfl))) da_nil)))) (da_cons (de_var 6) da_nil))))))))))))))))
theorem sc_law : FnScope ["script", "k"] ["script"] (defScope (topS 26)) := ⟨rfl, rfl, rfl, by decide +kernel, rfl, by decide +kernel, by decide +kernel⟩
theorem ok_law {f : Addr} {fd : FuncData} (F : FunD K "law" "law" (defArgs (topS 26)) (defBody (topS 26)) (defScope (topS 26)) [] [] f fd) (T : Tx K mg) (C__law_right : CF P wd K mg base 7 "_law_right" ["pot"] sp__law_right) (C__law_pot : CF P wd K mg base 1 "_law_pot" ["script", "k"] sp__law_pot) :
    FnOk P wd K mg base (L2.CX P wd) 8 f fd ["script"] (spD K sp_law) := by
  have sc := sc_law
  refine fn_ok (wb := w_law) F sc_law false (by decide) len_law (fun cdv A outer s H E B xq hr hK hp hps tk => ?_) pu_law
  exact (dss_cons (ds_for (passes_of rfl) rfl (di_range1 T.free_range (da_cons (de_fn hK op_max2 (call_max2 rfl) boot_max T.free_max (da_cons (PV.de pv_int) (da_cons (de_fn hK op_min2 (call_min2 rfl) boot_min T.free_min (da_cons (PV.de (pv_len hK T.free_len (va_cons (pv_var 0) va_nil))) (da_cons (PV.de pv_int) da_nil))) da_nil))) da_nil)) (dg_name 1 (hp 1 rfl) sc.nd) (dss_one (ds_if (dt_not (DE.dt (OE.de (oe_give C__law_right hr hK tk (oe_callF C__law_pot hr hK tk (da_cons (de_var 0) (da_cons (de_var 1) da_nil))) da_nil)))) (dss_one (ds_ret (DE.oe (PV.de pv_bl)))) dss_nil)))
    (dss_one (ds_ret (DE.oe (PV.de pv_bl)))))
end
end Lw

/-! printed by wip/gen.py: the head, the end -/
namespace Lw
open PySem PySem.Spec PyProof.Rows L2 DL
def dd_is_between : He.DefD := ⟨("is_between", none), "is_between", "is_between", defArgs (topS 8), defBody (topS 8), defScope (topS 8), [], []⟩
def dd_is_length : He.DefD := ⟨("is_length", none), "is_length", "is_length", defArgs (topS 9), defBody (topS 9), defScope (topS 9), [], []⟩
def dd_is_period : He.DefD := ⟨("is_period", none), "is_period", "is_period", defArgs (topS 10), defBody (topS 10), defScope (topS 10), [], []⟩
def dd_is_frame : He.DefD := ⟨("is_frame", none), "is_frame", "is_frame", defArgs (topS 11), defBody (topS 11), defScope (topS 11), [], []⟩
def dd_is_plan : He.DefD := ⟨("is_plan", none), "is_plan", "is_plan", defArgs (topS 12), defBody (topS 12), defScope (topS 12), [], []⟩
def dd_need_plan : He.DefD := ⟨("need_plan", none), "need_plan", "need_plan", defArgs (topS 13), defBody (topS 13), defScope (topS 13), [], []⟩
def dd_worst_seen : He.DefD := ⟨("worst_seen", none), "worst_seen", "worst_seen", defArgs (topS 15), defBody (topS 15), defScope (topS 15), [], []⟩
def dd__law_pot : He.DefD := ⟨("_law_pot", none), "_law_pot", "_law_pot", defArgs (topS 17), defBody (topS 17), defScope (topS 17), [], []⟩
def dd__law_dip : He.DefD := ⟨("_law_dip", none), "_law_dip", "_law_dip", defArgs (topS 18), defBody (topS 18), defScope (topS 18), [], []⟩
def dd__law_busy_plan : He.DefD := ⟨("_law_busy_plan", none), "_law_busy_plan", "_law_busy_plan", defArgs (topS 19), defBody (topS 19), defScope (topS 19), [], []⟩
def dd__law_phases : He.DefD := ⟨("_law_phases", none), "_law_phases", "_law_phases", defArgs (topS 20), defBody (topS 20), defScope (topS 20), [], []⟩
def dd__law_breaks : He.DefD := ⟨("_law_breaks", none), "_law_breaks", "_law_breaks", defArgs (topS 21), defBody (topS 21), defScope (topS 21), [], []⟩
def dd__law_alike : He.DefD := ⟨("_law_alike", none), "_law_alike", "_law_alike", defArgs (topS 22), defBody (topS 22), defScope (topS 22), [], []⟩
def dd__law_run : He.DefD := ⟨("_law_run", none), "_law_run", "_law_run", defArgs (topS 23), defBody (topS 23), defScope (topS 23), [], []⟩
def dd__law_due : He.DefD := ⟨("_law_due", none), "_law_due", "_law_due", defArgs (topS 24), defBody (topS 24), defScope (topS 24), [], []⟩
def dd__law_right : He.DefD := ⟨("_law_right", none), "_law_right", "_law_right", defArgs (topS 25), defBody (topS 25), defScope (topS 25), [], []⟩
def dd_law : He.DefD := ⟨("law", none), "law", "law", defArgs (topS 26), defBody (topS 26), defScope (topS 26), [], []⟩
def fnL : List He.DefD := [dd_is_between, dd_is_length, dd_is_period, dd_is_frame, dd_is_plan, dd_need_plan, dd_worst_seen, dd__law_pot, dd__law_dip, dd__law_busy_plan, dd__law_phases, dd__law_breaks, dd__law_alike, dd__law_run, dd__law_due, dd__law_right, dd_law]
def faL : List He.Fa := [.glo "is_between", .glo "is_length", .glo "is_period", .glo "is_frame", .glo "is_plan", .glo "need_plan", .glo "worst_seen", .glo "_law_pot", .glo "_law_dip", .glo "_law_busy_plan", .glo "_law_phases", .glo "_law_breaks", .glo "_law_alike", .glo "_law_run", .glo "_law_due", .glo "_law_right", .glo "law", .glo "NoPlan", .exc "NoPlan", .free "all", .free "bool", .free "enumerate", .free "int", .free "isinstance", .free "len", .free "list", .free "max", .free "min", .free "range", .free "str", .free "tuple", .free "zip", .int "LEAST_PERIOD" (2), .int "MOST_FRAMES" (8), .int "MOST_LENGTH" (20), .int "MOST_PERIOD" (400)]
abbrev RwL : PySem.W.OpenRow := PySem.W.OpenLaw.row PySem.Challenge.rw_limplines_k11_worst_seen
abbrev hkL : PySem.W.Hook := He.hookD 4 faL fnL
def obL (s : PySem.W.SharedT) : He.AlD := He.obsDG 4 faL fnL (HandSHeadRun.getT s)
theorem ob_eqL (s : PySem.W.SharedT) : obL s = hkL.obs s.abs := He.obsDG_eq (HandSHeadRun.getT_eq s)
def looseL : List PySem.Str := (["__name__", "NetError", "NoPlan", "MOST_FRAMES", "LEAST_PERIOD", "MOST_PERIOD", "MOST_LENGTH", "is_between", "is_length", "is_period", "is_frame", "is_plan", "need_plan", "worst_seen", "_law_pot", "_law_dip", "_law_busy_plan", "_law_phases", "_law_breaks", "_law_alike"] : List PySem.Str) ++ (["_law_run", "_law_due", "_law_right"] : List PySem.Str)
theorem runL (w : World) : HandSHeadRun.RunEq RwL (PySem.W.view RwL.prog [26]) hkL obL 6000 looseL w := by
  intro os
  kernel_rfl
theorem facts {P : Program} {w : World} {K : PySem.W.Frag} {h : Heap} {mg : Str → Option Value} {f : Addr} (X : K.In h) (G : h.Ns mainGlobals mg) (hfa : mg ("law" : Str) = some (.ref f)) (c : He.SaysD faL fnL K) :
    ∃ fd : FuncData, (∀ (s : Shared) (u : Value), BindsTo s fd ⟨[u], []⟩ [("script", u)]) ∧ ∀ base : Heap, K.In base → base.Ns mainGlobals mg → FnOk P w K mg base (L2.CX P w) 8 f fd ["script"] (spD K sp_law) := by
  obtain ⟨fd_is_between, F_is_between⟩ : ∃ fd, FunD K "is_between" "is_between" (defArgs (topS 8)) (defBody (topS 8)) (defScope (topS 8)) [] [] (He.ga K "is_between") fd := c.def_ 0 (d := dd_is_between) rfl
  have g_is_between : mg "is_between" = some (.ref (He.ga K "is_between")) := He.glo_ok X G (c.fact 0 (f := .glo "is_between") rfl)
  obtain ⟨fd_is_length, F_is_length⟩ : ∃ fd, FunD K "is_length" "is_length" (defArgs (topS 9)) (defBody (topS 9)) (defScope (topS 9)) [] [] (He.ga K "is_length") fd := c.def_ 1 (d := dd_is_length) rfl
  have g_is_length : mg "is_length" = some (.ref (He.ga K "is_length")) := He.glo_ok X G (c.fact 1 (f := .glo "is_length") rfl)
  obtain ⟨fd_is_period, F_is_period⟩ : ∃ fd, FunD K "is_period" "is_period" (defArgs (topS 10)) (defBody (topS 10)) (defScope (topS 10)) [] [] (He.ga K "is_period") fd := c.def_ 2 (d := dd_is_period) rfl
  have g_is_period : mg "is_period" = some (.ref (He.ga K "is_period")) := He.glo_ok X G (c.fact 2 (f := .glo "is_period") rfl)
  obtain ⟨fd_is_frame, F_is_frame⟩ : ∃ fd, FunD K "is_frame" "is_frame" (defArgs (topS 11)) (defBody (topS 11)) (defScope (topS 11)) [] [] (He.ga K "is_frame") fd := c.def_ 3 (d := dd_is_frame) rfl
  have g_is_frame : mg "is_frame" = some (.ref (He.ga K "is_frame")) := He.glo_ok X G (c.fact 3 (f := .glo "is_frame") rfl)
  obtain ⟨fd_is_plan, F_is_plan⟩ : ∃ fd, FunD K "is_plan" "is_plan" (defArgs (topS 12)) (defBody (topS 12)) (defScope (topS 12)) [] [] (He.ga K "is_plan") fd := c.def_ 4 (d := dd_is_plan) rfl
  have g_is_plan : mg "is_plan" = some (.ref (He.ga K "is_plan")) := He.glo_ok X G (c.fact 4 (f := .glo "is_plan") rfl)
  obtain ⟨fd_need_plan, F_need_plan⟩ : ∃ fd, FunD K "need_plan" "need_plan" (defArgs (topS 13)) (defBody (topS 13)) (defScope (topS 13)) [] [] (He.ga K "need_plan") fd := c.def_ 5 (d := dd_need_plan) rfl
  have g_need_plan : mg "need_plan" = some (.ref (He.ga K "need_plan")) := He.glo_ok X G (c.fact 5 (f := .glo "need_plan") rfl)
  obtain ⟨fd_worst_seen, F_worst_seen⟩ : ∃ fd, FunD K "worst_seen" "worst_seen" (defArgs (topS 15)) (defBody (topS 15)) (defScope (topS 15)) [] [] (He.ga K "worst_seen") fd := c.def_ 6 (d := dd_worst_seen) rfl
  have g_worst_seen : mg "worst_seen" = some (.ref (He.ga K "worst_seen")) := He.glo_ok X G (c.fact 6 (f := .glo "worst_seen") rfl)
  obtain ⟨fd__law_pot, F__law_pot⟩ : ∃ fd, FunD K "_law_pot" "_law_pot" (defArgs (topS 17)) (defBody (topS 17)) (defScope (topS 17)) [] [] (He.ga K "_law_pot") fd := c.def_ 7 (d := dd__law_pot) rfl
  have g__law_pot : mg "_law_pot" = some (.ref (He.ga K "_law_pot")) := He.glo_ok X G (c.fact 7 (f := .glo "_law_pot") rfl)
  obtain ⟨fd__law_dip, F__law_dip⟩ : ∃ fd, FunD K "_law_dip" "_law_dip" (defArgs (topS 18)) (defBody (topS 18)) (defScope (topS 18)) [] [] (He.ga K "_law_dip") fd := c.def_ 8 (d := dd__law_dip) rfl
  have g__law_dip : mg "_law_dip" = some (.ref (He.ga K "_law_dip")) := He.glo_ok X G (c.fact 8 (f := .glo "_law_dip") rfl)
  obtain ⟨fd__law_busy_plan, F__law_busy_plan⟩ : ∃ fd, FunD K "_law_busy_plan" "_law_busy_plan" (defArgs (topS 19)) (defBody (topS 19)) (defScope (topS 19)) [] [] (He.ga K "_law_busy_plan") fd := c.def_ 9 (d := dd__law_busy_plan) rfl
  have g__law_busy_plan : mg "_law_busy_plan" = some (.ref (He.ga K "_law_busy_plan")) := He.glo_ok X G (c.fact 9 (f := .glo "_law_busy_plan") rfl)
  obtain ⟨fd__law_phases, F__law_phases⟩ : ∃ fd, FunD K "_law_phases" "_law_phases" (defArgs (topS 20)) (defBody (topS 20)) (defScope (topS 20)) [] [] (He.ga K "_law_phases") fd := c.def_ 10 (d := dd__law_phases) rfl
  have g__law_phases : mg "_law_phases" = some (.ref (He.ga K "_law_phases")) := He.glo_ok X G (c.fact 10 (f := .glo "_law_phases") rfl)
  obtain ⟨fd__law_breaks, F__law_breaks⟩ : ∃ fd, FunD K "_law_breaks" "_law_breaks" (defArgs (topS 21)) (defBody (topS 21)) (defScope (topS 21)) [] [] (He.ga K "_law_breaks") fd := c.def_ 11 (d := dd__law_breaks) rfl
  have g__law_breaks : mg "_law_breaks" = some (.ref (He.ga K "_law_breaks")) := He.glo_ok X G (c.fact 11 (f := .glo "_law_breaks") rfl)
  obtain ⟨fd__law_alike, F__law_alike⟩ : ∃ fd, FunD K "_law_alike" "_law_alike" (defArgs (topS 22)) (defBody (topS 22)) (defScope (topS 22)) [] [] (He.ga K "_law_alike") fd := c.def_ 12 (d := dd__law_alike) rfl
  have g__law_alike : mg "_law_alike" = some (.ref (He.ga K "_law_alike")) := He.glo_ok X G (c.fact 12 (f := .glo "_law_alike") rfl)
  obtain ⟨fd__law_run, F__law_run⟩ : ∃ fd, FunD K "_law_run" "_law_run" (defArgs (topS 23)) (defBody (topS 23)) (defScope (topS 23)) [] [] (He.ga K "_law_run") fd := c.def_ 13 (d := dd__law_run) rfl
  have g__law_run : mg "_law_run" = some (.ref (He.ga K "_law_run")) := He.glo_ok X G (c.fact 13 (f := .glo "_law_run") rfl)
  obtain ⟨fd__law_due, F__law_due⟩ : ∃ fd, FunD K "_law_due" "_law_due" (defArgs (topS 24)) (defBody (topS 24)) (defScope (topS 24)) [] [] (He.ga K "_law_due") fd := c.def_ 14 (d := dd__law_due) rfl
  have g__law_due : mg "_law_due" = some (.ref (He.ga K "_law_due")) := He.glo_ok X G (c.fact 14 (f := .glo "_law_due") rfl)
  obtain ⟨fd__law_right, F__law_right⟩ : ∃ fd, FunD K "_law_right" "_law_right" (defArgs (topS 25)) (defBody (topS 25)) (defScope (topS 25)) [] [] (He.ga K "_law_right") fd := c.def_ 15 (d := dd__law_right) rfl
  have g__law_right : mg "_law_right" = some (.ref (He.ga K "_law_right")) := He.glo_ok X G (c.fact 15 (f := .glo "_law_right") rfl)
  obtain ⟨fd_law, F_law⟩ : ∃ fd, FunD K "law" "law" (defArgs (topS 26)) (defBody (topS 26)) (defScope (topS 26)) [] [] (He.ga K "law") fd := c.def_ 16 (d := dd_law) rfl
  have g_law : mg "law" = some (.ref (He.ga K "law")) := He.glo_ok X G (c.fact 16 (f := .glo "law") rfl)
  have T : Tx K mg := {
    glo_NoPlan := He.glo_ok X G (c.fact 17 (f := .glo "NoPlan") rfl)
    exc_NoPlan := (c.fact 18 (f := .exc "NoPlan") rfl)
    free_all := He.free_ok X G (c.fact 19 (f := .free "all") rfl)
    free_bool := He.free_ok X G (c.fact 20 (f := .free "bool") rfl)
    free_enumerate := He.free_ok X G (c.fact 21 (f := .free "enumerate") rfl)
    free_int := He.free_ok X G (c.fact 22 (f := .free "int") rfl)
    free_isinstance := He.free_ok X G (c.fact 23 (f := .free "isinstance") rfl)
    free_len := He.free_ok X G (c.fact 24 (f := .free "len") rfl)
    free_list := He.free_ok X G (c.fact 25 (f := .free "list") rfl)
    free_max := He.free_ok X G (c.fact 26 (f := .free "max") rfl)
    free_min := He.free_ok X G (c.fact 27 (f := .free "min") rfl)
    free_range := He.free_ok X G (c.fact 28 (f := .free "range") rfl)
    free_str := He.free_ok X G (c.fact 29 (f := .free "str") rfl)
    free_tuple := He.free_ok X G (c.fact 30 (f := .free "tuple") rfl)
    free_zip := He.free_ok X G (c.fact 31 (f := .free "zip") rfl)
    int_LEAST_PERIOD := He.int_ok X G (c.fact 32 (f := .int "LEAST_PERIOD" (2)) rfl)
    int_MOST_FRAMES := He.int_ok X G (c.fact 33 (f := .int "MOST_FRAMES" (8)) rfl)
    int_MOST_LENGTH := He.int_ok X G (c.fact 34 (f := .int "MOST_LENGTH" (20)) rfl)
    int_MOST_PERIOD := He.int_ok X G (c.fact 35 (f := .int "MOST_PERIOD" (400)) rfl)
  }
  have e := hfa.symm.trans g_law
  cases e
  have b := FunD.bindsA (ps := ["script"]) F_law fun _ _ _ _ _ _ us hl => match us, hl with | [_], _ => rfl
  refine ⟨fd_law, fun s v => b s [v] rfl, fun base _ _ => ?_⟩
  have O_is_between := ok_is_between (P := P) (wd := w) (base := base) F_is_between T 
  have C_is_between : CF P w K mg base 1 "is_between" ["thing", "low", "high"] sp_is_between := cf_of F_is_between O_is_between g_is_between (fun _ _ _ _ _ _ us hl => match us, hl with | [_, _, _], _ => rfl)
  have O_is_length := ok_is_length (P := P) (wd := w) (base := base) F_is_length T C_is_between
  have C_is_length : CF P w K mg base 2 "is_length" ["thing"] sp_is_length := cf_of F_is_length O_is_length g_is_length (fun _ _ _ _ _ _ us hl => match us, hl with | [_], _ => rfl)
  have O_is_period := ok_is_period (P := P) (wd := w) (base := base) F_is_period T C_is_between
  have C_is_period : CF P w K mg base 2 "is_period" ["thing"] sp_is_period := cf_of F_is_period O_is_period g_is_period (fun _ _ _ _ _ _ us hl => match us, hl with | [_], _ => rfl)
  have O_is_frame := ok_is_frame (P := P) (wd := w) (base := base) F_is_frame T C_is_period C_is_length
  have C_is_frame : CF P w K mg base 3 "is_frame" ["thing"] sp_is_frame := cf_of F_is_frame O_is_frame g_is_frame (fun _ _ _ _ _ _ us hl => match us, hl with | [_], _ => rfl)
  have O_is_plan := ok_is_plan (P := P) (wd := w) (base := base) F_is_plan T C_is_frame
  have C_is_plan : CF P w K mg base 4 "is_plan" ["thing"] sp_is_plan := cf_of F_is_plan O_is_plan g_is_plan (fun _ _ _ _ _ _ us hl => match us, hl with | [_], _ => rfl)
  have O_need_plan := ok_need_plan (P := P) (wd := w) (base := base) F_need_plan T C_is_plan
  have C_need_plan : CF P w K mg base 5 "need_plan" ["thing"] sp_need_plan := cf_of F_need_plan O_need_plan g_need_plan (fun _ _ _ _ _ _ us hl => match us, hl with | [_], _ => rfl)
  have O_worst_seen := ok_worst_seen (P := P) (wd := w) (base := base) F_worst_seen T C_need_plan
  have C_worst_seen : CF P w K mg base 6 "worst_seen" ["plan", "record"] sp_worst_seen := cf_of F_worst_seen O_worst_seen g_worst_seen (fun _ _ _ _ _ _ us hl => match us, hl with | [_, _], _ => rfl)
  have O__law_pot := ok__law_pot (P := P) (wd := w) (base := base) F__law_pot T 
  have C__law_pot : CF P w K mg base 1 "_law_pot" ["script", "k"] sp__law_pot := cf_of F__law_pot O__law_pot g__law_pot (fun _ _ _ _ _ _ us hl => match us, hl with | [_, _], _ => rfl)
  have O__law_dip := ok__law_dip (P := P) (wd := w) (base := base) F__law_dip T 
  have C__law_dip : CF P w K mg base 1 "_law_dip" ["pot", "many"] sp__law_dip := cf_of F__law_dip O__law_dip g__law_dip (fun _ _ _ _ _ _ us hl => match us, hl with | [_, _], _ => rfl)
  have O__law_busy_plan := ok__law_busy_plan (P := P) (wd := w) (base := base) F__law_busy_plan T C__law_dip
  have C__law_busy_plan : CF P w K mg base 2 "_law_busy_plan" ["pot", "most"] sp__law_busy_plan := cf_of F__law_busy_plan O__law_busy_plan g__law_busy_plan (fun _ _ _ _ _ _ us hl => match us, hl with | [_, _], _ => rfl)
  have O__law_phases := ok__law_phases (P := P) (wd := w) (base := base) F__law_phases T C__law_dip
  have C__law_phases : CF P w K mg base 2 "_law_phases" ["pot", "plan"] sp__law_phases := cf_of F__law_phases O__law_phases g__law_phases (fun _ _ _ _ _ _ us hl => match us, hl with | [_, _], _ => rfl)
  have O__law_breaks := ok__law_breaks (P := P) (wd := w) (base := base) F__law_breaks T C__law_dip
  have C__law_breaks : CF P w K mg base 2 "_law_breaks" ["pot", "reach"] sp__law_breaks := cf_of F__law_breaks O__law_breaks g__law_breaks (fun _ _ _ _ _ _ us hl => match us, hl with | [_, _], _ => rfl)
  have O__law_alike : ∀ n : Nat, FnOk P w K mg base (L2.CX P w) (0 + 1 + n) (He.ga K "_law_alike") fd__law_alike ["found", "due"] (spD K (sp__law_alike n)) := fun n => by
    induction n with
    | zero => exact okz__law_alike (P := P) (wd := w) (base := base) F__law_alike
    | succ n ih =>
      have C__law_alike : CF P w K mg base (0 + 1 + n) "_law_alike" ["found", "due"] (sp__law_alike n) := cf_of F__law_alike ih g__law_alike (fun _ _ _ _ _ _ us hl => match us, hl with | [_, _], _ => rfl)
      exact ok__law_alike n (P := P) (wd := w) (base := base) F__law_alike T C__law_alike
  have C__law_alike : CF P w K mg base 4 "_law_alike" ["found", "due"] (sp__law_alike 3) := cf_of F__law_alike (O__law_alike 3) g__law_alike (fun _ _ _ _ _ _ us hl => match us, hl with | [_, _], _ => rfl)
  have O__law_run := ok__law_run (P := P) (wd := w) (base := base) F__law_run T 
  have C__law_run : CF P w K mg base 1 "_law_run" ["plan", "phases", "hurts", "pause", "reach"] sp__law_run := cf_of F__law_run O__law_run g__law_run (fun _ _ _ _ _ _ us hl => match us, hl with | [_, _, _, _, _], _ => rfl)
  have O__law_due := ok__law_due (P := P) (wd := w) (base := base) F__law_due T 
  have C__law_due : CF P w K mg base 1 "_law_due" ["plan", "record"] sp__law_due := cf_of F__law_due O__law_due g__law_due (fun _ _ _ _ _ _ us hl => match us, hl with | [_, _], _ => rfl)
  have O__law_right := ok__law_right (P := P) (wd := w) (base := base) F__law_right T C__law_alike C_worst_seen C__law_due C__law_run C__law_breaks C__law_phases C__law_busy_plan C__law_dip
  have C__law_right : CF P w K mg base 7 "_law_right" ["pot"] sp__law_right := cf_of F__law_right O__law_right g__law_right (fun _ _ _ _ _ _ us hl => match us, hl with | [_], _ => rfl)
  have O_law := ok_law (P := P) (wd := w) (base := base) F_law T C__law_right C__law_pot
  exact O_law
end Lw
open PySem PySem.W PySem.Calls PyProof.Rows
theorem PySem.Challenge.cw_limplines_k11_worst_seen_holds : PySem.Challenge.rw_limplines_k11_worst_seen.Holds := by
  w_on; o_law
  refine HandSHeadRun.head_any (r := OpenLaw.row PySem.Challenge.rw_limplines_k11_worst_seen) (q := view (OpenLaw.row PySem.Challenge.rw_limplines_k11_worst_seen).prog [26]) (H := Lw.hkL) (ob := Lw.obL) (M := 6000) (loose := Lw.looseL) (d := HandSHeadRun.topDef (OpenLaw.row PySem.Challenge.rw_limplines_k11_worst_seen).prog 26) (kwd := []) Lw.ob_eqL
    (by kernel_rfl) (fun s => by kernel_rfl) Lw.runL (by kernel_rfl) (by kernel_rfl) (by kernel_rfl) (by rfl) (by first | assumption | decide +kernel) (by decide +kernel) ⟨rfl, rfl, rfl, rfl, rfl, by decide +kernel⟩ ?hw ?hc
  case hw => w_witness2
  case hc =>
    refine DL.walk_ofD (l := PySem.Challenge.rw_limplines_k11_worst_seen) (n := 63) (k := 8) (x := "script") (sp := Lw.sp_law) rfl (by decide) (by kernel_rfl) ⟨rfl, by decide, by decide⟩ ?F (fun ns R RX hl h => Lw.law_ok ns R RX hl h)
    intro w mg fa h Y G hmg0
    obtain ⟨K, KX, c⟩ := Y
    have hmg : mg ("law" : PySem.Str) = some (.ref fa) := by
      have e : (HandSHeadRun.topDef (OpenLaw.row PySem.Challenge.rw_limplines_k11_worst_seen).prog 26).name = ("law" : PySem.Str) := by kernel_rfl
      rw [← e]
      exact hmg0
    obtain ⟨fd, hb, hF⟩ := Lw.facts (P := (PySem.Challenge.rw_limplines_k11_worst_seen).prog) (w := w) KX G hmg c
    exact ⟨K, fd, KX, hb, hF⟩
