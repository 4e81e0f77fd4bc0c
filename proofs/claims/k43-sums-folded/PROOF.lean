import PyProof.Rows.All
import Wide.All
import OpenK.AllK
import Wide.FinOn
import HandS.ForMost
import HandS.Exc
import HandS.ExcOwn
import HandS.WordsExc
import HandS.ExcCtx
import HandS.ExcValue
import HandS.ExcInit
import HandS.ExcField
import HandS.ExcIs
import HandS.Zip
import HandS.IsInst
import HandS.WideBits
import HandS.TupSets
import HandS.Conv
import PyProof.LongRange
import HandS.SortInts
import HandS.Style
import HandS.SetFor
import HandS.Strs
import HandS.SortRule
import HandS.More
import KE.KUnpack
import PySem.Challenge.RW_frameseams_k43_sums_folded
set_option Elab.async false
set_option linter.all false
set_option autoImplicit false
set_option maxRecDepth 100000
set_option maxHeartbeats 4000000
set_option exponentiation.threshold 3000
namespace Vm
open PySem PySem.Spec PyProof.Rows L2

/-! ## values as trees -/
inductive W where
  | non | bl (b : Bool) | int (i : Int) | str (x : Str)
  | tup (ws : List W) | lst (ws : List W) | scr (ws : List W) | dct (ks : List Key) (ws : List W) | ins (c : Str) (ns : List Str) (ws : List W)

/-- a tree without lists, dicts, instances -/
def W.pure : W → Bool
  | .non | .bl _ | .int _ | .str _ => true
  | .tup ws => all ws
  | .lst _ | .scr _ | .dct _ _ | .ins _ _ _ => false
where all : List W → Bool
  | [] => true
  | w :: ws => w.pure && all ws

abbrev Kz := PySem.W.Frag
abbrev St := L2.St
/-- a list of the written part -/
def KL (K : Kz) (a : Addr) (xs : List V) : Prop :=
  ∃ (o : Obj) (its : Array Value) (n : Nat), K.lookup a = some o ∧ o.cls = .type "list" ∧ o.dict = none ∧ o.data = .seq its n ∧ its.size ≤ sizeLine ∧ Vals xs its.toList
/-- a list that is read alone -/
def RL (K : Kz) (H : Hp) (a : Addr) (xs : List V) : Prop := (∃ o, H a = some (.frz o (.lst xs))) ∨ KL K a xs
theorem RL.sq {K : Kz} {H : Hp} {a : Addr} {xs : List V} (h : RL K H a xs) : SqL K H a xs := h.imp .inr id
def isMut : HO → Bool
  | .lst _ | .dK _ | .ins _ _ _ => true
  | _ => false
/-- an exception object of the class at C that was caught, d its dict -/
def exH (C : Addr) (d : Option Addr) (a : Addr) : HO := .ext fun h => ∃ (oe : Obj) (us : Array Value), h.get? a = some oe ∧ oe.cls = .ref C ∧ oe.dict = d ∧ oe.data = .fields us ∧ us[2]? = some .none
/-- the fields ns of a dict of an exception: vs -/
def XdF (H : Hp) (ns : List Str) (vs : List V) : Option Addr → Prop
  | none => ns = [] ∧ vs = []
  | some dd => ∃ fs, H dd = some (.xd fs) ∧ ns.length = vs.length ∧ ∀ (j : Nat) (n : Str), ns[j]? = some n → fs.lookup n = vs[j]?
def ExAt (K : Kz) (H : Hp) (c : Str) (ns : List Str) (vs : List V) (a : Addr) : Prop :=
  ∃ C d, PySem.W.nsIn K mainGlobals c = some (some (.ref C)) ∧ H a = some (exH C d a) ∧ XdF H ns vs d
mutual
/-- v is the tree w, its mutable objects at fp -/
def Vw (K : Kz) (H : Hp) : W → V → List Addr → Prop
  | .non, v, fp => v = .non ∧ fp = []
  | .bl b, v, fp => v = .bl b ∧ fp = []
  | .int i, v, fp => v = .int i ∧ fp = []
  | .str x, v, fp => v = .str x ∧ fp = []
  | .tup ws, v, fp => ∃ a vs, v = .ref a ∧ SqT K H a vs ∧ Vws K H ws vs fp
  | .lst ws, v, fp => ∃ a vs fps, v = .ref a ∧ Vws K H ws vs fps ∧ H a = some (.lst vs) ∧ fp = a :: fps
  | .scr ws, v, fp => ∃ a vs, v = .ref a ∧ Vws K H ws vs [] ∧ RL K H a vs ∧ fp = []
  | .dct ks ws, v, fp => ∃ a vs fps, v = .ref a ∧ Vws K H ws vs fps ∧ ks.length = ws.length ∧ H a = some (.dK (ks.zip vs)) ∧ fp = a :: fps
  | .ins c ns ws, v, fp => ∃ a vs, v = .ref a ∧ Vws K H ws vs [] ∧ ExAt K H c ns vs a ∧ fp = []
def Vws (K : Kz) (H : Hp) : List W → List V → List Addr → Prop
  | [], vs, fp => vs = [] ∧ fp = []
  | w :: ws, vs, fp => ∃ v vs' f1 f2, vs = v :: vs' ∧ fp = f1 ++ f2 ∧ Vw K H w v f1 ∧ Vws K H ws vs' f2
end

section
variable {K : Kz} {H H' : Hp}
/-- what cannot change stands -/
def TupK (H H' : Hp) : Prop := ∀ a o, H a = some o → isMut o = false → H' a = some o
theorem rd_mono {a : Addr} {u : HO} (t : TupK H H') (hu : isMut u = false) (h : Rd H a u) : Rd H' a u := h.imp (fun h => t _ _ h hu) fun ⟨o, h⟩ => ⟨o, t _ _ h rfl⟩
theorem sqt_mono {a : Addr} {xs : List V} (t : TupK H H') (h : SqT K H a xs) : SqT K H' a xs := h.imp (rd_mono t rfl) id
theorem xdF_mono {ns : List Str} {vs : List V} {d : Option Addr} (t : TupK H H') (h : XdF H ns vs d) : XdF H' ns vs d := by
  cases d with
  | none => exact h
  | some dd =>
    obtain ⟨fs, q, r⟩ := h
    exact ⟨fs, t _ _ q rfl, r⟩
theorem exAt_mono {c : Str} {ns : List Str} {vs : List V} {a : Addr} (t : TupK H H') (h : ExAt K H c ns vs a) : ExAt K H' c ns vs a :=
  let ⟨C, d, q, r, s⟩ := h
  ⟨C, d, q, t _ _ r rfl, xdF_mono t s⟩
mutual
theorem Vw.mono (t : TupK H H') : ∀ {w : W} {v : V} {fp : List Addr}, Vw K H w v fp → (∀ a ∈ fp, H' a = H a) → Vw K H' w v fp
  | .non, v, fp, h, _ => by simpa only [Vw] using h
  | .bl b, v, fp, h, _ => by simpa only [Vw] using h
  | .int i, v, fp, h, _ => by simpa only [Vw] using h
  | .str x, v, fp, h, _ => by simpa only [Vw] using h
  | .tup ws, v, fp, h, k => by
    simp only [Vw] at h ⊢
    obtain ⟨a, vs, e, s, r⟩ := h
    exact ⟨a, vs, e, sqt_mono t s, Vws.mono t r k⟩
  | .lst ws, v, fp, h, k => by
    simp only [Vw] at h ⊢
    obtain ⟨a, vs, fps, e, r, s, rfl⟩ := h
    exact ⟨a, vs, fps, e, Vws.mono t r fun b hb => k b (List.mem_cons_of_mem _ hb), (k a List.mem_cons_self).trans s, rfl⟩
  | .scr ws, v, fp, h, k => by
    simp only [Vw] at h ⊢
    obtain ⟨a, vs, e, r, s, rfl⟩ := h
    exact ⟨a, vs, e, Vws.mono t r (fun b hb => by cases hb), s.imp (fun ⟨o, s⟩ => ⟨o, t _ _ s rfl⟩) id, rfl⟩
  | .dct ks ws, v, fp, h, k => by
    simp only [Vw] at h ⊢
    obtain ⟨a, vs, fps, e, r, l, s, rfl⟩ := h
    refine ⟨a, vs, fps, e, Vws.mono t r fun b hb => k b (List.mem_cons_of_mem _ hb), l, ?_, rfl⟩
    rw [k a List.mem_cons_self]
    exact s
  | .ins c ns ws, v, fp, h, k => by
    simp only [Vw] at h ⊢
    obtain ⟨a, vs, e, r, s, rfl⟩ := h
    exact ⟨a, vs, e, Vws.mono t r (fun b hb => by cases hb), exAt_mono t s, rfl⟩
theorem Vws.mono (t : TupK H H') : ∀ {ws : List W} {vs : List V} {fp : List Addr}, Vws K H ws vs fp → (∀ a ∈ fp, H' a = H a) → Vws K H' ws vs fp
  | [], vs, fp, h, _ => by simpa only [Vws] using h
  | w :: ws, vs, fp, h, k => by
    simp only [Vws] at h ⊢
    obtain ⟨v, vs', f1, f2, e1, rfl, r1, r2⟩ := h
    exact ⟨v, vs', f1, f2, e1, rfl, Vw.mono t r1 fun a ha => k a (List.mem_append_left _ ha), Vws.mono t r2 fun a ha => k a (List.mem_append_right _ ha)⟩
end
mutual
/-- the mutable objects are tracked -/
theorem Vw.tracked : ∀ {w : W} {v : V} {fp : List Addr}, Vw K H w v fp → ∀ a ∈ fp, H a ≠ none
  | .non, v, fp, h, a, ha => by simp only [Vw] at h; rw [h.2] at ha; cases ha
  | .bl b, v, fp, h, a, ha => by simp only [Vw] at h; rw [h.2] at ha; cases ha
  | .int i, v, fp, h, a, ha => by simp only [Vw] at h; rw [h.2] at ha; cases ha
  | .str x, v, fp, h, a, ha => by simp only [Vw] at h; rw [h.2] at ha; cases ha
  | .tup ws, v, fp, h, a, ha => by
    simp only [Vw] at h
    obtain ⟨_, vs, e, s, r⟩ := h
    exact Vws.tracked r a ha
  | .lst ws, v, fp, h, a, ha => by
    simp only [Vw] at h
    obtain ⟨b, vs, fps, e, r, s, rfl⟩ := h
    rcases List.mem_cons.mp ha with rfl | ha
    · rw [s]; intro z; cases z
    · exact Vws.tracked r a ha
  | .scr ws, v, fp, h, a, ha => by
    simp only [Vw] at h
    obtain ⟨_, _, _, _, _, rfl⟩ := h
    cases ha
  | .dct ks ws, v, fp, h, a, ha => by
    simp only [Vw] at h
    obtain ⟨b, vs, fps, e, r, l, s, rfl⟩ := h
    rcases List.mem_cons.mp ha with rfl | ha
    · rw [s]; intro z; cases z
    · exact Vws.tracked r a ha
  | .ins _ _ _, _, _, h, a, ha => by
    simp only [Vw] at h
    obtain ⟨_, _, _, _, _, rfl⟩ := h
    cases ha
theorem Vws.tracked : ∀ {ws : List W} {vs : List V} {fp : List Addr}, Vws K H ws vs fp → ∀ a ∈ fp, H a ≠ none
  | [], vs, fp, h, a, ha => by simp only [Vws] at h; rw [h.2] at ha; cases ha
  | w :: ws, vs, fp, h, a, ha => by
    simp only [Vws] at h
    obtain ⟨v, vs', f1, f2, e1, rfl, r1, r2⟩ := h
    rcases List.mem_append.mp ha with ha | ha
    · exact Vw.tracked r1 a ha
    · exact Vws.tracked r2 a ha
end
theorem Vws.length : ∀ {ws : List W} {vs : List V} {fp : List Addr}, Vws K H ws vs fp → vs.length = ws.length
  | [], vs, fp, h => by simp only [Vws] at h; simp [h.1]
  | w :: ws, vs, fp, h => by
    simp only [Vws] at h
    obtain ⟨v, vs', f1, f2, rfl, rfl, r1, r2⟩ := h
    simp [Vws.length r2]
mutual
theorem Vw.of_pure : ∀ {w : W} {v : V} {fp : List Addr}, w.pure = true → Vw K H w v fp → fp = []
  | .non, v, fp, _, h => by simp only [Vw] at h; exact h.2
  | .bl b, v, fp, _, h => by simp only [Vw] at h; exact h.2
  | .int i, v, fp, _, h => by simp only [Vw] at h; exact h.2
  | .str x, v, fp, _, h => by simp only [Vw] at h; exact h.2
  | .tup ws, v, fp, p, h => by
    simp only [Vw] at h
    obtain ⟨_, vs, e, s, r⟩ := h
    exact Vws.of_pure (by simpa only [W.pure] using p) r
  | .lst ws, v, fp, p, h => by simp [W.pure] at p
  | .scr ws, v, fp, p, h => by simp [W.pure] at p
  | .dct ks ws, v, fp, p, h => by simp [W.pure] at p
  | .ins _ _ _, _, _, p, h => by simp [W.pure] at p
theorem Vws.of_pure : ∀ {ws : List W} {vs : List V} {fp : List Addr}, W.pure.all ws = true → Vws K H ws vs fp → fp = []
  | [], vs, fp, _, h => by simp only [Vws] at h; exact h.2
  | w :: ws, vs, fp, p, h => by
    simp only [Vws] at h
    obtain ⟨v, vs', f1, f2, e1, rfl, r1, r2⟩ := h
    simp only [W.pure.all, Bool.and_eq_true] at p
    rw [Vw.of_pure p.1 r1, Vws.of_pure p.2 r2]
    rfl
end
theorem TupK.refl : TupK H H := fun _ _ h _ => h
theorem TupK.trans {H2 : Hp} (a : TupK H H') (b : TupK H' H2) : TupK H H2 := fun x xs h i => b x xs (a x xs h i) i
theorem TupK.same (e : Same H H') : TupK H H' := fun a o h _ => e a o h
theorem Same.eq_of (e : Same H H') {a : Addr} (h : H a ≠ none) : H' a = H a := by
  cases q : H a with
  | none => exact absurd q h
  | some o => exact e a o q
theorem Vw.same (e : Same H H') {w : W} {v : V} {fp : List Addr} (h : Vw K H w v fp) : Vw K H' w v fp := h.mono (.same e) fun a ha => Same.eq_of e (h.tracked a ha)
theorem Vws.same (e : Same H H') {w : List W} {v : List V} {fp : List Addr} (h : Vws K H w v fp) : Vws K H' w v fp := h.mono (.same e) fun a ha => Same.eq_of e (h.tracked a ha)
theorem Same.upd {a : Addr} {o : HO} (h : H a = none) : Same H (upd H a o) := fun b u q => by rw [upd_ne (ne_of_none q h)]; exact q
end
end Vm

namespace Vm
open PySem PySem.Spec PyProof.Rows L2

/-- owned; or borrowed, perhaps from the slots d -/
inductive Mo where
  | O | B (d : List Nat)
  deriving DecidableEq
def Mo.dep : Mo → List Nat
  | .O => []
  | .B d => d
structure Cell where
  v : V
  w : W
  m : Mo
  fp : List Addr
/-- a frame: the heap at its entry, what it may change of it, what it may reach of it -/
structure Frm where
  H0 : Hp
  io : Addr → Prop
  U : Addr → Prop
  ip : Option (Nat × V)
abbrev Cells := List (Option Cell)
abbrev Sl := List (Option W)
structure Rel (K : Kz) (fr : Frm) (n : Nat) (cs : Cells) (S : Sl) (σ : St) (H : Hp) : Prop where
  ls : S.length = n
  lσ : σ.length = n
  ln : n ≤ cs.length
  slot : ∀ (i : Nat) (c : Cell), i < n → cs[i]? = some (some c) → σ[i]? = some (some c.v) ∧ S[i]? = some (some c.w)
  view : ∀ (i : Nat) (c : Cell), cs[i]? = some (some c) → Vw K H c.w c.v c.fp
  nd : ∀ (i : Nat) (c : Cell), cs[i]? = some (some c) → c.m = .O → c.fp.Nodup ∧ ∀ a ∈ c.fp, (∃ o, H a = some o ∧ isMut o = true) ∧ (fr.H0 a = none ∨ fr.io a)
  uni : ∀ (i : Nat) (c : Cell), cs[i]? = some (some c) → ∀ a ∈ c.fp, fr.H0 a = none ∨ fr.U a
  dl : ∀ (i : Nat) (c : Cell), cs[i]? = some (some c) → ∀ x ∈ c.m.dep, x < n
  dis : ∀ (i j : Nat) (c d : Cell), i ≠ j → cs[i]? = some (some c) → cs[j]? = some (some d) → c.m = .O → i ∈ d.m.dep ∨ ∀ a ∈ c.fp, a ∉ d.fp
  frm : ∀ (a : Addr) (o : HO), fr.H0 a = some o → ¬ fr.io a → H a = some o
  alive : ∀ (a : Addr), fr.H0 a ≠ none → H a ≠ none
  iov : ∀ (p : Nat) (v : V), fr.ip = some (p, v) → p < n ∧ ∀ (c : Cell), cs[p]? = some (some c) → c.v = v

/-- weaker: forgotten, or borrowed -/
inductive Cle (n : Nat) : Option Cell → Option Cell → Prop
  | none {x} : Cle n none x
  | same {x} : Cle n x x
  | soft {v w fp m d} : (∀ x ∈ m.dep, x ∈ d) → (∀ x ∈ d, x < n) → Cle n (some ⟨v, w, .B d, fp⟩) (some ⟨v, w, m, fp⟩)
theorem Cle.cell {n : Nat} {c : Cell} {y : Option Cell} (h : Cle n (some c) y) : ∃ d, y = some d ∧ d.v = c.v ∧ d.w = c.w ∧ d.fp = c.fp ∧ (c.m = .O → d.m = .O) ∧ (∀ x ∈ d.m.dep, x ∈ c.m.dep) ∧ ((∀ x ∈ d.m.dep, x < n) → ∀ x ∈ c.m.dep, x < n) := by
  cases h with
  | same => exact ⟨c, rfl, rfl, rfl, rfl, id, fun _ h => h, id⟩
  | soft h1 h2 => exact ⟨_, rfl, rfl, rfl, rfl, fun z => (by cases z), h1, fun _ => h2⟩

theorem ix_push {cs : Cells} {L : Nat} {c : Cell} (hl : L ≤ cs.length) {i : Nat} {d : Cell} (h : (cs.take L ++ [some c])[i]? = some (some d)) : (i < L ∧ cs[i]? = some (some d)) ∨ (i = L ∧ d = c) := by
  have hlen : (cs.take L).length = L := by rw [List.length_take]; omega
  by_cases hi : i < L
  · rw [List.getElem?_append_left (by omega), List.getElem?_take_of_lt hi] at h
    exact .inl ⟨hi, h⟩
  · rw [List.getElem?_append_right (by omega), hlen] at h
    have : i = L := by
      by_cases e : i - L = 0
      · omega
      · rw [List.getElem?_eq_none (by simp; omega)] at h; cases h
    subst this
    rw [Nat.sub_self] at h
    simp at h
    exact .inr ⟨rfl, h.symm⟩
theorem ix_take {cs : Cells} {L i : Nat} {d : Cell} (h : (cs.take L)[i]? = some (some d)) : i < L ∧ cs[i]? = some (some d) := by
  by_cases hi : i < L
  · rw [List.getElem?_take_of_lt hi] at h
    exact ⟨hi, h⟩
  · rw [List.getElem?_eq_none (by rw [List.length_take]; omega)] at h; cases h

section
variable {K : Kz} {fr : Frm} {n L : Nat} {cs : Cells} {S : Sl} {σ : St} {H H' : Hp}

theorem Rel.trk (R : Rel K fr n cs S σ H) {i : Nat} {c : Cell} (h : cs[i]? = some (some c)) : ∀ a ∈ c.fp, H a ≠ none := (R.view i c h).tracked
theorem Rel.new0 (R : Rel K fr n cs S σ H) {a : Addr} (h : H a = none) : fr.H0 a = none := by
  cases q : fr.H0 a with
  | none => rfl
  | some o => exact absurd h (R.alive a (by rw [q]; simp))

/-- forgetting -/
theorem Rel.weak (R : Rel K fr n cs S σ H) {cs' : Cells} {S' : Sl} {σ' : St} (hl : cs'.length = cs.length) (h : ∀ (i : Nat) (x y : Option Cell), cs'[i]? = some x → cs[i]? = some y → Cle n x y) (lS : S'.length = n) (lσ : σ'.length = n)
    (hS : ∀ (i : Nat) (c : Cell), i < n → cs'[i]? = some (some c) → S'[i]? = S[i]? ∧ σ'[i]? = σ[i]?) : Rel K fr n cs' S' σ' H := by
  have key : ∀ {i : Nat} {c : Cell}, cs'[i]? = some (some c) → ∃ d, cs[i]? = some (some d) ∧ d.v = c.v ∧ d.w = c.w ∧ d.fp = c.fp ∧ (c.m = .O → d.m = .O) ∧ (∀ x ∈ d.m.dep, x ∈ c.m.dep) ∧ ((∀ x ∈ d.m.dep, x < n) → ∀ x ∈ c.m.dep, x < n) := fun {i c} e => by
    obtain ⟨hi, _⟩ := List.getElem?_eq_some_iff.mp e
    have hy : cs[i]? = some cs[i] := List.getElem?_eq_getElem (by omega)
    obtain ⟨d, e', r⟩ := (h i _ _ e hy).cell
    exact ⟨d, by rw [hy, e'], r⟩
  refine ⟨lS, lσ, by rw [hl]; exact R.ln, fun i c hi e => ?_, fun i c e => ?_, fun i c e m => ?_, fun i c e a ha => ?_, fun i c e x hx => ?_, fun i j c d ij e1 e2 m => ?_, R.frm, R.alive, fun p v e => ⟨(R.iov p v e).1, fun c hc => ?_⟩⟩
  · obtain ⟨d, e', h1, h2, _⟩ := key e
    obtain ⟨q1, q2⟩ := hS i c hi e
    rw [q1, q2, ← h1, ← h2]
    exact R.slot i d hi e'
  · obtain ⟨d, e', h1, h2, h3, _⟩ := key e
    rw [← h1, ← h2, ← h3]
    exact R.view i d e'
  · obtain ⟨d, e', h1, h2, h3, h4, _⟩ := key e
    rw [← h3]
    exact R.nd i d e' (h4 m)
  · obtain ⟨d, e', h1, h2, h3, _⟩ := key e
    rw [← h3] at ha
    exact R.uni i d e' a ha
  · obtain ⟨d, e', h1, h2, h3, h4, h5, h6⟩ := key e
    exact h6 (R.dl i d e') x hx
  · obtain ⟨c', e1', _, _, f1, m1, _⟩ := key e1
    obtain ⟨d', e2', _, _, f2, _, q, _⟩ := key e2
    rw [← f1, ← f2]
    exact (R.dis i j c' d' ij e1' e2' (m1 m)).imp (q i) id
  · obtain ⟨d, e', h1, _⟩ := key hc
    rw [← h1]
    exact (R.iov p v e).2 d e'
/-- temps dropped -/
theorem Rel.take (R : Rel K fr n cs S σ H) (hL : n ≤ L) (hl : L ≤ cs.length) : Rel K fr n (cs.take L) S σ H := by
  refine ⟨R.ls, R.lσ, by rw [List.length_take]; omega, fun i c hi e => R.slot i c hi (ix_take e).2, fun i c e => R.view i c (ix_take e).2, fun i c e => R.nd i c (ix_take e).2, fun i c e => R.uni i c (ix_take e).2, fun i c e => R.dl i c (ix_take e).2, fun i j c d ij e1 e2 => R.dis i j c d ij (ix_take e1).2 (ix_take e2).2, R.frm, R.alive, fun p v e => ⟨(R.iov p v e).1, fun c hc => (R.iov p v e).2 c (ix_take hc).2⟩⟩
/-- the heap grows -/
theorem Rel.same (R : Rel K fr n cs S σ H) (e : Same H H') : Rel K fr n cs S σ H' :=
  ⟨R.ls, R.lσ, R.ln, R.slot, fun i c q => (R.view i c q).same e, fun i c q m => ⟨(R.nd i c q m).1, fun a ha => let ⟨⟨o, h1, h2⟩, h3⟩ := (R.nd i c q m).2 a ha; ⟨⟨o, e a o h1, h2⟩, h3⟩⟩, R.uni, R.dl, R.dis, fun a o h1 h2 => e a o (R.frm a o h1 h2), fun a h => fun z => by
    cases q : H a with
    | none => exact R.alive a h q
    | some o => (rw [e a o q] at z; cases z), R.iov⟩

/-- the temps from L on become one new temp; the heap grows -/
theorem Rel.repl (R : Rel K fr n cs S σ H) (hL : n ≤ L) (hl : L ≤ cs.length) (e : Same H H') {c : Cell} (hv : Vw K H' c.w c.v c.fp) (hd : ∀ x ∈ c.m.dep, x < n)
    (hO : c.m = .O → c.fp.Nodup ∧ ∀ a ∈ c.fp, (∃ o, H' a = some o ∧ isMut o = true) ∧ (H a = none ∨ ∃ j d, L ≤ j ∧ cs[j]? = some (some d) ∧ d.m = .O ∧ a ∈ d.fp))
    (hB : ∀ ds, c.m = .B ds → ∀ a ∈ c.fp, H a = none ∨ ∃ j d, L ≤ j ∧ cs[j]? = some (some d) ∧ a ∈ d.fp ∧ ∀ x ∈ d.m.dep, x ∈ ds) :
    Rel K fr n (cs.take L ++ [some c]) S σ H' := by
  have R' := R.same e
  have lt : (cs.take L).length = L := by rw [List.length_take]; omega
  -- where the new cell's objects come from
  have src : ∀ a ∈ c.fp, H a = none ∨ ∃ j d, L ≤ j ∧ cs[j]? = some (some d) ∧ a ∈ d.fp ∧ (∀ x ∈ d.m.dep, x ∈ c.m.dep) ∧ (c.m = .O → d.m = .O) := fun a ha => by
    cases hm : c.m with
    | O =>
      rcases ((hO hm).2 a ha).2 with h | ⟨j, d, h1, h2, h3, h4⟩
      · exact .inl h
      · exact .inr ⟨j, d, h1, h2, h4, (by rw [h3]; intro x hx; cases hx), fun _ => h3⟩
    | B ds =>
      rcases hB ds hm a ha with h | ⟨j, d, h1, h2, h3, h4⟩
      · exact .inl h
      · exact .inr ⟨j, d, h1, h2, h3, h4, fun z => by cases z⟩
  refine ⟨R.ls, R.lσ, by rw [List.length_append, lt]; omega, fun i d hi q => ?_, fun i d q => ?_, fun i d q m => ?_, fun i d q a ha => ?_, fun i d q => ?_, fun i j x y ij q1 q2 m => ?_, R'.frm, R'.alive, fun p v e => ⟨(R.iov p v e).1, fun d q => ?_⟩⟩
  · rcases ix_push hl q with ⟨_, q⟩ | ⟨rfl, rfl⟩
    · exact R.slot i d hi q
    · omega
  · rcases ix_push hl q with ⟨_, q⟩ | ⟨rfl, rfl⟩
    · exact R'.view i d q
    · exact hv
  · rcases ix_push hl q with ⟨_, q⟩ | ⟨rfl, rfl⟩
    · exact R'.nd i d q m
    · refine ⟨(hO m).1, fun a ha => ⟨((hO m).2 a ha).1, ?_⟩⟩
      rcases ((hO m).2 a ha).2 with h | ⟨j, y, h1, h2, h3, h4⟩
      · exact .inl (R.new0 h)
      · exact ((R.nd j y h2 h3).2 a h4).2
  · rcases ix_push hl q with ⟨_, q⟩ | ⟨rfl, rfl⟩
    · exact R.uni i d q a ha
    · rcases src a ha with h | ⟨j, y, h1, h2, h3, _⟩
      · exact .inl (R.new0 h)
      · exact R.uni j y h2 a h3
  · rcases ix_push hl q with ⟨_, q⟩ | ⟨rfl, rfl⟩
    · exact R.dl i d q
    · exact hd
  · rcases ix_push hl q1 with ⟨i1, p1⟩ | ⟨rfl, rfl⟩
    · rcases ix_push hl q2 with ⟨_, p2⟩ | ⟨rfl, rfl⟩
      · exact R.dis i j x y ij p1 p2 m
      · by_cases hin : i ∈ y.m.dep
        · exact .inl hin
        · refine .inr fun a ha hb => ?_
          rcases src a hb with h | ⟨k, d, h1, h2, h3, h4, _⟩
          · exact R.trk p1 a ha h
          · rcases R.dis i k x d (by omega) p1 h2 m with z | z
            · exact hin (h4 i z)
            · exact z a ha h3
    · rcases ix_push hl q2 with ⟨j1, p2⟩ | ⟨rfl, rfl⟩
      · refine .inr fun a ha hb => ?_
        rcases src a ha with h | ⟨k, d, h1, h2, h3, h4, h5⟩
        · exact R.trk p2 a hb h
        · rcases R.dis k j d y (by omega) h2 p2 (h5 m) with z | z
          · have := R.dl j y p2 k z
            omega
          · exact z a h3 hb
      · exact absurd rfl ij
  · have hp := (R.iov p v e).1
    rcases ix_push hl q with ⟨_, q⟩ | ⟨rfl, _⟩
    · exact (R.iov p v e).2 d q
    · omega

/-- the top temp goes into slot i -/
theorem Rel.store (R : Rel K fr n cs S σ H) (hL : n ≤ L) (hl : cs.length = L + 1) {c : Cell} (hc : cs[L]? = some (some c)) {i : Nat} (hi : i < n) (hip : ∀ v, fr.ip ≠ some (i, v)) :
    Rel K fr n ((cs.take L).set i (some c)) (S.set i (some c.w)) (σ.set i (some c.v)) H := by
  have lt : (cs.take L).length = L := by rw [List.length_take]; omega
  have key : ∀ {j : Nat} {d : Cell}, ((cs.take L).set i (some c))[j]? = some (some d) → (j = i ∧ d = c) ∨ (j ≠ i ∧ j < L ∧ cs[j]? = some (some d)) := fun {j d} q => by
    by_cases hj : j = i
    · subst hj
      rw [List.getElem?_set_self (by omega)] at q
      cases q
      exact .inl ⟨rfl, rfl⟩
    · rw [List.getElem?_set_ne (Ne.symm hj)] at q
      exact .inr ⟨hj, (ix_take q).1, (ix_take q).2⟩
  refine ⟨by rw [List.length_set]; exact R.ls, by rw [List.length_set]; exact R.lσ, by rw [List.length_set, lt]; exact hL, fun j d hj q => ?_, fun j d q => ?_, fun j d q m => ?_, fun j d q a ha => ?_, fun j d q => ?_, fun j k x y jk q1 q2 m => ?_, R.frm, R.alive, fun p v e => ⟨(R.iov p v e).1, fun d q => ?_⟩⟩
  · rcases key q with ⟨rfl, rfl⟩ | ⟨h1, h2, q⟩
    · rw [List.getElem?_set_self (by rw [R.lσ]; exact hi), List.getElem?_set_self (by rw [R.ls]; exact hi)]
      exact ⟨rfl, rfl⟩
    · rw [List.getElem?_set_ne (Ne.symm h1), List.getElem?_set_ne (Ne.symm h1)]
      exact R.slot j d hj q
  · rcases key q with ⟨rfl, rfl⟩ | ⟨h1, h2, q⟩
    · exact R.view _ _ hc
    · exact R.view _ _ q
  · rcases key q with ⟨rfl, rfl⟩ | ⟨h1, h2, q⟩
    · exact R.nd _ _ hc m
    · exact R.nd _ _ q m
  · rcases key q with ⟨rfl, rfl⟩ | ⟨h1, h2, q⟩
    · exact R.uni _ _ hc a ha
    · exact R.uni _ _ q a ha
  · rcases key q with ⟨rfl, rfl⟩ | ⟨h1, h2, q⟩
    · exact R.dl _ _ hc
    · exact R.dl _ _ q
  · rcases key q1 with ⟨rfl, rfl⟩ | ⟨h1, h2, p1⟩
    · rcases key q2 with ⟨rfl, rfl⟩ | ⟨h3, h4, p2⟩
      · exact absurd rfl jk
      · rcases R.dis L k _ y (by omega) hc p2 m with z | z
        · have := R.dl k y p2 L z
          omega
        · exact .inr z
    · rcases key q2 with ⟨rfl, rfl⟩ | ⟨h3, h4, p2⟩
      · exact R.dis j L x _ (by omega) p1 hc m
      · exact R.dis j k x y jk p1 p2 m
  · rcases key q with ⟨rfl, rfl⟩ | ⟨h1, h2, q⟩
    · exact absurd e (hip v)
    · exact (R.iov p v e).2 d q

def killk (k : Nat) (cs : Cells) : Cells := cs.map fun x => match x with
  | some d => if k ∈ d.m.dep then none else some d
  | none => none
theorem killk_length (k : Nat) (cs : Cells) : (killk k cs).length = cs.length := by simp [killk]
theorem killk_some {k i : Nat} {cs : Cells} {d : Cell} (h : (killk k cs)[i]? = some (some d)) : cs[i]? = some (some d) ∧ k ∉ d.m.dep := by
  unfold killk at h
  rw [List.getElem?_map] at h
  cases q : cs[i]? with
  | none => rw [q] at h; cases h
  | some x =>
    rw [q] at h
    cases x with
    | none => cases h
    | some y =>
      simp only [Option.map_some] at h
      split at h
      · cases h
      · cases h
        exact ⟨rfl, by assumption⟩
theorem killk_of {k i : Nat} {cs : Cells} {d : Cell} (h : cs[i]? = some (some d)) (hk : k ∉ d.m.dep) : (killk k cs)[i]? = some (some d) := by
  unfold killk
  rw [List.getElem?_map, h]
  simp [hk]

/-- the owned tree at slot k is changed, the temps from L on go, a new temp comes -/
theorem Rel.eff (R : Rel K fr n cs S σ H) (hL : n ≤ L) (hl : L ≤ cs.length) {k : Nat} {c c' r : Cell} (hk : k < n) (hc : cs[k]? = some (some c)) (hm : c.m = .O)
    (pres : ∀ a o, H a = some o → a ∉ c.fp → H' a = some o) (al : ∀ a, H a ≠ none → H' a ≠ none)
    (hv' : Vw K H' c'.w c'.v c'.fp) (ev : c'.v = c.v) (em : c'.m = .O) (nd' : c'.fp.Nodup)
    (hO' : ∀ a ∈ c'.fp, (∃ o, H' a = some o ∧ isMut o = true) ∧ (H a = none ∨ a ∈ c.fp ∨ ∃ j d, L ≤ j ∧ cs[j]? = some (some d) ∧ d.m = .O ∧ a ∈ d.fp))
    (hr : Vw K H' r.w r.v r.fp) (hrd : ∀ x ∈ r.m.dep, x < n)
    (hrO : r.m = .O → r.fp.Nodup ∧ ∀ a ∈ r.fp, (∃ o, H' a = some o ∧ isMut o = true) ∧ (H a = none ∨ a ∈ c.fp ∨ ∃ j d, L ≤ j ∧ cs[j]? = some (some d) ∧ d.m = .O ∧ a ∈ d.fp) ∧ a ∉ c'.fp)
    (hrB : ∀ ds, r.m = .B ds → k ∈ ds ∧ ∀ a ∈ r.fp, H a = none ∨ a ∈ c.fp ∨ ∃ j d, L ≤ j ∧ cs[j]? = some (some d) ∧ a ∈ d.fp ∧ ∀ x ∈ d.m.dep, x ∈ ds)
    (pins : ∀ j d, n ≤ j → j < L → cs[j]? = some (some d) → k ∉ d.m.dep) :
    Rel K fr n ((killk k (cs.take L)).set k (some c') ++ [some r]) (S.set k (some c'.w)) σ H' := by
  have tk : TupK H H' := fun a o h hi => pres a o h fun hf => by
    obtain ⟨⟨o', h1, h2⟩, _⟩ := (R.nd k c hc hm).2 a hf
    rw [h] at h1; cases h1
    rw [hi] at h2; cases h2
  have lt : (cs.take L).length = L := by rw [List.length_take]; omega
  have lt2 : ((killk k (cs.take L)).set k (some c')).length = L := by rw [List.length_set, killk_length, lt]
  -- the cells that stay
  have cases3 : ∀ {i : Nat} {d : Cell}, ((killk k (cs.take L)).set k (some c') ++ [some r])[i]? = some (some d) → (i = k ∧ d = c') ∨ (i = L ∧ d = r) ∨ (i ≠ k ∧ i < L ∧ cs[i]? = some (some d) ∧ k ∉ d.m.dep) := fun {i d} q => by
    by_cases hi : i < L
    · rw [List.getElem?_append_left (by omega)] at q
      by_cases e : i = k
      · subst e
        rw [List.getElem?_set_self (by rw [killk_length]; omega)] at q
        cases q
        exact .inl ⟨rfl, rfl⟩
      · rw [List.getElem?_set_ne (Ne.symm e)] at q
        obtain ⟨q1, q2⟩ := killk_some q
        exact .inr (.inr ⟨e, hi, (ix_take q1).2, q2⟩)
    · rw [List.getElem?_append_right (by omega), lt2] at q
      have : i - L = 0 := by
        by_cases e : i - L = 0
        · exact e
        · rw [List.getElem?_eq_none (by simp; omega)] at q; cases q
      rw [this] at q
      simp at q
      exact .inr (.inl ⟨by omega, q.symm⟩)
  have keepfp : ∀ {i : Nat} {d : Cell}, i ≠ k → cs[i]? = some (some d) → k ∉ d.m.dep → ∀ a ∈ d.fp, H' a = H a := fun {i d} hi q hk' a ha => by
    cases z : H a with
    | none => exact absurd z (R.trk q a ha)
    | some o =>
      refine pres a o z fun hf => ?_
      rcases R.dis k i c d (Ne.symm hi) hc q hm with y | y
      · exact hk' y
      · exact y a hf ha
  have noO : ∀ {i j : Nat} {d e : Cell}, L ≤ j → i < L → cs[j]? = some (some d) → d.m = .O → cs[i]? = some (some e) → ∀ a, a ∈ d.fp → a ∈ e.fp → False := fun {i j d e} hj hi q1 m q2 a h1 h2 => by
    rcases R.dis j i d e (by omega) q1 q2 m with z | z
    · have := R.dl i e q2 j z; omega
    · exact z a h1 h2
  have ioK : ∀ {a : Addr}, (H a = none ∨ a ∈ c.fp ∨ ∃ j d, L ≤ j ∧ cs[j]? = some (some d) ∧ d.m = .O ∧ a ∈ d.fp) → fr.H0 a = none ∨ fr.io a := fun {a} h => by
    rcases h with h | h | ⟨j, d, h1, h2, h3, h4⟩
    · exact .inl (R.new0 h)
    · exact ((R.nd k c hc hm).2 a h).2
    · exact ((R.nd j d h2 h3).2 a h4).2
  refine ⟨by rw [List.length_set]; exact R.ls, R.lσ, by rw [List.length_append, lt2]; omega, fun i d hi q => ?_, fun i d q => ?_, fun i d q m => ?_, fun i d q a ha => ?_, fun i d q => ?_, fun i j x y ij q1 q2 m => ?_, fun a o h1 h2 => ?_, fun a h => al a (R.alive a h), fun p v e => ⟨(R.iov p v e).1, fun d q => ?_⟩⟩
  · rcases cases3 q with ⟨rfl, rfl⟩ | ⟨rfl, rfl⟩ | ⟨h1, h2, q, h3⟩
    · rw [List.getElem?_set_self (by rw [R.ls]; exact hi), ev]
      exact ⟨(R.slot i c hi hc).1, rfl⟩
    · omega
    · rw [List.getElem?_set_ne (Ne.symm h1)]
      exact R.slot i d hi q
  · rcases cases3 q with ⟨rfl, rfl⟩ | ⟨rfl, rfl⟩ | ⟨h1, h2, q, h3⟩
    · exact hv'
    · exact hr
    · exact (R.view i d q).mono tk (keepfp h1 q h3)
  · rcases cases3 q with ⟨rfl, rfl⟩ | ⟨rfl, rfl⟩ | ⟨h1, h2, q, h3⟩
    · exact ⟨nd', fun a ha => ⟨(hO' a ha).1, ioK (hO' a ha).2⟩⟩
    · exact ⟨(hrO m).1, fun a ha => ⟨((hrO m).2 a ha).1, ioK ((hrO m).2 a ha).2.1⟩⟩
    · refine ⟨(R.nd i d q m).1, fun a ha => ?_⟩
      obtain ⟨h4, h5⟩ := (R.nd i d q m).2 a ha
      rw [keepfp h1 q h3 a ha]
      exact ⟨h4, h5⟩
  · rcases cases3 q with ⟨rfl, rfl⟩ | ⟨rfl, rfl⟩ | ⟨h1, h2, q, h3⟩
    · rcases (hO' a ha).2 with h | h | ⟨j, e, h1, h2, h3, h4⟩
      · exact .inl (R.new0 h)
      · exact R.uni _ c hc a h
      · exact R.uni j e h2 a h4
    · cases hm' : d.m with
      | O =>
        rcases ((hrO hm').2 a ha).2.1 with h | h | ⟨j, e, h1, h2, h3, h4⟩
        · exact .inl (R.new0 h)
        · exact R.uni k c hc a h
        · exact R.uni j e h2 a h4
      | B ds =>
        rcases (hrB ds hm').2 a ha with h | h | ⟨j, e, h1, h2, h3, h4⟩
        · exact .inl (R.new0 h)
        · exact R.uni k c hc a h
        · exact R.uni j e h2 a h3
    · exact R.uni i d q a ha
  · rcases cases3 q with ⟨rfl, rfl⟩ | ⟨rfl, rfl⟩ | ⟨h1, h2, q, h3⟩
    · rw [em]; intro x hx; cases hx
    · exact hrd
    · exact R.dl i d q
  · rcases cases3 q1 with ⟨rfl, rfl⟩ | ⟨rfl, rfl⟩ | ⟨h1, h2, p1, h3⟩
    · rcases cases3 q2 with ⟨rfl, rfl⟩ | ⟨rfl, rfl⟩ | ⟨h4, h5, p2, h6⟩
      · exact absurd rfl ij
      · cases hm' : y.m with
        | O => exact .inr fun a ha hb => ((hrO hm').2 a hb).2.2 ha
        | B ds => exact .inl (hrB ds hm').1
      · refine .inr fun a ha hb => ?_
        rcases (hO' a ha).2 with h | h | ⟨e, d, g1, g2, g3, g4⟩
        · exact R.trk p2 a hb h
        · rcases R.dis _ j c y ij hc p2 hm with z | z
          · exact h6 z
          · exact z a h hb
        · exact noO g1 h5 g2 g3 p2 a g4 hb
    · rcases cases3 q2 with ⟨rfl, rfl⟩ | ⟨rfl, rfl⟩ | ⟨h4, h5, p2, h6⟩
      · exact .inr fun a ha hb => ((hrO m).2 a ha).2.2 hb
      · exact absurd rfl ij
      · refine .inr fun a ha hb => ?_
        rcases ((hrO m).2 a ha).2.1 with h | h | ⟨e, d, g1, g2, g3, g4⟩
        · exact R.trk p2 a hb h
        · rcases R.dis k j c y (Ne.symm h4) hc p2 hm with z | z
          · exact h6 z
          · exact z a h hb
        · exact noO g1 h5 g2 g3 p2 a g4 hb
    · rcases cases3 q2 with ⟨rfl, rfl⟩ | ⟨rfl, rfl⟩ | ⟨h4, h5, p2, h6⟩
      · refine .inr fun a ha hb => ?_
        have hx0 : x.m.dep = [] := by rw [m]; rfl
        rcases (hO' a hb).2 with h | h | ⟨e, d, g1, g2, g3, g4⟩
        · exact R.trk p1 a ha h
        · rcases R.dis _ i c x (Ne.symm ij) hc p1 hm with z | z
          · rw [hx0] at z; cases z
          · exact z a h ha
        · exact noO g1 h2 g2 g3 p1 a g4 ha
      · by_cases hin : i ∈ y.m.dep
        · exact .inl hin
        · refine .inr fun a ha hb => ?_
          have hx0 : x.m.dep = [] := by rw [m]; rfl
          have src : H a = none ∨ a ∈ c.fp ∨ ∃ (j : Nat) (d : Cell), i < j ∧ cs[j]? = some (some d) ∧ a ∈ d.fp ∧ ∀ z ∈ d.m.dep, z ∈ y.m.dep := by
            cases hm' : y.m with
            | O =>
              rcases ((hrO hm').2 a hb).2.1 with h | h | ⟨e, d, g1, g2, g3, g4⟩
              · exact .inl h
              · exact .inr (.inl h)
              · exact .inr (.inr ⟨e, d, by omega, g2, g4, (by rw [g3]; intro z hz; cases hz)⟩)
            | B ds =>
              rcases (hrB ds hm').2 a hb with h | h | ⟨e, d, g1, g2, g3, g4⟩
              · exact .inl h
              · exact .inr (.inl h)
              · exact .inr (.inr ⟨e, d, by omega, g2, g3, g4⟩)
          rcases src with h | h | ⟨e, d, g1, g2, g4, g5⟩
          · exact R.trk p1 a ha h
          · rcases R.dis k i c x (Ne.symm h1) hc p1 hm with z | z
            · rw [hx0] at z; cases z
            · exact z a h ha
          · rcases R.dis i e x d (by omega) p1 g2 m with z | z
            · exact hin (g5 i z)
            · exact z a ha g4
      · exact R.dis i j x y ij p1 p2 m
  · refine pres a o (R.frm a o h1 h2) fun hf => ?_
    rcases ((R.nd k c hc hm).2 a hf).2 with z | z
    · rw [h1] at z; cases z
    · exact h2 z
  · have hp := (R.iov p v e).1
    rcases cases3 q with ⟨rfl, rfl⟩ | ⟨rfl, rfl⟩ | ⟨h1, h2, q, h3⟩
    · rw [ev]
      exact (R.iov _ v e).2 c hc
    · omega
    · exact (R.iov p v e).2 d q
end
end Vm

namespace Vm
open PySem PySem.Spec PyProof.Rows L2

/-- an exception: its class by number, its fields -/
structure XV where
  c : Str
  ns : List Str
  as : List W
inductive Res (α : Type) where
  | ok (a : α) (S : Sl)
  | exc (x : XV) (S : Sl)
  | err
def Res.bind {α β : Type} (r : Res α) (f : α → Sl → Res β) : Res β := match r with
  | .ok a S => f a S
  | .exc x S => .exc x S
  | .err => .err
abbrev Gam := List (Option Mo)
structure Ctx where
  K : Kz
  fr : Frm
  n : Nat
  /-- what stands at the slots where an exception leaves -/
  Gx : Gam
  xr : XV → Value → Option Addr → Hp → Prop
  Wh : WX
def Has (n : Nat) (G : Gam) (cs : Cells) : Prop := G.length ≤ n ∧ ∀ (i : Nat) (m : Mo), G[i]? = some (some m) → ∃ c, cs[i]? = some (some c) ∧ c.m = m
def PinOk (n : Nat) (pins : List Nat) (cs : Cells) : Prop := ∀ (i : Nat) (c : Cell), n ≤ i → cs[i]? = some (some c) → ∀ x ∈ c.m.dep, x ∈ pins
def Tsame (n L : Nat) (cs cs' : Cells) : Prop := ∀ i : Nat, n ≤ i → i < L → cs'[i]? = cs[i]?
theorem Tsame.refl {n L : Nat} {cs : Cells} : Tsame n L cs cs := fun _ _ _ => rfl
theorem Tsame.trans {n L L' : Nat} {a b c : Cells} (h : Tsame n L a b) (h' : Tsame n L' b c) (hl : L ≤ L') : Tsame n L a c := fun i h1 h2 => (h' i h1 (by omega)).trans (h i h1 h2)
abbrev RelC (C : Ctx) (cs : Cells) (S : Sl) (σ : St) (H : Hp) : Prop := Rel C.K C.fr C.n cs S σ H
def OutX (C : Ctx) (L : Nat) (cs : Cells) (σ : St) (x : XV) (S' : Sl) : Prop :=
  ∀ (cls : Value) (d : Option Addr) (H' : Hp) (cs' : Cells), RelC C cs' S' σ H' → L ≤ cs'.length → Tsame C.n L cs cs' → Has C.n C.Gx cs' → C.xr x cls d H' → C.Wh cls d σ H'
theorem OutX.up {C : Ctx} {L L' : Nat} {cs cs1 : Cells} {σ : St} {x : XV} {S' : Sl} (h : OutX C L cs σ x S') (t : Tsame C.n L cs cs1) (hl : L ≤ L') : OutX C L' cs1 σ x S' :=
  fun cls d H' cs' R l t' g e => h cls d H' cs' R (by omega) (t.trans t' hl) g e
def Out (C : Ctx) (L : Nat) (cs : Cells) (σ : St) (mo : Mo) (G' : Gam) (Q : VK) : Res W → Prop
  | .ok w S' => ∀ (v : V) (fp : List Addr) (H' : Hp) (cs' : Cells), RelC C cs' S' σ H' → cs'.length = L + 1 → cs'[L]? = some (some ⟨v, w, mo, fp⟩) → Tsame C.n L cs cs' → Has C.n G' cs' → Q v H'
  | .exc x S' => OutX C L cs σ x S'
  | .err => False
def semE (C : Ctx) (G : Gam) (pins : List Nat) (mo : Mo) (G' : Gam) (f : Sl → Res W) : TE := fun σ H Q =>
  ∃ cs S, RelC C cs S σ H ∧ Has C.n G cs ∧ PinOk C.n pins cs ∧ Out C cs.length cs σ mo G' Q (f S)
/-- THE JUDGEMENT of an expression -/
def JE (X : Cx) (C : Ctx) (G : Gam) (pins : List Nat) (e : Expr) (mo : Mo) (G' : Gam) (f : Sl → Res W) : Prop := PE X e (semE C G pins mo G' f)

theorem PE.imp {X : Cx} {e : Expr} {t t' : TE} (h : PE X e t) (i : ∀ σ H Q, t' σ H Q → t σ H Q) : PE X e t' := ⟨fun pins s σ H Q I q => h.run pins s σ H Q I (i σ H Q q)⟩
theorem PT.imp {X : Cx} {e : Expr} {t t' : TT} (h : PT X e t) (i : ∀ σ H Q, t' σ H Q → t σ H Q) : PT X e t' := ⟨fun pins s σ H Q I q => h.run pins s σ H Q I (i σ H Q q)⟩
theorem PA.imp {X : Cx} {e : List Expr} {t t' : TA} (h : PA X e t) (i : ∀ σ H Q, t' σ H Q → t σ H Q) : PA X e t' := ⟨fun pos pins s σ H Q I q => h.run pos pins s σ H Q I (i σ H Q q)⟩
theorem PS.imp {X : Cx} {e : Stmt} {t t' : TS} (h : PS X e t) (i : ∀ D σ H, t' D σ H → t D σ H) : PS X e t' := ⟨fun pins s σ H D I q => h.run pins s σ H D I (i D σ H q)⟩
theorem PSs.imp {X : Cx} {e : List Stmt} {t t' : TS} (h : PSs X e t) (i : ∀ D σ H, t' D σ H → t D σ H) : PSs X e t' := ⟨fun pins s σ H D I q => h.run pins s σ H D I (i D σ H q)⟩

/-! ### arguments -/
inductive Am where
  | mo (x : Mo)
  | io (k : Nat)
def Am.dep : Am → List Nat
  | .mo x => x.dep
  | .io _ => []
def ArgsAt (cs : Cells) (σ : St) : Nat → List Am → List V → List W → Prop
  | _, [], [], [] => True
  | L, .mo m :: ms, v :: vs, w :: ws => (∃ fp, cs[L]? = some (some ⟨v, w, m, fp⟩)) ∧ ArgsAt cs σ (L + 1) ms vs ws
  | L, .io k :: ms, v :: vs, w :: ws => (σ[k]? = some (some v) ∧ w = .non ∧ cs[L]? = some none) ∧ ArgsAt cs σ (L + 1) ms vs ws
  | _, _, _, _ => False
def OutA (C : Ctx) (L : Nat) (cs : Cells) (σ : St) (ms : List Am) (G' : Gam) (Q : List V → Hp → Prop) : Res (List W) → Prop
  | .ok ws S' => ∀ (vs : List V) (H' : Hp) (cs' : Cells), RelC C cs' S' σ H' → cs'.length = L + ms.length → ArgsAt cs' σ L ms vs ws → Tsame C.n L cs cs' → Has C.n G' cs' → Q vs H'
  | .exc x S' => OutX C L cs σ x S'
  | .err => False
def semA (C : Ctx) (G : Gam) (pins : List Nat) (ms : List Am) (G' : Gam) (g : Sl → Res (List W)) : TA := fun σ H Q =>
  ∃ cs S, RelC C cs S σ H ∧ Has C.n G cs ∧ PinOk C.n pins cs ∧ OutA C cs.length cs σ ms G' Q (g S)
def fNil : Sl → Res (List W) := fun S => .ok [] S
def fCons (f : Sl → Res W) (g : Sl → Res (List W)) : Sl → Res (List W) := fun S => (f S).bind fun w S1 => (g S1).bind fun ws S2 => .ok (w :: ws) S2
def fConsIo (g : Sl → Res (List W)) : Sl → Res (List W) := fun S => (g S).bind fun ws S2 => .ok (W.non :: ws) S2

theorem PinOk.push {n : Nat} {pins d : List Nat} {cs cs' : Cells} (h : PinOk n pins cs) (hn : n ≤ cs.length) (hl : cs'.length = cs.length + 1) (t : Tsame n cs.length cs cs') (ht : ∀ c, cs'[cs.length]? = some (some c) → ∀ x ∈ c.m.dep, x ∈ d) : PinOk n (pins ++ d) cs' := fun i c hi e x hx => by
  by_cases h1 : i < cs.length
  · rw [t i hi h1] at e
    exact List.mem_append_left _ (h i c hi e x hx)
  · have : i = cs.length := by
      obtain ⟨q, _⟩ := List.getElem?_eq_some_iff.mp e
      omega
    subst this
    exact List.mem_append_right _ (ht c e x hx)
theorem Rel.pushNone {K : Kz} {fr : Frm} {n : Nat} {cs : Cells} {S : Sl} {σ : St} {H : Hp} (R : Rel K fr n cs S σ H) : Rel K fr n (cs ++ [none]) S σ H := by
  have key : ∀ {i : Nat} {c : Cell}, (cs ++ [Option.none])[i]? = some (some c) → cs[i]? = some (some c) := fun {i c} e => by
    by_cases hi : i < cs.length
    · rw [List.getElem?_append_left hi] at e; exact e
    · rw [List.getElem?_append_right (by omega)] at e
      cases q : i - cs.length with
      | zero => rw [q] at e; simp at e
      | succ m => rw [q] at e; simp at e
  exact ⟨R.ls, R.lσ, by rw [List.length_append]; have := R.ln; omega, fun i c hi e => R.slot i c hi (key e), fun i c e => R.view i c (key e), fun i c e => R.nd i c (key e), fun i c e => R.uni i c (key e), fun i c e => R.dl i c (key e), fun i j c d ij e1 e2 => R.dis i j c d ij (key e1) (key e2), R.frm, R.alive, fun p v e => ⟨(R.iov p v e).1, fun c hc => (R.iov p v e).2 c (key hc)⟩⟩
theorem Has.app {n : Nat} {G : Gam} {cs : Cells} {x : Option Cell} (h : Has n G cs) (hn : n ≤ cs.length) : Has n G (cs ++ [x]) := ⟨h.1, fun i m e => by
  obtain ⟨c, q, r⟩ := h.2 i m e
  obtain ⟨hi, _⟩ := List.getElem?_eq_some_iff.mp q
  exact ⟨c, by rw [List.getElem?_append_left hi]; exact q, r⟩⟩

section
variable {X : Cx} {C : Ctx} {G G1 G' : Gam} {pins : List Nat} {e : Expr} {es : List Expr} {mo : Mo} {ms : List Am} {f : Sl → Res W} {g : Sl → Res (List W)}
theorem semA_nil : ∀ σ H Q, semA C G pins [] G fNil σ H Q → tNil σ H Q := fun σ H Q ⟨cs, S, R, hG, hP, o⟩ => o [] H cs R rfl trivial .refl hG
theorem semA_cons : ∀ σ H Q, semA C G pins (.mo mo :: ms) G' (fCons f g) σ H Q → tCons (semE C G pins mo G1 f) (semA C G1 (pins ++ mo.dep) ms G' g) σ H Q := fun σ H Q ⟨cs, S, R, hG, hP, o⟩ => by
  refine ⟨cs, S, R, hG, hP, ?_⟩
  unfold fCons at o
  cases hf : f S with
  | err => rw [hf] at o; exact o
  | exc x S' => rw [hf] at o; exact o
  | ok w S1 =>
    rw [hf] at o
    intro v fp H1 cs1 R1 l1 t1 T1 g1
    refine ⟨cs1, S1, R1, g1, hP.push R.ln l1 T1 fun c q => by rw [t1] at q; cases q; exact fun x hx => hx, ?_⟩
    have o : OutA C cs.length cs σ (.mo mo :: ms) G' Q ((g S1).bind fun ws S2 => .ok (w :: ws) S2) := o
    cases hg : g S1 with
    | err => rw [hg] at o; exact o
    | exc x S' => rw [hg] at o; exact OutX.up (L := cs.length) o T1 (by omega)
    | ok ws S2 =>
      rw [hg] at o
      intro vs H2 cs2 R2 l2 a2 T2 g2
      refine o (v :: vs) H2 cs2 R2 (by rw [l2, l1, List.length_cons]; omega) ⟨⟨fp, ?_⟩, by rw [← l1]; exact a2⟩ (T1.trans T2 (by omega)) g2
      rw [T2 cs.length R.ln (by omega)]
      exact t1
theorem semA_io {k : Nat} (hk : G[k]? = some (some .O)) : ∀ σ H Q, semA C G pins (.io k :: ms) G' (fConsIo g) σ H Q → tCons (tVar k) (semA C G pins ms G' g) σ H Q := fun σ H Q ⟨cs, S, R, hG, hP, o⟩ => by
  obtain ⟨c, hc, hm⟩ := hG.2 k _ hk
  have kn : k < C.n := Nat.lt_of_lt_of_le (List.getElem?_eq_some_iff.mp hk).1 hG.1
  have hσ := (R.slot k c kn hc).1
  refine ⟨c.v, hσ, cs ++ [none], S, R.pushNone, hG.app R.ln, ?_, ?_⟩
  · intro i d hi q x hx
    by_cases h1 : i < cs.length
    · rw [List.getElem?_append_left h1] at q
      exact hP i d hi q x hx
    · rw [List.getElem?_append_right (by omega)] at q
      cases z : i - cs.length with
      | zero => rw [z] at q; simp at q
      | succ m => rw [z] at q; simp at q
  · unfold fConsIo at o
    have T0 : Tsame C.n cs.length cs (cs ++ [none]) := fun i _ h2 => List.getElem?_append_left h2
    cases hg : g S with
    | err => rw [hg] at o; exact o
    | exc x S' => rw [hg] at o; exact OutX.up (L := cs.length) o T0 (by simp)
    | ok ws S2 =>
      rw [hg] at o
      intro vs H2 cs2 R2 l2 a2 T2 g2
      refine o (c.v :: vs) H2 cs2 R2 (by rw [l2]; simp; omega) ⟨⟨hσ, rfl, ?_⟩, by simpa using a2⟩ (T0.trans T2 (by simp)) g2
      rw [T2 cs.length R.ln (by simp)]
      simp
end
def notStar : Expr → Bool
  | .Starred _ _ => false
  | _ => true
theorem star_cons {e : Expr} {es : List Expr} (h : notStar e = true) {env : Env} : starEach (e :: es) env = (false, eval e env) :: starEach es env := by
  cases e <;> first | rfl | cases h
/-- an argument list, from the left -/
inductive JA (X : Cx) (C : Ctx) : Gam → List Nat → List Expr → List Am → Gam → (Sl → Res (List W)) → Prop where
  | nil (G : Gam) (pins : List Nat) : JA X C G pins [] [] G fNil
  | cons (G : Gam) (pins : List Nat) (e : Expr) (mo : Mo) (G1 : Gam) (f : Sl → Res W) (es : List Expr) (ms : List Am) (G2 : Gam) (g : Sl → Res (List W)) : notStar e = true → JE X C G pins e mo G1 f → JA X C G1 (pins ++ mo.dep) es ms G2 g → JA X C G pins (e :: es) (.mo mo :: ms) G2 (fCons f g)
  | io (G : Gam) (pins : List Nat) (e : Expr) (k : Nat) (es : List Expr) (ms : List Am) (G2 : Gam) (g : Sl → Res (List W)) : notStar e = true → PE X e (tVar k) → G[k]? = some (some Mo.O) → JA X C G pins es ms G2 g → JA X C G pins (e :: es) (.io k :: ms) G2 (fConsIo g)
section
variable {X : Cx} {C : Ctx} {G G1 G' : Gam} {pins : List Nat} {e : Expr} {es : List Expr} {mo : Mo} {ms : List Am} {f : Sl → Res W} {g : Sl → Res (List W)}
theorem JA.pa (h : JA X C G pins es ms G' g) : PA X es (semA C G pins ms G' g) := by
  induction h with
  | nil G pins => exact PA.imp pa_nil semA_nil
  | cons _ _ _ _ _ _ _ _ _ _ h1 h2 _ ih => exact PA.imp (pa_cons h2 ih (star_cons h1)) semA_cons
  | io _ _ _ _ _ _ _ _ h1 h2 h3 _ ih => exact PA.imp (pa_cons h2 ih (star_cons h1)) (semA_io h3)
theorem JA.nostar (h : JA X C G pins es ms G' g) {pos : Pos} {env : Env} : (backTo pos (starEach es env)).any (·.1) = false := by
  induction h with
  | nil G pins => rfl
  | cons _ _ _ _ _ _ _ _ _ _ h1 h2 _ ih => rw [star_cons h1]; simpa [backTo] using ih
  | io _ _ _ _ _ _ _ _ h1 h2 h3 _ ih => rw [star_cons h1]; simpa [backTo] using ih
theorem semE_mono {σ : St} {H : Hp} {Q Q' : VK} (h : ∀ v H', Q v H' → Q' v H') : semE C G pins mo G' f σ H Q → semE C G pins mo G' f σ H Q' := fun ⟨cs, S, R, a, b, o⟩ => by
  refine ⟨cs, S, R, a, b, ?_⟩
  revert o
  cases f S with
  | ok w S' => exact fun o v fp H' cs' q1 q2 q3 q4 q5 => h _ _ (o v fp H' cs' q1 q2 q3 q4 q5)
  | exc x S' => exact id
  | err => exact id
/-- a JA's head, whatever it is -/
theorem ja_head {a : Expr} (h : JA X C G pins (a :: es) ms G' g) : ∃ (ta : TE) (G1 : Gam) (pins1 : List Nat) (ms1 : List Am) (g1 : Sl → Res (List W)), PE X a ta ∧ notStar a = true ∧ JA X C G1 pins1 es ms1 G' g1 ∧
    (∀ σ H Q Q', (∀ v H', Q v H' → Q' v H') → ta σ H Q → ta σ H Q') ∧ ∀ σ H Q, semA C G pins ms G' g σ H Q → ta σ H fun x H1 => semA C G1 pins1 ms1 G' g1 σ H1 fun xs H2 => Q (x :: xs) H2 := by
  cases h with
  | cons _ _ _ _ _ _ _ _ _ _ h1 h2 h3 => exact ⟨_, _, _, _, _, h2, h1, h3, fun σ H Q Q' => semE_mono, semA_cons⟩
  | io _ _ _ _ _ _ _ _ h1 h2 h3 h4 => exact ⟨_, _, _, _, _, h2, h1, h4, fun σ H Q Q' i ⟨v, e, q⟩ => ⟨v, e, i _ _ q⟩, semA_io h3⟩
theorem ja_nil (h : JA X C G pins [] ms G' g) : ∀ σ H Q, semA C G pins ms G' g σ H Q → Q [] H := by
  cases h with
  | nil => exact semA_nil
theorem ja1 {a : Expr} (h : JA X C G pins [a] ms G' g) : ∃ ta : TE, PE X a ta ∧ (∀ σ H Q Q', (∀ v H', Q v H' → Q' v H') → ta σ H Q → ta σ H Q') ∧
    ∀ σ H (Q : List V → Hp → Prop) (T : VK), (∀ x H1, Q [x] H1 → T x H1) → semA C G pins ms G' g σ H Q → ta σ H T := by
  obtain ⟨ta, G1, p1, m1, g1, h1, _, h2, mono, h3⟩ := ja_head h
  exact ⟨ta, h1, mono, fun σ H Q T i q => mono _ _ _ _ (fun v H' q => i v H' (ja_nil h2 _ _ _ q)) (h3 σ H Q q)⟩
theorem ja2 {a b : Expr} (h : JA X C G pins [a, b] ms G' g) : ∃ ta tb : TE, PE X a ta ∧ PE X b tb ∧ (∀ σ H Q Q', (∀ v H', Q v H' → Q' v H') → ta σ H Q → ta σ H Q') ∧ (∀ σ H Q Q', (∀ v H', Q v H' → Q' v H') → tb σ H Q → tb σ H Q') ∧
    ∀ σ H (Q : List V → Hp → Prop) (T : V → V → Hp → Prop), (∀ x y H1, Q [x, y] H1 → T x y H1) → semA C G pins ms G' g σ H Q → ta σ H fun x H1 => tb σ H1 fun y H2 => T x y H2 := by
  obtain ⟨ta, G1, p1, m1, g1, h1, _, h2, mono, h3⟩ := ja_head h
  obtain ⟨tb, h4, mono2, h5⟩ := ja1 h2
  exact ⟨ta, tb, h1, h4, mono, mono2, fun σ H Q T i q => mono _ _ _ _ (fun v H' q => h5 _ _ _ (T v) (fun y H2 z => i v y H2 z) q) (h3 σ H Q q)⟩
theorem ja3 {a b c : Expr} (h : JA X C G pins [a, b, c] ms G' g) : ∃ ta tb tc : TE, PE X a ta ∧ PE X b tb ∧ PE X c tc ∧
    ∀ σ H (Q : List V → Hp → Prop) (T : V → V → V → Hp → Prop), (∀ x y z H1, Q [x, y, z] H1 → T x y z H1) → semA C G pins ms G' g σ H Q → ta σ H fun x H1 => tb σ H1 fun y H2 => tc σ H2 fun z H3 => T x y z H3 := by
  obtain ⟨ta, G1, p1, m1, g1, h1, _, h2, mono, h3⟩ := ja_head h
  obtain ⟨tb, tc, h4, h5, _, _, h6⟩ := ja2 h2
  exact ⟨ta, tb, tc, h1, h4, h5, fun σ H Q T i q => mono _ _ _ _ (fun v H' q => h6 _ _ _ (T v) (fun y z H2 w => i v y z H2 w) q) (h3 σ H Q q)⟩

/-! ### a new temp from the arguments -/
def plain : List Am → Bool
  | [] => true
  | .mo _ :: ms => plain ms
  | .io _ :: _ => false
def deps (ms : List Am) : List Nat := ms.flatMap Am.dep
def allO : List Am → Bool
  | [] => true
  | .mo .O :: ms => allO ms
  | _ :: _ => false
theorem argsAt_vws {cs : Cells} {S : Sl} {σ : St} {H : Hp} (R : RelC C cs S σ H) : ∀ {L : Nat} {ms : List Am} {vs : List V} {ws : List W}, C.n ≤ L → plain ms = true → ArgsAt cs σ L ms vs ws →
    ∃ fps, Vws C.K H ws vs fps ∧ (∀ a ∈ fps, ∃ (j : Nat) (d : Cell), L ≤ j ∧ cs[j]? = some (some d) ∧ a ∈ d.fp ∧ ∀ x ∈ d.m.dep, x ∈ deps ms) ∧
      (allO ms = true → fps.Nodup ∧ ∀ a ∈ fps, ∃ (j : Nat) (d : Cell), L ≤ j ∧ cs[j]? = some (some d) ∧ a ∈ d.fp ∧ d.m = .O)
  | L, [], [], [], _, _, _ => ⟨[], (by simp [Vws]), (fun _ h => by cases h), (fun _ => ⟨List.nodup_nil, fun _ h => by cases h⟩)⟩
  | L, .mo m :: ms, v :: vs, w :: ws, hL, hp, h => by
    obtain ⟨⟨fp, hc⟩, h⟩ := h
    obtain ⟨fps, h1, h2, h3⟩ := argsAt_vws R (L := L + 1) (by omega) (by simpa [plain] using hp) h
    refine ⟨fp ++ fps, by simp only [Vws]; exact ⟨v, vs, fp, fps, rfl, rfl, R.view _ _ hc, h1⟩, fun a ha => ?_, fun hO => ?_⟩
    · rcases List.mem_append.mp ha with ha | ha
      · exact ⟨L, _, Nat.le_refl _, hc, ha, fun x hx => List.mem_append_left _ hx⟩
      · obtain ⟨j, d, q1, q2, q3, q4⟩ := h2 a ha
        exact ⟨j, d, by omega, q2, q3, fun x hx => List.mem_append_right _ (q4 x hx)⟩
    · have hm : m = .O := by cases m with | O => rfl | B _ => simp [allO] at hO
      subst hm
      obtain ⟨n1, n2⟩ := h3 (by simpa [allO] using hO)
      refine ⟨List.nodup_append.mpr ⟨(R.nd _ _ hc rfl).1, n1, fun a ha b hb => ?_⟩, fun a ha => ?_⟩
      · rintro rfl
        obtain ⟨j, d, q1, q2, q3, q4⟩ := n2 a hb
        rcases R.dis L j _ d (by omega) hc q2 rfl with z | z
        · rw [q4] at z; cases z
        · exact z a ha q3
      · rcases List.mem_append.mp ha with ha | ha
        · exact ⟨L, _, Nat.le_refl _, hc, ha, rfl⟩
        · obtain ⟨j, d, q1, q2, q3, q4⟩ := n2 a ha
          exact ⟨j, d, by omega, q2, q3, q4⟩
theorem Has.take {n L : Nat} {cs : Cells} (h : Has n G cs) (hL : n ≤ L) {c : Option Cell} : Has n G (cs.take L ++ [c]) := ⟨h.1, fun i m e => by
  obtain ⟨d, q, r⟩ := h.2 i m e
  have hi : i < n := Nat.lt_of_lt_of_le (List.getElem?_eq_some_iff.mp e).1 h.1
  obtain ⟨hj, _⟩ := List.getElem?_eq_some_iff.mp q
  exact ⟨d, by rw [List.getElem?_append_left (by rw [List.length_take]; omega), List.getElem?_take_of_lt (by omega)]; exact q, r⟩⟩
theorem deps_lt {cs : Cells} {S : Sl} {σ : St} {H : Hp} (R : RelC C cs S σ H) : ∀ {L : Nat} {ms : List Am} {vs : List V} {ws : List W}, ArgsAt cs σ L ms vs ws → ∀ x ∈ deps ms, x < C.n
  | L, [], [], [], _ => fun x hx => by cases hx
  | L, .mo m :: ms, v :: vs, w :: ws, h => fun x hx => by
    obtain ⟨⟨fp, hc⟩, h⟩ := h
    rcases List.mem_append.mp (show x ∈ m.dep ++ deps ms from hx) with hx | hx
    · exact R.dl _ _ hc x hx
    · exact deps_lt R h x hx
  | L, .io k :: ms, v :: vs, w :: ws, h => fun x hx => deps_lt R h.2 x (by simpa [deps, Am.dep] using hx)
def fPrim (g : Sl → Res (List W)) (sem : List W → Option W) : Sl → Res W := fun S => (g S).bind fun ws S1 => match sem ws with
  | some w => .ok w S1
  | none => .err
abbrev RR := List V → Hp → VK → Prop
/-- a rule on values whose result is new -/
def LocF (K : Kz) (R : RR) (sem : List W → Option W) : Prop := ∀ (vs : List V) (ws : List W) (fps : List Addr) (H : Hp) (Q : VK) (w : W), Vws K H ws vs fps → sem ws = some w →
  (∀ (v : V) (H' : Hp) (fp : List Addr), Same H H' → Vw K H' w v fp → fp.Nodup → (∀ a ∈ fp, H a = none ∧ ∃ o, H' a = some o ∧ isMut o = true) → Q v H') → R vs H Q
/-- a rule on values whose result may hold the arguments -/
def LocB (K : Kz) (R : RR) (sem : List W → Option W) : Prop := ∀ (vs : List V) (ws : List W) (fps : List Addr) (H : Hp) (Q : VK) (w : W), Vws K H ws vs fps → sem ws = some w →
  (∀ (v : V) (H' : Hp) (fp : List Addr), Same H H' → Vw K H' w v fp → (∀ a ∈ fp, H a = none ∨ a ∈ fps) → Q v H') → R vs H Q
/-- .. and owns what it owned -/
def LocO (K : Kz) (R : RR) (sem : List W → Option W) : Prop := ∀ (vs : List V) (ws : List W) (fps : List Addr) (H : Hp) (Q : VK) (w : W), Vws K H ws vs fps → fps.Nodup → (∀ a ∈ fps, ∃ o, H a = some o ∧ isMut o = true) → sem ws = some w →
  (∀ (v : V) (H' : Hp) (fp : List Addr), Same H H' → Vw K H' w v fp → fp.Nodup → (∀ a ∈ fp, (H a = none ∨ a ∈ fps) ∧ ∃ o, H' a = some o ∧ isMut o = true) → Q v H') → R vs H Q
abbrev Fin (C : Ctx) (G' : Gam) (ms : List Am) (mo : Mo) (R : RR) (sem : List W → Option W) : Prop := ∀ (σ : St) (L : Nat) (cs' : Cells) (S' : Sl) (H' : Hp) (vs : List V) (ws : List W) (w : W) (Q : VK), C.n ≤ L → RelC C cs' S' σ H' → cs'.length = L + ms.length → ArgsAt cs' σ L ms vs ws → Has C.n G' cs' → sem ws = some w →
      (∀ (v : V) (fp : List Addr) (H2 : Hp), RelC C (cs'.take L ++ [some ⟨v, w, mo, fp⟩]) S' σ H2 → Q v H2) → R vs H' Q
theorem je_args_sem {t : TE} {R : RR} {sem : List W → Option W} (h : ∀ σ H Q, semA C G pins ms G' g σ H (fun vs H1 => R vs H1 Q) → t σ H Q) (fin : Fin C G' ms mo R sem) : ∀ σ H Q, semE C G pins mo G' (fPrim g sem) σ H Q → t σ H Q := by
  refine fun σ H Q ⟨cs, S, R0, hG, hP, o⟩ => h σ H Q ⟨cs, S, R0, hG, hP, ?_⟩
  unfold fPrim at o
  cases hg : g S with
  | err => rw [hg] at o; exact o
  | exc x S' => rw [hg] at o; exact o
  | ok ws S1 =>
    rw [hg] at o
    intro vs H1 cs1 R1 l1 a1 T1 g1
    have o : Out C cs.length cs σ mo G' Q (match sem ws with | some w => .ok w S1 | none => .err) := o
    cases hs : sem ws with
    | none => rw [hs] at o; exact o.elim
    | some w =>
      rw [hs] at o
      refine fin σ cs.length cs1 S1 H1 vs ws w Q R0.ln R1 l1 a1 g1 hs fun v fp H2 R2 => ?_
      have lt : (cs1.take cs.length).length = cs.length := by rw [List.length_take]; omega
      refine o v fp H2 _ R2 (by rw [List.length_append, lt]; rfl) (by rw [List.getElem?_append_right (by omega), lt]; simp) (fun i hi hlt => ?_) (g1.take R0.ln)
      rw [List.getElem?_append_left (by omega), List.getElem?_take_of_lt hlt]
      exact T1 i hi hlt
theorem je_args {t : TE} {R : RR} {sem : List W → Option W} (he : PE X e t) (h : ∀ σ H Q, semA C G pins ms G' g σ H (fun vs H1 => R vs H1 Q) → t σ H Q) (fin : Fin C G' ms mo R sem) : JE X C G pins e mo G' (fPrim g sem) := PE.imp he (je_args_sem h fin)
theorem fin_fresh {R : RR} {sem : List W → Option W} (hp : plain ms = true) (loc : LocF C.K R sem) : Fin C G' ms .O R sem := fun σ L cs' S' H' vs ws w Q hL R' hl hA hG hs k => by
  obtain ⟨fps, q, _⟩ := argsAt_vws R' hL hp hA
  refine loc vs ws fps H' Q w q hs fun v H2 fp e2 hv nd hm => k v fp H2 (R'.repl hL (by omega) e2 hv (fun x hx => by cases hx) (fun _ => ⟨nd, fun a ha => ⟨(hm a ha).2, .inl (hm a ha).1⟩⟩) fun ds z => by cases z)
theorem je_fresh {t : TE} {R : RR} {sem : List W → Option W} (he : PE X e t) (h : ∀ σ H Q, semA C G pins ms G' g σ H (fun vs H1 => R vs H1 Q) → t σ H Q) (hp : plain ms = true) (loc : LocF C.K R sem) :
    JE X C G pins e .O G' (fPrim g sem) := je_args he h (fin_fresh hp loc)
theorem je_bor {t : TE} {R : RR} {sem : List W → Option W} (he : PE X e t) (h : ∀ σ H Q, semA C G pins ms G' g σ H (fun vs H1 => R vs H1 Q) → t σ H Q) (hp : plain ms = true) (loc : LocB C.K R sem) :
    JE X C G pins e (.B (deps ms)) G' (fPrim g sem) := je_args he h fun σ L cs' S' H' vs ws w Q hL R' hl hA hG hs k => by
  obtain ⟨fps, q, q2, _⟩ := argsAt_vws R' hL hp hA
  refine loc vs ws fps H' Q w q hs fun v H2 fp e2 hv hm => k v fp H2 (R'.repl hL (by omega) e2 hv (deps_lt R' hA) (fun z => by cases z) fun ds z a ha => ?_)
  cases z
  exact (hm a ha).imp id fun hb => q2 a hb
theorem je_own {t : TE} {R : RR} {sem : List W → Option W} (he : PE X e t) (h : ∀ σ H Q, semA C G pins ms G' g σ H (fun vs H1 => R vs H1 Q) → t σ H Q) (hp : plain ms = true) (hO : allO ms = true) (loc : LocO C.K R sem) :
    JE X C G pins e .O G' (fPrim g sem) := je_args he h fun σ L cs' S' H' vs ws w Q hL R' hl hA hG hs k => by
  obtain ⟨fps, q, _, q3⟩ := argsAt_vws R' hL hp hA
  obtain ⟨n1, n2⟩ := q3 hO
  refine loc vs ws fps H' Q w q n1 (fun a ha => ?_) hs fun v H2 fp e2 hv nd hm => k v fp H2 (R'.repl hL (by omega) e2 hv (fun x hx => by cases hx) (fun _ => ⟨nd, fun a ha => ⟨(hm a ha).2, (hm a ha).1.imp id fun hb => ?_⟩⟩) fun ds z => by cases z)
  · obtain ⟨j, d, h1, h2, h3, h4⟩ := n2 a ha
    exact ((R'.nd j d h2 h4).2 a h3).1
  · obtain ⟨j, d, h1, h2, h3, h4⟩ := n2 a hb
    exact ⟨j, d, h1, h2, h4, h3⟩
end
end Vm

namespace Vm
open PySem PySem.Spec PyProof.Rows L2

/-! ## calls -/
inductive CRes where
  | ok (w : W) (io : W)
  | exc (x : XV) (io : W)
  | err
/-- the state behind a call -/
structure CallEnd (K : Kz) (io : Option Nat) (as : List Cell) (wio : W) (H H' : Hp) : Prop where
  pres : ∀ a o, H a = some o → (∀ p c, io = some p → as[p]? = some c → a ∉ c.fp) → H' a = some o
  alive : ∀ a, H a ≠ none → H' a ≠ none
  fin : ∀ (p : Nat) (c : Cell), io = some p → as[p]? = some c → ∃ fp', Vw K H' wio c.v fp' ∧ fp'.Nodup ∧ ∀ a ∈ fp', (∃ o, H' a = some o ∧ isMut o = true) ∧ (H a = none ∨ a ∈ c.fp)
/-- what a def of ours promises -/
def specOf (K : Kz) (xr : XV → Value → Option Addr → Hp → Prop) (io : Option Nat) (own : Bool) (np : Nat) (vc : List W → CRes) : Sp := fun vs H Q E =>
  ∃ as : List Cell, vs = as.map Cell.v ∧ as.length = np ∧ (∀ c ∈ as, Vw K H c.w c.v c.fp) ∧
    (∀ p, io = some p → ∃ c, as[p]? = some c ∧ c.fp.Nodup ∧ (∀ a ∈ c.fp, ∃ o, H a = some o ∧ isMut o = true) ∧ ∀ (j : Nat) d, j ≠ p → as[j]? = some d → ∀ a ∈ c.fp, a ∉ d.fp) ∧
    match vc (as.map Cell.w) with
    | .ok w wio => ∀ (v : V) (fp : List Addr) (H' : Hp), CallEnd K io as wio H H' → Vw K H' w v fp → (∀ a ∈ fp, H a = none ∨ ∃ c ∈ as, a ∈ c.fp) →
        (own = true → fp.Nodup ∧ ∀ a ∈ fp, (∃ o, H' a = some o ∧ isMut o = true) ∧ (H a = none ∨ ∃ p c, io = some p ∧ as[p]? = some c ∧ a ∈ c.fp)) →
        (∀ p c, io = some p → as[p]? = some c → ∃ fp', Vw K H' wio c.v fp' ∧ fp'.Nodup ∧ (∀ a ∈ fp', (∃ o, H' a = some o ∧ isMut o = true) ∧ (H a = none ∨ a ∈ c.fp)) ∧ (own = true → ∀ a ∈ fp, a ∉ fp')) → Q v H'
    | .exc x wio => ∀ (cls : Value) (d : Option Addr) (H' : Hp), CallEnd K io as wio H H' → xr x cls d H' → E cls d H'
    | .err => False

def killG (k : Nat) (G : Gam) : Gam := G.map fun x => match x with
  | some m => if k ∈ m.dep then none else some m
  | none => none
def gle (G G' : Gam) : Bool := decide (G.length ≤ G'.length) && (List.range G.length).all fun i => match G[i]? with
  | some (some m) => decide (G'[i]? = some (some m))
  | _ => true
theorem Has.gle {n : Nat} {G G' : Gam} {cs : Cells} (h : Has n G' cs) (e : gle G G' = true) : Has n G cs := by
  unfold Vm.gle at e
  rw [Bool.and_eq_true] at e
  refine ⟨Nat.le_trans (of_decide_eq_true e.1) h.1, fun i m q => ?_⟩
  have hi := (List.getElem?_eq_some_iff.mp q).1
  have := List.all_eq_true.mp e.2 i (List.mem_range.mpr hi)
  rw [q] at this
  exact h.2 i m (of_decide_eq_true this)
theorem Has.kill {n L k : Nat} {G : Gam} {cs : Cells} (h : Has n G cs) (hL : n ≤ L) {c c' : Cell} (hc : cs[k]? = some (some c)) (hm : c.m = .O) (hm' : c'.m = .O) (hk : k < n) (hl : L ≤ cs.length) {x : List (Option Cell)} :
    Has n (killG k G) ((killk k (cs.take L)).set k (some c') ++ x) := by
  refine ⟨by unfold killG; rw [List.length_map]; exact h.1, fun i m e => ?_⟩
  unfold killG at e
  rw [List.getElem?_map] at e
  cases q : G[i]? with
  | none => rw [q] at e; cases e
  | some y =>
    rw [q] at e
    cases y with
    | none => cases e
    | some m0 =>
      simp only [Option.map_some] at e
      split at e
      · cases e
      · cases e
        rename_i hnk
        obtain ⟨d, hd, r⟩ := h.2 i m q
        have hi : i < n := Nat.lt_of_lt_of_le (List.getElem?_eq_some_iff.mp q).1 h.1
        have l2 : ((killk k (cs.take L)).set k (some c')).length = L := by rw [List.length_set, killk_length, List.length_take]; omega
        by_cases ik : i = k
        · subst ik
          rw [hc] at hd; cases hd
          refine ⟨c', ?_, by rw [hm', ← r, hm]⟩
          rw [List.getElem?_append_left (by omega), List.getElem?_set_self (by rw [killk_length, List.length_take]; omega)]
        · refine ⟨d, ?_, r⟩
          rw [List.getElem?_append_left (by omega), List.getElem?_set_ne (Ne.symm ik)]
          exact killk_of (by rw [List.getElem?_take_of_lt (by omega)]; exact hd) (by rw [r]; exact hnk)

/-- the arguments' cells: the slot's own cell at the changed one -/
theorem argsAt_cells {C : Ctx} {cs : Cells} {S : Sl} {σ : St} {H : Hp} (R : RelC C cs S σ H) {k : Nat} {ck : Cell} (hσ : σ[k]? = some (some ck.v)) : ∀ {L : Nat} {ms : List Am} {vs : List V} {ws : List W}, ArgsAt cs σ L ms vs ws →
    (∀ (j k' : Nat), ms[j]? = some (Am.io k') → k' = k) →
    ∃ as : List Cell, as.map Cell.v = vs ∧ as.length = ms.length ∧ ws.length = ms.length ∧ ∀ (j : Nat) (c : Cell), as[j]? = some c → (ms[j]? = some (.mo c.m) ∧ cs[L + j]? = some (some c) ∧ ws[j]? = some c.w) ∨ (ms[j]? = some (.io k) ∧ c = ck)
  | L, [], [], [], _, _ => ⟨[], rfl, rfl, rfl, fun j c e => by simp at e⟩
  | L, .mo m :: ms, v :: vs, w :: ws, h, hk => by
    obtain ⟨⟨fp, hc⟩, h⟩ := h
    obtain ⟨as, h1, h2, h3, h4⟩ := argsAt_cells R hσ h fun j k' e => hk (j + 1) k' (by simpa using e)
    refine ⟨⟨v, w, m, fp⟩ :: as, by simp [h1], by simp [h2], by simp [h3], fun j c e => ?_⟩
    cases j with
    | zero => simp at e; subst e; exact .inl ⟨rfl, hc, rfl⟩
    | succ j =>
      rcases h4 j c (by simpa using e) with ⟨q1, q2, q3⟩ | ⟨q1, q2⟩
      · exact .inl ⟨by simpa using q1, by rw [← q2]; congr 1; omega, by simpa using q3⟩
      · exact .inr ⟨by simpa using q1, q2⟩
  | L, .io k' :: ms, v :: vs, w :: ws, h, hk => by
    obtain ⟨⟨e1, e2, e3⟩, h⟩ := h
    obtain ⟨as, h1, h2, h3, h4⟩ := argsAt_cells R hσ h fun j k' e => hk (j + 1) k' (by simpa using e)
    have : k' = k := hk 0 k' rfl
    subst this
    rw [hσ] at e1
    cases e1
    refine ⟨ck :: as, by simp [h1], by simp [h2], by simp [h3], fun j c e => ?_⟩
    cases j with
    | zero => simp at e; subst e; exact .inr ⟨rfl, rfl⟩
    | succ j =>
      rcases h4 j c (by simpa using e) with ⟨q1, q2, q3⟩ | ⟨q1, q2⟩
      · exact .inl ⟨by simpa using q1, by rw [← q2]; congr 1; omega, by simpa using q3⟩
      · exact .inr ⟨by simpa using q1, q2⟩

def Am.isIo : Am → Bool
  | .io _ => true
  | .mo _ => false
/-- io: the one changed argument's place and slot -/
def ioOk (ms : List Am) (pins : List Nat) : Option (Nat × Nat) → Bool
  | none => plain ms
  | some (p, k) => (match ms[p]? with | some (.io k') => k' == k | _ => false) && plain (ms.eraseIdx p) && !(deps ms).contains k && !pins.contains k
theorem plain_all : ∀ {ms : List Am}, plain ms = true → ∀ (j k : Nat), ms[j]? ≠ some (.io k)
  | [], _, j, k => by simp
  | .mo m :: ms, h, 0, k => by simp
  | .mo m :: ms, h, j + 1, k => by simpa using plain_all (ms := ms) (by simpa [plain] using h) j k
  | .io _ :: ms, h, _, _ => by simp [plain] at h
theorem plain_get : ∀ {ms : List Am} {p : Nat}, plain (ms.eraseIdx p) = true → ∀ (j k : Nat), ms[j]? = some (.io k) → j = p := fun {ms p} h j k e => by
  refine Decidable.byContradiction fun hjp => ?_
  by_cases hl : j < p
  · exact plain_all h j k (by rw [List.getElem?_eraseIdx_of_lt hl]; exact e)
  · refine plain_all h (j - 1) k ?_
    rw [List.getElem?_eraseIdx_of_ge (by omega)]
    rw [← e]
    congr 1
    omega
def fCall (vc : List W → CRes) (io : Option (Nat × Nat)) (g : Sl → Res (List W)) : Sl → Res W := fun S => (g S).bind fun ws S1 => match io with
  | none => match vc ws with
    | .ok w _ => .ok w S1
    | .exc x _ => .exc x S1
    | .err => .err
  | some (p, k) => match S1[k]? with
    | some (some wk) => match vc (ws.set p wk) with
      | .ok w wio => .ok w (S1.set k (some wio))
      | .exc x wio => .exc x (S1.set k (some wio))
      | .err => .err
    | _ => .err
def resMo (own : Bool) (ms : List Am) (io : Option (Nat × Nat)) : Mo := if own then .O else .B (deps ms ++ (match io with | some (_, k) => [k] | none => []))
def killIo : Option (Nat × Nat) → Gam → Gam
  | none, G => G
  | some (_, k), G => killG k G
section
variable {X : Cx} {C : Ctx} {G G1 : Gam} {pins : List Nat} {e : Expr} {es : List Expr} {ms : List Am} {g : Sl → Res (List W)}
theorem map_w_plain {cs : Cells} {L : Nat} {as : List Cell} {ms : List Am} {ws : List W} (l1 : as.length = ms.length) (l2 : ws.length = ms.length) (h : ∀ (j : Nat) (c : Cell), as[j]? = some c → ws[j]? = some c.w) : as.map Cell.w = ws := by
  refine List.ext_getElem? fun j => ?_
  rw [List.getElem?_map]
  cases q : as[j]? with
  | none =>
    rw [List.getElem?_eq_none_iff] at q
    rw [List.getElem?_eq_none (by omega)]
    rfl
  | some c => rw [h j c q]; rfl
/-- a call of a def of ours, given its rule at the values -/
theorem je_call {t : TE} {own : Bool} {np : Nat} {vc : List W → CRes} {io : Option (Nat × Nat)} (he : PE X e t) (h : ∀ σ H Q, semA C G pins ms G1 g σ H (fun vs H1 => specOf C.K C.xr (io.map (·.1)) own np vc vs H1 Q (fun cls d H' => C.Wh cls d σ H')) → t σ H Q)
    (hio : ioOk ms pins io = true) (hnp : ms.length = np) (hx : gle C.Gx (killIo io G1) = true) (hO : ∀ p k, io = some (p, k) → G1[k]? = some (some .O)) :
    JE X C G pins e (resMo own ms io) (killIo io G1) (fCall vc io g) := by
  refine PE.imp he fun σ H Q ⟨cs, S, R0, hG, hP, o⟩ => h σ H Q ⟨cs, S, R0, hG, hP, ?_⟩
  unfold fCall at o
  cases hg : g S with
  | err => rw [hg] at o; exact o
  | exc x S' => rw [hg] at o; exact o
  | ok ws S1 =>
    rw [hg] at o
    intro vs H1 cs1 R1 l1 a1 T1 g1
    have ln := R0.ln
    have lt : (cs1.take cs.length).length = cs.length := by rw [List.length_take]; omega
    cases io with
    | none =>
      have o : Out C cs.length cs σ (resMo own ms none) G1 Q (match vc ws with | .ok w _ => .ok w S1 | .exc x _ => .exc x S1 | .err => .err) := o
      have hp : plain ms = true := hio
      -- any owned slot will do: there is none that is changed
      obtain ⟨as, e1, e2, e3, e4⟩ : ∃ as : List Cell, as.map Cell.v = vs ∧ as.length = ms.length ∧ ws.length = ms.length ∧ ∀ (j : Nat) (c : Cell), as[j]? = some c → (ms[j]? = some (.mo c.m) ∧ cs1[cs.length + j]? = some (some c) ∧ ws[j]? = some c.w) := by
        have : ∀ {L : Nat} {ms : List Am} {vs : List V} {ws : List W}, plain ms = true → ArgsAt cs1 σ L ms vs ws → ∃ as : List Cell, as.map Cell.v = vs ∧ as.length = ms.length ∧ ws.length = ms.length ∧ ∀ (j : Nat) (c : Cell), as[j]? = some c → (ms[j]? = some (.mo c.m) ∧ cs1[L + j]? = some (some c) ∧ ws[j]? = some c.w) := by
          intro L ms
          induction ms generalizing L with
          | nil =>
            intro vs ws _ hA
            cases vs <;> cases ws <;> first | exact ⟨[], rfl, rfl, rfl, fun j c e => by simp at e⟩ | exact hA.elim
          | cons m ms ih =>
            intro vs ws hp hA
            cases m with
            | io k => simp [plain] at hp
            | mo m =>
              cases vs with
              | nil => cases ws <;> exact hA.elim
              | cons v vs =>
                cases ws with
                | nil => exact hA.elim
                | cons w ws =>
                  obtain ⟨⟨fp, hc⟩, hA⟩ := hA
                  obtain ⟨as, h1, h2, h3, h4⟩ := ih (by simpa [plain] using hp) hA
                  refine ⟨⟨v, w, m, fp⟩ :: as, by simp [h1], by simp [h2], by simp [h3], fun j c e => ?_⟩
                  cases j with
                  | zero => simp at e; subst e; exact ⟨rfl, hc, rfl⟩
                  | succ j =>
                    obtain ⟨q1, q2, q3⟩ := h4 j c (by simpa using e)
                    exact ⟨by simpa using q1, by rw [← q2]; congr 1; omega, by simpa using q3⟩
        exact this hp a1
      have ew : as.map Cell.w = ws := map_w_plain (cs := cs1) (L := 0) e2 e3 fun j c q => (e4 j c q).2.2
      have mem : ∀ c ∈ as, ∃ j : Nat, cs.length ≤ j ∧ cs1[j]? = some (some c) ∧ ∀ x ∈ c.m.dep, x ∈ deps ms := fun c hc => by
        obtain ⟨j, hj⟩ := List.getElem?_of_mem hc
        obtain ⟨q1, q2, _⟩ := e4 j c hj
        exact ⟨cs.length + j, by omega, q2, fun x hx => List.mem_flatMap.mpr ⟨_, List.mem_of_getElem? q1, hx⟩⟩
      refine ⟨as, e1.symm, by omega, fun c hc => ?_, (fun p z => by cases z), ?_⟩
      · obtain ⟨j, _, q, _⟩ := mem c hc
        exact R1.view j c q
      rw [ew]
      cases hv : vc ws with
      | err => rw [hv] at o; exact o.elim
      | exc x wio =>
        rw [hv] at o
        intro cls d H' ce hxr
        have sm : Same H1 H' := fun a ob q => ce.pres a ob q fun p c z => by cases z
        have R2 := (R1.take ln (by omega)).same sm
        refine o cls d H' _ R2 (by omega) (fun i hi hlt => ?_) ?_ hxr
        · rw [List.getElem?_take_of_lt hlt]; exact T1 i hi hlt
        · have z := (g1.take (c := none) ln).gle hx
          refine ⟨z.1, fun i m q => ?_⟩
          obtain ⟨c, q1, q2⟩ := z.2 i m q
          have hi : i < C.n := Nat.lt_of_lt_of_le (List.getElem?_eq_some_iff.mp q).1 z.1
          rw [List.getElem?_append_left (by omega)] at q1
          exact ⟨c, q1, q2⟩
      | ok w wio =>
        rw [hv] at o
        intro v fp H' ce hvw hfp hown _
        have sm : Same H1 H' := fun a ob q => ce.pres a ob q fun p c z => by cases z
        have R2 := R1.repl (c := ⟨v, w, resMo own ms none, fp⟩) ln (by omega) sm hvw (fun x hx => ?_) (fun hm => ?_) (fun ds hm a ha => ?_)
        · refine o v fp H' _ R2 (by rw [List.length_append, lt]; rfl) (by rw [List.getElem?_append_right (by omega), lt]; simp) (fun i hi hlt => ?_) (g1.take ln)
          rw [List.getElem?_append_left (by omega), List.getElem?_take_of_lt hlt]
          exact T1 i hi hlt
        · unfold resMo at hx
          cases own with
          | true => cases hx
          | false => exact deps_lt R1 a1 x (by simpa [Mo.dep] using hx)
        · have hown' : own = true := by cases own with | true => rfl | false => cases hm
          obtain ⟨n1, n2⟩ := hown hown'
          refine ⟨n1, fun a ha => ⟨(n2 a ha).1, .inl ?_⟩⟩
          rcases (n2 a ha).2 with z | ⟨p, c, z, _⟩
          · exact z
          · cases z
        · rcases hfp a ha with z | ⟨c, hc, z⟩
          · exact .inl z
          · obtain ⟨j, q1, q2, q3⟩ := mem c hc
            refine .inr ⟨j, c, q1, q2, z, fun x hx => ?_⟩
            have : (Mo.B (deps ms ++ [])) = .B ds := by
              have hm : resMo own ms none = .B ds := hm
              unfold resMo at hm
              cases own with | true => cases hm | false => exact hm
            cases this
            simpa using q3 x hx
    | some pk =>
      obtain ⟨p, k⟩ := pk
      obtain ⟨⟨⟨hio1, hio2⟩, hio3⟩, hio4⟩ : ((((match ms[p]? with | some (.io k') => k' == k | _ => false) = true) ∧ plain (ms.eraseIdx p) = true) ∧ k ∉ deps ms) ∧ k ∉ pins := by
        have := hio
        unfold ioOk at this
        simp only [Bool.and_eq_true, Bool.not_eq_true', List.contains_eq_mem, decide_eq_false_iff_not] at this
        exact this
      have hms : ms[p]? = some (.io k) := by
        revert hio1
        cases q : ms[p]? with
        | none => simp
        | some m => cases m with
          | mo _ => simp
          | io k' => simp
      have hGk := hO p k rfl
      obtain ⟨ck, hck, hcm⟩ := g1.2 k _ hGk
      have kn : k < C.n := Nat.lt_of_lt_of_le (List.getElem?_eq_some_iff.mp hGk).1 g1.1
      obtain ⟨hσ, hS⟩ := R1.slot k ck kn hck
      obtain ⟨as, e1, e2, e3, e4⟩ := argsAt_cells R1 hσ a1 fun j k' e => by
        have := plain_get hio2 j k' e
        subst this
        rw [hms] at e; cases e; rfl
      have o : Out C cs.length cs σ (resMo own ms (some (p, k))) (killG k G1) Q (match S1[k]? with
        | some (some wk) => match vc (ws.set p wk) with
          | .ok w wio => .ok w (S1.set k (some wio))
          | .exc x wio => .exc x (S1.set k (some wio))
          | .err => .err
        | _ => .err) := o
      rw [hS] at o
      have pl : p < ms.length := (List.getElem?_eq_some_iff.mp hms).1
      obtain ⟨cp, hcp⟩ : ∃ c, as[p]? = some c := ⟨as[p]'(by omega), List.getElem?_eq_getElem (by omega)⟩
      have ecp : cp = ck := by
        rcases e4 p cp hcp with ⟨q, _⟩ | ⟨_, q⟩
        · rw [hms] at q; cases q
        · exact q
      subst ecp
      have ew : as.map Cell.w = ws.set p cp.w := by
        refine List.ext_getElem? fun j => ?_
        rw [List.getElem?_map]
        by_cases hj : j = p
        · subst hj
          rw [hcp, List.getElem?_set_self (by omega)]
          rfl
        · rw [List.getElem?_set_ne (Ne.symm hj)]
          cases q : as[j]? with
          | none =>
            rw [List.getElem?_eq_none_iff] at q
            rw [List.getElem?_eq_none (by omega)]
            rfl
          | some c =>
            rcases e4 j c q with ⟨_, _, z⟩ | ⟨z, _⟩
            · rw [z]; rfl
            · exact absurd (plain_get hio2 j k z) hj
      have other : ∀ (j : Nat) (d : Cell), j ≠ p → as[j]? = some d → cs1[cs.length + j]? = some (some d) ∧ ∀ x ∈ d.m.dep, x ∈ deps ms := fun j d hj q => by
        rcases e4 j d q with ⟨z, q2, _⟩ | ⟨z, _⟩
        · exact ⟨q2, fun x hx => List.mem_flatMap.mpr ⟨_, List.mem_of_getElem? z, hx⟩⟩
        · exact absurd (plain_get hio2 j k z) hj
      have ndk := R1.nd k cp hck hcm
      refine ⟨as, e1.symm, by omega, fun c hc => ?_, fun p' z => ?_, ?_⟩
      · obtain ⟨j, hj⟩ := List.getElem?_of_mem hc
        rcases e4 j c hj with ⟨_, q, _⟩ | ⟨_, rfl⟩
        · exact R1.view _ c q
        · exact R1.view _ _ hck
      · cases z
        refine ⟨cp, hcp, ndk.1, fun a ha => (ndk.2 a ha).1, fun j d hj q a ha hb => ?_⟩
        obtain ⟨q1, q2⟩ := other j d hj q
        rcases R1.dis k (cs.length + j) cp d (by omega) hck q1 hcm with z | z
        · exact hio3 (q2 k z)
        · exact z a ha hb
      rw [ew]
      have pinsOk : ∀ (j : Nat) (d : Cell), C.n ≤ j → j < cs.length → cs1[j]? = some (some d) → k ∉ d.m.dep := fun j d h1 h2 q hk => by
        rw [T1 j h1 h2] at q
        exact hio4 (hP j d h1 q k hk)
      have presK : ∀ {wio : W} {H' : Hp}, CallEnd C.K ((some (p, k)).map (·.1)) as wio H1 H' → ∀ a o, H1 a = some o → a ∉ cp.fp → H' a = some o := fun {wio H'} ce a o q hn => ce.pres a o q fun p' c z hc => by
        cases z
        rw [hcp] at hc; cases hc
        exact hn
      cases hv : vc (ws.set p cp.w) with
      | err =>
        have : (Out C cs.length cs σ (resMo own ms (some (p, k))) (killG k G1) Q (match vc (ws.set p cp.w) with
          | .ok w wio => .ok w (S1.set k (some wio))
          | .exc x wio => .exc x (S1.set k (some wio))
          | .err => .err)) := o
        rw [hv] at this; exact this.elim
      | exc x wio =>
        have o : (Out C cs.length cs σ (resMo own ms (some (p, k))) (killG k G1) Q (match vc (ws.set p cp.w) with
          | .ok w wio => .ok w (S1.set k (some wio))
          | .exc x wio => .exc x (S1.set k (some wio))
          | .err => .err)) := o
        rw [hv] at o
        intro cls d H' ce hxr
        obtain ⟨fp', v1, v2, v3⟩ := ce.fin p cp rfl hcp
        have R2 := R1.eff (c := cp) (c' := ⟨cp.v, wio, .O, fp'⟩) (r := ⟨.non, .non, .O, []⟩) ln (by omega) kn hck hcm (presK ce) ce.alive v1 rfl rfl v2 (fun a ha => ⟨(v3 a ha).1, (v3 a ha).2.imp id .inl⟩)
          (by simp [Vw]) (fun x hx => by cases hx) (fun _ => ⟨List.nodup_nil, fun a ha => by cases ha⟩) (fun ds z => by cases z) pinsOk
        have hg2 := (g1.kill (c' := ⟨cp.v, wio, .O, fp'⟩) ln hck hcm rfl kn (by omega) (x := [some ⟨.non, .non, .O, []⟩])).gle hx
        have l2 : ((killk k (cs1.take cs.length)).set k (some ⟨cp.v, wio, .O, fp'⟩)).length = cs.length := by rw [List.length_set, killk_length, lt]
        refine o cls d H' _ R2 (by rw [List.length_append]; omega) (fun i hi hlt => ?_) hg2 hxr
        rw [List.getElem?_append_left (by omega), List.getElem?_set_ne (by omega)]
        rw [← T1 i hi hlt]
        cases q : cs1[i]? with
        | none => 
          rw [List.getElem?_eq_none_iff] at q
          omega
        | some y =>
          cases y with
          | none =>
            unfold killk
            rw [List.getElem?_map, List.getElem?_take_of_lt hlt, q]
            rfl
          | some d => exact killk_of (by rw [List.getElem?_take_of_lt hlt]; exact q) (pinsOk i d hi hlt q)
      | ok w wio =>
        have o : (Out C cs.length cs σ (resMo own ms (some (p, k))) (killG k G1) Q (match vc (ws.set p cp.w) with
          | .ok w wio => .ok w (S1.set k (some wio))
          | .exc x wio => .exc x (S1.set k (some wio))
          | .err => .err)) := o
        rw [hv] at o
        intro v fp H' ce hvw hfp hown hfin
        obtain ⟨fp', v1, v2, v3, v4⟩ := hfin p cp rfl hcp
        have R2 := R1.eff (c := cp) (c' := ⟨cp.v, wio, .O, fp'⟩) (r := ⟨v, w, resMo own ms (some (p, k)), fp⟩) ln (by omega) kn hck hcm (presK ce) ce.alive v1 rfl rfl v2 (fun a ha => ⟨(v3 a ha).1, (v3 a ha).2.imp id .inl⟩)
          hvw (fun x hx => ?_) (fun hm => ?_) (fun ds hm => ?_) pinsOk
        · have l2 : ((killk k (cs1.take cs.length)).set k (some ⟨cp.v, wio, .O, fp'⟩)).length = cs.length := by rw [List.length_set, killk_length, lt]
          refine o v fp H' _ R2 (by rw [List.length_append, l2]; rfl) (by rw [List.getElem?_append_right (by omega), l2]; simp) (fun i hi hlt => ?_) (g1.kill (c' := ⟨cp.v, wio, .O, fp'⟩) ln hck hcm rfl kn (by omega))
          rw [List.getElem?_append_left (by omega), List.getElem?_set_ne (by omega)]
          rw [← T1 i hi hlt]
          cases q : cs1[i]? with
          | none => 
            rw [List.getElem?_eq_none_iff] at q
            omega
          | some y =>
            cases y with
            | none =>
              unfold killk
              rw [List.getElem?_map, List.getElem?_take_of_lt hlt, q]
              rfl
            | some d => exact killk_of (by rw [List.getElem?_take_of_lt hlt]; exact q) (pinsOk i d hi hlt q)
        · unfold resMo at hx
          cases own with
          | true => cases hx
          | false =>
            rcases List.mem_append.mp (show x ∈ deps ms ++ [k] from hx) with hx | hx
            · exact deps_lt R1 a1 x hx
            · rw [List.mem_singleton.mp hx]; exact kn
        · have hown' : own = true := by cases own with | true => rfl | false => cases hm
          obtain ⟨n1, n2⟩ := hown hown'
          refine ⟨n1, fun a ha => ⟨(n2 a ha).1, ?_, v4 hown' a ha⟩⟩
          rcases (n2 a ha).2 with z | ⟨p', c, z, hc, hac⟩
          · exact .inl z
          · cases z
            rw [hcp] at hc; cases hc
            exact .inr (.inl hac)
        · have : (Mo.B (deps ms ++ [k])) = .B ds := by
            have hm : resMo own ms (some (p, k)) = .B ds := hm
            unfold resMo at hm
            cases own with | true => cases hm | false => exact hm
          cases this
          refine ⟨by simp, fun a ha => ?_⟩
          rcases hfp a ha with z | ⟨c, hc, z⟩
          · exact .inl z
          · obtain ⟨j, hj⟩ := List.getElem?_of_mem hc
            by_cases hjp : j = p
            · subst hjp
              rw [hcp] at hj; cases hj
              exact .inr (.inl z)
            · obtain ⟨q1, q2⟩ := other j c hjp hj
              exact .inr (.inr ⟨cs.length + j, c, by omega, q1, z, fun x hx => List.mem_append_left _ (q2 x hx)⟩)
end
end Vm

namespace Vm
open PySem PySem.Spec PyProof.Rows L2

/-! ## operations on values -/
def R2f (r : R2) : RR := fun vs H Q => ∃ x y, vs = [x, y] ∧ r x y H Q
def R1f (r : V → Hp → VK → Prop) : RR := fun vs H Q => ∃ x, vs = [x] ∧ r x H Q

section
variable {K : Kz} {H : Hp}
theorem vws1 {a : W} {vs : List V} {fps : List Addr} (h : Vws K H [a] vs fps) : ∃ x, vs = [x] ∧ Vw K H a x fps := by
  simp only [Vws] at h
  obtain ⟨v, vs', f1, f2, rfl, rfl, r, rfl, rfl⟩ := h
  exact ⟨v, rfl, by simpa using r⟩
theorem vws2 {a b : W} {vs : List V} {fps : List Addr} (h : Vws K H [a, b] vs fps) : ∃ x y f1 f2, vs = [x, y] ∧ fps = f1 ++ f2 ∧ Vw K H a x f1 ∧ Vw K H b y f2 := by
  simp only [Vws] at h
  obtain ⟨v, vs', f1, f2, rfl, rfl, r, v2, vs2, f3, f4, rfl, rfl, r2, rfl, rfl⟩ := h
  exact ⟨v, v2, f1, f3, rfl, by simp, r, r2⟩
theorem vws3 {a b c : W} {vs : List V} {fps : List Addr} (h : Vws K H [a, b, c] vs fps) : ∃ x y z f1 f2 f3, vs = [x, y, z] ∧ fps = f1 ++ f2 ++ f3 ∧ Vw K H a x f1 ∧ Vw K H b y f2 ∧ Vw K H c z f3 := by
  simp only [Vws] at h
  obtain ⟨v, vs', f1, f2, rfl, rfl, r, v2, vs2, f3, f4, rfl, rfl, r2, v3, vs3, f5, f6, rfl, rfl, r3, rfl, rfl⟩ := h
  exact ⟨v, v2, v3, f1, f3, f5, rfl, by simp, r, r2, r3⟩
theorem vwInt {i : Int} {v : V} {fp : List Addr} (h : Vw K H (.int i) v fp) : v = .int i ∧ fp = [] := by simpa only [Vw] using h
theorem vwBl {i : Bool} {v : V} {fp : List Addr} (h : Vw K H (.bl i) v fp) : v = .bl i ∧ fp = [] := by simpa only [Vw] using h
theorem vwStr {i : Str} {v : V} {fp : List Addr} (h : Vw K H (.str i) v fp) : v = .str i ∧ fp = [] := by simpa only [Vw] using h
theorem vwNon {v : V} {fp : List Addr} (h : Vw K H .non v fp) : v = .non ∧ fp = [] := by simpa only [Vw] using h
theorem vwLst {ws : List W} {v : V} {fp : List Addr} (h : Vw K H (.lst ws) v fp) : ∃ a vs fps, v = .ref a ∧ Vws K H ws vs fps ∧ H a = some (.lst vs) ∧ fp = a :: fps := by simpa only [Vw] using h
theorem vwTup {ws : List W} {v : V} {fp : List Addr} (h : Vw K H (.tup ws) v fp) : ∃ a vs, v = .ref a ∧ SqT K H a vs ∧ Vws K H ws vs fp := by simpa only [Vw] using h
theorem vwScr {ws : List W} {v : V} {fp : List Addr} (h : Vw K H (.scr ws) v fp) : ∃ a vs, v = .ref a ∧ Vws K H ws vs [] ∧ RL K H a vs ∧ fp = [] := by simpa only [Vw] using h
theorem mkInt {i : Int} : Vw K H (.int i) (.int i) [] := by simp [Vw]
theorem mkBl {i : Bool} : Vw K H (.bl i) (.bl i) [] := by simp [Vw]
theorem mkStr' {i : Str} : Vw K H (.str i) (.str i) [] := by simp [Vw]
theorem mkNon : Vw K H .non .non [] := by simp [Vw]

/-- a list of ints -/
def ints? : List W → Option (List Int)
  | [] => some []
  | .int i :: ws => (ints? ws).map (i :: ·)
  | _ :: _ => none
theorem ints?_eq : ∀ {ws : List W} {ns : List Int}, ints? ws = some ns → ws = ns.map W.int
  | [], ns, h => by simp [ints?] at h; subst h; rfl
  | .int i :: ws, ns, h => by
    simp only [ints?, Option.map_eq_some_iff] at h
    obtain ⟨m, h1, rfl⟩ := h
    rw [ints?_eq h1]; rfl
  | .non :: _, _, h | .bl _ :: _, _, h | .str _ :: _, _, h | .tup _ :: _, _, h | .lst _ :: _, _, h | .scr _ :: _, _, h | .dct _ _ :: _, _, h | .ins _ _ _ :: _, _, h => by simp [ints?] at h
@[simp] theorem ints?_ints (ns : List Int) : ints? (ns.map W.int) = some ns := by
  induction ns with
  | nil => rfl
  | cons n ns ih => simp [ints?, ih]
theorem vwsInts : ∀ {ns : List Int} {vs : List V} {fp : List Addr}, Vws K H (ns.map W.int) vs fp → vs = ns.map V.int ∧ fp = []
  | [], vs, fp, h => by simpa [Vws] using h
  | n :: ns, vs, fp, h => by
    simp only [List.map_cons, Vws] at h
    obtain ⟨v, vs', f1, f2, rfl, rfl, r1, r2⟩ := h
    obtain ⟨rfl, rfl⟩ := vwInt r1
    obtain ⟨rfl, rfl⟩ := vwsInts r2
    exact ⟨rfl, rfl⟩
theorem mkInts : ∀ {ns : List Int}, Vws K H (ns.map W.int) (ns.map V.int) []
  | [] => by simp [Vws]
  | n :: ns => by
    simp only [List.map_cons, Vws]
    exact ⟨_, _, [], [], rfl, rfl, mkInt, mkInts⟩
/-- a list of truth values -/
def bls? : List W → Option (List Bool)
  | [] => some []
  | .bl i :: ws => (bls? ws).map (i :: ·)
  | _ :: _ => none
theorem bls?_eq : ∀ {ws : List W} {ns : List Bool}, bls? ws = some ns → ws = ns.map W.bl
  | [], ns, h => by simp [bls?] at h; subst h; rfl
  | .bl i :: ws, ns, h => by
    simp only [bls?, Option.map_eq_some_iff] at h
    obtain ⟨m, h1, rfl⟩ := h
    rw [bls?_eq h1]; rfl
  | .non :: _, _, h | .int _ :: _, _, h | .str _ :: _, _, h | .tup _ :: _, _, h | .lst _ :: _, _, h | .scr _ :: _, _, h | .dct _ _ :: _, _, h | .ins _ _ _ :: _, _, h => by simp [bls?] at h
@[simp] theorem bls?_bls (ns : List Bool) : bls? (ns.map W.bl) = some ns := by
  induction ns with
  | nil => rfl
  | cons n ns ih => simp [bls?, ih]
theorem vwsBls : ∀ {ns : List Bool} {vs : List V} {fp : List Addr}, Vws K H (ns.map W.bl) vs fp → vs = ns.map V.bl ∧ fp = []
  | [], vs, fp, h => by simpa [Vws] using h
  | n :: ns, vs, fp, h => by
    simp only [List.map_cons, Vws] at h
    obtain ⟨v, vs', f1, f2, rfl, rfl, r1, r2⟩ := h
    obtain ⟨rfl, rfl⟩ := vwBl r1
    obtain ⟨rfl, rfl⟩ := vwsBls r2
    exact ⟨rfl, rfl⟩
theorem Vws.append : ∀ {ws ws' : List W} {vs vs' : List V} {f f' : List Addr}, Vws K H ws vs f → Vws K H ws' vs' f' → Vws K H (ws ++ ws') (vs ++ vs') (f ++ f')
  | [], ws', vs, vs', f, f', h, h' => by
    simp only [Vws] at h
    obtain ⟨rfl, rfl⟩ := h
    simpa using h'
  | w :: ws, ws', vs, vs', f, f', h, h' => by
    simp only [Vws] at h
    obtain ⟨v, vs1, f1, f2, rfl, rfl, r1, r2⟩ := h
    simp only [List.cons_append, Vws]
    exact ⟨v, _, f1, f2 ++ f', rfl, by simp, r1, Vws.append r2 h'⟩
theorem Vws.get : ∀ {ws : List W} {vs : List V} {fp : List Addr} {i : Nat} {w : W}, Vws K H ws vs fp → ws[i]? = some w → ∃ v f, vs[i]? = some v ∧ Vw K H w v f ∧ ∀ a ∈ f, a ∈ fp
  | [], _, _, _, _, _, h => by simp at h
  | w :: ws, vs, fp, 0, x, h, e => by
    simp only [Vws] at h
    obtain ⟨v, vs1, f1, f2, rfl, rfl, r1, r2⟩ := h
    simp at e; subst e
    exact ⟨v, f1, rfl, r1, fun a ha => List.mem_append_left _ ha⟩
  | w :: ws, vs, fp, i + 1, x, h, e => by
    simp only [Vws] at h
    obtain ⟨v, vs1, f1, f2, rfl, rfl, r1, r2⟩ := h
    obtain ⟨u, f, q1, q2, q3⟩ := Vws.get (i := i) r2 (by simpa using e)
    exact ⟨u, f, by simpa using q1, q2, fun a ha => List.mem_append_right _ (q3 a ha)⟩
/-- pure items may be taken at will -/
theorem Vws.pureGet : ∀ {ws : List W} {vs : List V} {fp : List Addr}, Vws K H ws vs fp → W.pure.all ws = true → ∀ (i : Nat) (w : W) (v : V), ws[i]? = some w → vs[i]? = some v → Vw K H w v [] ∧ w.pure = true
  | [], _, _, _, _, _, _, _, h, _ => by simp at h
  | w :: ws, vs, fp, h, p, i, x, y, e, e' => by
    simp only [Vws] at h
    obtain ⟨v, vs1, f1, f2, rfl, rfl, r1, r2⟩ := h
    simp only [W.pure.all, Bool.and_eq_true] at p
    cases i with
    | zero =>
      simp at e e'; subst e; subst e'
      have := Vw.of_pure p.1 r1
      subst this
      exact ⟨r1, p.1⟩
    | succ i => exact Vws.pureGet r2 p.2 i x y (by simpa using e) (by simpa using e')
theorem vws_of_get : ∀ {ws : List W} {vs : List V}, ws.length = vs.length → (∀ (i : Nat) (w : W) (v : V), ws[i]? = some w → vs[i]? = some v → Vw K H w v []) → Vws K H ws vs []
  | [], [], _, _ => by simp [Vws]
  | w :: ws, v :: vs, hl, h => by
    simp only [Vws]
    exact ⟨v, vs, [], [], rfl, rfl, h 0 w v rfl rfl, vws_of_get (by simpa using hl) fun i x y e e' => h (i + 1) x y (by simpa using e) (by simpa using e')⟩
  | [], _ :: _, hl, _ => by simp at hl
  | _ :: _, [], hl, _ => by simp at hl
end

/-! ### ints -/
def semI2 (c : Int → Int → Bool) (f : Int → Int → W) : List W → Option W
  | [.int i, .int j] => if c i j = true then some (f i j) else none
  | _ => none
theorem loc_i2 {K : Kz} {Cn : Int → Int → Prop} {c : Int → Int → Bool} {fv : Int → Int → V} {fw : Int → Int → W} (hC : ∀ i j, c i j = true → Cn i j) (hvw : ∀ (H : Hp) i j, Vw K H (fw i j) (fv i j) []) : LocF K (R2f (rI Cn fv)) (semI2 c fw) := by
  intro vs ws fps H Q w hv hs k
  unfold semI2 at hs
  split at hs
  · obtain ⟨x, y, f1, f2, rfl, rfl, r1, r2⟩ := vws2 hv
    obtain ⟨rfl, rfl⟩ := vwInt r1
    obtain ⟨rfl, rfl⟩ := vwInt r2
    split at hs
    · cases hs
      exact ⟨_, _, rfl, _, _, rfl, rfl, hC _ _ (by assumption), k _ H [] (Same.refl H) (hvw ..) List.nodup_nil fun a ha => by cases ha⟩
    · cases hs
  · cases hs
theorem loc_i20 {K : Kz} {fv : Int → Int → V} {fw : Int → Int → W} (hvw : ∀ (H : Hp) i j, Vw K H (fw i j) (fv i j) []) : LocF K (R2f (rI0 fv)) (semI2 (fun _ _ => true) fw) := by
  intro vs ws fps H Q w hv hs k
  obtain ⟨x, y, e, i, j, h1, h2, _, h3⟩ := loc_i2 (Cn := fun _ _ => True) (c := fun _ _ => true) (fv := fv) (fw := fw) (fun _ _ _ => trivial) hvw vs ws fps H Q w hv hs k
  exact ⟨x, y, e, i, j, h1, h2, h3⟩
def semI1 (f : Int → W) : List W → Option W
  | [.int i] => some (f i)
  | _ => none
theorem loc_i1 {K : Kz} {fv : Int → V} {fw : Int → W} (hvw : ∀ (H : Hp) i, Vw K H (fw i) (fv i) []) : LocF K (R1f (rU fv)) (semI1 fw) := by
  intro vs ws fps H Q w hv hs k
  unfold semI1 at hs
  split at hs
  · obtain ⟨x, rfl, r1⟩ := vws1 hv
    obtain ⟨rfl, rfl⟩ := vwInt r1
    cases hs
    exact ⟨_, rfl, _, rfl, k _ H [] (Same.refl H) (hvw ..) List.nodup_nil fun a ha => by cases ha⟩
  · cases hs
def mulOk (i j : Int) : Bool := !(decide (Builtin.Int.intBits i > shortFactorBits) && decide (Builtin.Int.intBits j > shortFactorBits) && Builtin.Int.intTooBig (Builtin.Int.intBits i + Builtin.Int.intBits j))
def powOk (i j : Int) : Bool := decide (0 ≤ j) && decide ((Builtin.Int.intBits i : Int) * j ≤ 2 ^ 27)
def fdivOk (j : Int) : Bool := decide (j ≠ 0) && decide (j.natAbs.log2 < 9000)
section
variable {X : Cx}
theorem op_mulX : OpR X (binaryOp .Mult) (rI (fun i j => mulOk i j = true) fun i j => .int (i * j)) := opI fun i j _ _ _ _ _ hc q => mul_int q (by
  unfold mulOk at hc
  unfold IntMulOk
  intro z
  rw [z] at hc
  cases hc)
theorem op_powX : OpR X (binaryOp .Pow) (rI (fun i j => powOk i j = true) fun i j => .int (i ^ j.toNat)) := opI fun i j _ _ _ _ _ hc q => by
  unfold powOk at hc
  rw [Bool.and_eq_true] at hc
  exact pow_int (of_decide_eq_true hc.1) (of_decide_eq_true hc.2) q
theorem op_fdivX : OpR X (binaryOp .FloorDiv) (rI (fun _ j => fdivOk j = true) fun i j => .int (i.fdiv j)) := opI fun i j _ _ _ _ _ hc q => by
  unfold fdivOk at hc
  rw [Bool.and_eq_true] at hc
  exact floordiv_int (of_decide_eq_true hc.1) q (.inl (PyProof.noPylong_of_log2 (of_decide_eq_true hc.2)))
end

/-! ### == of data -/
mutual
def toD : W → Option PyData
  | .non => some .none
  | .bl b => some (.bool b)
  | .int i => some (.int i)
  | .str x => some (.str x)
  | .tup ws => (toDs ws).map .tuple
  | .lst ws => (toDs ws).map .list
  | .scr ws => (toDs ws).map .list
  | .dct _ _ | .ins _ _ _ => none
def toDs : List W → Option (List PyData)
  | [] => some []
  | w :: ws => (toD w).bind fun d => (toDs ws).map (d :: ·)
end
mutual
theorem dp_of {K : Kz} {H : Hp} : ∀ {w : W} {v : V} {fp : List Addr} {d : PyData}, Vw K H w v fp → toD w = some d → Dp K H v d
  | .non, v, fp, d, h, e => by obtain ⟨rfl, _⟩ := vwNon h; simp [toD] at e; subst e; exact .non
  | .bl b, v, fp, d, h, e => by obtain ⟨rfl, _⟩ := vwBl h; simp [toD] at e; subst e; exact .bl _
  | .int b, v, fp, d, h, e => by obtain ⟨rfl, _⟩ := vwInt h; simp [toD] at e; subst e; exact .int _
  | .str b, v, fp, d, h, e => by obtain ⟨rfl, _⟩ := vwStr h; simp [toD] at e; subst e; exact .str _
  | .tup ws, v, fp, d, h, e => by
    obtain ⟨a, vs, rfl, s, r⟩ := vwTup h
    simp only [toD, Option.map_eq_some_iff] at e
    obtain ⟨ds, e, rfl⟩ := e
    exact .tup s (dps_of r e)
  | .lst ws, v, fp, d, h, e => by
    obtain ⟨a, vs, fps, rfl, r, s, _⟩ := vwLst h
    simp only [toD, Option.map_eq_some_iff] at e
    obtain ⟨ds, e, rfl⟩ := e
    exact .lst (SqL.of s) (dps_of r e)
  | .scr ws, v, fp, d, h, e => by
    obtain ⟨a, vs, rfl, r, s, _⟩ := vwScr h
    simp only [toD, Option.map_eq_some_iff] at e
    obtain ⟨ds, e, rfl⟩ := e
    exact .lst s.sq (dps_of r e)
  | .dct _ _, _, _, _, _, e => by simp [toD] at e
  | .ins _ _ _, _, _, _, _, e => by simp [toD] at e
theorem dps_of {K : Kz} {H : Hp} : ∀ {ws : List W} {vs : List V} {fp : List Addr} {ds : List PyData}, Vws K H ws vs fp → toDs ws = some ds → DpAll K H vs ds
  | [], vs, fp, ds, h, e => by
    simp only [Vws] at h
    obtain ⟨rfl, _⟩ := h
    simp [toDs] at e; subst e; exact .nil
  | w :: ws, vs, fp, ds, h, e => by
    simp only [Vws] at h
    obtain ⟨v, vs1, f1, f2, rfl, rfl, r1, r2⟩ := h
    simp only [toDs, Option.bind_eq_some_iff, Option.map_eq_some_iff] at e
    obtain ⟨d, e1, ds', e2, rfl⟩ := e
    exact .cons (dp_of r1 e1) (dps_of r2 e2)
end
def semEq (neg : Bool) : List W → Option W
  | [a, b] => (toD a).bind fun d => (toD b).bind fun e => if SeqAt.shaped d && SeqAt.shaped e then some (.bl (if neg then !PyData.eqv d e else PyData.eqv d e)) else none
  | _ => none
theorem loc_eq {K : Kz} {neg : Bool} : LocF K (R2f (if neg then rNeD K else rEqD K)) (semEq neg) := by
  intro vs ws fps H Q w hv hs k
  unfold semEq at hs
  split at hs
  · obtain ⟨x, y, f1, f2, rfl, rfl, r1, r2⟩ := vws2 hv
    simp only [Option.bind_eq_some_iff] at hs
    obtain ⟨d, e1, e, e2, hs⟩ := hs
    split at hs
    · rename_i hsh
      rw [Bool.and_eq_true] at hsh
      cases hs
      have kk := k (.bl (if neg then !PyData.eqv d e else PyData.eqv d e)) H [] (Same.refl H) mkBl List.nodup_nil fun a ha => by cases ha
      cases neg with
      | true => exact ⟨_, _, rfl, d, e, dp_of r1 e1, dp_of r2 e2, hsh.1, hsh.2, kk⟩
      | false => exact ⟨_, _, rfl, d, e, dp_of r1 e1, dp_of r2 e2, hsh.1, hsh.2, kk⟩
    · cases hs
  · cases hs
def isNonB : W → Bool
  | .non => true
  | _ => false
theorem isNon_vw {K : Kz} {H : Hp} {w : W} {v : V} {fp : List Addr} (h : Vw K H w v fp) : decide (v = .non) = isNonB w := by
  cases w with
  | non => obtain ⟨rfl, _⟩ := vwNon h; rfl
  | bl b => obtain ⟨rfl, _⟩ := vwBl h; rfl
  | int b => obtain ⟨rfl, _⟩ := vwInt h; rfl
  | str b => obtain ⟨rfl, _⟩ := vwStr h; rfl
  | tup ws => obtain ⟨a, vs, rfl, _⟩ := vwTup h; rfl
  | lst ws => obtain ⟨a, vs, fps, rfl, _⟩ := vwLst h; rfl
  | scr ws => obtain ⟨a, vs, rfl, _⟩ := vwScr h; rfl
  | dct ks ws =>
    simp only [Vw] at h
    obtain ⟨a, vs, fps, rfl, _⟩ := h
    rfl
  | ins _ _ _ =>
    simp only [Vw] at h
    obtain ⟨a, vs, rfl, _⟩ := h
    rfl
def semIsN (neg : Bool) : List W → Option W
  | [a, .non] => some (.bl (if neg then !isNonB a else isNonB a))
  | _ => none
theorem loc_isN {K : Kz} {neg : Bool} : LocF K (R2f fun x y H Q => y = .non ∧ Q (.bl (if neg then !decide (x = .non) else decide (x = .non))) H) (semIsN neg) := by
  intro vs ws fps H Q w hv hs k
  unfold semIsN at hs
  split at hs
  · obtain ⟨x, y, f1, f2, rfl, rfl, r1, r2⟩ := vws2 hv
    obtain ⟨rfl, rfl⟩ := vwNon r2
    cases hs
    refine ⟨_, _, rfl, rfl, ?_⟩
    rw [isNon_vw r1]
    exact k _ H [] (Same.refl H) mkBl List.nodup_nil fun a ha => by cases ha
  · cases hs

/-! ### lists -/
def semLen : List W → Option W
  | [.lst ws] => some (.int ws.length)
  | [.scr ws] => some (.int ws.length)
  | [.tup ws] => some (.int ws.length)
  | [.str x] => if x.length ≤ sizeLine then some (.int x.length) else none
  | _ => none
theorem loc_len {K : Kz} : LocF K (fun xs H Q => ∃ x n, xs = [x] ∧ LenV K x H n ∧ Q (.int n) H) semLen := by
  intro vs ws fps H Q w hv hs k
  unfold semLen at hs
  have fin : ∀ {n : Nat}, w = .int n → Q (.int n) H := fun {n} e => by
    subst e
    exact k _ H [] (Same.refl H) mkInt List.nodup_nil fun a ha => by cases ha
  split at hs
  · obtain ⟨x, rfl, r⟩ := vws1 hv
    obtain ⟨a, vs, fps, rfl, r, s, _⟩ := vwLst r
    cases hs
    exact ⟨_, _, rfl, .inl ⟨_, SqL.of s, r.length.symm⟩, fin rfl⟩
  · obtain ⟨x, rfl, r⟩ := vws1 hv
    obtain ⟨a, vs, rfl, r, s, _⟩ := vwScr r
    cases hs
    exact ⟨_, _, rfl, .inl ⟨_, s.sq, r.length.symm⟩, fin rfl⟩
  · obtain ⟨x, rfl, r⟩ := vws1 hv
    obtain ⟨a, vs, rfl, s, r⟩ := vwTup r
    cases hs
    exact ⟨_, _, rfl, .inr ⟨_, s, r.length.symm⟩, fin rfl⟩
  · obtain ⟨x, rfl, r⟩ := vws1 hv
    obtain ⟨rfl, rfl⟩ := vwStr r
    split at hs
    · cases hs
      exact ⟨_, _, rfl, ⟨by assumption, rfl⟩, fin rfl⟩
    · cases hs
  · cases hs
end Vm

namespace Vm
open PySem PySem.Spec PyProof.Rows L2

/-! ## results that leave no temp: tests, ints -/
def OutV {α : Type} (C : Ctx) (L : Nat) (cs : Cells) (σ : St) (G' : Gam) (Q : α → Hp → Prop) : Res α → Prop
  | .ok b S' => ∀ (H' : Hp) (cs' : Cells), RelC C cs' S' σ H' → cs'.length = L → Tsame C.n L cs cs' → Has C.n G' cs' → Q b H'
  | .exc x S' => OutX C L cs σ x S'
  | .err => False
def semV {α : Type} (C : Ctx) (G : Gam) (pins : List Nat) (G' : Gam) (f : Sl → Res α) : St → Hp → (α → Hp → Prop) → Prop := fun σ H Q =>
  ∃ cs S, RelC C cs S σ H ∧ Has C.n G cs ∧ PinOk C.n pins cs ∧ OutV C cs.length cs σ G' Q (f S)
def JT (X : Cx) (C : Ctx) (G : Gam) (pins : List Nat) (e : Expr) (G' : Gam) (f : Sl → Res Bool) : Prop := PT X e (semV C G pins G' f)
def JP (X : Cx) (C : Ctx) (G : Gam) (pins : List Nat) (e : Option Expr) (G' : Gam) (f : Sl → Res (Option Int)) : Prop := PO X e (semV C G pins G' f)
def fSel {α : Type} (sel : W → Option α) (f : Sl → Res W) : Sl → Res α := fun S => (f S).bind fun w S1 => match sel w with
  | some x => .ok x S1
  | none => .err
def fBl (f : Sl → Res W) : Sl → Res Bool := fun S => (f S).bind fun w S1 => match w with
  | .bl b => .ok b S1
  | _ => .err
def fInt (f : Sl → Res W) : Sl → Res W := fun S => (f S).bind fun w S1 => match w with
  | .int i => .ok (.int i) S1
  | _ => .err
def fPure (f : Sl → Res W) : Sl → Res W := fun S => (f S).bind fun w S1 => if w.pure = true then .ok w S1 else .err
def fPart (f : Sl → Res W) : Sl → Res (Option Int) := fun S => (f S).bind fun w S1 => match w with
  | .int i => .ok (some i) S1
  | _ => .err
def fAnd (f g : Sl → Res Bool) : Sl → Res Bool := fun S => (f S).bind fun b S1 => if b = true then g S1 else .ok false S1
def fOr (f g : Sl → Res Bool) : Sl → Res Bool := fun S => (f S).bind fun b S1 => if b = true then .ok true S1 else g S1
def fNot (f : Sl → Res Bool) : Sl → Res Bool := fun S => (f S).bind fun b S1 => .ok (!b) S1
def fBv (f : Sl → Res Bool) : Sl → Res W := fun S => (f S).bind fun b S1 => .ok (.bl b) S1
def fIf {α : Type} (c : Sl → Res Bool) (f g : Sl → Res α) : Sl → Res α := fun S => (c S).bind fun b S1 => if b = true then f S1 else g S1

section
variable {X : Cx} {C : Ctx} {G G1 G2 G' : Gam} {pins : List Nat} {e a b c : Expr} {mo : Mo} {f g : Sl → Res W}
theorem semV_mono {α : Type} {h : Sl → Res α} {σ : St} {H : Hp} {Q Q' : α → Hp → Prop} (i : ∀ v H', Q v H' → Q' v H') : semV C G pins G' h σ H Q → semV C G pins G' h σ H Q' := fun ⟨cs, S, R, p, q, o⟩ => by
  refine ⟨cs, S, R, p, q, ?_⟩
  revert o
  cases h S with
  | ok w S' => exact fun o H' cs' q1 q2 q3 q4 => i _ _ (o H' cs' q1 q2 q3 q4)
  | exc x S' => exact id
  | err => exact id
/-- a value that is looked at and dropped -/
theorem semV_of {α : Type} (sel : W → Option α) {Q : α → Hp → Prop} {σ : St} {H : Hp} (h : semV C G pins G' (fSel sel f) σ H Q) :
    semE C G pins mo G' f σ H fun v H' => ∃ w fp x, Vw C.K H' w v fp ∧ sel w = some x ∧ Q x H' := by
  obtain ⟨cs, S, R, p, q, o⟩ := h
  refine ⟨cs, S, R, p, q, ?_⟩
  unfold fSel at o
  cases hf : f S with
  | err => rw [hf] at o; exact o
  | exc x S' => rw [hf] at o; exact o
  | ok w S1 =>
    rw [hf] at o
    have o : OutV C cs.length cs σ G' Q (match sel w with | some x => .ok x S1 | none => .err) := o
    cases hs : sel w with
    | none => rw [hs] at o; exact o.elim
    | some x =>
      rw [hs] at o
      intro v fp H1 cs1 R1 l1 t1 T1 g1
      have ht := R1.take (L := cs.length) R.ln (by omega)
      refine ⟨w, fp, x, R1.view _ _ t1, hs, o H1 _ ht (by rw [List.length_take]; omega) (fun i h1 h2 => ?_) ?_⟩
      · rw [List.getElem?_take_of_lt h2]; exact T1 i h1 h2
      · refine ⟨g1.1, fun i m e => ?_⟩
        obtain ⟨c, q1, q2⟩ := g1.2 i m e
        have hi : i < C.n := Nat.lt_of_lt_of_le (List.getElem?_eq_some_iff.mp e).1 g1.1
        have := R.ln
        exact ⟨c, by rw [List.getElem?_take_of_lt (by omega)]; exact q1, q2⟩
def selBl : W → Option Bool
  | .bl b => some b
  | _ => none
def selInt : W → Option (Option Int)
  | .int i => some (some i)
  | _ => none
theorem fBl_eq : fBl f = fSel selBl f := by
  funext S
  unfold fBl fSel
  congr 1
  funext w S1
  cases w <;> rfl
theorem fPart_eq : fPart f = fSel selInt f := by
  funext S
  unfold fPart fSel
  congr 1
  funext w S1
  cases w <;> rfl
/-- an expression as a test -/
theorem jt_val (h : JE X C G pins e mo G' f) (he : ∀ whole, isTrue e X.env whole = (do let v ← whole; standAt e.pos; holding [v] (truthy v))) : JT X C G pins e G' (fBl f) := by
  refine PT.imp (pt_val h he) fun σ H Q q => ?_
  rw [fBl_eq] at q
  refine semE_mono (fun v H' ⟨w, fp, x, hv, hs, q⟩ => ?_) (semV_of (mo := mo) selBl q)
  cases w <;> simp only [selBl, reduceCtorEq] at hs
  cases hs
  obtain ⟨rfl, _⟩ := vwBl hv
  exact ⟨_, rfl, q⟩
theorem jp_none : JP X C G pins none G (fun S => .ok none S) := ⟨fun pn s σ H Q I ⟨cs, S, R, p, q, o⟩ => by
  refine po_none.run pn s σ H Q I ?_
  exact o H cs R rfl .refl p⟩
theorem jp_some (h : JE X C G pins e mo G' f) : JP X C G pins (some e) G' (fPart f) := ⟨fun pn s σ H Q I q => by
  refine (po_some h).run pn s σ H Q I ?_
  rw [fPart_eq] at q
  refine semE_mono (fun v H' ⟨w, fp, x, hv, hs, q⟩ => ?_) (semV_of (mo := mo) selInt q)
  cases w <;> simp only [selInt, reduceCtorEq] at hs
  cases hs
  obtain ⟨rfl, _⟩ := vwInt hv
  exact ⟨_, rfl, q⟩⟩

/-! ### a pure temp is owned -/
theorem Rel.setTop {K : Kz} {fr : Frm} {n L : Nat} {cs : Cells} {S : Sl} {σ : St} {H : Hp} (R : Rel K fr n cs S σ H) (hL : n ≤ L) (hl : cs.length = L + 1) {v : V} {w : W} {m m' : Mo} (ht : cs[L]? = some (some ⟨v, w, m, []⟩)) (hm : m'.dep = []) :
    Rel K fr n (cs.take L ++ [some ⟨v, w, m', []⟩]) S σ H := by
  have hv := R.view L _ ht
  exact R.repl hL (by omega) (Same.refl H) hv (by show ∀ x ∈ m'.dep, x < n; rw [hm]; intro x hx; cases hx) (fun _ => ⟨List.nodup_nil, fun a ha => by cases ha⟩) fun ds _ a ha => by cases ha
theorem semE_pure {ok : W → Bool} (hok : ∀ w, ok w = true → w.pure = true) {h : Sl → Res W} (hh : ∀ S, h S = (f S).bind fun w S1 => if ok w = true then .ok w S1 else .err) {σ : St} {H : Hp} {Q : VK} (q : semE C G pins .O G' h σ H Q) : semE C G pins mo G' f σ H fun v H' => (∃ w, ok w = true ∧ Vw C.K H' w v []) ∧ Q v H' := by
  obtain ⟨cs, S, R, p, pp, o⟩ := q
  refine ⟨cs, S, R, p, pp, ?_⟩
  rw [hh] at o
  cases hf : f S with
  | err => rw [hf] at o; exact o
  | exc x S' => rw [hf] at o; exact o
  | ok w S1 =>
    rw [hf] at o
    have o : Out C cs.length cs σ .O G' Q (if ok w = true then .ok w S1 else .err) := o
    by_cases hp : ok w = true
    · rw [if_pos hp] at o
      intro v fp H1 cs1 R1 l1 t1 T1 g1
      have hfp := Vw.of_pure (hok w hp) (R1.view _ _ t1)
      have hfp : fp = [] := hfp
      subst hfp
      have R2 := R1.setTop R.ln l1 t1 (m' := .O) rfl
      have lt : (cs1.take cs.length).length = cs.length := by rw [List.length_take]; omega
      refine ⟨⟨w, hp, R1.view _ _ t1⟩, o v [] H1 _ R2 (by rw [List.length_append, lt]; rfl) (by rw [List.getElem?_append_right (by omega), lt]; simp) (fun i hi hlt => ?_) (g1.take R.ln)⟩
      rw [List.getElem?_append_left (by omega), List.getElem?_take_of_lt hlt]
      exact T1 i hi hlt
    · rw [if_neg hp] at o
      exact o.elim
theorem je_pure (h : JE X C G pins e mo G' f) : JE X C G pins e .O G' (fPure f) := PE.imp h fun σ H Q q => semE_mono (fun v H' z => z.2) (semE_pure (mo := mo) (f := f) (ok := W.pure) (fun _ z => z) (fun S => rfl) q)
def isInt : W → Bool
  | .int _ => true
  | _ => false
theorem fInt_eq (S : Sl) : fInt f S = (f S).bind fun w S1 => if isInt w = true then .ok w S1 else .err := by
  unfold fInt
  congr 1
  funext w S1
  cases w <;> rfl
theorem je_int (h : JE X C G pins e mo G' f) : JE X C G pins e .O G' (fInt f) := PE.imp h fun σ H Q q => semE_mono (fun v H' z => z.2) (semE_pure (mo := mo) (f := f) (ok := isInt) (fun w z => by cases w <;> first | rfl | cases z) fInt_eq q)

/-! ### names, constants -/
theorem semE_push {σ : St} {H : Hp} {Q : VK} {h : Sl → Res W} (q : semE C G pins mo G h σ H Q) :
    ∃ cs S, RelC C cs S σ H ∧ Has C.n G cs ∧ PinOk C.n pins cs ∧ ∀ w, h S = .ok w S → ∀ v fp, RelC C (cs ++ [some ⟨v, w, mo, fp⟩]) S σ H → Q v H := by
  obtain ⟨cs, S, R, p, pp, o⟩ := q
  refine ⟨cs, S, R, p, pp, fun w hw v fp R2 => ?_⟩
  rw [hw] at o
  exact o v fp H _ R2 (by simp) (by simp) (fun i hi hlt => List.getElem?_append_left hlt) (p.app R.ln)
theorem Rel.push {K : Kz} {fr : Frm} {n : Nat} {cs : Cells} {S : Sl} {σ : St} {H : Hp} (R : Rel K fr n cs S σ H) {c : Cell} (hv : Vw K H c.w c.v c.fp) (hd : ∀ x ∈ c.m.dep, x < n) (hO : c.m = .O → c.fp = [])
    (hB : ∀ ds, c.m = .B ds → ∀ a ∈ c.fp, ∃ (j : Nat) (d : Cell), cs[j]? = some (some d) ∧ a ∈ d.fp ∧ (d.m = .O → j ∈ ds) ∧ ∀ x ∈ d.m.dep, x ∈ ds) : Rel K fr n (cs ++ [some c]) S σ H := by
  have key : ∀ {i : Nat} {d : Cell}, (cs ++ [some c])[i]? = some (some d) → (i < cs.length ∧ cs[i]? = some (some d)) ∨ (i = cs.length ∧ d = c) := fun {i d} q => by
    have q' : (cs.take cs.length ++ [some c])[i]? = some (some d) := by rw [List.take_length]; exact q
    exact ix_push (Nat.le_refl _) q'
  have ln := R.ln
  refine ⟨R.ls, R.lσ, by rw [List.length_append]; omega, fun i d hi q => ?_, fun i d q => ?_, fun i d q m => ?_, fun i d q a ha => ?_, fun i d q => ?_, fun i j x y ij q1 q2 m => ?_, R.frm, R.alive, fun p v e => ⟨(R.iov p v e).1, fun d q => ?_⟩⟩
  · rcases key q with ⟨_, q⟩ | ⟨rfl, rfl⟩
    · exact R.slot i d hi q
    · omega
  · rcases key q with ⟨_, q⟩ | ⟨rfl, rfl⟩
    · exact R.view i d q
    · exact hv
  · rcases key q with ⟨_, q⟩ | ⟨rfl, rfl⟩
    · exact R.nd i d q m
    · rw [hO m]; exact ⟨List.nodup_nil, fun a ha => by cases ha⟩
  · rcases key q with ⟨_, q⟩ | ⟨rfl, rfl⟩
    · exact R.uni i d q a ha
    · cases hm : d.m with
      | O => rw [hO hm] at ha; cases ha
      | B ds =>
        obtain ⟨j, y, h1, h2, _⟩ := hB ds hm a ha
        exact R.uni j y h1 a h2
  · rcases key q with ⟨_, q⟩ | ⟨rfl, rfl⟩
    · exact R.dl i d q
    · exact hd
  · rcases key q1 with ⟨i1, p1⟩ | ⟨rfl, rfl⟩
    · rcases key q2 with ⟨_, p2⟩ | ⟨rfl, rfl⟩
      · exact R.dis i j x y ij p1 p2 m
      · cases hm : y.m with
        | O => exact .inr fun a ha hb => by rw [hO hm] at hb; cases hb
        | B ds =>
          by_cases hin : i ∈ ds
          · exact .inl hin
          · refine .inr fun a ha hb => ?_
            obtain ⟨k, d, h1, h2, h3, h4⟩ := hB ds hm a hb
            by_cases hk : k = i
            · subst hk
              rw [p1] at h1; cases h1
              exact hin (h3 m)
            · rcases R.dis i k x d (Ne.symm hk) p1 h1 m with z | z
              · exact hin (h4 i z)
              · exact z a ha h2
    · rcases key q2 with ⟨j1, p2⟩ | ⟨rfl, rfl⟩
      · exact .inr fun a ha hb => by rw [hO m] at ha; cases ha
      · exact absurd rfl ij
  · have hp := (R.iov p v e).1
    rcases key q with ⟨_, q⟩ | ⟨rfl, _⟩
    · exact (R.iov p v e).2 d q
    · omega
def fName (i : Nat) : Sl → Res W := fun S => match S[i]? with
  | some (some w) => .ok w S
  | _ => .err
def nameMo (i : Nat) : Mo → Mo
  | .O => .B [i]
  | .B d => .B d
theorem je_name {i : Nat} {m : Mo} (h : PE X e (tVar i)) (hi : G[i]? = some (some m)) : JE X C G pins e (nameMo i m) G (fName i) := PE.imp h fun σ H Q q => by
  obtain ⟨cs, S, R, p, pp, o⟩ := semE_push q
  obtain ⟨c, hc, rfl⟩ := p.2 i m hi
  have hn : i < C.n := Nat.lt_of_lt_of_le (List.getElem?_eq_some_iff.mp hi).1 p.1
  obtain ⟨h1, h2⟩ := R.slot i c hn hc
  refine ⟨c.v, h1, o c.w (by unfold fName; rw [h2]) c.v c.fp (R.push (R.view i c hc) ?_ (fun z => ?_) fun ds z a ha => ?_)⟩
  · show ∀ x ∈ (nameMo i c.m).dep, x < C.n
    cases hm : c.m with
    | O => intro x hx; rw [List.mem_singleton.mp (show x ∈ [i] from hx)]; exact hn
    | B d => intro x hx; exact R.dl i c hc x (by rw [hm]; exact hx)
  · have z : nameMo i c.m = .O := z
    cases hm : c.m <;> rw [hm] at z <;> cases z
  · have z : nameMo i c.m = .B ds := z
    refine ⟨i, c, hc, ha, fun hm => ?_, fun x hx => ?_⟩
    · rw [hm] at z; cases z; simp
    · cases hm : c.m with
      | O => rw [hm] at hx; cases hx
      | B d => rw [hm] at z hx; cases z; exact hx
/-- constants and the like -/
theorem je_const {w : W} {v : V} (h : PE X e (tC v)) (hv : ∀ H, Vw C.K H w v []) : JE X C G pins e .O G (fun S => .ok w S) := PE.imp h fun σ H Q q => by
  obtain ⟨cs, S, R, p, pp, o⟩ := semE_push q
  exact o w rfl v [] (R.push (hv H) (fun x hx => by cases hx) (fun _ => rfl) fun ds z => by cases z)
/-- an owned slot is given away -/
def fMov (i : Nat) : Sl → Res W := fun S => match S[i]? with
  | some (some w) => .ok w (S.set i none)
  | _ => .err
theorem mov_sem {i : Nat} {σ : St} {H : Hp} {Q : VK} (hi : G[i]? = some (some .O)) (hp : pins.contains i = false) (hip : ∀ v, C.fr.ip ≠ some (i, v)) (q : semE C G pins .O (killG i (G.set i none)) (fMov i) σ H Q) : tVar i σ H Q := by
  obtain ⟨cs, S, R, p, pp, o⟩ := q
  obtain ⟨c, hc, hm⟩ := p.2 i _ hi
  have hn : i < C.n := Nat.lt_of_lt_of_le (List.getElem?_eq_some_iff.mp hi).1 p.1
  obtain ⟨h1, h2⟩ := R.slot i c hn hc
  refine ⟨c.v, h1, ?_⟩
  unfold fMov at o
  rw [h2] at o
  have ln := R.ln
  -- the slot's cell becomes the top temp; those that borrow from it are forgotten
  have hpin : ∀ (j : Nat) (d : Cell), C.n ≤ j → cs[j]? = some (some d) → i ∉ d.m.dep := fun j d hj hd hin => by
    have := pp j d hj hd i hin
    simp at hp
    exact hp this
  have key : ∀ {j : Nat} {d : Cell}, ((killk i cs).set i none ++ [some c])[j]? = some (some d) → (j ≠ i ∧ j < cs.length ∧ cs[j]? = some (some d) ∧ i ∉ d.m.dep) ∨ (j = cs.length ∧ d = c) := fun {j d} q => by
    have l2 : ((killk i cs).set i none).length = cs.length := by rw [List.length_set, killk_length]
    by_cases hj : j < cs.length
    · rw [List.getElem?_append_left (by omega)] at q
      by_cases e : j = i
      · subst e
        rw [List.getElem?_set_self (by rw [killk_length]; omega)] at q
        cases q
      · rw [List.getElem?_set_ne (Ne.symm e)] at q
        obtain ⟨q1, q2⟩ := killk_some q
        exact .inl ⟨e, hj, q1, q2⟩
    · rw [List.getElem?_append_right (by omega), l2] at q
      have : j - cs.length = 0 := by
        by_cases e : j - cs.length = 0
        · exact e
        · rw [List.getElem?_eq_none (by simp; omega)] at q; cases q
      rw [this] at q
      simp at q
      exact .inr ⟨by omega, q.symm⟩
  have R2 : RelC C ((killk i cs).set i none ++ [some c]) (S.set i none) σ H := by
    refine ⟨by rw [List.length_set]; exact R.ls, R.lσ, by rw [List.length_append, List.length_set, killk_length]; omega, fun j d hj q => ?_, fun j d q => ?_, fun j d q m => ?_, fun j d q a ha => ?_, fun j d q => ?_, fun j k x y jk q1 q2 m => ?_, R.frm, R.alive, fun pp v e => ⟨(R.iov pp v e).1, fun d q => ?_⟩⟩
    · rcases key q with ⟨z1, z2, q, z3⟩ | ⟨rfl, rfl⟩
      · rw [List.getElem?_set_ne (Ne.symm z1)]
        exact R.slot j d hj q
      · omega
    · rcases key q with ⟨z1, z2, q, z3⟩ | ⟨rfl, rfl⟩
      · exact R.view j d q
      · exact R.view i _ hc
    · rcases key q with ⟨z1, z2, q, z3⟩ | ⟨rfl, rfl⟩
      · exact R.nd j d q m
      · exact R.nd i _ hc hm
    · rcases key q with ⟨z1, z2, q, z3⟩ | ⟨rfl, rfl⟩
      · exact R.uni j d q a ha
      · exact R.uni i _ hc a ha
    · rcases key q with ⟨z1, z2, q, z3⟩ | ⟨rfl, rfl⟩
      · exact R.dl j d q
      · exact R.dl i _ hc
    · rcases key q1 with ⟨z1, z2, p1, z3⟩ | ⟨rfl, rfl⟩
      · rcases key q2 with ⟨y1, y2, p2, y3⟩ | ⟨rfl, rfl⟩
        · exact R.dis j k x y jk p1 p2 m
        · exact R.dis j i x _ z1 p1 hc m
      · rcases key q2 with ⟨y1, y2, p2, y3⟩ | ⟨rfl, rfl⟩
        · rcases R.dis i k _ y (Ne.symm y1) hc p2 hm with z | z
          · exact absurd z y3
          · exact .inr z
        · exact absurd rfl jk
    · have hpn := (R.iov pp v e).1
      rcases key q with ⟨z1, z2, q, z3⟩ | ⟨rfl, rfl⟩
      · exact (R.iov pp v e).2 d q
      · omega
  obtain ⟨cv, cw, cm, cf⟩ := c
  have hm : cm = .O := hm
  subst hm
  have l2 : ((killk i cs).set i none).length = cs.length := by rw [List.length_set, killk_length]
  refine o cv cf H _ R2 (by rw [List.length_append, l2]; rfl) (by rw [List.getElem?_append_right (by omega), l2]; simp) (fun j hj hlt => ?_) ⟨?_, fun j m e => ?_⟩
  · rw [List.getElem?_append_left (by omega), List.getElem?_set_ne (by omega)]
    cases q : cs[j]? with
    | none => rw [List.getElem?_eq_none_iff] at q; omega
    | some y =>
      cases y with
      | none => unfold killk; rw [List.getElem?_map, q]; rfl
      | some d => exact killk_of q (hpin j d hj q)
  · unfold killG; rw [List.length_map, List.length_set]; exact p.1
  · unfold killG at e
    rw [List.getElem?_map] at e
    by_cases ji : j = i
    · subst ji
      rw [List.getElem?_set_self (by have := (List.getElem?_eq_some_iff.mp hi).1; exact this)] at e
      cases e
    · rw [List.getElem?_set_ne (Ne.symm ji)] at e
      cases q : G[j]? with
      | none => rw [q] at e; cases e
      | some y =>
        rw [q] at e
        cases y with
        | none => cases e
        | some m0 =>
          simp only [Option.map_some] at e
          split at e
          · cases e
          · cases e
            rename_i hnk
            obtain ⟨d, hd, r⟩ := p.2 j m q
            have hj : j < C.n := Nat.lt_of_lt_of_le (List.getElem?_eq_some_iff.mp q).1 p.1
            refine ⟨d, ?_, r⟩
            rw [List.getElem?_append_left (by omega), List.getElem?_set_ne (Ne.symm ji)]
            exact killk_of hd (by rw [r]; exact hnk)

theorem je_mov {i : Nat} (h : PE X e (tVar i)) (hi : G[i]? = some (some .O)) (hp : pins.contains i = false) (hip : ∀ v, C.fr.ip ≠ some (i, v)) : JE X C G pins e .O (killG i (G.set i none)) (fMov i) := PE.imp h fun σ H Q q => mov_sem hi hp hip q
/-! ### and, or, not, if-else -/
theorem semV_and {h k : Sl → Res Bool} : ∀ σ H Q, semV C G pins G' (fAnd h k) σ H Q → gle G' G1 = true → semV C G pins G1 h σ H fun b H1 => if b = true then semV C G1 pins G' k σ H1 Q else Q false H1 := fun σ H Q ⟨cs, S, R, p, pp, o⟩ hg => by
  refine ⟨cs, S, R, p, pp, ?_⟩
  unfold fAnd at o
  cases hf : h S with
  | err => rw [hf] at o; exact o
  | exc x S' => rw [hf] at o; exact o
  | ok b S1 =>
    rw [hf] at o
    intro H1 cs1 R1 l1 T1 g1
    have o : OutV C cs.length cs σ G' Q (if b = true then k S1 else .ok false S1) := o
    cases b with
    | false => exact o H1 cs1 R1 l1 T1 (g1.gle hg)
    | true =>
      refine ⟨cs1, S1, R1, g1, fun i c hi hc x hx => ?_, ?_⟩
      · have hlt : i < cs.length := by have := (List.getElem?_eq_some_iff.mp hc).1; omega
        rw [T1 i hi hlt] at hc
        exact pp i c hi hc x hx
      · have o : OutV C cs.length cs σ G' Q (k S1) := o
        revert o
        cases k S1 with
        | ok w S2 => exact fun o H2 cs2 R2 l2 T2 g2 => o H2 cs2 R2 (by omega) (T1.trans T2 (by omega)) g2
        | exc x S2 => exact fun o => OutX.up (L := cs.length) o T1 (by omega)
        | err => exact id
theorem semV_or {h k : Sl → Res Bool} : ∀ σ H Q, semV C G pins G' (fOr h k) σ H Q → gle G' G1 = true → semV C G pins G1 h σ H fun b H1 => if b = true then Q true H1 else semV C G1 pins G' k σ H1 Q := fun σ H Q ⟨cs, S, R, p, pp, o⟩ hg => by
  refine ⟨cs, S, R, p, pp, ?_⟩
  unfold fOr at o
  cases hf : h S with
  | err => rw [hf] at o; exact o
  | exc x S' => rw [hf] at o; exact o
  | ok b S1 =>
    rw [hf] at o
    intro H1 cs1 R1 l1 T1 g1
    have o : OutV C cs.length cs σ G' Q (if b = true then .ok true S1 else k S1) := o
    cases b with
    | true => exact o H1 cs1 R1 l1 T1 (g1.gle hg)
    | false =>
      refine ⟨cs1, S1, R1, g1, fun i c hi hc x hx => ?_, ?_⟩
      · have hlt : i < cs.length := by have := (List.getElem?_eq_some_iff.mp hc).1; omega
        rw [T1 i hi hlt] at hc
        exact pp i c hi hc x hx
      · have o : OutV C cs.length cs σ G' Q (k S1) := o
        revert o
        cases k S1 with
        | ok w S2 => exact fun o H2 cs2 R2 l2 T2 g2 => o H2 cs2 R2 (by omega) (T1.trans T2 (by omega)) g2
        | exc x S2 => exact fun o => OutX.up (L := cs.length) o T1 (by omega)
        | err => exact id
/-- a bool result becomes a temp -/
theorem semE_bv {h : Sl → Res Bool} {σ : St} {H : Hp} {Q : VK} (q : semE C G pins .O G' (fBv h) σ H Q) : semV C G pins G' h σ H fun b H' => Q (.bl b) H' := by
  obtain ⟨cs, S, R, p, pp, o⟩ := q
  refine ⟨cs, S, R, p, pp, ?_⟩
  unfold fBv at o
  cases hf : h S with
  | err => rw [hf] at o; exact o
  | exc x S' => rw [hf] at o; exact o
  | ok b S1 =>
    rw [hf] at o
    intro H1 cs1 R1 l1 T1 g1
    refine o (.bl b) [] H1 _ (R1.push (c := ⟨.bl b, .bl b, .O, []⟩) mkBl (fun x hx => by cases hx) (fun _ => rfl) fun ds z => by cases z) (by simp; omega) (by rw [← l1]; simp) (fun i hi hlt => ?_) (g1.app R1.ln)
    rw [List.getElem?_append_left (by omega)]
    exact T1 i hi hlt
theorem jt_not {h : Sl → Res Bool} {pos : Pos} (ha : JT X C G pins a G' h) : JT X C G pins (.UnaryOp .Not a pos) G' (fNot h) := PT.imp (pt_not ha) fun σ H Q ⟨cs, S, R, p, pp, o⟩ => by
  refine ⟨cs, S, R, p, pp, ?_⟩
  unfold fNot at o
  revert o
  cases h S with
  | ok w S2 => exact fun o H2 cs2 R2 l2 T2 g2 => o H2 cs2 R2 l2 T2 g2
  | exc x S2 => exact id
  | err => exact id
theorem if_out {α : Type} {cs : Cells} {σ : St} {H : Hp} {hc : Sl → Res Bool} {k l : Sl → Res α} {S : Sl} (R : RelC C cs S σ H) (p : Has C.n G cs) (pp : PinOk C.n pins cs) {P : Res α → Prop} (o : P (fIf hc k l S)) (hP : ∀ x S', P (.exc x S') → OutX C cs.length cs σ x S') (hN : ¬ P .err)
    {A B : Hp → Prop} (ha : ∀ H1 cs1 S1, RelC C cs1 S1 σ H1 → cs1.length = cs.length → Tsame C.n cs.length cs cs1 → Has C.n G1 cs1 → PinOk C.n pins cs1 → P (k S1) → A H1)
    (hb : ∀ H1 cs1 S1, RelC C cs1 S1 σ H1 → cs1.length = cs.length → Tsame C.n cs.length cs cs1 → Has C.n G1 cs1 → PinOk C.n pins cs1 → P (l S1) → B H1) :
    semV C G pins G1 hc σ H fun b H1 => if b = true then A H1 else B H1 := by
  refine ⟨cs, S, R, p, pp, ?_⟩
  unfold fIf at o
  cases hf : hc S with
  | err => rw [hf] at o; exact hN o
  | exc x S' => rw [hf] at o; exact hP x S' o
  | ok b S1 =>
    rw [hf] at o
    intro H1 cs1 R1 l1 T1 g1
    have o : P (if b = true then k S1 else l S1) := o
    have pn : PinOk C.n pins cs1 := fun i c hi hc x hx => by
      have hlt : i < cs.length := by have := (List.getElem?_eq_some_iff.mp hc).1; omega
      rw [T1 i hi hlt] at hc
      exact pp i c hi hc x hx
    cases b with
    | true => exact ha H1 cs1 S1 R1 l1 T1 g1 pn o
    | false => exact hb H1 cs1 S1 R1 l1 T1 g1 pn o
end
end Vm

namespace Vm
open PySem PySem.Spec PyProof.Rows L2

/-- a weaker mode -/
def mle (n : Nat) : Mo → Mo → Bool
  | .O, .O => true
  | m, .B d => m.dep.all (d.contains ·) && d.all (decide <| · < n)
  | .B _, .O => false
section
variable {X : Cx} {C : Ctx} {G G1 G2 G' : Gam} {pins : List Nat} {e a b c : Expr} {mo mo' ma mb : Mo} {f g : Sl → Res W} {es rest : List Expr} {ms : List Am} {gs : Sl → Res (List W)}
theorem je_soft (h : JE X C G pins e mo G1 f) (hm : mle C.n mo mo' = true) (hg : gle G' G1 = true) : JE X C G pins e mo' G' f := PE.imp h fun σ H Q q => by
  obtain ⟨cs, S, R, p, pp, o⟩ := q
  refine ⟨cs, S, R, p, pp, ?_⟩
  revert o
  cases f S with
  | err => exact id
  | exc x S' => exact id
  | ok w S1 =>
    intro o v fp H1 cs1 R1 l1 t1 T1 g1
    have ln := R.ln
    have sft : Cle C.n (some ⟨v, w, mo', fp⟩) (some ⟨v, w, mo, fp⟩) := by
      cases mo' with
      | O => cases mo with
        | O => exact .same
        | B _ => cases hm
      | B d =>
        have hm : (mo.dep.all (d.contains ·) && d.all (decide <| · < C.n)) = true := by cases mo <;> exact hm
        rw [Bool.and_eq_true] at hm
        exact .soft (fun x hx => by simpa using List.all_eq_true.mp hm.1 x hx) fun x hx => by simpa using List.all_eq_true.mp hm.2 x hx
    refine o v fp H1 (cs1.set cs.length (some ⟨v, w, mo', fp⟩)) (R1.weak (by rw [List.length_set]) (fun i x y q1 q2 => ?_) R1.ls R1.lσ fun i c hi q => ⟨rfl, rfl⟩) (by rw [List.length_set]; exact l1) (by rw [List.getElem?_set_self (by omega)]) (fun i hi hlt => ?_) ⟨?_, fun i m q => ?_⟩
    · by_cases hi : i = cs.length
      · subst hi
        rw [List.getElem?_set_self (by omega)] at q1
        rw [t1] at q2
        cases q1; cases q2
        exact sft
      · rw [List.getElem?_set_ne (Ne.symm hi)] at q1
        rw [q1] at q2; cases q2
        exact .same
    · rw [List.getElem?_set_ne (by omega)]; exact T1 i hi hlt
    · exact (g1.gle hg).1
    · obtain ⟨c, q1, q2⟩ := (g1.gle hg).2 i m q
      have hi : i < C.n := Nat.lt_of_lt_of_le (List.getElem?_eq_some_iff.mp q).1 (g1.gle hg).1
      exact ⟨c, by rw [List.getElem?_set_ne (by omega)]; exact q1, q2⟩
theorem jt_soft {h : Sl → Res Bool} (q : JT X C G pins e G1 h) (hg : gle G' G1 = true) : JT X C G pins e G' h := PT.imp q fun σ H Q ⟨cs, S, R, p, pp, o⟩ => by
  refine ⟨cs, S, R, p, pp, ?_⟩
  revert o
  cases h S with
  | err => exact id
  | exc x S' => exact id
  | ok w S1 => exact fun o H1 cs1 R1 l1 T1 g1 => o H1 cs1 R1 l1 T1 (g1.gle hg)
def JW (X : Cx) (C : Ctx) (G : Gam) (pins : List Nat) (e : Expr) (G' : Gam) (f : Sl → Res Bool) : Prop := PW X e (semV C G pins G' f)
theorem PW.imp {t t' : TT} (h : PW X e t) (i : ∀ σ H Q, t' σ H Q → t σ H Q) : PW X e t' := ⟨fun wh pins s σ H Q I q => h.run wh pins s σ H Q I (i σ H Q q)⟩
variable {h k : Sl → Res Bool} {pos : Pos}
theorem JW.jt (q : JW X C G pins e G' h) : JT X C G pins e G' h := L2.PW.pt q
theorem jw_and1 (q : JT X C G pins a G' h) : JW X C G pins (.BoolOp .And [a] pos) G' h := pw_and1 q
theorem jw_or1 (q : JT X C G pins a G' h) : JW X C G pins (.BoolOp .Or [a] pos) G' h := pw_or1 q
theorem jw_and (ha : JT X C G pins a G1 h) (hb : JW X C G1 pins (.BoolOp .And (b :: rest) pos) G' k) (hg : gle G' G1 = true) : JW X C G pins (.BoolOp .And (a :: b :: rest) pos) G' (fAnd h k) :=
  PW.imp (pw_and ha hb) fun σ H Q q => semV_and σ H Q q hg
theorem jw_or (ha : JT X C G pins a G1 h) (hb : JW X C G1 pins (.BoolOp .Or (b :: rest) pos) G' k) (hg : gle G' G1 = true) : JW X C G pins (.BoolOp .Or (a :: b :: rest) pos) G' (fOr h k) :=
  PW.imp (pw_or ha hb) fun σ H Q q => semV_or σ H Q q hg
theorem semE_bl {σ : St} {H : Hp} {Q : Bool → Hp → Prop} (q : semV C G pins G' (fBl f) σ H Q) : semE C G pins mo G' f σ H fun v H' => ∃ b, v = .bl b ∧ Q b H' := by
  rw [fBl_eq] at q
  refine semE_mono (fun v H' ⟨w, fp, x, hv, hs, q⟩ => ?_) (semV_of (mo := mo) selBl q)
  cases w <;> simp only [selBl, reduceCtorEq] at hs
  cases hs
  obtain ⟨rfl, _⟩ := vwBl hv
  exact ⟨_, rfl, q⟩
theorem je_and (ha : JE X C G pins a ma G1 f) (hb : JE X C G1 pins (.BoolOp .And (b :: rest) pos) mb G' g) (hg : gle G' G1 = true) : JE X C G pins (.BoolOp .And (a :: b :: rest) pos) .O G' (fBv (fAnd (fBl f) (fBl g))) :=
  PE.imp (pe_and ha hb) fun σ H Q q => by
    refine semE_mono (fun v H' ⟨x, hx, q⟩ => ⟨x, hx, ?_⟩) (semE_bl (mo := ma) (semV_and σ H _ (semE_bv q) hg))
    cases x with
    | true => exact semE_mono (fun v H' ⟨y, hy, q⟩ => by rw [hy]; exact q) (semE_bl (mo := mb) q)
    | false => exact q
theorem je_or (ha : JE X C G pins a ma G1 f) (hb : JE X C G1 pins (.BoolOp .Or (b :: rest) pos) mb G' g) (hg : gle G' G1 = true) : JE X C G pins (.BoolOp .Or (a :: b :: rest) pos) .O G' (fBv (fOr (fBl f) (fBl g))) :=
  PE.imp (pe_or ha hb) fun σ H Q q => by
    refine semE_mono (fun v H' ⟨x, hx, q⟩ => ⟨x, hx, ?_⟩) (semE_bl (mo := ma) (semV_or σ H _ (semE_bv q) hg))
    cases x with
    | true => exact q
    | false => exact semE_mono (fun v H' ⟨y, hy, q⟩ => by rw [hy]; exact q) (semE_bl (mo := mb) q)
theorem je_not (ha : JE X C G pins a ma G' f) : JE X C G pins (.UnaryOp .Not a pos) .O G' (fBv (fNot (fBl f))) := PE.imp (pe_not ha) fun σ H Q q => by
  have q := semE_bv q
  have q2 : semV C G pins G' (fBl f) σ H fun b H' => Q (.bl (!b)) H' := by
    obtain ⟨cs, S, R, p, pp, o⟩ := q
    refine ⟨cs, S, R, p, pp, ?_⟩
    unfold fNot at o
    revert o
    cases fBl f S with
    | ok w S2 => exact fun o H2 cs2 R2 l2 T2 g2 => o H2 cs2 R2 l2 T2 g2
    | exc x S2 => exact id
    | err => exact id
  exact semE_mono (fun v H' ⟨x, hx, q⟩ => ⟨x, hx, q⟩) (semE_bl (mo := ma) q2)
theorem je_ife (hc : JT X C G pins c G1 h) (ha : JE X C G1 pins a mo G' f) (hb : JE X C G1 pins b mo G' g) : JE X C G pins (.IfExp c a b pos) mo G' (fIf h f g) := PE.imp (pe_ifExp hc ha hb) fun σ H Q ⟨cs, S, R, p, pp, o⟩ => by
  refine if_out R p pp (P := Out C cs.length cs σ mo G' Q) o (fun x S' z => z) (fun z => z) ?_ ?_
  · intro H1 cs1 S1 R1 l1 T1 g1 pn o
    refine ⟨cs1, S1, R1, g1, pn, ?_⟩
    revert o
    cases f S1 with
    | err => exact id
    | exc x S' => exact fun o => OutX.up (L := cs.length) o T1 (by omega)
    | ok w S2 => exact fun o v fp H2 cs2 R2 l2 t2 T2 g2 => o v fp H2 cs2 R2 (by omega) (by rw [← l1]; exact t2) (T1.trans T2 (by omega)) g2
  · intro H1 cs1 S1 R1 l1 T1 g1 pn o
    refine ⟨cs1, S1, R1, g1, pn, ?_⟩
    revert o
    cases g S1 with
    | err => exact id
    | exc x S' => exact fun o => OutX.up (L := cs.length) o T1 (by omega)
    | ok w S2 => exact fun o v fp H2 cs2 R2 l2 t2 T2 g2 => o v fp H2 cs2 R2 (by omega) (by rw [← l1]; exact t2) (T1.trans T2 (by omega)) g2

/-! ### operations by their shape -/
variable {sem : List W → Option W} {r : R2}
theorem JA.tail (ja : JA X C G pins (a :: es) ms G' gs) {pos : Pos} {env : Env} : notStar a = true ∧ (backTo pos (starEach es env)).any (·.1) = false := by
  obtain ⟨_, _, _, _, _, _, h, ja2, _⟩ := ja_head ja
  exact ⟨h, ja2.nostar⟩
theorem je_bin {op : Operator} (ho : OpR X (binaryOp op) r) (ja : JA X C G pins [a, b] ms G' gs) (hp : plain ms = true) (loc : LocF C.K (R2f r) sem) : JE X C G pins (.BinOp a op b pos) .O G' (fPrim gs sem) := by
  obtain ⟨ta, tb, h1, h2, _, _, h3⟩ := ja2 ja
  exact je_fresh (R := R2f r) (pe_op ho h1 h2) (fun σ H Q q => h3 σ H _ _ (fun x y H1 ⟨_, _, e, z⟩ => by cases e; exact z) q) hp loc
theorem je_binB {op : Operator} (ho : OpR X (binaryOp op) r) (ja : JA X C G pins [a, b] ms G' gs) (hp : plain ms = true) (loc : LocB C.K (R2f r) sem) : JE X C G pins (.BinOp a op b pos) (.B (deps ms)) G' (fPrim gs sem) := by
  obtain ⟨ta, tb, h1, h2, _, _, h3⟩ := ja2 ja
  exact je_bor (R := R2f r) (pe_op ho h1 h2) (fun σ H Q q => h3 σ H _ _ (fun x y H1 ⟨_, _, e, z⟩ => by cases e; exact z) q) hp loc
theorem je_binO {op : Operator} (ho : OpR X (binaryOp op) r) (ja : JA X C G pins [a, b] ms G' gs) (hp : plain ms = true) (hO : allO ms = true) (loc : LocO C.K (R2f r) sem) : JE X C G pins (.BinOp a op b pos) .O G' (fPrim gs sem) := by
  obtain ⟨ta, tb, h1, h2, _, _, h3⟩ := ja2 ja
  exact je_own (R := R2f r) (pe_op ho h1 h2) (fun σ H Q q => h3 σ H _ _ (fun x y H1 ⟨_, _, e, z⟩ => by cases e; exact z) q) hp hO loc
theorem je_cmp {op : CmpOp} (ho : OpR X (compareOp op) r) (hm : behindInMarks op b = false) (ja : JA X C G pins [a, b] ms G' gs) (hp : plain ms = true) (loc : LocF C.K (R2f r) sem) : JE X C G pins (.Compare a [op] [b] pos) .O G' (fPrim gs sem) := by
  obtain ⟨ta, tb, h1, h2, _, _, h3⟩ := ja2 ja
  exact je_fresh (R := R2f r) (pe_cmpR ho h1 h2 hm) (fun σ H Q q => h3 σ H _ _ (fun x y H1 ⟨_, _, e, z⟩ => by cases e; exact z) q) hp loc
theorem je_un {op : UnaryOp} {r : V → Hp → VK → Prop} (ho : UnR X (unaryOp op) r) (ja : JA X C G pins [a] ms G' gs) (hp : plain ms = true) (loc : LocF C.K (R1f r) sem) : JE X C G pins (.UnaryOp op a pos) .O G' (fPrim gs sem) := by
  obtain ⟨ta, h1, _, h3⟩ := ja1 ja
  exact je_fresh (R := R1f r) (pe_un ho h1) (fun σ H Q q => h3 σ H _ _ (fun x H1 ⟨_, e, z⟩ => by cases e; exact z) q) hp loc
theorem je_ixB (hr : IxR X r) (hs : PlainIx b) (ja : JA X C G pins [a, b] ms G' gs) (hp : plain ms = true) (loc : LocB C.K (R2f r) sem) : JE X C G pins (.Subscript a b pos) (.B (deps ms)) G' (fPrim gs sem) := by
  obtain ⟨ta, tb, h1, h2, _, _, h3⟩ := ja2 ja
  exact je_bor (R := R2f r) (pe_ix hr h1 h2 hs) (fun σ H Q q => h3 σ H _ _ (fun x y H1 ⟨_, _, e, z⟩ => by cases e; exact z) q) hp loc
/-- a comparison as a test: from its rule as a value -/
theorem jt_cmp {op : CmpOp} (ho : OpR X (compareOp op) r) (hm : behindInMarks op b = false) (ja : JA X C G pins [a, b] ms G' gs) (hp : plain ms = true) (loc : LocF C.K (R2f r) sem) : JT X C G pins (.Compare a [op] [b] pos) G' (fBl (fPrim gs sem)) := by
  obtain ⟨ta, tb, h1, h2, mono1, mono2, h3⟩ := ja2 ja
  refine PT.imp (pt_cmpR ho h1 h2 hm) fun σ H Q q => ?_
  -- the same as for the value
  have key : ∀ σ H Q, semE C G pins .O G' (fPrim gs sem) σ H Q → tOp r ta tb σ H Q := fun σ H Q q => by
    have := je_args_sem (R := R2f r) (mo := .O) (sem := sem) (t := tOp r ta tb) (fun σ H Q q => h3 σ H _ _ (fun x y H1 ⟨_, _, e, z⟩ => by cases e; exact z) q) (fin_fresh hp loc) σ H Q q
    exact this
  exact key σ H _ (semE_bl q)
section
variable {x : Str} {id T : String} {rc : RR} {p : Pos}
theorem je_fn (hc : CallR X (.builtin id) rc) (hg : Gl X x) (hm : X.mg x = none) (hv : bootBuiltins x = some (.builtin id)) (hn : x ≠ "__name__") (hdb : (x == ("__debug__" : Str)) = false) (ja : JA X C G pins (a :: es) ms G' gs) (hp : plain ms = true) (loc : LocF C.K rc sem) :
    JE X C G pins (.Call (.Name x p) (a :: es) [] pos) .O G' (fPrim gs sem) := by
  have hns := (ja.tail (pos := pos) (env := X.env))
  exact je_fresh (R := rc) (pe_callB hc hg hm hv ja.pa hn hdb (star_cons hns.1) hns.2) (fun σ H Q q => q) hp loc
theorem je_ty (hc : CallR X (.type T) rc) (hg : Gl X x) (hm : X.mg x = none) (hv : bootBuiltins x = some (.type T)) (hn : x ≠ "__name__") (hdb : (x == ("__debug__" : Str)) = false) (ja : JA X C G pins (a :: es) ms G' gs) (hp : plain ms = true) (loc : LocF C.K rc sem) :
    JE X C G pins (.Call (.Name x p) (a :: es) [] pos) .O G' (fPrim gs sem) := by
  have hns := (ja.tail (pos := pos) (env := X.env))
  exact je_fresh (R := rc) (pe_callTy hc hg hm hv ja.pa hn hdb (star_cons hns.1) hns.2) (fun σ H Q q => q) hp loc
theorem je_tyB (hc : CallR X (.type T) rc) (hg : Gl X x) (hm : X.mg x = none) (hv : bootBuiltins x = some (.type T)) (hn : x ≠ "__name__") (hdb : (x == ("__debug__" : Str)) = false) (ja : JA X C G pins (a :: es) ms G' gs) (hp : plain ms = true) (loc : LocB C.K rc sem) :
    JE X C G pins (.Call (.Name x p) (a :: es) [] pos) (.B (deps ms)) G' (fPrim gs sem) := by
  have hns := (ja.tail (pos := pos) (env := X.env))
  exact je_bor (R := rc) (pe_callTy hc hg hm hv ja.pa hn hdb (star_cons hns.1) hns.2) (fun σ H Q q => q) hp loc
end
end
end Vm

namespace Vm
open PySem PySem.Spec PyProof.Rows L2

/-! ## statements -/
inductive Fl where
  | nx | bk | ct
  | rt (w : W)
/-- what a statement's context is: where a break, a continue, a return go -/
structure Sx where
  Gb : Gam
  Gc : Gam
  Gr : Gam
  /-- what is returned is owned -/
  own : Bool
def OutS (C : Ctx) (L : Nat) (cs : Cells) (s : Sx) (D : Ends) (G' : Gam) : Res Fl → Prop
  | .ok .nx S' => ∀ (σ' : St) (H' : Hp) (cs' : Cells), RelC C cs' S' σ' H' → cs'.length = L → Tsame C.n L cs cs' → Has C.n G' cs' → D.nx σ' H'
  | .ok .bk S' => ∀ (σ' : St) (H' : Hp) (cs' : Cells), RelC C cs' S' σ' H' → cs'.length = L → Tsame C.n L cs cs' → Has C.n s.Gb cs' → D.bk σ' H'
  | .ok .ct S' => ∀ (σ' : St) (H' : Hp) (cs' : Cells), RelC C cs' S' σ' H' → cs'.length = L → Tsame C.n L cs cs' → Has C.n s.Gc cs' → D.ct σ' H'
  | .ok (.rt w) S' => ∀ (v : V) (σ' : St) (H' : Hp) (cs' : Cells) (k : Nat) (m : Mo) (fp : List Addr), RelC C cs' S' σ' H' → C.n ≤ k → cs'[k]? = some (some ⟨v, w, m, fp⟩) → (s.own = true → m = .O) → Has C.n s.Gr cs' → D.rt v H'
  | .exc x S' => ∀ (σ' : St), OutX C L cs σ' x S'
  | .err => False
def semS (C : Ctx) (s : Sx) (G : Gam) (pins : List Nat) (G' : Gam) (f : Sl → Res Fl) : TS := fun D σ H =>
  ∃ cs S, RelC C cs S σ H ∧ Has C.n G cs ∧ PinOk C.n pins cs ∧ OutS C cs.length cs s D G' (f S)
def JS (X : Cx) (C : Ctx) (s : Sx) (G : Gam) (pins : List Nat) (st : Stmt) (G' : Gam) (f : Sl → Res Fl) : Prop := PS X st (semS C s G pins G' f)
def JB (X : Cx) (C : Ctx) (s : Sx) (G : Gam) (pins : List Nat) (st : List Stmt) (G' : Gam) (f : Sl → Res Fl) : Prop := PSs X st (semS C s G pins G' f)
theorem PinOk.same {n : Nat} {pins : List Nat} {cs cs1 : Cells} (pp : PinOk n pins cs) (l1 : cs1.length = cs.length) (T1 : Tsame n cs.length cs cs1) : PinOk n pins cs1 := fun i c hi hc x hx => by
  have hlt : i < cs.length := by have := (List.getElem?_eq_some_iff.mp hc).1; omega
  rw [T1 i hi hlt] at hc
  exact pp i c hi hc x hx
theorem OutS.up {C : Ctx} {cs cs1 : Cells} {s : Sx} {D : Ends} {G' : Gam} {r : Res Fl} (o : OutS C cs.length cs s D G' r) (l1 : cs1.length = cs.length) (T1 : Tsame C.n cs.length cs cs1) : OutS C cs1.length cs1 s D G' r := by
  cases r with
  | err => exact o
  | exc x S' => exact fun σ' => OutX.up (o σ') T1 (by omega)
  | ok fl S' =>
    cases fl with
    | nx => exact fun σ' H' cs' R l T g => o σ' H' cs' R (by omega) (T1.trans T (by omega)) g
    | bk => exact fun σ' H' cs' R l T g => o σ' H' cs' R (by omega) (T1.trans T (by omega)) g
    | ct => exact fun σ' H' cs' R l T g => o σ' H' cs' R (by omega) (T1.trans T (by omega)) g
    | rt w => exact o
def fSeq (f g : Sl → Res Fl) : Sl → Res Fl := fun S => (f S).bind fun fl S1 => match fl with
  | .nx => g S1
  | fl => .ok fl S1
def fSkip : Sl → Res Fl := fun S => .ok .nx S

section
variable {X : Cx} {C : Ctx} {s : Sx} {G G1 G2 G' : Gam} {pins : List Nat} {e a b c : Expr} {st : Stmt} {sts : List Stmt} {mo : Mo} {f g : Sl → Res Fl} {fe : Sl → Res W} {fb : Sl → Res Bool} {pos : Pos}
theorem jb_nil : JB X C s G pins [] G fSkip := PSs.imp pss_nil fun D σ H ⟨cs, S, R, p, pp, o⟩ => o σ H cs R rfl .refl p
theorem jb_cons (h1 : JS X C s G pins st G1 f) (h2 : JB X C s G1 pins sts G' g) : JB X C s G pins (st :: sts) G' (fSeq f g) := PSs.imp (pss_cons h1 h2) fun D σ H ⟨cs, S, R, p, pp, o⟩ => by
  refine ⟨cs, S, R, p, pp, ?_⟩
  unfold fSeq at o
  cases hf : f S with
  | err => rw [hf] at o; exact o
  | exc x S' => rw [hf] at o; exact o
  | ok fl S1 =>
    rw [hf] at o
    cases fl with
    | bk => exact o
    | ct => exact o
    | rt w => exact o
    | nx =>
      have o : OutS C cs.length cs s D G' (g S1) := o
      exact fun σ1 H1 cs1 R1 l1 T1 g1 => ⟨cs1, S1, R1, g1, pp.same l1 T1, o.up l1 T1⟩
/-- slots forgotten -/
theorem jb_weak {G0 : Gam} (h : JB X C s G0 pins sts G' f) (hg : gle G0 G = true) : JB X C s G pins sts G' f := PSs.imp h fun D σ H ⟨cs, S, R, p, pp, o⟩ => ⟨cs, S, R, p.gle hg, pp, o⟩
/-- .. in the values, too -/
def forget : List Nat → Sl → Sl
  | [], S => S
  | i :: is, S => (forget is S).set i none
def forgetG : List Nat → Gam → Gam
  | [], G => G
  | i :: is, G => (forgetG is G).set i none
theorem forget_length (is : List Nat) (S : Sl) : (forget is S).length = S.length := by
  induction is with
  | nil => rfl
  | cons i is ih => simp [forget, ih]
theorem forgetG_length (is : List Nat) (G : Gam) : (forgetG is G).length = G.length := by
  induction is with
  | nil => rfl
  | cons i is ih => simp [forgetG, ih]
theorem rel_forget1 {cs : Cells} {S : Sl} {σ : St} {H : Hp} (R : RelC C cs S σ H) (p : Has C.n G cs) (i : Nat) (hi : i < C.n) :
    ∃ cs', RelC C cs' (S.set i none) σ H ∧ cs'.length = cs.length ∧ Tsame C.n cs.length cs cs' ∧ Has C.n (G.set i none) cs' ∧ ∀ (j : Nat) (c : Cell), cs'[j]? = some (some c) → j ≠ i ∧ cs[j]? = some (some c) := by
  have hl := R.ln
  refine ⟨cs.set i none, R.weak (by simp) (fun j x y q1 q2 => ?_) (by simpa using R.ls) R.lσ (fun j c hj q => ?_), by simp, fun j h1 h2 => ?_, ⟨by simpa using p.1, fun j m q => ?_⟩, fun j c q => ?_⟩
  · by_cases hj : j = i
    · subst hj
      rw [List.getElem?_set_self (by omega)] at q1
      cases q1
      exact .none
    · rw [List.getElem?_set_ne (Ne.symm hj)] at q1
      rw [q1] at q2; cases q2
      exact .same
  · have hji : j ≠ i := fun z => by
      subst z
      rw [List.getElem?_set_self (by omega)] at q
      cases q
    exact ⟨List.getElem?_set_ne (Ne.symm hji), rfl⟩
  · rw [List.getElem?_set_ne (by omega)]
  · have hji : j ≠ i := fun z => by
      subst z
      rw [List.getElem?_set_self (by have := (List.getElem?_eq_some_iff.mp q).1; simpa using this)] at q
      cases q
    rw [List.getElem?_set_ne (Ne.symm hji)] at q
    obtain ⟨c, q1, q2⟩ := p.2 j m q
    exact ⟨c, by rw [List.getElem?_set_ne (Ne.symm hji)]; exact q1, q2⟩
  · have hji : j ≠ i := fun z => by
      subst z
      rw [List.getElem?_set_self (by omega)] at q
      cases q
    rw [List.getElem?_set_ne (Ne.symm hji)] at q
    exact ⟨hji, q⟩
theorem rel_forget : ∀ (is : List Nat) {cs : Cells} {S : Sl} {σ : St} {H : Hp}, RelC C cs S σ H → Has C.n G cs → (∀ i ∈ is, i < C.n) →
    ∃ cs', RelC C cs' (forget is S) σ H ∧ cs'.length = cs.length ∧ Tsame C.n cs.length cs cs' ∧ Has C.n (forgetG is G) cs' ∧ ∀ (j : Nat) (c : Cell), cs'[j]? = some (some c) → j ∉ is ∧ cs[j]? = some (some c)
  | [], cs, S, σ, H, R, p, _ => ⟨cs, R, rfl, .refl, p, fun j c q => ⟨by simp, q⟩⟩
  | i :: is, cs, S, σ, H, R, p, hi => by
    obtain ⟨cs1, R1, l1, T1, g1, d1⟩ := rel_forget is R p fun j hj => hi j (List.mem_cons_of_mem _ hj)
    obtain ⟨cs2, R2, l2, T2, g2, d2⟩ := rel_forget1 R1 g1 i (hi i List.mem_cons_self)
    exact ⟨cs2, R2, by omega, T1.trans T2 (by omega), g2, fun j c q => by
      obtain ⟨q1, q2⟩ := d2 j c q
      obtain ⟨q3, q4⟩ := d1 j c q2
      exact ⟨by simp [q1, q3], q4⟩⟩
theorem jb_forget {is : List Nat} (h : JB X C s (forgetG is G) pins sts G' f) (hi : ∀ i ∈ is, i < C.n) : JB X C s G pins sts G' (fun S => f (forget is S)) := PSs.imp h fun D σ H ⟨cs, S, R, p, pp, o⟩ => by
  obtain ⟨cs1, R1, l1, T1, g1, _⟩ := rel_forget is R p hi
  exact ⟨cs1, _, R1, g1, pp.same l1 T1, o.up l1 T1⟩
theorem js_pass : JS X C s G pins (.Pass pos) G fSkip := PS.imp ps_pass fun D σ H ⟨cs, S, R, p, pp, o⟩ => o σ H cs R rfl .refl p
theorem js_break (hg : gle s.Gb G = true) : JS X C s G pins (.Break pos) G' (fun S => .ok .bk S) := PS.imp ps_break fun D σ H ⟨cs, S, R, p, pp, o⟩ => o σ H cs R rfl .refl (p.gle hg)
theorem js_cont (hg : gle s.Gc G = true) : JS X C s G pins (.Continue pos) G' (fun S => .ok .ct S) := PS.imp ps_continue fun D σ H ⟨cs, S, R, p, pp, o⟩ => o σ H cs R rfl .refl (p.gle hg)
def fExpr (fe : Sl → Res W) : Sl → Res Fl := fun S => (fe S).bind fun _ S1 => .ok .nx S1
theorem Has.pop {n L : Nat} {cs : Cells} (h : Has n G cs) (hL : n ≤ L) (hl : L ≤ cs.length) : Has n G (cs.take L) := ⟨h.1, fun i m e => by
  obtain ⟨c, q1, q2⟩ := h.2 i m e
  have hi : i < n := Nat.lt_of_lt_of_le (List.getElem?_eq_some_iff.mp e).1 h.1
  exact ⟨c, by rw [List.getElem?_take_of_lt (by omega)]; exact q1, q2⟩⟩
theorem Tsame.pop {n L L' : Nat} {cs cs1 : Cells} (T : Tsame n L cs cs1) (h : L ≤ L') : Tsame n L cs (cs1.take L') := fun i h1 h2 => by
  rw [List.getElem?_take_of_lt (by omega)]
  exact T i h1 h2
theorem js_expr (he : JE X C G pins e mo G' fe) (hs : swapsWith e none pos.line X.env = pure false) : JS X C s G pins (.Expr e pos) G' (fExpr fe) := PS.imp (ps_expr he hs) fun D σ H ⟨cs, S, R, p, pp, o⟩ => by
  refine ⟨cs, S, R, p, pp, ?_⟩
  unfold fExpr at o
  cases hf : fe S with
  | err => rw [hf] at o; exact o
  | exc x S' => rw [hf] at o; exact o σ
  | ok w S1 =>
    rw [hf] at o
    intro v fp H1 cs1 R1 l1 t1 T1 g1
    exact o σ H1 _ (R1.take R.ln (by omega)) (by rw [List.length_take]; omega) (T1.pop (Nat.le_refl _)) (g1.pop R.ln (by omega))
def fRet (fe : Sl → Res W) : Sl → Res Fl := fun S => (fe S).bind fun w S1 => .ok (.rt w) S1
theorem js_ret (he : JE X C G pins e mo G' fe) (ho : s.own = true → mo = .O) (hg : gle s.Gr G' = true) : JS X C s G pins (.Return (some e) pos) G1 (fRet fe) := PS.imp (ps_ret he) fun D σ H ⟨cs, S, R, p, pp, o⟩ => by
  refine ⟨cs, S, R, p, pp, ?_⟩
  unfold fRet at o
  cases hf : fe S with
  | err => rw [hf] at o; exact o
  | exc x S' => rw [hf] at o; exact o σ
  | ok w S1 =>
    rw [hf] at o
    intro v fp H1 cs1 R1 l1 t1 T1 g1
    exact o v σ H1 cs1 cs.length mo fp R1 R.ln t1 ho (g1.gle hg)
theorem js_retN (hg : gle s.Gr G = true) : JS X C s G pins (.Return none pos) G1 (fun S => .ok (.rt .non) S) := PS.imp ps_retN fun D σ H ⟨cs, S, R, p, pp, o⟩ =>
  o .non σ H _ cs.length .O [] (R.push (c := ⟨.non, .non, .O, []⟩) mkNon (fun x hx => by cases hx) (fun _ => rfl) fun ds z => by cases z) R.ln (by simp) (fun _ => rfl) ((p.gle hg).app R.ln)
theorem js_if (hc : JT X C G pins c G1 fb) (ha : JB X C s G1 pins sts G' f) {els : List Stmt} (hb : JB X C s G1 pins els G' g) : JS X C s G pins (.If c sts els pos) G' (fIf fb f g) := PS.imp (ps_if hc ha hb) fun D σ H ⟨cs, S, R, p, pp, o⟩ => by
  refine if_out R p pp (P := OutS C cs.length cs s D G') o (fun x S' z => z σ) (fun z => z) ?_ ?_
  · intro H1 cs1 S1 R1 l1 T1 g1 pn o
    exact ⟨cs1, S1, R1, g1, pn, OutS.up o l1 T1⟩
  · intro H1 cs1 S1 R1 l1 T1 g1 pn o
    exact ⟨cs1, S1, R1, g1, pn, OutS.up o l1 T1⟩
theorem jb_soft (h : JB X C s G pins sts G1 f) (hg : gle G' G1 = true) : JB X C s G pins sts G' f := PSs.imp h fun D σ H ⟨cs, S, R, p, pp, o⟩ => by
  refine ⟨cs, S, R, p, pp, ?_⟩
  revert o
  cases f S with
  | err => exact id
  | exc x S' => exact id
  | ok fl S1 =>
    cases fl with
    | nx => exact fun o σ' H' cs' R l T g => o σ' H' cs' R l T (g.gle hg)
    | bk => exact id
    | ct => exact id
    | rt w => exact id

/-! ### assignments to names -/
/-- what targets do with a value -/
inductive Tg where
  | nm (i : Nat)
  | tp (is : List Nat)
def setAll : List Nat → List W → Sl → Option Sl
  | [], [], S => some S
  | i :: is, w :: ws, S => setAll is ws (S.set i (some w))
  | _, _, _ => none
def Tg.sem : Tg → W → Sl → Option Sl
  | .nm i, w, S => some (S.set i (some w))
  | .tp is, .tup ws, S => setAll is ws S
  | .tp _, _, _ => none
def Tg.slots : Tg → List Nat
  | .nm i => [i]
  | .tp is => is
def setAllG : List Nat → Mo → Gam → Gam
  | [], _, G => G
  | i :: is, m, G => setAllG is m (G.set i (some m))
def Tg.gam : Tg → Mo → Gam → Gam
  | .nm i, m, G => G.set i (some m)
  | .tp is, m, G => setAllG is (.B m.dep) G
/-- a target's judgement: the item is the top temp -/
def semG (C : Ctx) (G : Gam) (t : Tg) (m : Mo) (v : V) (σ : St) (H : Hp) (Q : St → Hp → Prop) : Prop :=
  ∃ (cs : Cells) (S : Sl) (L : Nat) (w : W) (fp : List Addr) (S' : Sl), RelC C cs S σ H ∧ Has C.n G cs ∧ C.n ≤ L ∧ cs.length = L + 1 ∧ cs[L]? = some (some ⟨v, w, m, fp⟩) ∧ t.sem w S = some S' ∧
    ∀ (σ' : St) (cs' : Cells), RelC C cs' S' σ' H → cs'.length = L → Tsame C.n L cs cs' → Has C.n (t.gam m G) cs' → (∀ i, i ∉ t.slots → σ'[i]? = σ[i]?) → Q σ' H
def JG (X : Cx) (C : Ctx) (G : Gam) (t : Tg) (m : Mo) (e : Expr) : Prop := PG X e (fun v σ H Q => semG C G t m v σ H Q)
theorem PG.imp {t t' : TG} (h : PG X e t) (i : ∀ v σ H Q, t' v σ H Q → t v σ H Q) : PG X e t' := ⟨fun pins s σ H v u Q I r q => h.run pins s σ H v u Q I r (i v σ H Q q)⟩
theorem Has.set {cs : Cells} (p : Has C.n G cs) {i : Nat} {c : Cell} (hi : i < C.n) (hl : C.n ≤ cs.length) (hG : i < G.length) : Has C.n (G.set i (some c.m)) (cs.set i (some c)) := ⟨by simpa using p.1, fun j m q => by
  by_cases hj : j = i
  · subst hj
    rw [List.getElem?_set_self hG] at q
    cases q
    exact ⟨c, by rw [List.getElem?_set_self (by omega)], rfl⟩
  · rw [List.getElem?_set_ne (Ne.symm hj)] at q
    obtain ⟨d, q1, q2⟩ := p.2 j m q
    exact ⟨d, by rw [List.getElem?_set_ne (Ne.symm hj)]; exact q1, q2⟩⟩
theorem rel_store {cs : Cells} {S : Sl} {σ : St} {H : Hp} {L : Nat} (R : RelC C cs S σ H) (p : Has C.n G cs) (hL : C.n ≤ L) (hl : cs.length = L + 1) {c : Cell} (hc : cs[L]? = some (some c)) {i : Nat} (hi : i < C.n) (hG : i < G.length) (hip : ∀ v, C.fr.ip ≠ some (i, v)) :
    RelC C ((cs.take L).set i (some c)) (S.set i (some c.w)) (σ.set i (some c.v)) H ∧ ((cs.take L).set i (some c)).length = L ∧ Tsame C.n L cs ((cs.take L).set i (some c)) ∧ Has C.n (G.set i (some c.m)) ((cs.take L).set i (some c)) := by
  have lt : (cs.take L).length = L := by rw [List.length_take]; omega
  refine ⟨R.store hL hl hc hi hip, by rw [List.length_set, lt], fun j h1 h2 => ?_, (p.pop hL (by omega)).set hi (by omega) hG⟩
  rw [List.getElem?_set_ne (by omega), List.getElem?_take_of_lt h2]
def ipFree (C : Ctx) (i : Nat) : Prop := ∀ v, C.fr.ip ≠ some (i, v)
theorem jg_name {i : Nat} {x : Str} {p : Pos} (hN : X.N.Nodup) (hi : X.N[i]? = some x) (hx : Loc X.env.scope x) (hf : X.fn x = true ∨ X.env.scope.names.lookup x = some .local) (hin : i < C.n) (hG : i < G.length) (hip : ipFree C i) : JG X C G (.nm i) mo (.Name x p) :=
  PG.imp (pg_name hN hi hx hf) fun v σ H Q ⟨cs, S, L, w, fp, S', R, h, hL, hl, hc, e, q⟩ => by
    cases e
    obtain ⟨R2, l2, T2, g2⟩ := rel_store R h hL hl hc hin hG hip
    exact q _ _ R2 l2 T2 g2 fun j hj => List.getElem?_set_ne (fun z => hj (by rw [← z]; exact List.mem_singleton.mpr rfl))
def fAsg (t : Tg) (fe : Sl → Res W) : Sl → Res Fl := fun S => (fe S).bind fun w S1 => match t.sem w S1 with
  | some S2 => .ok .nx S2
  | none => .err
theorem asg_core {te : TE} {g : TG} {t : Tg} {D : Ends} {σ : St} {H : Hp} (mono : ∀ σ H Q, semE C G pins mo G1 fe σ H Q → te σ H Q) (hg : ∀ v σ H Q, semG C G1 t mo v σ H Q → g v σ H Q) (q : semS C s G pins (t.gam mo G1) (fAsg t fe) D σ H) : tAsg te g D σ H := by
  obtain ⟨cs, S, R, p, pp, o⟩ := q
  refine mono σ H _ ⟨cs, S, R, p, pp, ?_⟩
  unfold fAsg at o
  cases hf : fe S with
  | err => rw [hf] at o; exact o
  | exc x S' => rw [hf] at o; exact o σ
  | ok w S1 =>
    rw [hf] at o
    have o : OutS C cs.length cs s D (t.gam mo G1) (match t.sem w S1 with | some S2 => .ok .nx S2 | none => .err) := o
    cases ht : t.sem w S1 with
    | none => rw [ht] at o; exact o.elim
    | some S2 =>
      rw [ht] at o
      intro v fp H1 cs1 R1 l1 t1 T1 g1
      exact hg v σ H1 _ ⟨cs1, S1, cs.length, w, fp, S2, R1, g1, R.ln, l1, t1, ht, fun σ' cs' R2 l2 T2 g2 _ => o σ' H1 cs' R2 l2 (T1.trans T2 (Nat.le_refl _)) g2⟩
theorem js_asg {i : Nat} {x : Str} {p : Pos} (he : JE X C G pins e mo G1 fe) (hN : X.N.Nodup) (hi : X.N[i]? = some x) (hx : Loc X.env.scope x) (hf : X.fn x = true ∨ X.env.scope.names.lookup x = some .local) (hin : i < C.n) (hG : i < G1.length) (hip : ipFree C i)
    (hs : swapsWith e (some (.Name x p)) pos.line X.env = pure false) : JS X C s G pins (.Assign [.Name x p] e pos) (G1.set i (some mo)) (fAsg (.nm i) fe) :=
  PS.imp (ps_set hN hi hx he hs hf) fun D σ H q => asg_core (t := .nm i) (fun _ _ _ z => z) (fun v σ H Q ⟨cs, S, L, w, fp, S', R, h, hL, hl, hc, e, q⟩ => by
    cases e
    obtain ⟨R2, l2, T2, g2⟩ := rel_store R h hL hl hc hin hG hip
    exact q _ _ R2 l2 T2 g2 fun j hj => List.getElem?_set_ne (fun z => hj (by rw [← z]; exact List.mem_singleton.mpr rfl))) q
theorem js_asgG {t : Tg} {tg : Expr} (he : JE X C G pins e mo G1 fe) (hg : JG X C G1 t mo tg) (hs : swapsWithSole [tg] e pos.line X.env = pure false) (hw : swappedStores [tg] e X.env = pure none) (h1 : (assignEach [tg] X.env).map (·.2) = [assign tg X.env]) :
    JS X C s G pins (.Assign [tg] e pos) (t.gam mo G1) (fAsg t fe) := PS.imp (ps_asg he hg hs hw h1) fun D σ H q => asg_core (t := t) (fun _ _ _ z => z) (fun _ _ _ _ z => z) q
end
end Vm

namespace Vm
open PySem PySem.Spec PyProof.Rows L2

/-! ## tuple targets -/
section
variable {X : Cx} {C : Ctx} {s : Sx} {G G1 G2 G' : Gam} {pins : List Nat} {e a b c : Expr} {st : Stmt} {sts : List Stmt} {mo : Mo} {f g : Sl → Res Fl} {fe : Sl → Res W} {fb : Sl → Res Bool} {pos : Pos} {ms : List Am}
/-- a name that may be stored -/
structure NmOk (X : Cx) (C : Ctx) (x : Str) (i : Nat) : Prop where
  nd : X.N.Nodup
  ix : X.N[i]? = some x
  loc : Loc X.env.scope x
  fn : X.fn x = true ∨ X.env.scope.names.lookup x = some .local
  lt : i < C.n
  ip : ipFree C i
def tns : List Nat → TGs
  | [] => gNil
  | i :: is => gCons (gName i) (tns is)
inductive NmsOk (X : Cx) (C : Ctx) : List Expr → List Nat → Prop where
  | nil : NmsOk X C [] []
  | cons (x : Str) (p : Pos) (i : Nat) (es : List Expr) (is : List Nat) : NmOk X C x i → NmsOk X C es is → NmsOk X C (.Name x p :: es) (i :: is)
theorem NmsOk.pgs {es : List Expr} {is : List Nat} (h : NmsOk X C es is) : PGs X es (tns is) := by
  induction h with
  | nil => exact pgs_nil
  | cons x p i es is h1 h2 ih => exact pgs_cons (pg_name h1.nd h1.ix h1.loc h1.fn) ih rfl
theorem NmsOk.each {es : List Expr} {is : List Nat} (h : NmsOk X C es is) {env : Env} : (assignEach es env).length = is.length ∧ (assignEach es env).findIdx? (·.1) = none := by
  induction h with
  | nil => exact ⟨rfl, rfl⟩
  | cons x p i es is h1 h2 ih =>
    have e : assignEach (.Name x p :: es) env = (false, assign (.Name x p) env) :: assignEach es env := rfl
    rw [e]
    refine ⟨by simp [ih.1], ?_⟩
    rw [List.findIdx?_cons]
    simp [ih.2]
theorem NmsOk.mem {es : List Expr} {is : List Nat} (h : NmsOk X C es is) : ∀ i ∈ is, i < C.n ∧ ipFree C i := by
  induction h with
  | nil => intro i hi; cases hi
  | cons x p i es is h1 h2 ih =>
    intro j hj
    rcases List.mem_cons.mp hj with rfl | hj
    · exact ⟨h1.lt, h1.ip⟩
    · exact ih j hj
theorem tup_go {L : Nat} {m : Mo} : ∀ (is : List Nat) {ws : List W} {vs : List V} {fps : List Addr} {cs : Cells} {S S' : Sl} {σ : St} {H : Hp} {G : Gam} {v : V} {w : W} {fp : List Addr} {Q : St → Hp → Prop},
    (∀ i ∈ is, i < C.n ∧ ipFree C i) → RelC C cs S σ H → Has C.n G cs → G.length = C.n → C.n ≤ L → cs.length = L + 1 → cs[L]? = some (some ⟨v, w, .B m.dep, fp⟩) → Vws C.K H ws vs fps → (∀ a ∈ fps, a ∈ fp) → setAll is ws S = some S' →
    (∀ (σ' : St) (cs' : Cells), RelC C cs' S' σ' H → cs'.length = L + 1 → Tsame C.n L cs cs' → Has C.n (setAllG is (.B m.dep) G) cs' → (∀ i, i ∉ is → σ'[i]? = σ[i]?) → Q σ' H) → tns is vs σ H Q
  | [], ws, vs, fps, cs, S, S', σ, H, G, v, w, fp, Q, hi, R, p, hGn, hL, hl, ht, hv, hf, hs, q => by
    cases ws with
    | cons _ _ => simp [setAll] at hs
    | nil =>
      simp only [Vws] at hv
      simp [setAll] at hs
      subst hs
      exact ⟨hv.1, q σ cs R hl .refl p fun _ _ => rfl⟩
  | i :: is, ws, vs, fps, cs, S, S', σ, H, G, v, w, fp, Q, hi, R, p, hGn, hL, hl, ht, hv, hf, hs, q => by
    cases ws with
    | nil => simp [setAll] at hs
    | cons w1 ws =>
      simp only [Vws] at hv
      obtain ⟨v1, vs1, f1, f2, rfl, rfl, r1, r2⟩ := hv
      have R2 := R.push (c := ⟨v1, w1, .B m.dep, f1⟩) r1 (show ∀ x ∈ m.dep, x < C.n from R.dl L _ ht) (fun z => by cases z) fun ds z a ha => by
        cases z
        exact ⟨L, _, ht, hf a (List.mem_append_left _ ha), (fun z => by cases z), fun x hx => hx⟩
      obtain ⟨hin, hip⟩ := hi i List.mem_cons_self
      obtain ⟨R3, l3, T3, g3⟩ := rel_store R2 (p.app R.ln) (L := L + 1) (by omega) (by simp; omega) (c := ⟨v1, w1, .B m.dep, f1⟩) (by rw [← hl]; simp) hin (by omega) hip
      refine ⟨v1, vs1, rfl, ?_⟩
      refine tup_go is (m := m) (L := L) (v := v) (w := w) (fp := fp) (fun j hj => hi j (List.mem_cons_of_mem _ hj)) R3 g3 (by simp [hGn]) hL l3 ?_ r2 (fun a ha => hf a (List.mem_append_right _ ha)) hs ?_
      · rw [T3 L hL (by omega), List.getElem?_append_left (by omega)]
        exact ht
      · intro σ' cs' R' l' T' g' hd
        refine q σ' cs' R' l' (fun j h1 h2 => ?_) g' fun j hj => ?_
        · rw [T' j h1 h2, T3 j h1 (by omega), List.getElem?_append_left (by omega)]
        · simp only [List.mem_cons, not_or] at hj
          rw [hd j hj.2, List.getElem?_set_ne (Ne.symm hj.1)]
theorem setAllG_length : ∀ (is : List Nat) (m : Mo) (G : Gam), (setAllG is m G).length = G.length
  | [], _, _ => rfl
  | i :: is, m, G => by simp [setAllG, setAllG_length is]
theorem jg_tup {es : List Expr} {is : List Nat} {k : Nat} (hc : X.calm = true) (hK : X.K = C.K) (h : NmsOk X C es is) (hGn : G.length = C.n) : JG X C G (.tp is) mo (.Tuple es k pos) :=
  PG.imp (pg_tup hc h.pgs h.each.1 h.each.2) fun v σ H Q ⟨cs, S, L, w, fp, S', R, p, hL, hl, ht, e, q⟩ => by
    cases w with
    | tup ws =>
      have hs : setAll is ws S = some S' := e
      obtain ⟨a, vs, rfl, s, r⟩ := vwTup (R.view L _ ht)
      have hlen : vs.length = is.length := by
        rw [r.length]
        have : ∀ (is : List Nat) (ws : List W) (S S' : Sl), setAll is ws S = some S' → ws.length = is.length := by
          intro is
          induction is with
          | nil => intro ws S S' h; cases ws with
            | nil => rfl
            | cons _ _ => simp [setAll] at h
          | cons i is ih => intro ws S S' h; cases ws with
            | nil => simp [setAll] at h
            | cons w ws => simp only [setAll] at h; simp [ih ws _ _ h]
        exact this is ws S S' hs
      refine ⟨a, vs, rfl, by rw [hK]; exact s, hlen, ?_⟩
      -- the tuple's temp is borrowed from now on
      have hdl := R.dl L _ ht
      have R1 : RelC C (cs.set L (some ⟨.ref a, .tup ws, .B mo.dep, fp⟩)) S σ H := R.weak (by simp) (fun i x y q1 q2 => by
        by_cases hi : i = L
        · subst hi
          rw [List.getElem?_set_self (by omega)] at q1
          rw [ht] at q2
          cases q1; cases q2
          exact .soft (fun x hx => hx) hdl
        · rw [List.getElem?_set_ne (Ne.symm hi)] at q1
          rw [q1] at q2; cases q2
          exact .same) R.ls R.lσ fun i c hi q => ⟨rfl, rfl⟩
      have p1 : Has C.n G (cs.set L (some ⟨.ref a, .tup ws, .B mo.dep, fp⟩)) := ⟨p.1, fun i m e => by
        obtain ⟨c, q1, q2⟩ := p.2 i m e
        have hi : i < C.n := Nat.lt_of_lt_of_le (List.getElem?_eq_some_iff.mp e).1 p.1
        exact ⟨c, by rw [List.getElem?_set_ne (by omega)]; exact q1, q2⟩⟩
      refine tup_go is (m := mo) (L := L) (v := .ref a) (w := .tup ws) (fp := fp) h.mem R1 p1 hGn hL (by simp [hl]) (by rw [List.getElem?_set_self (by omega)]) r (fun a ha => ha) hs fun σ' cs' R' l' T' g' hd => ?_
      refine q σ' _ (R'.take hL (by omega)) (by rw [List.length_take]; omega) (fun i h1 h2 => ?_) (g'.pop hL (by omega)) hd
      rw [List.getElem?_take_of_lt h2, T' i h1 h2, List.getElem?_set_ne (by omega)]
    | non => simp [Tg.sem] at e
    | bl _ => simp [Tg.sem] at e
    | int _ => simp [Tg.sem] at e
    | str _ => simp [Tg.sem] at e
    | lst _ => simp [Tg.sem] at e
    | scr _ => simp [Tg.sem] at e
    | dct _ _ => simp [Tg.sem] at e
    | ins _ _ _ => simp [Tg.sem] at e

/-! ## what is walked -/
def ItOk (K : Kz) (J : It) (its : List W) (ws : List W) (vs : List V) : Prop := ∀ (H : Hp) (fps : List Addr), Vws K H ws vs fps →
  (∀ (i : Nat) (x : W), its[i]? = some x → J.go i H ∧ ∀ (u : V) (H' : Hp), J.yld i H u H' → Same H H' ∧ ∃ f, Vw K H' x u f ∧ ∀ a ∈ f, a ∈ fps) ∧ J.stop its.length H
def OutI (C : Ctx) (L : Nat) (cs : Cells) (σ : St) (ms : List Am) (G' : Gam) (R : It → Hp → Prop) : Res (List W) → Prop
  | .ok its S' => ∀ (J : It) (vs : List V) (ws : List W) (H' : Hp) (cs' : Cells), RelC C cs' S' σ H' → cs'.length = L + ms.length → ArgsAt cs' σ L ms vs ws → ItOk C.K J its ws vs → Tsame C.n L cs cs' → Has C.n G' cs' → R J H'
  | .exc x S' => OutX C L cs σ x S'
  | .err => False
def semI (C : Ctx) (G : Gam) (pins : List Nat) (ms : List Am) (G' : Gam) (fi : Sl → Res (List W)) : TI := fun σ H R =>
  ∃ cs S, RelC C cs S σ H ∧ Has C.n G cs ∧ PinOk C.n pins cs ∧ OutI C cs.length cs σ ms G' R (fi S)
def JI (X : Cx) (C : Ctx) (G : Gam) (pins : List Nat) (tg iter : Expr) (ms : List Am) (G' : Gam) (fi : Sl → Res (List W)) : Prop := PI X tg iter (semI C G pins ms G' fi)
theorem PI.imp {tg iter : Expr} {t t' : TI} (h : PI X tg iter t) (i : ∀ σ H R, t' σ H R → t σ H R) : PI X tg iter t' := ⟨fun pins s σ H R I q => h.run pins s σ H R I (i σ H R q)⟩

theorem ArgsAt.same {cs cs' : Cells} {σ σ' : St} : ∀ {L : Nat} {ms : List Am} {vs : List V} {ws : List W}, ArgsAt cs σ L ms vs ws → plain ms = true → (∀ i, L ≤ i → i < L + ms.length → cs'[i]? = cs[i]?) → ArgsAt cs' σ' L ms vs ws
  | _, [], [], [], _, _, _ => trivial
  | L, .mo m :: ms, v :: vs, w :: ws, h, hp, hs => ⟨by
      obtain ⟨fp, q⟩ := h.1
      exact ⟨fp, by rw [hs L (Nat.le_refl _) (by simp)]; exact q⟩, ArgsAt.same h.2 (by simpa [plain] using hp) fun i h1 h2 => hs i (by omega) (by simp; omega)⟩
/-- owned temps are borrowed from now on -/
def softM : List Am → List Am
  | [] => []
  | .mo m :: ms => .mo (.B m.dep) :: softM ms
  | .io k :: ms => .io k :: softM ms
theorem softM_length (ms : List Am) : (softM ms).length = ms.length := by
  induction ms with
  | nil => rfl
  | cons m ms ih => cases m <;> simp [softM, ih]
theorem softM_plain (ms : List Am) (h : plain ms = true) : plain (softM ms) = true := by
  induction ms with
  | nil => rfl
  | cons m ms ih => cases m with
    | mo m => simpa [softM, plain] using ih (by simpa [plain] using h)
    | io k => simp [plain] at h
theorem softM_deps (ms : List Am) : deps (softM ms) = deps ms := by
  induction ms with
  | nil => rfl
  | cons m ms ih =>
    cases m with
    | mo m => show Mo.dep (.B m.dep) ++ deps (softM ms) = m.dep ++ deps ms; rw [ih]; rfl
    | io k => show [] ++ deps (softM ms) = [] ++ deps ms; rw [ih]
theorem softM_noO : ∀ (ms : List Am) (j : Nat), (softM ms)[j]? ≠ some (.mo .O)
  | [], j => by simp [softM]
  | .mo m :: ms, 0 => by simp [softM]
  | .io k :: ms, 0 => by simp [softM]
  | .mo m :: ms, j + 1 => by simpa [softM] using softM_noO ms j
  | .io k :: ms, j + 1 => by simpa [softM] using softM_noO ms j
theorem argsSoft {σ : St} {S : Sl} {H : Hp} : ∀ {ms : List Am} {L : Nat} {cs : Cells} {vs : List V} {ws : List W}, RelC C cs S σ H → C.n ≤ L → L + ms.length ≤ cs.length → plain ms = true → ArgsAt cs σ L ms vs ws →
    ∃ cs', RelC C cs' S σ H ∧ cs'.length = cs.length ∧ (∀ i, (i < L ∨ L + ms.length ≤ i) → cs'[i]? = cs[i]?) ∧ ArgsAt cs' σ L (softM ms) vs ws
  | [], L, cs, [], [], R, hL, hl, hp, h => ⟨cs, R, rfl, fun _ _ => rfl, trivial⟩
  | .mo m :: ms, L, cs, v :: vs, w :: ws, R, hL, hl, hp, h => by
    obtain ⟨⟨fp, hc⟩, h⟩ := h
    obtain ⟨cs1, R1, l1, q1, a1⟩ := argsSoft (L := L + 1) R (by omega) (by simp at hl; omega) (by simpa [plain] using hp) h
    have hc1 : cs1[L]? = some (some ⟨v, w, m, fp⟩) := by rw [q1 L (.inl (by omega))]; exact hc
    have hll : L < cs1.length := (List.getElem?_eq_some_iff.mp hc1).1
    refine ⟨cs1.set L (some ⟨v, w, .B m.dep, fp⟩), R1.weak (by simp) (fun i x y z1 z2 => ?_) R1.ls R1.lσ (fun i c hi z => ⟨rfl, rfl⟩), by simp [l1], fun i hi => ?_, ⟨fp, by rw [List.getElem?_set_self hll]⟩, ?_⟩
    · by_cases hi : i = L
      · subst hi
        rw [List.getElem?_set_self hll] at z1
        rw [hc1] at z2
        cases z1; cases z2
        exact .soft (fun x hx => hx) (R1.dl _ _ hc1)
      · rw [List.getElem?_set_ne (Ne.symm hi)] at z1
        rw [z1] at z2; cases z2
        exact .same
    · rw [List.getElem?_set_ne (by simp at hi; omega)]
      exact q1 i (by simp at hi; omega)
    · refine a1.same (softM_plain ms (by simpa [plain] using hp)) fun i h1 h2 => ?_
      rw [List.getElem?_set_ne (by omega)]
theorem argsAt_noO {cs : Cells} {σ : St} : ∀ {L : Nat} {ms : List Am} {vs : List V} {ws : List W}, ArgsAt cs σ L ms vs ws → plain ms = true → (∀ j : Nat, ms[j]? ≠ some (.mo .O)) → ∀ (j : Nat) (d : Cell), L ≤ j → j < L + ms.length → cs[j]? = some (some d) → d.m ≠ .O
  | L, [], [], [], _, _, _ => fun j d h1 h2 => by simp at h2; omega
  | L, .mo m :: ms, v :: vs, w :: ws, h, hp, hn => fun j d h1 h2 q z => by
    obtain ⟨⟨fp, hc⟩, h⟩ := h
    by_cases hj : j = L
    · subst hj
      rw [hc] at q
      cases q
      have z : m = .O := z
      subst z
      exact hn 0 rfl
    · exact argsAt_noO h (by simpa [plain] using hp) (fun k => by simpa using hn (k + 1)) j d (by omega) (by simp at h2; omega) q z

/-! ## for -/
def fLoop (t : Tg) (is : List Nat) (body : Sl → Res Fl) : List W → Sl → Res Fl
  | [], S => .ok .nx (forget is S)
  | w :: ws, S => match t.sem w (forget is S) with
    | none => .err
    | some S1 => match body S1 with
      | .ok .nx S2 => fLoop t is body ws S2
      | .ok .ct S2 => fLoop t is body ws S2
      | .ok .bk S2 => .ok .nx (forget is S2)
      | .ok (.rt w) S2 => .ok (.rt w) S2
      | .exc x S2 => .exc x S2
      | .err => .err
def fFor (fi : Sl → Res (List W)) (t : Tg) (is : List Nat) (body : Sl → Res Fl) : Sl → Res Fl := fun S => (fi S).bind fun its S1 => fLoop t is body its S1
/-- the item comes as a temp -/
theorem item_push {cs : Cells} {S : Sl} {σ : St} {H H' : Hp} {L : Nat} {vs : List V} {ws : List W} {fps f : List Addr} {u : V} {x : W} (R : RelC C cs S σ H) (hL : C.n ≤ L) (hp : plain ms = true) (hno : ∀ j : Nat, ms[j]? ≠ some (.mo .O)) (hA : ArgsAt cs σ L ms vs ws) (hl : cs.length = L + ms.length)
    (hfp : ∀ a ∈ fps, ∃ (j : Nat) (d : Cell), L ≤ j ∧ cs[j]? = some (some d) ∧ a ∈ d.fp ∧ ∀ x ∈ d.m.dep, x ∈ deps ms) (e : Same H H') (hv : Vw C.K H' x u f) (hf : ∀ a ∈ f, a ∈ fps) : RelC C (cs ++ [some ⟨u, x, .B (deps ms), f⟩]) S σ H' :=
  (R.same e).push hv (deps_lt R hA) (fun z => by cases z) fun ds z a ha => by
    cases z
    obtain ⟨j, d, h1, h2, h3, h4⟩ := hfp a (hf a ha)
    refine ⟨j, d, h2, h3, fun hm => ?_, h4⟩
    have hj : j < L + ms.length := by have := (List.getElem?_eq_some_iff.mp h2).1; omega
    exact absurd hm (argsAt_noO hA hp hno j d h1 hj h2)
theorem js_for {tg iter : Expr} {t : Tg} {is : List Nat} {Gi : Gam} {fi : Sl → Res (List W)} (hpo : PassesOwn (model X.prog X.w) X.A X.env X.xe) (hc : X.calm = true) (hi : JI X C G pins tg iter ms G1 fi) (hp : plain ms = true) (hg0 : gle Gi G1 = true)
    (hg : JG X C (forgetG is Gi) t (.B (deps ms)) tg) (hb : JB X C { s with Gb := Gi, Gc := Gi } (t.gam (.B (deps ms)) (forgetG is Gi)) (pins ++ deps ms) sts G2 f) (hg2 : gle Gi G2 = true) (his : ∀ i ∈ is, i < C.n)
    (hs : ∀ x, foldedSetIterable iter X.env x = pure x) : JS X C s G pins (.For tg iter sts [] pos) (forgetG is Gi) (fFor fi t is f) := PS.imp (ps_for hpo hc hi hg hb hs) fun D σ H ⟨cs0, S0, R0, p0, pp0, o⟩ => by
  refine ⟨cs0, S0, R0, p0, pp0, ?_⟩
  unfold fFor at o
  cases hf : fi S0 with
  | err => rw [hf] at o; exact o
  | exc x S' => rw [hf] at o; exact o σ
  | ok its S1 =>
    rw [hf] at o
    have o : OutS C cs0.length cs0 s D (forgetG is Gi) (fLoop t is f its S1) := o
    intro J vs ws H1 cs1 R1 l1 a1 itok T1 g1
    have ln := R0.ln
    obtain ⟨cs2, R2, l2, q2, a2⟩ := argsSoft R1 ln (by omega) hp a1
    have T2 : Tsame C.n cs0.length cs0 cs2 := fun i h1 h2 => by rw [q2 i (.inl h2)]; exact T1 i h1 h2
    have g2 : Has C.n Gi cs2 := ⟨(g1.gle hg0).1, fun i m e => by
      obtain ⟨c, z1, z2⟩ := (g1.gle hg0).2 i m e
      have hin : i < C.n := Nat.lt_of_lt_of_le (List.getElem?_eq_some_iff.mp e).1 (g1.gle hg0).1
      exact ⟨c, by rw [q2 i (.inl (by omega))]; exact z1, z2⟩⟩
    have hps := softM_plain ms hp
    have hno := softM_noO ms
    have hms := softM_length ms
    have hdep := softM_deps ms
    refine ⟨fun i m σ' H' => m = its.length - i ∧ i ≤ its.length ∧ ∃ cs S, RelC C cs S σ' H' ∧ cs.length = cs0.length + ms.length ∧ (∀ j, C.n ≤ j → j < cs0.length + ms.length → cs[j]? = cs2[j]?) ∧ Has C.n Gi cs ∧ OutS C cs0.length cs0 s D (forgetG is Gi) (fLoop t is f (its.drop i) S),
      ⟨its.length, rfl, Nat.zero_le _, cs2, S1, R2, by omega, fun _ _ _ => rfl, g2, o⟩, ?_⟩
    rintro i m σ3 H3 ⟨rfl, hle, cs3, S3, R3, l3, T3, g3, o3⟩
    obtain ⟨cs4, R4, l4, T4, g4, _⟩ := rel_forget is R3 g3 his
    have T5 : ∀ j, C.n ≤ j → j < cs0.length + ms.length → cs4[j]? = cs2[j]? := fun j h1 h2 => by rw [T4 j h1 (by omega)]; exact T3 j h1 h2
    have T6 : Tsame C.n cs0.length cs0 cs4 := fun j h1 h2 => by rw [T5 j h1 (by omega)]; exact T2 j h1 h2
    have a4 : ArgsAt cs4 σ3 cs0.length (softM ms) vs ws := a2.same hps fun j h1 h2 => T5 j (by omega) (by omega)
    obtain ⟨fps, v4, f4, _⟩ := argsAt_vws R4 ln hps a4
    obtain ⟨hgo, hstop⟩ := itok H3 fps v4
    have fin : ∀ {S5 : Sl} {σ5 : St} {H5 : Hp} {cs5 : Cells}, RelC C cs5 S5 σ5 H5 → cs5.length = cs0.length + ms.length → (∀ j, C.n ≤ j → j < cs0.length + ms.length → cs5[j]? = cs2[j]?) → Has C.n Gi cs5 →
        OutS C cs0.length cs0 s D (forgetG is Gi) (.ok .nx (forget is S5)) → D.nx σ5 H5 := fun {S5 σ5 H5 cs5} R5 l5 T5' g5 o5 => by
      obtain ⟨cs6, R6, l6, T6', g6, _⟩ := rel_forget is R5 g5 his
      refine o5 σ5 H5 _ (R6.take ln (by omega)) (by rw [List.length_take]; omega) (fun j h1 h2 => ?_) (g6.pop ln (by omega))
      rw [List.getElem?_take_of_lt h2, T6' j h1 (by omega), T5' j h1 (by omega)]
      exact T2 j h1 h2
    by_cases hlt : i < its.length
    · have hd : its.drop i = its[i] :: its.drop (i + 1) := (List.drop_eq_getElem_cons hlt)
      obtain ⟨g0, gy⟩ := hgo i its[i] (List.getElem?_eq_getElem hlt)
      refine .inr ⟨g0, fun σ' H' => ∃ m', m' < its.length - i ∧ (m' = its.length - (i + 1) ∧ i + 1 ≤ its.length ∧ ∃ cs S, RelC C cs S σ' H' ∧ cs.length = cs0.length + ms.length ∧ (∀ j, C.n ≤ j → j < cs0.length + ms.length → cs[j]? = cs2[j]?) ∧ Has C.n Gi cs ∧ OutS C cs0.length cs0 s D (forgetG is Gi) (fLoop t is f (its.drop (i + 1)) S)), fun σ' H' h => h, fun u H4 hy => ?_⟩
      obtain ⟨sm, f', hv, hf'⟩ := gy u H4 hy
      have R5 := item_push R4 ln hps hno a4 (by omega) f4 sm hv hf'
      rw [hdep] at R5
      rw [hd] at o3
      unfold fLoop at o3
      cases ht : t.sem its[i] (forget is S3) with
      | none => rw [ht] at o3; exact o3.elim
      | some S5 =>
        rw [ht] at o3
        refine ⟨cs4 ++ [some ⟨u, its[i], .B (deps ms), f'⟩], forget is S3, cs0.length + ms.length, its[i], f', S5, R5, g4.app R4.ln, by omega, by simp; omega, by rw [← l3, ← l4]; simp, ht, fun σ6 cs6 R6 l6 T7 g6 _ => ?_⟩
        have T8 : ∀ j, C.n ≤ j → j < cs0.length + ms.length → cs6[j]? = cs2[j]? := fun j h1 h2 => by
          rw [T7 j h1 h2, List.getElem?_append_left (by omega)]; exact T5 j h1 h2
        refine ⟨cs6, S5, R6, g6, fun j d hj hd x hx => ?_, ?_⟩
        · have hlt6 : j < cs0.length + ms.length := by have := (List.getElem?_eq_some_iff.mp hd).1; omega
          rw [T8 j hj hlt6] at hd
          by_cases hj0 : j < cs0.length
          · rw [T2 j hj hj0] at hd
            exact List.mem_append_left _ (pp0 j d hj hd x hx)
          · refine List.mem_append_right _ ?_
            rw [← hdep]
            have key : ∀ {L : Nat} {ms : List Am} {vs : List V} {ws : List W}, ArgsAt cs2 σ L ms vs ws → plain ms = true → L ≤ j → j < L + ms.length → ∀ x ∈ d.m.dep, x ∈ deps ms := by
              intro L ms
              induction ms generalizing L with
              | nil => intro vs ws _ _ h1 h2; simp at h2; omega
              | cons m ms ih =>
                intro vs ws hA hp h1 h2 x hx
                cases m with
                | io k => simp [plain] at hp
                | mo m =>
                  cases vs with
                  | nil => cases ws <;> exact hA.elim
                  | cons v vs =>
                    cases ws with
                    | nil => exact hA.elim
                    | cons w ws =>
                      obtain ⟨⟨fp, hc⟩, hA⟩ := hA
                      by_cases hjl : j = L
                      · subst hjl
                        rw [hc] at hd; cases hd
                        exact List.mem_append_left _ hx
                      · exact List.mem_append_right _ (ih hA (by simpa [plain] using hp) (by omega) (by simp at h2; omega) x hx)
            exact key a2 hps (by omega) (by omega) x hx
        · have o3 : OutS C cs0.length cs0 s D (forgetG is Gi) (match f S5 with
            | .ok .nx S2 => fLoop t is f (its.drop (i + 1)) S2
            | .ok .ct S2 => fLoop t is f (its.drop (i + 1)) S2
            | .ok .bk S2 => .ok .nx (forget is S2)
            | .ok (.rt w) S2 => .ok (.rt w) S2
            | .exc x S2 => .exc x S2
            | .err => .err) := o3
          cases hb : f S5 with
          | err => rw [hb] at o3; exact o3.elim
          | exc x S6 =>
            rw [hb] at o3
            intro σ7
            exact OutX.up (L := cs0.length) (o3 σ7) (fun j h1 h2 => by rw [T8 j h1 (by omega)]; exact T2 j h1 h2) (by omega)
          | ok fl S6 =>
            rw [hb] at o3
            have T9 : ∀ {cs7 : Cells}, Tsame C.n cs6.length cs6 cs7 → ∀ j, C.n ≤ j → j < cs0.length + ms.length → cs7[j]? = cs2[j]? := fun {cs7} T j h1 h2 => by rw [T j h1 (by omega)]; exact T8 j h1 h2
            cases fl with
            | nx =>
              have o3 : OutS C cs0.length cs0 s D (forgetG is Gi) (fLoop t is f (its.drop (i + 1)) S6) := o3
              exact fun σ7 H7 cs7 R7 l7 T g7 => ⟨its.length - (i + 1), by omega, rfl, hlt, cs7, S6, R7, by omega, T9 T, g7.gle hg2, o3⟩
            | ct =>
              have o3 : OutS C cs0.length cs0 s D (forgetG is Gi) (fLoop t is f (its.drop (i + 1)) S6) := o3
              exact fun σ7 H7 cs7 R7 l7 T g7 => ⟨its.length - (i + 1), by omega, rfl, hlt, cs7, S6, R7, by omega, T9 T, g7, o3⟩
            | bk =>
              have o3 : OutS C cs0.length cs0 s D (forgetG is Gi) (.ok .nx (forget is S6)) := o3
              exact fun σ7 H7 cs7 R7 l7 T g7 => fin R7 (by omega) (T9 T) g7 o3
            | rt w => exact o3
    · have hi : i = its.length := by omega
      subst hi
      refine .inl ⟨hstop, ?_⟩
      rw [List.drop_length] at o3
      exact fin R3 l3 T3 g3 o3

/-! ## while -/
def wLoop (c : Sl → Res Bool) (is : List Nat) (body : Sl → Res Fl) : Nat → Sl → Res Fl
  | 0, _ => .err
  | n + 1, S => (c (forget is S)).bind fun b S1 => if b = true then (match body S1 with
      | .ok .nx S2 => wLoop c is body n S2
      | .ok .ct S2 => wLoop c is body n S2
      | .ok .bk S2 => .ok .nx (forget is S2)
      | .ok (.rt w) S2 => .ok (.rt w) S2
      | .exc x S2 => .exc x S2
      | .err => .err) else .ok .nx (forget is S1)
open Classical in
/-- what it comes to in the end -/
noncomputable def lim {α : Type} (f : Nat → Res α) : Res α := if h : ∃ n, f n ≠ .err then f (Classical.choose h) else .err
theorem lim_some {α : Type} {f : Nat → Res α} (h : lim f ≠ .err) : ∃ n, f n = lim f := by
  unfold lim at h ⊢
  split at h
  · rename_i hx
    exact ⟨Classical.choose hx, by rw [dif_pos hx]⟩
  · exact absurd rfl h
noncomputable def fWhile (c : Sl → Res Bool) (is : List Nat) (body : Sl → Res Fl) : Sl → Res Fl := fun S => lim fun n => wLoop c is body n S
theorem js_while {is : List Nat} {Gi : Gam} (hpo : PassesOwn (model X.prog X.w) X.A X.env X.xe) (hg0 : gle Gi G = true) (hc : JT X C (forgetG is Gi) pins c G1 fb) (hb : JB X C { s with Gb := Gi, Gc := Gi } G1 pins sts G2 f) (hg2 : gle Gi G2 = true) (hg1 : gle Gi G1 = true) (his : ∀ i ∈ is, i < C.n) :
    JS X C s G pins (.While c sts [] pos) (forgetG is Gi) (fWhile fb is f) := PS.imp (ps_while hpo hc hb) fun D σ H ⟨cs0, S0, R0, p0, pp0, o⟩ => by
  have hne : fWhile fb is f S0 ≠ .err := fun z => by rw [z] at o; exact o
  obtain ⟨n0, hn0⟩ := lim_some hne
  have o : OutS C cs0.length cs0 s D (forgetG is Gi) (wLoop fb is f n0 S0) := by rw [hn0]; exact o
  refine ⟨fun m σ' H' => ∃ cs S, RelC C cs S σ' H' ∧ cs.length = cs0.length ∧ Tsame C.n cs0.length cs0 cs ∧ Has C.n Gi cs ∧ OutS C cs0.length cs0 s D (forgetG is Gi) (wLoop fb is f m S), ⟨n0, cs0, S0, R0, rfl, .refl, p0.gle hg0, o⟩, ?_⟩
  rintro m σ1 H1 ⟨cs1, S1, R1, l1, T1, g1, o1⟩
  obtain ⟨cs2, R2, l2, T2, g2, _⟩ := rel_forget is R1 g1 his
  have T3 : Tsame C.n cs0.length cs0 cs2 := T1.trans T2 (by omega)
  have fin : ∀ {S5 : Sl} {σ5 : St} {H5 : Hp} {cs5 : Cells}, RelC C cs5 S5 σ5 H5 → cs5.length = cs0.length → Tsame C.n cs0.length cs0 cs5 → Has C.n Gi cs5 →
      OutS C cs0.length cs0 s D (forgetG is Gi) (.ok .nx (forget is S5)) → D.nx σ5 H5 := fun {S5 σ5 H5 cs5} R5 l5 T5' g5 o5 => by
    obtain ⟨cs6, R6, l6, T6', g6, _⟩ := rel_forget is R5 g5 his
    exact o5 σ5 H5 _ R6 (by omega) (T5'.trans T6' (by omega)) g6
  cases m with
  | zero => exact o1.elim
  | succ m =>
    unfold wLoop at o1
    refine ⟨cs2, _, R2, g2, (pp0.same (by omega) T3), ?_⟩
    cases hc : fb (forget is S1) with
    | err => rw [hc] at o1; exact o1.elim
    | exc x S2 => rw [hc] at o1; exact OutX.up (L := cs0.length) (o1 σ1) T3 (by omega)
    | ok b S2 =>
      rw [hc] at o1
      intro H3 cs3 R3 l3 T4 g3
      have T5 : Tsame C.n cs0.length cs0 cs3 := T3.trans T4 (by omega)
      cases b with
      | false =>
        have o1 : OutS C cs0.length cs0 s D (forgetG is Gi) (.ok .nx (forget is S2)) := o1
        rw [if_neg (by decide)]
        exact fin R3 (by omega) T5 (g3.gle hg1) o1
      | true =>
        rw [if_pos rfl]
        have o1 : OutS C cs0.length cs0 s D (forgetG is Gi) (match f S2 with
          | .ok .nx S2 => wLoop fb is f m S2
          | .ok .ct S2 => wLoop fb is f m S2
          | .ok .bk S2 => .ok .nx (forget is S2)
          | .ok (.rt w) S2 => .ok (.rt w) S2
          | .exc x S2 => .exc x S2
          | .err => .err) := o1
        refine ⟨fun σ' H' => ∃ m', m' < m + 1 ∧ ∃ cs S, RelC C cs S σ' H' ∧ cs.length = cs0.length ∧ Tsame C.n cs0.length cs0 cs ∧ Has C.n Gi cs ∧ OutS C cs0.length cs0 s D (forgetG is Gi) (wLoop fb is f m' S), fun σ' H' h => h, cs3, S2, R3, g3, pp0.same (by omega) T5, ?_⟩
        cases hb : f S2 with
        | err => rw [hb] at o1; exact o1.elim
        | exc x S3 =>
          rw [hb] at o1
          exact fun σ7 => OutX.up (L := cs0.length) (o1 σ7) T5 (by omega)
        | ok fl S3 =>
          rw [hb] at o1
          cases fl with
          | nx => exact fun σ7 H7 cs7 R7 l7 T g7 => ⟨m, by omega, cs7, S3, R7, by omega, T5.trans T (by omega), g7.gle hg2, o1⟩
          | ct => exact fun σ7 H7 cs7 R7 l7 T g7 => ⟨m, by omega, cs7, S3, R7, by omega, T5.trans T (by omega), g7, o1⟩
          | bk => exact fun σ7 H7 cs7 R7 l7 T g7 => fin R7 (by omega) (T5.trans T (by omega)) g7 o1
          | rt w => exact o1
end
end Vm

namespace Vm
open PySem PySem.Spec PyProof.Rows L2

/-! ## iterators -/
abbrev RI := List V → Hp → (It → Hp → Prop) → Prop
def LocI (K : Kz) (R : RI) (items : List W → Option (List W)) : Prop := ∀ (vs : List V) (ws : List W) (fps : List Addr) (H : Hp) (Rr : It → Hp → Prop) (its : List W), Vws K H ws vs fps → items ws = some its →
  (∀ J, ItOk K J its ws vs → Rr J H) → R vs H Rr
def fItems (g : Sl → Res (List W)) (items : List W → Option (List W)) : Sl → Res (List W) := fun S => (g S).bind fun ws S1 => match items ws with
  | some its => .ok its S1
  | none => .err
section
variable {X : Cx} {C : Ctx} {G G' : Gam} {pins : List Nat} {ms : List Am} {es : List Expr} {g : Sl → Res (List W)} {tg iter : Expr}
theorem ji_of {wi : TI} {R : RI} {items : List W → Option (List W)} (hi : PI X tg iter wi) (h : ∀ σ H Rr, semA C G pins ms G' g σ H (fun vs H1 => R vs H1 Rr) → wi σ H Rr) (hp : plain ms = true) (loc : LocI C.K R items) : JI X C G pins tg iter ms G' (fItems g items) :=
  PI.imp hi fun σ H Rr ⟨cs, S, R0, p, pp, o⟩ => h σ H Rr ⟨cs, S, R0, p, pp, by
    unfold fItems at o
    cases hg : g S with
    | err => rw [hg] at o; exact o
    | exc x S' => rw [hg] at o; exact o
    | ok ws S1 =>
      rw [hg] at o
      intro vs H1 cs1 R1 l1 a1 T1 g1
      have o : OutI C cs.length cs σ ms G' Rr (match items ws with | some its => .ok its S1 | none => .err) := o
      cases hs : items ws with
      | none => rw [hs] at o; exact o.elim
      | some its =>
        rw [hs] at o
        obtain ⟨fps, q, _⟩ := argsAt_vws R1 R0.ln hp a1
        exact loc vs ws fps H1 Rr its q hs fun J hJ => o J vs ws H1 cs1 R1 l1 a1 hJ T1 g1⟩
end
def itemsL : List W → Option (List W)
  | [.lst ws] => some ws
  | [.scr ws] => some ws
  | _ => none
theorem sqOf {K : Kz} {H : Hp} {w : W} {v : V} {fp : List Addr} {its : List W} (hi : itemsL [w] = some its) (h : Vw K H w v fp) : ∃ a vs, v = .ref a ∧ SqL K H a vs ∧ ∃ f, Vws K H its vs f ∧ ∀ b ∈ f, b ∈ fp := by
  cases w <;> simp only [itemsL, reduceCtorEq, Option.some.injEq] at hi
  · subst hi
    obtain ⟨a, vs, fps, rfl, r, s, rfl⟩ := vwLst h
    exact ⟨a, vs, rfl, SqL.of s, fps, r, fun b hb => List.mem_cons_of_mem _ hb⟩
  · subst hi
    obtain ⟨a, vs, rfl, r, s, rfl⟩ := vwScr h
    exact ⟨a, vs, rfl, s.sq, [], r, fun b hb => by cases hb⟩
theorem loci_list {K : Kz} : LocI K (fun vs H R => ∃ x, vs = [x] ∧ ∃ a, x = V.ref a ∧ (∃ xs, SqL K H a xs) ∧ R (Itl K a) H) itemsL := by
  intro vs ws fps H Rr its hv hi k
  obtain ⟨w, rfl⟩ : ∃ w, ws = [w] := by
    unfold itemsL at hi
    split at hi <;> first | exact ⟨_, rfl⟩ | cases hi
  obtain ⟨x, rfl, r⟩ := vws1 hv
  obtain ⟨a, vs, rfl, s, _⟩ := sqOf hi r
  refine ⟨_, rfl, a, rfl, ⟨vs, s⟩, k _ fun H2 fp2 hv2 => ?_⟩
  obtain ⟨x2, e2, r2⟩ := vws1 hv2
  cases e2
  obtain ⟨a2, vs2, e3, s2, f2, q2, q3⟩ := sqOf hi r2
  cases e3
  refine ⟨fun i x hx => ?_, ⟨vs2, s2, by rw [← q2.length]; exact Nat.le_refl _⟩⟩
  obtain ⟨v, f, h1, h2, h3⟩ := q2.get hx
  refine ⟨⟨vs2, v, s2, h1⟩, fun u H' hy => ?_⟩
  obtain ⟨e, hy⟩ := hy
  subst e
  have := hy vs2 s2
  rw [h1] at this; cases this
  exact ⟨Same.refl _, f, h2, fun a ha => q3 a (h3 a ha)⟩
def itemsT : List W → Option (List W)
  | [.tup ws] => some ws
  | _ => none
theorem loci_tup {K : Kz} : LocI K (fun vs H R => ∃ x, vs = [x] ∧ ∃ a, x = V.ref a ∧ (∃ xs, SqT K H a xs) ∧ R (Itt K a) H) itemsT := by
  intro vs ws fps H Rr its hv hi k
  unfold itemsT at hi
  split at hi
  · cases hi
    obtain ⟨x, rfl, r⟩ := vws1 hv
    obtain ⟨a, vs, rfl, s, _⟩ := vwTup r
    refine ⟨_, rfl, a, rfl, ⟨vs, s⟩, k _ fun H2 fp2 hv2 => ?_⟩
    obtain ⟨x2, e2, r2⟩ := vws1 hv2
    cases e2
    obtain ⟨a2, vs2, e3, s2, q2⟩ := vwTup r2
    cases e3
    refine ⟨fun i x hx => ?_, ⟨vs2, s2, by rw [← q2.length]; exact Nat.le_refl _⟩⟩
    obtain ⟨v, f, h1, h2, h3⟩ := q2.get hx
    refine ⟨⟨vs2, v, s2, h1⟩, fun u H' hy => ?_⟩
    obtain ⟨e, hy⟩ := hy
    subst e
    have := hy vs2 s2
    rw [h1] at this; cases this
    exact ⟨Same.refl _, f, h2, fun a ha => h3 a ha⟩
  · cases hi
/-- lo, lo + 1, .. -/
def upFrom (lo : Int) (n : Nat) : List W := (List.range n).map fun (i : Nat) => W.int (lo + (i : Int))
theorem itok_range {K : Kz} {lo : Int} {n : Nat} {ws : List W} {vs : List V} : ItOk K (Itr lo n) (upFrom lo n) ws vs := fun H fps hv => by
  refine ⟨fun i x hx => ?_, ?_⟩
  · unfold upFrom at hx
    rw [List.getElem?_map, Option.map_eq_some_iff] at hx
    obtain ⟨j, hj, rfl⟩ := hx
    obtain ⟨hl, e⟩ := List.getElem?_eq_some_iff.mp hj
    rw [List.getElem_range] at e
    subst e
    refine ⟨(by show _ < n; simpa using hl), fun u H' hy => ?_⟩
    obtain ⟨e1, e2⟩ := hy
    subst e1; subst e2
    exact ⟨Same.refl _, [], mkInt, fun a ha => by cases ha⟩
  · show n ≤ (upFrom lo n).length
    simp [upFrom]
def itemsR1 : List W → Option (List W)
  | [.int j] => if -(2 ^ 62) ≤ j ∧ j < 2 ^ 62 then some (upFrom 0 j.toNat) else none
  | _ => none
theorem loci_r1 {K : Kz} : LocI K (fun vs H R => ∃ j : Int, vs = [.int j] ∧ -(2 ^ 62) ≤ j ∧ j < 2 ^ 62 ∧ R (Itr 0 j.toNat) H) itemsR1 := by
  intro vs ws fps H Rr its hv hi k
  unfold itemsR1 at hi
  split at hi
  · obtain ⟨x, rfl, r⟩ := vws1 hv
    obtain ⟨rfl, _⟩ := vwInt r
    split at hi
    · rename_i h
      cases hi
      exact ⟨_, rfl, h.1, h.2, k _ itok_range⟩
    · cases hi
  · cases hi
def itemsR2 : List W → Option (List W)
  | [.int i, .int j] => if -(2 ^ 62) ≤ i ∧ i < 2 ^ 62 ∧ -(2 ^ 62) ≤ j ∧ j < 2 ^ 62 then some (upFrom i (j - i).toNat) else none
  | _ => none
theorem loci_r2 {K : Kz} : LocI K (fun vs H R => ∃ i j : Int, vs = [.int i, .int j] ∧ (-(2 ^ 62) ≤ i ∧ i < 2 ^ 62 ∧ -(2 ^ 62) ≤ j ∧ j < 2 ^ 62) ∧ R (Itr i (j - i).toNat) H) itemsR2 := by
  intro vs ws fps H Rr its hv hi k
  unfold itemsR2 at hi
  split at hi
  · obtain ⟨x, y, f1, f2, rfl, rfl, r1, r2⟩ := vws2 hv
    obtain ⟨rfl, _⟩ := vwInt r1
    obtain ⟨rfl, _⟩ := vwInt r2
    split at hi
    · rename_i h
      cases hi
      exact ⟨_, _, rfl, h, k _ itok_range⟩
    · cases hi
  · cases hi
/-- lo, lo + c, .. -/
def stepFrom (lo c : Int) (n : Nat) : List W := (List.range n).map fun (i : Nat) => W.int (lo + (i : Int) * c)
def rgOk (i j c : Int) : Bool := decide (c ≠ 0) && decide (c.natAbs < 1073741824) && Builtin.Range.small i j c && decide (0 ≤ Builtin.Range.rangeSize i j c)
def itemsR3 : List W → Option (List W)
  | [.int i, .int j, .int c] => if rgOk i j c = true then some (stepFrom i c (Builtin.Range.rangeSize i j c).toNat) else none
  | _ => none
theorem loci_r3 {K : Kz} : LocI K (fun vs H R => ∃ (i j c : Int) (n : Nat), vs = [.int i, .int j, .int c] ∧ RgC i j c n ∧ R (Itc i c n) H) itemsR3 := by
  intro vs ws fps H Rr its hv hi k
  unfold itemsR3 at hi
  split at hi
  · obtain ⟨x, y, z, f1, f2, f3, rfl, rfl, r1, r2, r3⟩ := vws3 hv
    obtain ⟨rfl, _⟩ := vwInt r1
    obtain ⟨rfl, _⟩ := vwInt r2
    obtain ⟨rfl, _⟩ := vwInt r3
    split at hi
    · rename_i h
      cases hi
      unfold rgOk at h
      simp only [Bool.and_eq_true, decide_eq_true_eq] at h
      refine ⟨_, _, _, _, rfl, ⟨h.1.1.1, h.1.1.2, h.1.2, (Int.toNat_of_nonneg h.2).symm⟩, k _ fun H2 fp2 hv2 => ⟨fun i x hx => ?_, ?_⟩⟩
      · unfold stepFrom at hx
        rw [List.getElem?_map, Option.map_eq_some_iff] at hx
        obtain ⟨j, hj, rfl⟩ := hx
        obtain ⟨hl, e⟩ := List.getElem?_eq_some_iff.mp hj
        rw [List.getElem_range] at e
        subst e
        refine ⟨(by show _ < Int.toNat _; simpa using hl), fun u H' hy => ?_⟩
        obtain ⟨e1, e2⟩ := hy
        subst e1; subst e2
        exact ⟨Same.refl _, [], mkInt, fun a ha => by cases ha⟩
      · show _ ≤ (stepFrom _ _ _).length
        simp [stepFrom]
    · cases hi
  · cases hi
def pairUp (its : List W) : List W := its.mapIdx fun i w => W.tup [.int (i : Nat), w]
def itemsE (ws : List W) : Option (List W) := (itemsL ws).map pairUp
theorem loci_enum {K : Kz} : LocI K (fun vs H R => ∃ a xs, vs = [.ref a] ∧ SqL K H a xs ∧ R (Ite K a) H) itemsE := by
  intro vs ws fps H Rr its hv hi k
  unfold itemsE at hi
  rw [Option.map_eq_some_iff] at hi
  obtain ⟨its0, hi, rfl⟩ := hi
  obtain ⟨w, rfl⟩ : ∃ w, ws = [w] := by
    unfold itemsL at hi
    split at hi <;> first | exact ⟨_, rfl⟩ | cases hi
  obtain ⟨x, rfl, r⟩ := vws1 hv
  obtain ⟨a, vs, rfl, s, _⟩ := sqOf hi r
  refine ⟨a, vs, rfl, s, k _ fun H2 fp2 hv2 => ?_⟩
  obtain ⟨x2, e2, r2⟩ := vws1 hv2
  cases e2
  obtain ⟨a2, vs2, e3, s2, f2, q2, q3⟩ := sqOf hi r2
  cases e3
  refine ⟨fun i x hx => ?_, ⟨vs2, s2, by simp [pairUp, q2.length]⟩⟩
  unfold pairUp at hx
  rw [List.getElem?_mapIdx, Option.map_eq_some_iff] at hx
  obtain ⟨y, hy, rfl⟩ := hx
  obtain ⟨v, f, h1, h2, h3⟩ := q2.get hy
  refine ⟨⟨vs2, v, s2, h1⟩, fun u H' hyl => ?_⟩
  obtain ⟨T, x, rfl, hT, rfl, hx⟩ := hyl
  have := hx vs2 s2
  rw [h1] at this; cases this
  have sm : Same H2 (upd H2 T (.tup [.int (i : Nat), v])) := Same.upd hT
  refine ⟨sm, f, ?_, fun a ha => q3 a (h3 a ha)⟩
  simp only [Vw]
  refine ⟨T, _, rfl, SqT.of upd_same, ?_⟩
  simp only [Vws]
  exact ⟨_, _, [], f, rfl, rfl, mkInt, v, [], f, [], rfl, by simp, h2.same sm, rfl, rfl⟩
def zipUp (xs ys : List W) : List W := List.zipWith (fun x y => W.tup [x, y]) xs ys
def itemsZ : List W → Option (List W)
  | [a, b] => (itemsL [a]).bind fun xs => (itemsL [b]).map fun ys => zipUp xs ys
  | _ => none
theorem loci_zip {K : Kz} : LocI K (fun vs H R => ∃ a b xs ys, vs = [.ref a, .ref b] ∧ SqL K H a xs ∧ SqL K H b ys ∧ R (Itz K a b) H) itemsZ := by
  intro vs ws fps H Rr its hv hi k
  unfold itemsZ at hi
  split at hi
  · rename_i wa wb
    simp only [Option.bind_eq_some_iff, Option.map_eq_some_iff] at hi
    obtain ⟨xs, hx, ys, hy, rfl⟩ := hi
    obtain ⟨x, y, f1, f2, rfl, rfl, r1, r2⟩ := vws2 hv
    obtain ⟨a, va, rfl, sa, _⟩ := sqOf hx r1
    obtain ⟨b, vb, rfl, sb, _⟩ := sqOf hy r2
    refine ⟨a, b, va, vb, rfl, sa, sb, k _ fun H2 fp2 hv2 => ?_⟩
    obtain ⟨x2, y2, g1, g2, e2, rfl, p1, p2⟩ := vws2 hv2
    cases e2
    obtain ⟨a2, va2, e3, sa2, fa, qa, qa3⟩ := sqOf hx p1
    cases e3
    obtain ⟨b2, vb2, e3, sb2, fb, qb, qb3⟩ := sqOf hy p2
    cases e3
    refine ⟨fun i x hx => ?_, ⟨va2, vb2, sa2, sb2, ?_⟩⟩
    · unfold zipUp at hx
      rw [List.getElem?_zipWith] at hx
      cases h1 : xs[i]? with
      | none => rw [h1] at hx; cases hx
      | some wx =>
        cases h2 : ys[i]? with
        | none => rw [h1, h2] at hx; cases hx
        | some wy =>
          rw [h1, h2] at hx
          cases hx
          obtain ⟨v1, u1, z1, z2, z3⟩ := qa.get h1
          obtain ⟨v2, u2, y1, y2, y3⟩ := qb.get h2
          refine ⟨⟨va2, vb2, v1, v2, sa2, sb2, z1, y1⟩, fun u H' hyl => ?_⟩
          obtain ⟨T, x, y, rfl, hT, rfl, hx, hy⟩ := hyl
          have e1 := hx va2 sa2
          rw [z1] at e1; cases e1
          have e2 := hy vb2 sb2
          rw [y1] at e2; cases e2
          have sm : Same H2 (upd H2 T (.tup [v1, v2])) := Same.upd hT
          refine ⟨sm, u1 ++ u2, ?_, fun a ha => ?_⟩
          · simp only [Vw]
            refine ⟨T, _, rfl, SqT.of upd_same, ?_⟩
            simp only [Vws]
            exact ⟨_, _, u1, u2, rfl, rfl, z2.same sm, v2, [], u2, [], rfl, by simp, y2.same sm, rfl, rfl⟩
          · rcases List.mem_append.mp ha with ha | ha
            · exact List.mem_append_left _ (qa3 a (z3 a ha))
            · exact List.mem_append_right _ (qb3 a (y3 a ha))
    · have l1 := qa.length
      have l2 := qb.length
      simp only [zipUp, List.length_zipWith]
      omega
  · cases hi

section
variable {X : Cx} {C : Ctx} {G G' : Gam} {pins : List Nat} {ms : List Am} {g : Sl → Res (List W)} {tg a b c : Expr} {p pos : Pos}
theorem ji_list (hK : X.K = C.K) (ja : JA X C G pins [a] ms G' g) (hp : plain ms = true) : JI X C G pins tg a ms G' (fItems g itemsL) := by
  obtain ⟨ta, h1, _, h3⟩ := ja1 ja
  refine ji_of (pi_list h1) (fun σ H R q => h3 σ H _ _ (fun x H1 z => ?_) q) hp (loci_list (K := C.K))
  obtain ⟨x', e, a, h, s, r⟩ := z
  cases e
  rw [hK]
  exact ⟨a, h, s, r⟩
theorem ji_tup (hK : X.K = C.K) (ja : JA X C G pins [a] ms G' g) (hp : plain ms = true) : JI X C G pins tg a ms G' (fItems g itemsT) := by
  obtain ⟨ta, h1, _, h3⟩ := ja1 ja
  refine ji_of (pi_tup h1) (fun σ H R q => h3 σ H _ _ (fun x H1 z => ?_) q) hp (loci_tup (K := C.K))
  obtain ⟨x', e, a, h, s, r⟩ := z
  cases e
  rw [hK]
  exact ⟨a, h, s, r⟩
theorem ji_r1 (hg : Gl X "range") (hm : X.mg "range" = none) (ja : JA X C G pins [a] ms G' g) (hp : plain ms = true) : JI X C G pins tg (.Call (.Name "range" p) [a] [] pos) ms G' (fItems g itemsR1) :=
  ji_of (pi_range1 hg hm ja.pa (by rw [star_cons (ja.tail (pos := pos) (env := X.env)).1]; rfl)) (fun σ H R q => q) hp loci_r1
theorem ji_r2 (hg : Gl X "range") (hm : X.mg "range" = none) (ja : JA X C G pins [a, b] ms G' g) (hp : plain ms = true) (hb : notStar b = true) : JI X C G pins tg (.Call (.Name "range" p) [a, b] [] pos) ms G' (fItems g itemsR2) :=
  ji_of (pi_range2 hg hm ja.pa (by rw [star_cons (ja.tail (pos := pos) (env := X.env)).1, star_cons hb]; rfl) (by rw [star_cons hb]; rfl)) (fun σ H R q => q) hp loci_r2
theorem ji_r3 (hg : Gl X "range") (hm : X.mg "range" = none) (ja : JA X C G pins [a, b, c] ms G' g) (hp : plain ms = true) : JI X C G pins tg (.Call (.Name "range" p) [a, b, c] [] pos) ms G' (fItems g itemsR3) :=
  ji_of (pi_range3 hg hm ja.pa (star_cons (ja.tail (pos := pos) (env := X.env)).1) (ja.tail (pos := pos) (env := X.env)).2) (fun σ H R q => q) hp loci_r3
theorem ji_enum {elts : List Expr} {kk : Nat} {tpos : Pos} (hK : X.K = C.K) (hg : Gl X "enumerate") (hm : X.mg "enumerate" = none) (ja : JA X C G pins [a] ms G' g) (hp : plain ms = true) : JI X C G pins (.Tuple elts kk tpos) (.Call (.Name "enumerate" p) [a] [] pos) ms G' (fItems g itemsE) :=
  ji_of (pi_enum hg hm ja.pa (by rw [star_cons (ja.tail (pos := pos) (env := X.env)).1]; rfl)) (fun σ H R q => by unfold iEnum; rw [hK]; exact q) hp loci_enum
theorem ji_zip {elts : List Expr} {kk : Nat} {tpos : Pos} (hK : X.K = C.K) (hg : Gl X "zip") (hm : X.mg "zip" = none) (ja : JA X C G pins [a, b] ms G' g) (hp : plain ms = true) : JI X C G pins (.Tuple elts kk tpos) (.Call (.Name "zip" p) [a, b] [] pos) ms G' (fItems g itemsZ) :=
  ji_of (pi_zip hg hm ja.pa (star_cons (ja.tail (pos := pos) (env := X.env)).1) (ja.tail (pos := pos) (env := X.env)).2) (fun σ H R q => by unfold iZip; rw [hK]; exact q) hp loci_zip
end

/-! ## an owned temp is changed -/
section
variable {K : Kz} {fr : Frm} {n A : Nat} {cs : Cells} {S : Sl} {σ : St} {H H' : Hp}
theorem Rel.effT (R : Rel K fr n cs S σ H) (hA : n ≤ A) {c c' : Cell} (hc : cs[A]? = some (some c)) (hm : c.m = .O)
    (pres : ∀ a o, H a = some o → a ∉ c.fp → H' a = some o) (al : ∀ a, H a ≠ none → H' a ≠ none)
    (hv' : Vw K H' c'.w c'.v c'.fp) (em : c'.m = .O) (nd' : c'.fp.Nodup)
    (hO' : ∀ a ∈ c'.fp, (∃ o, H' a = some o ∧ isMut o = true) ∧ (H a = none ∨ a ∈ c.fp ∨ ∃ j d, A < j ∧ cs[j]? = some (some d) ∧ d.m = .O ∧ a ∈ d.fp)) :
    Rel K fr n (cs.take A ++ [some c']) S σ H' := by
  have hlA : A < cs.length := (List.getElem?_eq_some_iff.mp hc).1
  have tk : TupK H H' := fun a o h hi => pres a o h fun hf => by
    obtain ⟨⟨o', h1, h2⟩, _⟩ := (R.nd A c hc hm).2 a hf
    rw [h] at h1; cases h1
    rw [hi] at h2; cases h2
  have lt : (cs.take A).length = A := by rw [List.length_take]; omega
  have noAdep : ∀ {i : Nat} {d : Cell}, cs[i]? = some (some d) → A ∉ d.m.dep := fun {i d} q z => by
    have := R.dl i d q A z
    omega
  have keepfp : ∀ {i : Nat} {d : Cell}, i ≠ A → cs[i]? = some (some d) → ∀ a ∈ d.fp, H' a = H a := fun {i d} hi q a ha => by
    cases z : H a with
    | none => exact absurd z (R.trk q a ha)
    | some o =>
      refine pres a o z fun hf => ?_
      rcases R.dis A i c d (Ne.symm hi) hc q hm with y | y
      · exact noAdep q y
      · exact y a hf ha
  have ln := R.ln
  have src : ∀ a ∈ c'.fp, H a = none ∨ ∃ j d, A ≤ j ∧ cs[j]? = some (some d) ∧ d.m = .O ∧ a ∈ d.fp := fun a ha => by
    rcases (hO' a ha).2 with h | h | ⟨j, d, h1, h2, h3, h4⟩
    · exact .inl h
    · exact .inr ⟨A, c, Nat.le_refl _, hc, hm, h⟩
    · exact .inr ⟨j, d, by omega, h2, h3, h4⟩
  refine ⟨R.ls, R.lσ, by rw [List.length_append, lt]; simp; omega, fun i d hi q => ?_, fun i d q => ?_, fun i d q m => ?_, fun i d q a ha => ?_, fun i d q => ?_, fun i j x y ij q1 q2 m => ?_, fun a o h1 h2 => ?_, fun a h => al a (R.alive a h), fun p v e => ⟨(R.iov p v e).1, fun d q => ?_⟩⟩
  · rcases ix_push (by omega) q with ⟨_, q⟩ | ⟨rfl, rfl⟩
    · exact R.slot i d hi q
    · omega
  · rcases ix_push (by omega) q with ⟨h1, q⟩ | ⟨rfl, rfl⟩
    · exact (R.view i d q).mono tk (keepfp (by omega) q)
    · exact hv'
  · rcases ix_push (by omega) q with ⟨h1, q⟩ | ⟨rfl, rfl⟩
    · refine ⟨(R.nd i d q m).1, fun a ha => ?_⟩
      obtain ⟨h4, h5⟩ := (R.nd i d q m).2 a ha
      rw [keepfp (by omega) q a ha]
      exact ⟨h4, h5⟩
    · refine ⟨nd', fun a ha => ⟨(hO' a ha).1, ?_⟩⟩
      rcases src a ha with h | ⟨j, d, h1, h2, h3, h4⟩
      · exact .inl (R.new0 h)
      · exact ((R.nd j d h2 h3).2 a h4).2
  · rcases ix_push (by omega) q with ⟨h1, q⟩ | ⟨rfl, rfl⟩
    · exact R.uni i d q a ha
    · rcases src a ha with h | ⟨j, d, h1, h2, h3, h4⟩
      · exact .inl (R.new0 h)
      · exact R.uni j d h2 a h4
  · rcases ix_push (by omega) q with ⟨h1, q⟩ | ⟨rfl, rfl⟩
    · exact R.dl i d q
    · rw [em]; intro x hx; cases hx
  · rcases ix_push (by omega) q1 with ⟨i1, p1⟩ | ⟨rfl, rfl⟩
    · rcases ix_push (by omega) q2 with ⟨j1, p2⟩ | ⟨rfl, rfl⟩
      · exact R.dis i j x y ij p1 p2 m
      · refine .inr fun a ha hb => ?_
        rcases src a hb with h | ⟨k, d, h1, h2, h3, h4⟩
        · exact R.trk p1 a ha h
        · rcases R.dis i k x d (by omega) p1 h2 m with z | z
          · rw [h3] at z; cases z
          · exact z a ha h4
    · rcases ix_push (by omega) q2 with ⟨j1, p2⟩ | ⟨rfl, rfl⟩
      · refine .inr fun a ha hb => ?_
        rcases src a ha with h | ⟨k, d, h1, h2, h3, h4⟩
        · exact R.trk p2 a hb h
        · rcases R.dis k j d y (by omega) h2 p2 h3 with z | z
          · have := R.dl j y p2 k z
            omega
          · exact z a h4 hb
      · exact absurd rfl ij
  · refine pres a o (R.frm a o h1 h2) fun hf => ?_
    rcases ((R.nd A c hc hm).2 a hf).2 with z | z
    · rw [h1] at z; cases z
    · exact h2 z
  · have hp := (R.iov p v e).1
    rcases ix_push (by omega) q with ⟨_, q⟩ | ⟨rfl, _⟩
    · exact (R.iov p v e).2 d q
    · omega
end

/-! ## comprehensions -/
def noX {α : Type} (r : Res α) : Res α := match r with
  | .exc _ _ => .err
  | r => r
def cLoop (t : Tg) (own : List Nat) (cond : Sl → Res Bool) (elt : Sl → Res W) : List W → List W → Sl → Res W
  | [], acc, S => .ok (.lst acc) (forget own S)
  | w :: ws, acc, S => match t.sem w (forget own S) with
    | none => .err
    | some S1 => (noX (cond S1)).bind fun b S2 => if b = true then (noX (elt S2)).bind fun y S3 => cLoop t own cond elt ws (acc ++ [y]) S3 else cLoop t own cond elt ws acc S2
def fComp (fi : Sl → Res (List W)) (t : Tg) (own : List Nat) (cond : Sl → Res Bool) (elt : Sl → Res W) : Sl → Res W := fun S => (fi S).bind fun its S1 => if its.length ≤ sizeLine then cLoop t own cond elt its [] S1 else .err
def Ctx.quiet (C : Ctx) : Ctx := { C with Wh := fun _ _ _ _ => False }
theorem wipe_set {σ : St} {own : List Nat} {i : Nat} {x : Option V} (h : i ∈ own) : wipe (σ.set i x) own = wipe σ own := by
  refine List.ext_getElem? fun j => ?_
  have key : ∀ (σ : St) (own : List Nat), (wipe σ own)[j]? = if j ∈ own ∧ j < σ.length then some none else σ[j]? := by
    intro σ own
    induction own with
    | nil => simp [wipe]
    | cons v vs ih =>
      unfold wipe
      by_cases hj : v = j
      · subst hj
        by_cases hl : v < σ.length
        · rw [List.getElem?_set_self (by rw [wipe_length]; exact hl)]; simp [hl]
        · rw [List.getElem?_eq_none (by rw [List.length_set, wipe_length]; omega)]; simp [hl]
      · rw [List.getElem?_set_ne hj, ih]; simp [Ne.symm hj]
  rw [key, key, List.length_set]
  by_cases hj : j ∈ own ∧ j < σ.length
  · rw [if_pos hj, if_pos hj]
  · rw [if_neg hj, if_neg hj]
    by_cases hji : i = j
    · subst hji
      have : ¬ i < σ.length := fun z => hj ⟨h, z⟩
      rw [List.getElem?_eq_none (by simp; omega), List.getElem?_eq_none (by omega)]
    · rw [List.getElem?_set_ne hji]
theorem wipe_get {σ : St} {own : List Nat} {j : Nat} (h : j ∉ own) : (wipe σ own)[j]? = σ[j]? := by
  induction own with
  | nil => rfl
  | cons v vs ih =>
    unfold wipe
    simp at h
    rw [List.getElem?_set_ne (fun z => h.1 z.symm), ih h.2]
theorem forgetG_none {own : List Nat} {G : Gam} {i : Nat} {m : Mo} (h : (forgetG own G)[i]? = some (some m)) : i ∉ own := by
  induction own with
  | nil => simp
  | cons v vs ih =>
    unfold forgetG at h
    by_cases hv : v = i
    · subst hv
      by_cases hl : v < (forgetG vs G).length
      · rw [List.getElem?_set_self hl] at h; cases h
      · rw [List.getElem?_eq_none (by simpa using hl)] at h; cases h
    · rw [List.getElem?_set_ne hv] at h
      simp only [List.mem_cons, not_or]
      exact ⟨fun z => hv z.symm, ih h⟩
end Vm

namespace Vm
open PySem PySem.Spec PyProof.Rows L2

theorem wipe_eq {σ σ' : St} {own : List Nat} (hl : σ'.length = σ.length) (h : ∀ i, i ∉ own → σ'[i]? = σ[i]?) : wipe σ' own = wipe σ own := by
  refine List.ext_getElem? fun j => ?_
  have key : ∀ (σ : St) (own : List Nat), (wipe σ own)[j]? = if j ∈ own ∧ j < σ.length then some none else σ[j]? := by
    intro σ own
    induction own with
    | nil => simp [wipe]
    | cons v vs ih =>
      unfold wipe
      by_cases hj : v = j
      · subst hj
        by_cases hl : v < σ.length
        · rw [List.getElem?_set_self (by rw [wipe_length]; exact hl)]; simp [hl]
        · rw [List.getElem?_eq_none (by rw [List.length_set, wipe_length]; omega)]; simp [hl]
      · rw [List.getElem?_set_ne hj, ih]; simp [Ne.symm hj]
  rw [key, key, hl]
  by_cases hj : j ∈ own ∧ j < σ.length
  · rw [if_pos hj, if_pos hj]
  · rw [if_neg hj, if_neg hj]
    by_cases hjo : j ∈ own
    · have : ¬ j < σ.length := fun z => hj ⟨hjo, z⟩
      rw [List.getElem?_eq_none (by omega), List.getElem?_eq_none (by omega)]
    · exact h j hjo
section
variable {X : Cx} {C : Ctx} {s : Sx} {G G1 G2 G' : Gam} {pins : List Nat} {e a b c : Expr} {st : Stmt} {sts : List Stmt} {mo : Mo} {f g : Sl → Res Fl} {fe : Sl → Res W} {fb : Sl → Res Bool} {pos : Pos} {ms : List Am}
theorem argsAt_src {cs : Cells} {S : Sl} {σ : St} {H : Hp} (R : RelC C cs S σ H) : ∀ {L : Nat} {ms : List Am} {vs : List V} {ws : List W}, plain ms = true → ArgsAt cs σ L ms vs ws →
    ∃ fps, Vws C.K H ws vs fps ∧ ∀ a ∈ fps, ∃ (j : Nat) (d : Cell), L ≤ j ∧ j < L + ms.length ∧ cs[j]? = some (some d) ∧ a ∈ d.fp ∧ ∀ x ∈ d.m.dep, x ∈ deps ms
  | L, [], [], [], _, _ => ⟨[], (by simp [Vws]), (fun _ h => by cases h)⟩
  | L, .mo m :: ms, v :: vs, w :: ws, hp, h => by
    obtain ⟨⟨fp, hc⟩, h⟩ := h
    obtain ⟨fps, h1, h2⟩ := argsAt_src R (L := L + 1) (by simpa [plain] using hp) h
    refine ⟨fp ++ fps, by simp only [Vws]; exact ⟨v, vs, fp, fps, rfl, rfl, R.view _ _ hc, h1⟩, fun a ha => ?_⟩
    rcases List.mem_append.mp ha with ha | ha
    · exact ⟨L, _, Nat.le_refl _, by simp, hc, ha, fun x hx => List.mem_append_left _ hx⟩
    · obtain ⟨j, d, q1, q2, q3, q4, q5⟩ := h2 a ha
      exact ⟨j, d, by omega, by simp; omega, q3, q4, fun x hx => List.mem_append_right _ (q5 x hx)⟩
theorem item_push' {cs : Cells} {S : Sl} {σ : St} {H H' : Hp} {L : Nat} {vs : List V} {ws : List W} {fps f : List Addr} {u : V} {x : W} (R : RelC C cs S σ H) (hp : plain ms = true) (hno : ∀ j : Nat, ms[j]? ≠ some (.mo .O)) (hA : ArgsAt cs σ L ms vs ws)
    (hfp : ∀ a ∈ fps, ∃ (j : Nat) (d : Cell), L ≤ j ∧ j < L + ms.length ∧ cs[j]? = some (some d) ∧ a ∈ d.fp ∧ ∀ x ∈ d.m.dep, x ∈ deps ms) (e : Same H H') (hv : Vw C.K H' x u f) (hf : ∀ a ∈ f, a ∈ fps) : RelC C (cs ++ [some ⟨u, x, .B (deps ms), f⟩]) S σ H' :=
  (R.same e).push hv (deps_lt R hA) (fun z => by cases z) fun ds z a ha => by
    cases z
    obtain ⟨j, d, h1, h2, h3, h4, h5⟩ := hfp a (hf a ha)
    exact ⟨j, d, h3, h4, fun hm => absurd hm (argsAt_noO hA hp hno j d h1 h2 h3), h5⟩
/-- a clause's tests -/
def JTs (X : Cx) (C : Ctx) (G : Gam) (pins : List Nat) (ifs : List Expr) (G' : Gam) (f : Sl → Res Bool) : Prop := PTs X ifs (semV C G pins G' f)
theorem PTs.imp {ifs : List Expr} {t t' : TT} (h : PTs X ifs t) (i : ∀ σ H Q, t' σ H Q → t σ H Q) : PTs X ifs t' := ⟨fun pins s σ H Q I q => h.run pins s σ H Q I (i σ H Q q)⟩
theorem jts_nil : JTs X C G pins [] G (fun S => .ok true S) := PTs.imp pts_nil fun σ H Q ⟨cs, S, R, p, pp, o⟩ => o H cs R rfl .refl p
theorem jts_one (h : JT X C G pins c G' fb) : JTs X C G pins [c] G' fb := pts_one h
/-- what is asked of a comprehension's parts -/
structure CompOk (X : Cx) (C : Ctx) (scope : Scope) (own : List (Str × Nat)) (tg elt iter : Expr) (ifs : List Expr) (t : Tg) (ms : List Am) (pins : List Nat) (G G1 Gi Ga Gb Gc : Gam) (fi : Sl → Res (List W)) (cond : Sl → Res Bool) (fe : Sl → Res W) : Prop where
  calm : X.calm = true
  nd : X.N.Nodup
  it : JI X C G pins tg iter ms G1 fi
  pl : plain ms = true
  g0 : gle Gi G1 = true
  blk : BlkOk X.N X.env.scope scope own
  tgt : ∀ (s : Shared) (H : Hp) (Ca : Addr) (cl : List (Str × Addr)) (fp : List Addr), JG (X.blk s H scope (compEnvC scope cl Ca X.env) fp) C.quiet (forgetG (own.map (·.2)) Gi) t (.B (deps ms)) tg
  tst : ∀ (s : Shared) (H : Hp) (Ca : Addr) (cl : List (Str × Addr)) (fp : List Addr), JTs (X.blk s H scope (compEnvC scope cl Ca X.env) fp) C.quiet (t.gam (.B (deps ms)) (forgetG (own.map (·.2)) Gi)) (pins ++ deps ms) ifs Gb cond
  elt : ∀ (s : Shared) (H : Hp) (Ca : Addr) (cl : List (Str × Addr)) (fp : List Addr), JE (X.blk s H scope (compEnvC scope cl Ca X.env) fp) C.quiet Gb (pins ++ deps ms) elt .O Gc fe
  gb : gle Gi Gb = true
  gc : gle Gi Gc = true
  ix : ∀ i ∈ own.map (·.2), i < C.n
  tin : ∀ i ∈ t.slots, i ∈ own.map (·.2)
  fs : ∀ x, foldedSetIterable iter X.env x = pure x
theorem comp_sem {scope : Scope} {own : List (Str × Nat)} {tg elt iter : Expr} {ifs : List Expr} {t : Tg} {Gi Ga Gb Gc : Gam} {fi : Sl → Res (List W)} {cond : Sl → Res Bool} (k : CompOk X C scope own tg elt iter ifs t ms pins G G1 Gi Ga Gb Gc fi cond fe) {σ : St} {H : Hp} {Q : VK}
    (q : semE C G pins .O (forgetG (own.map (·.2)) Gi) (fComp fi t (own.map (·.2)) cond fe) σ H Q) :
    tLc (semI C G pins ms G1 fi) (fun v σ H Q => semG C.quiet (forgetG (own.map (·.2)) Gi) t (.B (deps ms)) v σ H Q) (semV C.quiet (t.gam (.B (deps ms)) (forgetG (own.map (·.2)) Gi)) (pins ++ deps ms) Gb cond) (semE C.quiet Gb (pins ++ deps ms) .O Gc fe) (own.map (·.2)) σ H Q := by
  obtain ⟨cs0, S0, R0, p0, pp0, o⟩ := q
  refine ⟨cs0, S0, R0, p0, pp0, ?_⟩
  have hix := k.ix
  have htin := k.tin
  have hgb := k.gb
  have hgc := k.gc
  have hg0 := k.g0
  have hp := k.pl
  generalize own.map (·.2) = vs at *
  unfold fComp at o
  cases hf : fi S0 with
  | err => rw [hf] at o; exact o
  | exc x S' => rw [hf] at o; exact o
  | ok its S1 =>
    rw [hf] at o
    have o : Out C cs0.length cs0 σ .O (forgetG vs Gi) Q (if its.length ≤ sizeLine then cLoop t vs cond fe its [] S1 else .err) := o
    by_cases hsz : its.length ≤ sizeLine
    case neg => rw [if_neg hsz] at o; exact o.elim
    rw [if_pos hsz] at o
    intro J vv ws H1 cs1 R1 l1 a1 itok T1 g1 D hD
    have ln := R0.ln
    obtain ⟨cs2, R2, l2, q2, a2⟩ := argsSoft R1 ln (by omega) hp a1
    have T2 : Tsame C.n cs0.length cs0 cs2 := fun i h1 h2 => by rw [q2 i (.inl h2)]; exact T1 i h1 h2
    have g2 : Has C.n Gi cs2 := ⟨(g1.gle hg0).1, fun i m e => by
      obtain ⟨c, z1, z2⟩ := (g1.gle hg0).2 i m e
      have hin : i < C.n := Nat.lt_of_lt_of_le (List.getElem?_eq_some_iff.mp e).1 (g1.gle hg0).1
      exact ⟨c, by rw [q2 i (.inl (by omega))]; exact z1, z2⟩⟩
    have hps := softM_plain ms hp
    have hno := softM_noO ms
    have hms := softM_length ms
    have hdep := softM_deps ms
    have sm0 : Same H1 (upd H1 D (.lst [])) := Same.upd hD
    -- the new list is a temp
    have R3 : RelC C (cs2 ++ [some ⟨.ref D, .lst [], .O, [D]⟩]) S1 σ (upd H1 D (.lst [])) := by
      have := R2.repl (L := cs2.length) (c := ⟨.ref D, .lst [], .O, [D]⟩) (by omega) (Nat.le_refl _) sm0 (by simp only [Vw]; exact ⟨D, [], [], rfl, by simp [Vws], upd_same, rfl⟩) (fun x hx => by cases hx)
        (fun _ => ⟨by simp, fun a ha => by rw [List.mem_singleton.mp ha]; exact ⟨⟨_, upd_same, rfl⟩, .inl hD⟩⟩) (fun ds z => by cases z)
      rw [List.take_length] at this
      exact this
    -- a state at the head of a turn
    let At : List W → Sl → Hp → Prop := fun acc S H' => ∃ (cs : Cells) (f0 : List Addr), RelC C cs (forget vs S) (wipe σ vs) H' ∧ cs.length = cs0.length + ms.length + 1 ∧ (∀ j, C.n ≤ j → j < cs0.length + ms.length → cs[j]? = cs2[j]?) ∧
      cs[cs0.length + ms.length]? = some (some ⟨.ref D, .lst acc, .O, f0⟩) ∧ Has C.n (forgetG vs Gi) cs ∧ ∀ (j : Nat) (c : Cell), cs[j]? = some (some c) → j ∉ vs
    have enter : ∀ {acc : List W} {S : Sl} {H' : Hp} {cs : Cells} {σ' : St} {f0 : List Addr}, RelC C cs S σ' H' → cs.length = cs0.length + ms.length + 1 → (∀ j, C.n ≤ j → j < cs0.length + ms.length → cs[j]? = cs2[j]?) →
        cs[cs0.length + ms.length]? = some (some ⟨.ref D, .lst acc, .O, f0⟩) → Has C.n Gi cs → (∀ i, i ∉ vs → σ'[i]? = (wipe σ vs)[i]?) → At acc S H' := fun {acc S H' cs σ' f0} R l T ht g hσ => by
      obtain ⟨cs', R', l', T', g', d'⟩ := rel_forget vs R g hix
      refine ⟨cs', f0, R'.weak rfl (fun i x y z1 z2 => by rw [z1] at z2; cases z2; exact .same) R'.ls (by rw [wipe_length]; exact R0.lσ) (fun i c hi z => ⟨rfl, (hσ i (d' i c z).1).symm⟩), by omega, fun j h1 h2 => ?_, ?_, g', fun j c z => (d' j c z).1⟩
      · rw [T' j h1 (by omega)]; exact T j h1 h2
      · rw [T' _ (by omega) (by omega)]; exact ht
    refine ⟨fun i m H' => m = its.length - i ∧ i ≤ its.length ∧ ∃ (acc : List W) (S : Sl), At acc S H' ∧ acc.length ≤ i ∧ Out C cs0.length cs0 σ .O (forgetG vs Gi) Q (cLoop t vs cond fe (its.drop i) acc S),
      ⟨its.length, rfl, Nat.zero_le _, [], S1, enter (f0 := [D]) R3 (by simp; omega) (fun j h1 h2 => by rw [List.getElem?_append_left (by omega)]) (by rw [← l1, ← l2]; simp) (g2.app R2.ln) (fun i hi => (wipe_get hi).symm), Nat.le_refl _, o⟩, ?_⟩
    rintro i m H3 ⟨rfl, hle, acc, S3, ⟨cs4, f0, R4, l4, T5, t4, g4, d4⟩, hacc, o3⟩
    have T6 : Tsame C.n cs0.length cs0 cs4 := fun j h1 h2 => by rw [T5 j h1 (by omega)]; exact T2 j h1 h2
    have a4 : ArgsAt cs4 (wipe σ vs) cs0.length (softM ms) vv ws := a2.same hps fun j h1 h2 => T5 j (by omega) (by omega)
    obtain ⟨fps, v4, f4⟩ := argsAt_src R4 hps a4
    obtain ⟨hgo, hstop⟩ := itok H3 fps v4
    by_cases hlt : i < its.length
    · have hd : its.drop i = its[i] :: its.drop (i + 1) := (List.drop_eq_getElem_cons hlt)
      obtain ⟨gg0, gy⟩ := hgo i its[i] (List.getElem?_eq_getElem hlt)
      refine .inr ⟨gg0, fun H' => ∃ m', m' < its.length - i ∧ (m' = its.length - (i + 1) ∧ i + 1 ≤ its.length ∧ ∃ (acc : List W) (S : Sl), At acc S H' ∧ acc.length ≤ i + 1 ∧ Out C cs0.length cs0 σ .O (forgetG vs Gi) Q (cLoop t vs cond fe (its.drop (i + 1)) acc S)), fun H' h => h, fun u H4 hy => ?_⟩
      obtain ⟨sm, f', hv, hf'⟩ := gy u H4 hy
      have R5 := item_push' R4 hps hno a4 f4 sm hv hf'
      rw [hdep] at R5
      rw [hd] at o3
      unfold cLoop at o3
      cases ht : t.sem its[i] (forget vs S3) with
      | none => rw [ht] at o3; exact o3.elim
      | some S5 =>
        rw [ht] at o3
        have o3 : Out C cs0.length cs0 σ .O (forgetG vs Gi) Q ((noX (cond S5)).bind fun b S2 => if b = true then (noX (fe S2)).bind fun y S3 => cLoop t vs cond fe (its.drop (i + 1)) (acc ++ [y]) S3 else cLoop t vs cond fe (its.drop (i + 1)) acc S2) := o3
        refine ⟨cs4 ++ [some (⟨u, its[i], .B (deps ms), f'⟩ : Cell)], forget vs S3, cs0.length + ms.length + 1, its[i], f', S5, (show RelC C (cs4 ++ [some (⟨u, its[i], .B (deps ms), f'⟩ : Cell)]) (forget vs S3) (wipe σ vs) H4 from R5), g4.app R4.ln, (by show C.n ≤ _; omega), by simp; omega, by rw [← l4]; simp, ht, fun σ6 cs6 R6 l6 T7 g6 hσ6 => ?_⟩
        have hw6 : wipe σ6 vs = wipe σ vs := by
          have e1 : wipe σ6 vs = wipe (wipe σ vs) vs := wipe_eq (by rw [wipe_length, R6.lσ, R0.lσ]; rfl) fun j hj => hσ6 j fun z => hj (htin j z)
          have e2 : wipe (wipe σ vs) vs = wipe σ vs := wipe_eq (wipe_length _ _) fun j hj => wipe_get hj
          rw [e1, e2]
        refine ⟨hw6, ?_⟩
        have σout : ∀ j, j ∉ vs → σ6[j]? = (wipe σ vs)[j]? := fun j hj => by rw [← hw6, wipe_get hj]
        have T8 : ∀ j, C.n ≤ j → j < cs0.length + ms.length + 1 → cs6[j]? = cs4[j]? := fun j h1 h2 => by
          rw [T7 j h1 h2, List.getElem?_append_left (by omega)]
        have pn6 : PinOk C.n (pins ++ deps ms) cs6 := fun j d hj hd x hx => by
          have hlt6 : j < cs0.length + ms.length + 1 := by have := (List.getElem?_eq_some_iff.mp hd).1; omega
          rw [T8 j hj hlt6] at hd
          by_cases hj1 : j < cs0.length + ms.length
          · by_cases hj0 : j < cs0.length
            · rw [T6 j hj hj0] at hd
              exact List.mem_append_left _ (pp0 j d hj hd x hx)
            · refine List.mem_append_right _ ?_
              rw [← hdep]
              have key : ∀ {L : Nat} {ms : List Am} {vs : List V} {ws : List W} {σ : St}, ArgsAt cs4 σ L ms vs ws → plain ms = true → L ≤ j → j < L + ms.length → ∀ x ∈ d.m.dep, x ∈ deps ms := by
                intro L ms
                induction ms generalizing L with
                | nil => intro vs ws σ _ _ h1 h2; simp at h2; omega
                | cons m ms ih =>
                  intro vs ws σ hA hp h1 h2 x hx
                  cases m with
                  | io k => simp [plain] at hp
                  | mo m =>
                    cases vs with
                    | nil => cases ws <;> exact hA.elim
                    | cons v vs =>
                      cases ws with
                      | nil => exact hA.elim
                      | cons w ws =>
                        obtain ⟨⟨fp, hc⟩, hA⟩ := hA
                        by_cases hjl : j = L
                        · subst hjl
                          rw [hc] at hd; cases hd
                          exact List.mem_append_left _ hx
                        · exact List.mem_append_right _ (ih hA (by simpa [plain] using hp) (by omega) (by simp at h2; omega) x hx)
              exact key a4 hps (by omega) (by omega) x hx
          · have : j = cs0.length + ms.length := by omega
            subst this
            rw [t4] at hd; cases hd
            cases hx
        refine ⟨cs6, S5, R6, g6, pn6, ?_⟩
        cases hc : cond S5 with
        | err => rw [hc] at o3; exact o3.elim
        | exc x S6 => rw [hc] at o3; exact o3.elim
        | ok bb S6 =>
          rw [hc] at o3
          have o3 : Out C cs0.length cs0 σ .O (forgetG vs Gi) Q (if bb = true then (noX (fe S6)).bind fun y S3 => cLoop t vs cond fe (its.drop (i + 1)) (acc ++ [y]) S3 else cLoop t vs cond fe (its.drop (i + 1)) acc S6) := o3
          intro H7 cs7 R7 l7 T9 g7
          have T10 : ∀ j, C.n ≤ j → j < cs0.length + ms.length → cs7[j]? = cs2[j]? := fun j h1 h2 => by rw [T9 j h1 (by omega), T8 j h1 (by omega)]; exact T5 j h1 h2
          have t7 : cs7[cs0.length + ms.length]? = some (some ⟨.ref D, .lst acc, .O, f0⟩) := by rw [T9 _ (by show C.n ≤ _; omega) (by omega), T8 _ (by omega) (by omega)]; exact t4
          cases bb with
          | false =>
            rw [if_neg (by decide)] at o3 ⊢
            exact ⟨its.length - (i + 1), by omega, rfl, hlt, acc, S6, enter R7 (by omega) T10 t7 (g7.gle hgb) σout, by omega, o3⟩
          | true =>
            rw [if_pos rfl] at o3 ⊢
            refine ⟨cs7, S6, R7, g7, pn6.same (by omega) T9, ?_⟩
            cases he : fe S6 with
            | err => rw [he] at o3; exact o3.elim
            | exc x S7 => rw [he] at o3; exact o3.elim
            | ok y S7 =>
              rw [he] at o3
              have o3 : Out C cs0.length cs0 σ .O (forgetG vs Gi) Q (cLoop t vs cond fe (its.drop (i + 1)) (acc ++ [y]) S7) := o3
              intro vy fy H8 cs8 R8 l8 ty T11 g8
              have t8 : cs8[cs0.length + ms.length]? = some (some ⟨.ref D, .lst acc, .O, f0⟩) := by rw [T11 _ (by show C.n ≤ _; omega) (by omega)]; exact t7
              obtain ⟨a, va, fps0, ea, ra, sa, ef⟩ := vwLst (R8.view _ _ t8)
              cases ea
              have ef : f0 = D :: fps0 := ef
              subst ef
              have ndc := (R8.nd _ _ t8 rfl)
              have nDf : D ∉ fps0 := (List.nodup_cons.mp ndc.1).1
              have ty' : cs8[cs7.length]? = some (some ⟨vy, y, .O, fy⟩) := ty
              have disy : ∀ a ∈ D :: fps0, a ∉ fy := fun a ha hb => by
                rcases R8.dis _ _ _ _ (show cs0.length + ms.length ≠ cs7.length by omega) t8 ty' rfl with z | z
                · cases z
                · exact z a ha hb
              have ndy := R8.nd _ _ ty' rfl
              have ry := R8.view _ _ ty'
              have hmono : ∀ {fp : List Addr}, D ∉ fp → ∀ a ∈ fp, (upd H8 D (.lst (va ++ [vy]))) a = H8 a := fun {fp} hn a ha => upd_ne fun z => hn (z ▸ ha)
              have tk : TupK H8 (upd H8 D (.lst (va ++ [vy]))) := fun a o h hm => by
                rw [upd_ne (fun z => by rw [z, sa] at h; cases h; cases hm)]
                exact h
              refine ⟨va, sa, by rw [ra.length]; omega, its.length - (i + 1), by omega, rfl, hlt, acc ++ [y], S7, ?_, by simp; omega, o3⟩
              have R9 := R8.effT (A := cs0.length + ms.length) (H' := upd H8 D (.lst (va ++ [vy]))) (c' := ⟨.ref D, .lst (acc ++ [y]), .O, D :: (fps0 ++ fy)⟩) (by show C.n ≤ _; omega) t8 rfl (fun a o h hn => by rw [upd_ne (fun z => hn (by rw [z]; exact List.mem_cons_self))]; exact h) (fun a h => by
                  by_cases hz : a = D
                  · rw [hz, upd_same]; simp
                  · rw [upd_ne hz]; exact h)
                (by
                  simp only [Vw]
                  refine ⟨D, va ++ [vy], fps0 ++ fy, rfl, Vws.append (ra.mono tk (hmono nDf)) ?_, upd_same, rfl⟩
                  simp only [Vws]
                  exact ⟨vy, [], fy, [], rfl, by simp, ry.mono tk (hmono (disy D List.mem_cons_self)), rfl, rfl⟩) rfl
                (List.nodup_cons.mpr ⟨fun z => by
                    rcases List.mem_append.mp z with z | z
                    · exact nDf z
                    · exact disy D List.mem_cons_self z, List.nodup_append.mpr ⟨(List.nodup_cons.mp ndc.1).2, ndy.1, fun a ha b hb => fun e => disy a (List.mem_cons_of_mem _ ha) (e ▸ hb)⟩⟩)
                (fun a ha => by
                  rcases List.mem_cons.mp ha with rfl | ha
                  · exact ⟨⟨_, upd_same, rfl⟩, .inr (.inl List.mem_cons_self)⟩
                  · rcases List.mem_append.mp ha with hm | hm
                    · have hne : a ≠ D := fun z => nDf (z ▸ hm)
                      refine ⟨?_, .inr (.inl (List.mem_cons_of_mem _ hm))⟩
                      rw [upd_ne hne]
                      exact (ndc.2 a (List.mem_cons_of_mem _ hm)).1
                    · have hne : a ≠ D := fun z => disy D List.mem_cons_self (z ▸ hm)
                      refine ⟨?_, .inr (.inr ⟨cs7.length, _, by omega, ty', rfl, hm⟩)⟩
                      rw [upd_ne hne]
                      exact (ndy.2 a hm).1)
              have lt9 : (cs8.take (cs0.length + ms.length)).length = cs0.length + ms.length := by rw [List.length_take]; omega
              refine enter (f0 := D :: (fps0 ++ fy)) R9 (by rw [List.length_append, lt9]; rfl) (fun j h1 h2 => ?_) (by rw [List.getElem?_append_right (by omega), lt9]; simp) ((g8.gle hgc).take (by show C.n ≤ _; omega)) σout
              rw [List.getElem?_append_left (by omega), List.getElem?_take_of_lt h2, T11 j h1 (by omega)]
              exact T10 j h1 h2
    · have hi : i = its.length := by omega
      subst hi
      refine .inl ⟨hstop, ?_⟩
      rw [List.drop_length] at o3
      have o3 : Out C cs0.length cs0 σ .O (forgetG vs Gi) Q (.ok (.lst acc) (forget vs S3)) := o3
      have R5 : RelC C cs4 (forget vs S3) σ H3 := R4.weak rfl (fun i x y z1 z2 => by rw [z1] at z2; cases z2; exact .same) R4.ls R0.lσ fun i c hi z => ⟨rfl, (wipe_get (d4 i c z)).symm⟩
      have R6 := R5.repl (L := cs0.length) (c := ⟨.ref D, .lst acc, .O, f0⟩) ln (by omega) (Same.refl _) (R5.view _ _ t4) (fun x hx => by cases hx)
        (fun _ => ⟨(R5.nd _ _ t4 rfl).1, fun a ha => ⟨((R5.nd _ _ t4 rfl).2 a ha).1, .inr ⟨_, _, by omega, t4, rfl, ha⟩⟩⟩) (fun ds z => by cases z)
      have lt9 : (cs4.take cs0.length).length = cs0.length := by rw [List.length_take]; omega
      refine o3 (.ref D) f0 H3 _ R6 (by rw [List.length_append, lt9]; rfl) (by rw [List.getElem?_append_right (by omega), lt9]; simp) (fun j h1 h2 => ?_) (g4.take ln)
      rw [List.getElem?_append_left (by omega), List.getElem?_take_of_lt h2]
      exact T6 j h1 h2
theorem je_comp {scope : Scope} {own : List (Str × Nat)} {tg elt iter : Expr} {ifs : List Expr} {t : Tg} {Gi Ga Gb Gc : Gam} {fi : Sl → Res (List W)} {cond : Sl → Res Bool} (k : CompOk X C scope own tg elt iter ifs t ms pins G G1 Gi Ga Gb Gc fi cond fe) :
    JE X C G pins (.ListComp elt [⟨tg, iter, ifs, 0⟩] scope pos) .O (forgetG (own.map (·.2)) Gi) (fComp fi t (own.map (·.2)) cond fe) :=
  PE.imp (pe_lc k.calm k.nd k.it k.blk k.tgt k.tst k.elt k.fs) fun σ H Q q => comp_sem k q
theorem js_comp {scope : Scope} {own : List (Str × Nat)} {tg elt iter : Expr} {ifs : List Expr} {t : Tg} {Gi Ga Gb Gc : Gam} {fi : Sl → Res (List W)} {cond : Sl → Res Bool} (k : CompOk X C scope own tg elt iter ifs t ms pins G G1 Gi Ga Gb Gc fi cond fe) {i : Nat} {y : Str} {py spos : Pos}
    (hy : X.N[i]? = some y) (hyl : X.env.scope.names.lookup y = some .local) (hsw : swapsWith (.ListComp elt [⟨tg, iter, ifs, 0⟩] scope pos) (some (.Name y py)) spos.line X.env = pure true) (hin : i < C.n) (hG : i < Gi.length) (hip : ipFree C i) :
    JS X C s G pins (.Assign [.Name y py] (.ListComp elt [⟨tg, iter, ifs, 0⟩] scope pos) spos) ((forgetG (own.map (·.2)) Gi).set i (some .O)) (fAsg (.nm i) (fComp fi t (own.map (·.2)) cond fe)) :=
  PS.imp (ps_setLc k.calm k.nd hy hyl hsw k.it k.blk k.tgt k.tst k.elt k.fs) fun D σ H q => asg_core (t := .nm i) (mo := .O) (fun σ H Q z => comp_sem k z) (fun v σ H Q ⟨cs, S, L, w, fp, S', R, h, hL, hl, hc, e, q⟩ => by
    cases e
    obtain ⟨R2, l2, T2, g2⟩ := rel_store R h hL hl hc hin (by rw [forgetG_length]; exact hG) hip
    exact q _ _ R2 l2 T2 g2 fun j hj => List.getElem?_set_ne (fun z => hj (by rw [← z]; exact List.mem_singleton.mpr rfl))) q
end
end Vm

namespace Vm
open PySem PySem.Spec PyProof.Rows L2

/-! ## lists changed in place -/
theorem Vws.set {K : Kz} {H : Hp} : ∀ {ws : List W} {vs : List V} {fps : List Addr} {j : Nat} {w : W} {v : V} {f : List Addr}, Vws K H ws vs fps → Vw K H w v f → fps.Nodup → f.Nodup → (∀ a ∈ fps, a ∉ f) →
    ∃ fps', Vws K H (ws.set j w) (vs.set j v) fps' ∧ fps'.Nodup ∧ ∀ a ∈ fps', a ∈ fps ∨ a ∈ f
  | [], vs, fps, j, w, v, f, h, _, _, _, _ => by
    simp only [Vws] at h
    obtain ⟨rfl, rfl⟩ := h
    exact ⟨[], (by simp [Vws]), List.nodup_nil, (fun a ha => by cases ha)⟩
  | x :: ws, vs, fps, 0, w, v, f, h, hw, n1, n2, d => by
    simp only [Vws] at h
    obtain ⟨y, vs', f1, f2, rfl, rfl, r1, r2⟩ := h
    obtain ⟨_, n4, n5⟩ := List.nodup_append.mp n1
    refine ⟨f ++ f2, by simp only [List.set_cons_zero, Vws]; exact ⟨v, vs', f, f2, rfl, rfl, hw, r2⟩, List.nodup_append.mpr ⟨n2, n4, fun a ha b hb e => ?_⟩, fun a ha => ?_⟩
    · subst e
      exact d a (List.mem_append_right _ hb) ha
    · rcases List.mem_append.mp ha with ha | ha
      · exact .inr ha
      · exact .inl (List.mem_append_right _ ha)
  | x :: ws, vs, fps, j + 1, w, v, f, h, hw, n1, n2, d => by
    simp only [Vws] at h
    obtain ⟨y, vs', f1, f2, rfl, rfl, r1, r2⟩ := h
    obtain ⟨n3, n4, n5⟩ := List.nodup_append.mp n1
    obtain ⟨f2', q1, q2, q3⟩ := Vws.set (j := j) r2 hw n4 n2 fun a ha => d a (List.mem_append_right _ ha)
    refine ⟨f1 ++ f2', by simp only [List.set_cons_succ, Vws]; exact ⟨y, _, f1, f2', rfl, rfl, r1, q1⟩, List.nodup_append.mpr ⟨n3, q2, fun a ha b hb e => ?_⟩, fun a ha => ?_⟩
    · subst e
      rcases q3 a hb with z | z
      · exact n5 a ha a z rfl
      · exact d a (List.mem_append_left _ ha) z
    · rcases List.mem_append.mp ha with ha | ha
      · exact .inl (List.mem_append_left _ ha)
      · exact (q3 a ha).imp (List.mem_append_right _) id
/-- the last item goes -/
theorem Vws.last {K : Kz} {H : Hp} : ∀ {ws : List W} {vs : List V} {fps : List Addr} {w : W}, Vws K H ws vs fps → ws.getLast? = some w →
    ∃ v f1 f, vs.getLast? = some v ∧ fps = f1 ++ f ∧ Vws K H ws.dropLast vs.dropLast f1 ∧ Vw K H w v f
  | [], _, _, _, _, e => by simp at e
  | [x], vs, fps, w, h, e => by
    simp at e; subst e
    obtain ⟨v, rfl, r⟩ := vws1 h
    exact ⟨v, [], fps, rfl, rfl, (by simp [Vws]), r⟩
  | x :: y :: ws, vs, fps, w, h, e => by
    simp only [Vws] at h
    obtain ⟨v, vs', f1, f2, rfl, rfl, r1, r2⟩ := h
    have r2' : Vws K H (y :: ws) vs' f2 := by simp only [Vws]; exact r2
    obtain ⟨u, g1, g, q1, rfl, q3, q4⟩ := Vws.last (w := w) r2' (by simpa using e)
    obtain ⟨z, zs, rfl⟩ : ∃ z zs, vs' = z :: zs := by
      cases vs' with
      | nil => simp at q1
      | cons z zs => exact ⟨z, zs, rfl⟩
    refine ⟨u, f1 ++ g1, g, by simpa using q1, by simp, ?_, q4⟩
    simp only [List.dropLast_cons₂, Vws]
    exact ⟨v, _, f1, g1, rfl, rfl, r1, q3⟩

section
variable {X : Cx} {C : Ctx} {s : Sx} {G G1 G2 G' : Gam} {pins : List Nat} {e a b c ix : Expr} {st : Stmt} {sts : List Stmt} {mo mi : Mo} {f g : Sl → Res Fl} {fe fi : Sl → Res W} {fb : Sl → Res Bool} {pos tpos npos : Pos} {ms : List Am}
/-- after a slot's list is changed, the temp that went into it is gone -/
theorem slot_set {cs : Cells} {S : Sl} {σ : St} {H H' : Hp} {L k : Nat} {ck : Cell} (R : RelC C cs S σ H) (p : Has C.n G cs) (hL : C.n ≤ L) (hl : L ≤ cs.length) (hk : k < C.n) (hc : cs[k]? = some (some ck)) (hm : ck.m = .O)
    {w' : W} {fp' : List Addr} (pres : ∀ a o, H a = some o → a ∉ ck.fp → H' a = some o) (al : ∀ a, H a ≠ none → H' a ≠ none) (hv : Vw C.K H' w' ck.v fp') (nd' : fp'.Nodup)
    (hO' : ∀ a ∈ fp', (∃ o, H' a = some o ∧ isMut o = true) ∧ (H a = none ∨ a ∈ ck.fp ∨ ∃ j d, L ≤ j ∧ cs[j]? = some (some d) ∧ d.m = .O ∧ a ∈ d.fp))
    (pn : ∀ (j : Nat) (d : Cell), C.n ≤ j → j < L → cs[j]? = some (some d) → k ∉ d.m.dep) :
    ∃ cs', RelC C cs' (S.set k (some w')) σ H' ∧ cs'.length = L ∧ Tsame C.n L cs cs' ∧ Has C.n (killG k G) cs' := by
  have R2 := R.eff (c := ck) (c' := ⟨ck.v, w', .O, fp'⟩) (r := ⟨.non, .non, .O, []⟩) hL hl hk hc hm pres al hv rfl rfl nd' hO' mkNon (fun x hx => by cases hx) (fun _ => ⟨List.nodup_nil, fun a ha => by cases ha⟩) (fun ds z => by cases z) pn
  have g2 := p.kill (c' := ⟨ck.v, w', .O, fp'⟩) hL hc hm rfl hk hl (x := [some ⟨.non, .non, .O, []⟩])
  have l2 : ((killk k (cs.take L)).set k (some ⟨ck.v, w', .O, fp'⟩)).length = L := by rw [List.length_set, killk_length, List.length_take]; omega
  have R3 := R2.take (L := L) hL (by rw [List.length_append]; omega)
  have e3 : ((killk k (cs.take L)).set k (some ⟨ck.v, w', .O, fp'⟩) ++ [some (⟨.non, .non, .O, []⟩ : Cell)]).take L = (killk k (cs.take L)).set k (some ⟨ck.v, w', .O, fp'⟩) := by
    rw [List.take_append_of_le_length (by omega), List.take_of_length_le (by omega)]
  rw [e3] at R3
  refine ⟨_, R3, l2, fun i h1 h2 => ?_, ?_⟩
  · rw [List.getElem?_set_ne (by omega)]
    cases q : cs[i]? with
    | none => rw [List.getElem?_eq_none_iff] at q; omega
    | some y =>
      cases y with
      | none => unfold killk; rw [List.getElem?_map, List.getElem?_take_of_lt h2, q]; rfl
      | some d => exact killk_of (by rw [List.getElem?_take_of_lt h2]; exact q) (pn i d h1 h2 q)
  · have := g2.pop (L := L) hL (by rw [List.length_append]; omega)
    rw [e3] at this
    exact this
def fSetIx (k : Nat) (fe fi : Sl → Res W) : Sl → Res Fl := fun S => (fe S).bind fun w S1 => match S1[k]? with
  | some (some (.lst _)) => (fi S1).bind fun wi S2 => match wi with
    | .int i => match S2[k]? with
      | some (some (.lst ws)) => match ixN ws.length i with
        | some j => .ok .nx (S2.set k (some (.lst (ws.set j w))))
        | none => .err
      | _ => .err
    | _ => .err
  | _ => .err
theorem js_setix {k : Nat} {x : Str} (hx : PE X (.Name x npos) (tVar k)) (he : JE X C G pins e .O G1 fe) (hi : JE X C G1 pins ix mi G2 fi) (hk1 : G1[k]? = some (some .O)) (hk2 : G2[k]? = some (some .O)) (hp : pins.contains k = false)
    (ha : ∀ v, assign (.Subscript (.Name x npos) ix tpos) X.env v = (do
      let ov ← holding [v] (eval (.Name x npos) X.env)
      let iv ← holding [v, ov] (eval ix X.env)
      standAt tpos
      holding [v, ov, iv] (setItem ov iv v)
      release [v, ov, iv] []))
    (hs : swapsWithSole [.Subscript (.Name x npos) ix tpos] e pos.line X.env = pure false) (hw : swappedStores [.Subscript (.Name x npos) ix tpos] e X.env = pure none) (h1 : (assignEach [.Subscript (.Name x npos) ix tpos] X.env).map (·.2) = [assign (.Subscript (.Name x npos) ix tpos) X.env]) :
    JS X C s G pins (.Assign [.Subscript (.Name x npos) ix tpos] e pos) (killG k G2) (fSetIx k fe fi) := PS.imp (ps_asg he (pg_sub hx hi set_list ha) hs hw h1) fun D σ H ⟨cs0, S0, R0, p0, pp0, o⟩ => by
  have ln := R0.ln
  refine ⟨cs0, S0, R0, p0, pp0, ?_⟩
  unfold fSetIx at o
  cases hf : fe S0 with
  | err => rw [hf] at o; exact o
  | exc y S' => rw [hf] at o; exact o σ
  | ok w S1 =>
    rw [hf] at o
    intro v fp H1 cs1 R1 l1 t1 T1 g1
    obtain ⟨ck, hck, hcm⟩ := g1.2 k _ hk1
    have kn : k < C.n := Nat.lt_of_lt_of_le (List.getElem?_eq_some_iff.mp hk1).1 g1.1
    obtain ⟨hσ, hS⟩ := R1.slot k ck kn hck
    have o : OutS C cs0.length cs0 s D (killG k G2) (match S1[k]? with
      | some (some (.lst _)) => (fi S1).bind fun wi S2 => match wi with
        | .int i => match S2[k]? with
          | some (some (.lst ws)) => match ixN ws.length i with
            | some j => .ok .nx (S2.set k (some (.lst (ws.set j w))))
            | none => .err
          | _ => .err
        | _ => .err
      | _ => .err) := o
    rw [hS] at o
    cases hcw : ck.w with
    | lst ws1 =>
      rw [hcw] at o
      have o : OutS C cs0.length cs0 s D (killG k G2) ((fi S1).bind fun wi S2 => match wi with
        | .int i => match S2[k]? with
          | some (some (.lst ws)) => match ixN ws.length i with
            | some j => .ok .nx (S2.set k (some (.lst (ws.set j w))))
            | none => .err
          | _ => .err
        | _ => .err) := o
      refine ⟨ck.v, hσ, cs1, S1, R1, g1, fun i d hi hd z hz => ?_, ?_⟩
      · by_cases hlt : i < cs0.length
        · rw [T1 i hi hlt] at hd; exact pp0 i d hi hd z hz
        · have : i = cs0.length := by have := (List.getElem?_eq_some_iff.mp hd).1; omega
          subst this
          rw [t1] at hd; cases hd
          cases hz
      cases hg : fi S1 with
      | err => rw [hg] at o; exact o
      | exc y S' => rw [hg] at o; exact OutX.up (L := cs0.length) (o σ) T1 (by omega)
      | ok wi S2 =>
        rw [hg] at o
        intro vi fpi H2 cs2 R2 l2 t2 T2 g2
        cases wi with
        | int i =>
          obtain ⟨rfl, _⟩ := vwInt (R2.view _ _ t2)
          obtain ⟨ck2, hck2, hcm2⟩ := g2.2 k _ hk2
          obtain ⟨hσ2, hS2⟩ := R2.slot k ck2 kn hck2
          have ev : ck2.v = ck.v := by rw [hσ] at hσ2; exact (Option.some.inj (Option.some.inj hσ2)).symm
          have o : OutS C cs0.length cs0 s D (killG k G2) (match S2[k]? with
            | some (some (.lst ws)) => match ixN ws.length i with
              | some j => .ok .nx (S2.set k (some (.lst (ws.set j w))))
              | none => .err
            | _ => .err) := o
          rw [hS2] at o
          have tt : cs2[cs0.length]? = some (some ⟨v, w, .O, fp⟩) := by rw [T2 cs0.length ln (by omega)]; exact t1
          cases hcw2 : ck2.w with
          | lst ws =>
            rw [hcw2] at o
            have o : OutS C cs0.length cs0 s D (killG k G2) (match ixN ws.length i with | some j => .ok .nx (S2.set k (some (.lst (ws.set j w)))) | none => .err) := o
            cases hj : ixN ws.length i with
            | none => rw [hj] at o; exact o.elim
            | some j =>
              rw [hj] at o
              have vk := R2.view k ck2 hck2
              rw [hcw2] at vk
              obtain ⟨a, vs, fps, ea, ra, sa, ef⟩ := vwLst vk
              have ndk := R2.nd k ck2 hck2 hcm2
              rw [ef] at ndk
              have ndt := R2.nd _ _ tt rfl
              have rt := R2.view _ _ tt
              have naf : a ∉ fps := (List.nodup_cons.mp ndk.1).1
              have disj : ∀ b ∈ a :: fps, b ∉ fp := fun b hb hb' => by
                rcases R2.dis k cs0.length ck2 _ (by omega) hck2 tt hcm2 with z | z
                · cases z
                · exact z b (by rw [ef]; exact hb) hb'
              refine ⟨a, vs, i, j, by rw [← ev]; exact ea, rfl, sa, by rw [ra.length]; exact hj, ?_⟩
              have hmono : ∀ {l : List Addr}, a ∉ l → ∀ b ∈ l, (upd H2 a (.lst (vs.set j v))) b = H2 b := fun {l} hn b hb => upd_ne fun z => hn (z ▸ hb)
              have tk : TupK H2 (upd H2 a (.lst (vs.set j v))) := fun b ob h hm => by
                rw [upd_ne (fun z => by rw [z, sa] at h; cases h; cases hm)]
                exact h
              obtain ⟨fps', q1, q2, q3⟩ := Vws.set (j := j) (ra.mono tk (hmono naf)) (rt.mono tk (hmono (disj a List.mem_cons_self))) (List.nodup_cons.mp ndk.1).2 ndt.1 fun b hb => disj b (List.mem_cons_of_mem _ hb)
              have naf' : a ∉ fps' := fun z => (q3 a z).elim naf (disj a List.mem_cons_self)
              obtain ⟨cs3, R3, l3, T3, g3⟩ := slot_set (L := cs0.length) (w' := .lst (ws.set j w)) (fp' := a :: fps') R2 g2 ln (by omega) kn hck2 hcm2 (H' := upd H2 a (.lst (vs.set j v))) (fun b ob h hn => by
                  rw [upd_ne (fun z => hn (by rw [ef, z]; exact List.mem_cons_self))]; exact h)
                (fun b h => by
                  by_cases hz : b = a
                  · rw [hz, upd_same]; simp
                  · rw [upd_ne hz]; exact h)
                (by rw [ea]; simp only [Vw]; exact ⟨a, _, fps', rfl, q1, upd_same, rfl⟩) (List.nodup_cons.mpr ⟨naf', q2⟩)
                (fun b hb => by
                  rcases List.mem_cons.mp hb with rfl | hb
                  · exact ⟨⟨_, upd_same, rfl⟩, .inr (.inl (by rw [ef]; exact List.mem_cons_self))⟩
                  · have hne : b ≠ a := fun z => naf' (z ▸ hb)
                    rw [upd_ne hne]
                    rcases q3 b hb with z | z
                    · exact ⟨(ndk.2 b (List.mem_cons_of_mem _ z)).1, .inr (.inl (by rw [ef]; exact List.mem_cons_of_mem _ z))⟩
                    · exact ⟨(ndt.2 b z).1, .inr (.inr ⟨cs0.length, _, Nat.le_refl _, tt, rfl, z⟩)⟩)
                (fun jj d h1 h2 hd hz => by
                  rw [T2 jj h1 (by omega), T1 jj h1 h2] at hd
                  have := pp0 jj d h1 hd k hz
                  simp at hp
                  exact hp this)
              exact o σ _ cs3 R3 l3 (fun jj h1 h2 => by rw [T3 jj h1 h2, T2 jj h1 (by omega)]; exact T1 jj h1 h2) g3
          | non => rw [hcw2] at o; exact o.elim
          | bl _ => rw [hcw2] at o; exact o.elim
          | int _ => rw [hcw2] at o; exact o.elim
          | str _ => rw [hcw2] at o; exact o.elim
          | tup _ => rw [hcw2] at o; exact o.elim
          | scr _ => rw [hcw2] at o; exact o.elim
          | dct _ _ => rw [hcw2] at o; exact o.elim
          | ins _ _ _ => rw [hcw2] at o; exact o.elim
        | non => exact o.elim
        | bl _ => exact o.elim
        | str _ => exact o.elim
        | tup _ => exact o.elim
        | lst _ => exact o.elim
        | scr _ => exact o.elim
        | dct _ _ => exact o.elim
        | ins _ _ _ => exact o.elim
    | non => rw [hcw] at o; exact o.elim
    | bl _ => rw [hcw] at o; exact o.elim
    | int _ => rw [hcw] at o; exact o.elim
    | str _ => rw [hcw] at o; exact o.elim
    | tup _ => rw [hcw] at o; exact o.elim
    | scr _ => rw [hcw] at o; exact o.elim
    | dct _ _ => rw [hcw] at o; exact o.elim
    | ins _ _ _ => rw [hcw] at o; exact o.elim
def fApp (k : Nat) (fe : Sl → Res W) : Sl → Res Fl := fun S => match S[k]? with
  | some (some (.lst _)) => (fe S).bind fun w S1 => match S1[k]? with
    | some (some (.lst ws)) => if ws.length < sizeLine then .ok .nx (S1.set k (some (.lst (ws ++ [w])))) else .err
    | _ => .err
  | _ => .err
theorem js_app {k : Nat} {x : Str} {apos cpos : Pos} (hK : X.K = C.K) (hx : PE X (.Name x npos) (tVar k)) (hn : notStar e = true) (he : JE X C G pins e .O G1 fe) (hk0 : G[k]? = some (some .O)) (hk1 : G1[k]? = some (some .O)) (hp : pins.contains k = false) (hline : (apos.endLine == cpos.line) = true) :
    JS X C s G pins (.Expr (.Call (.Attribute (.Name x npos) "append" apos) [e] [] cpos) pos) (killG k G1) (fApp k fe) := by
  have pe : PE X (.Call (.Attribute (.Name x npos) "append" apos) [e] [] cpos) (tBM X.K "list" rAppend (tVar k) (tCons (semE C G pins .O G1 fe) tNil)) :=
    pe_bm PySem.F.plainAttrs_list PySem.F.slot_list_append PySem.F.type_list_append mt_append hx (pa_cons he pa_nil (star_cons hn)) (by rfl) (by rw [star_cons hn]; rfl) hline (star_cons hn) (by rfl)
  refine PS.imp (ps_expr pe (by rfl)) fun D σ H ⟨cs0, S0, R0, p0, pp0, o⟩ => ?_
  have ln := R0.ln
  obtain ⟨c0, hc0, hm0⟩ := p0.2 k _ hk0
  have kn : k < C.n := Nat.lt_of_lt_of_le (List.getElem?_eq_some_iff.mp hk0).1 p0.1
  obtain ⟨hσ0, hS0⟩ := R0.slot k c0 kn hc0
  refine ⟨c0.v, hσ0, ?_⟩
  unfold fApp at o
  rw [hS0] at o
  cases hw0 : c0.w with
  | lst ws0 =>
    rw [hw0] at o
    have o : OutS C cs0.length cs0 s D (killG k G1) ((fe S0).bind fun w S1 => match S1[k]? with
      | some (some (.lst ws)) => if ws.length < sizeLine then .ok .nx (S1.set k (some (.lst (ws ++ [w])))) else .err
      | _ => .err) := o
    have vk0 := R0.view k c0 hc0
    rw [hw0] at vk0
    obtain ⟨a0, vs0, fps0, ea0, ra0, sa0, ef0⟩ := vwLst vk0
    refine ⟨by rw [ea0]; exact .inl ⟨rfl, _, SqL.of sa0⟩, cs0, S0, R0, p0, pp0, ?_⟩
    cases hf : fe S0 with
    | err => rw [hf] at o; exact o
    | exc y S' => rw [hf] at o; exact o σ
    | ok w S1 =>
      rw [hf] at o
      intro v fp H1 cs1 R1 l1 t1 T1 g1
      obtain ⟨ck, hck, hcm⟩ := g1.2 k _ hk1
      obtain ⟨hσ, hS⟩ := R1.slot k ck kn hck
      have ev : ck.v = c0.v := by rw [hσ0] at hσ; exact (Option.some.inj (Option.some.inj hσ)).symm
      have o : OutS C cs0.length cs0 s D (killG k G1) (match S1[k]? with
        | some (some (.lst ws)) => if ws.length < sizeLine then .ok .nx (S1.set k (some (.lst (ws ++ [w])))) else .err
        | _ => .err) := o
      rw [hS] at o
      cases hcw : ck.w with
      | lst ws =>
        rw [hcw] at o
        have o : OutS C cs0.length cs0 s D (killG k G1) (if ws.length < sizeLine then .ok .nx (S1.set k (some (.lst (ws ++ [w])))) else .err) := o
        by_cases hz : ws.length < sizeLine
        case neg => rw [if_neg hz] at o; exact o.elim
        rw [if_pos hz] at o
        have vk := R1.view k ck hck
        rw [hcw] at vk
        obtain ⟨a, vs, fps, ea, ra, sa, ef⟩ := vwLst vk
        have ndk := R1.nd k ck hck hcm
        rw [ef] at ndk
        have ndt := R1.nd _ _ t1 rfl
        have rt := R1.view _ _ t1
        have naf : a ∉ fps := (List.nodup_cons.mp ndk.1).1
        have disj : ∀ b ∈ a :: fps, b ∉ fp := fun b hb hb' => by
          rcases R1.dis k cs0.length ck _ (by omega) hck t1 hcm with z | z
          · cases z
          · exact z b (by rw [ef]; exact hb) hb'
        refine ⟨a, vs, v, by rw [← ev]; exact ea, rfl, sa, by rw [ra.length]; exact hz, ?_⟩
        have hmono : ∀ {l : List Addr}, a ∉ l → ∀ b ∈ l, (upd H1 a (.lst (vs ++ [v]))) b = H1 b := fun {l} hn b hb => upd_ne fun z => hn (z ▸ hb)
        have tk : TupK H1 (upd H1 a (.lst (vs ++ [v]))) := fun b ob h hm => by
          rw [upd_ne (fun z => by rw [z, sa] at h; cases h; cases hm)]
          exact h
        have naf' : a ∉ fps ++ fp := fun z => (List.mem_append.mp z).elim naf (disj a List.mem_cons_self)
        obtain ⟨cs3, R3, l3, T3, g3⟩ := slot_set (L := cs0.length) (w' := .lst (ws ++ [w])) (fp' := a :: (fps ++ fp)) R1 g1 ln (by omega) kn hck hcm (H' := upd H1 a (.lst (vs ++ [v]))) (fun b ob h hn => by
            rw [upd_ne (fun z => hn (by rw [ef, z]; exact List.mem_cons_self))]; exact h)
          (fun b h => by
            by_cases hz : b = a
            · rw [hz, upd_same]; simp
            · rw [upd_ne hz]; exact h)
          (by
            rw [ea]; simp only [Vw]
            refine ⟨a, _, fps ++ fp, rfl, Vws.append (ra.mono tk (hmono naf)) ?_, upd_same, rfl⟩
            simp only [Vws]
            exact ⟨v, [], fp, [], rfl, by simp, rt.mono tk (hmono (disj a List.mem_cons_self)), rfl, rfl⟩)
          (List.nodup_cons.mpr ⟨naf', List.nodup_append.mpr ⟨(List.nodup_cons.mp ndk.1).2, ndt.1, fun x hx y hy e => disj x (List.mem_cons_of_mem _ hx) (e ▸ hy)⟩⟩)
          (fun b hb => by
            rcases List.mem_cons.mp hb with rfl | hb
            · exact ⟨⟨_, upd_same, rfl⟩, .inr (.inl (by rw [ef]; exact List.mem_cons_self))⟩
            · have hne : b ≠ a := fun z => naf' (z ▸ hb)
              rw [upd_ne hne]
              rcases List.mem_append.mp hb with z | z
              · exact ⟨(ndk.2 b (List.mem_cons_of_mem _ z)).1, .inr (.inl (by rw [ef]; exact List.mem_cons_of_mem _ z))⟩
              · exact ⟨(ndt.2 b z).1, .inr (.inr ⟨cs0.length, _, Nat.le_refl _, t1, rfl, z⟩)⟩)
          (fun jj d h1 h2 hd hz => by
            rw [T1 jj h1 h2] at hd
            have := pp0 jj d h1 hd k hz
            simp at hp
            exact hp this)
        exact o σ _ cs3 R3 l3 (fun jj h1 h2 => by rw [T3 jj h1 h2]; exact T1 jj h1 h2) g3
      | non => rw [hcw] at o; exact o.elim
      | bl _ => rw [hcw] at o; exact o.elim
      | int _ => rw [hcw] at o; exact o.elim
      | str _ => rw [hcw] at o; exact o.elim
      | tup _ => rw [hcw] at o; exact o.elim
      | scr _ => rw [hcw] at o; exact o.elim
      | dct _ _ => rw [hcw] at o; exact o.elim
      | ins _ _ _ => rw [hcw] at o; exact o.elim
  | non => rw [hw0] at o; exact o.elim
  | bl _ => rw [hw0] at o; exact o.elim
  | int _ => rw [hw0] at o; exact o.elim
  | str _ => rw [hw0] at o; exact o.elim
  | tup _ => rw [hw0] at o; exact o.elim
  | scr _ => rw [hw0] at o; exact o.elim
  | dct _ _ => rw [hw0] at o; exact o.elim
  | ins _ _ _ => rw [hw0] at o; exact o.elim
end
end Vm

namespace Vm
open PySem PySem.Spec PyProof.Rows L2

/-! ## defs -/
/-- room for k calls; ht: where an exception may be handled -/
structure RoomB (ht : Bool) (k : Nat) (A : Around) : Prop where
  hd : ht = false → A.handled = none
  dp : A.depth + 3 * k + 5 < recursionLimit
  un : A.units + 16 * k + 200 < cLine
section
variable {ht : Bool} {j k : Nat} {A : Around}
theorem RoomB.mono (r : RoomB ht k A) (h : j ≤ k) : RoomB ht j A := ⟨r.hd, by have := r.dp; omega, by have := r.un; omega⟩
theorem RoomB.of (r : Room k A) : RoomB ht k A := ⟨fun _ => r.hd, r.dp, r.un⟩
theorem RoomB.hot (r : RoomB ht k A) : RoomB true k A := ⟨fun z => (Bool.noConfusion z), r.dp, r.un⟩
theorem RoomB.mark (r : RoomB ht k A) (v : Option Value) : RoomB true k (A.mark v) := ⟨fun z => (Bool.noConfusion z), r.dp, r.un⟩
theorem RoomB.deep (r : RoomB ht (k + 1) A) (env : Env) : RoomB ht k (A.deeper env) :=
  ⟨r.hd, by have := r.dp; show (A.depth + 1) + 3 * k + 5 < _; omega, by have := r.un; show (A.units + 3) + 16 * k + 200 < _; omega⟩
theorem RoomB.dlt (r : RoomB ht k A) : A.depth < recursionLimit := by have := r.dp; omega
theorem RoomB.ult (r : RoomB ht k A) : A.units + 64 < cLine := by have := r.un; omega
end
/-- the context of a def's body -/
abbrev cxB (ht : Bool) (P : Program) (w : World) (K : Kz) (mg : Str → Option Value) (base : Heap) (N : List Str) (qual : Str) (sc : Scope) (f : Addr) (cdv : Value) (A : Around) (os : List Env) (s : Shared) (H : Hp) (E : XK) : Cx :=
  { cxOf (L2N.CX P w) P w K mg base N qual sc f cdv A os s H E with calm := !ht }
/-- a def keeps its promise wherever nothing is being shown -/
structure FnG (ht : Bool) (P : Program) (w : World) (K : Kz) (mg : Str → Option Value) (base : Heap) (k : Nat) (f : Addr) (fd : FuncData) (ps : List Str) (sp : Sp) : Prop where
  len : ∀ vs H Q E, sp vs H Q E → vs.length = ps.length
  run : ∀ (A : Around) (os : List Env) (s : Shared) (H : Hp) (ag : Args) (us : List Value) (vs : List V) (Q : VK) (E : XK), RoomB ht k A → A.guards = some [] → Env0 P w K mg base A os s H → BindsTo s fd ag (ps.zip us) →
    Vals vs us → sp vs H Q E → codeAny (model P w) A (.call (.ref f) ag) (CR (L2N.CX P w) os P w H s Q E) s
section
variable {ht : Bool} {P : Program} {w : World} {K : Kz} {mg : Str → Option Value} {base : Heap} {j k : Nat} {f : Addr} {fd : FuncData} {ps N : List Str} {sp : Sp}
theorem FnG.mono (F : FnG ht P w K mg base j f fd ps sp) (h : j ≤ k) : FnG ht P w K mg base k f fd ps sp := ⟨F.len, fun A os s H ag us vs Q E hr => F.run A os s H ag us vs Q E (hr.mono h)⟩
theorem inv_startB {qual : Str} {scope : Scope} {f : Addr} {cd : Value} {A : Around} {outer : List Env} {s s1 : Shared} {H : Hp} {E : XK} {us : List Value} {vs : List V} (S : FnScope N ps scope) (hd : ht = false → A.handled = none) (e0 : Env0 P w K mg base A outer s H) (hl : vs.length = ps.length) (r : Vals vs us)
    (x : InCallC s s.heap.objs.size (bindL (envOfC qual scope s.heap.objs.size f cd).kindOf (ps.zip us) fun _ => none) (cellsFrom (s.heap.objs.size + 1) scope.names []) (bindC (envOfC qual scope s.heap.objs.size f cd).kindOf (ps.zip us) fun _ => none) s1) :
    Inv (cxB ht P w K mg base N qual scope f cd A outer s H E) [] (L2.start N vs) H s1 := by
  have I : Inv (cxOf (L2N.CX P w) P w K mg base N qual scope f cd { A with handled := none } outer s H E) [] (L2.start N vs) H s1 := inv_start S rfl ⟨e0.frames, e0.mod, e0.bs, e0.bsz, e0.funs, e0.frf, e0.hok, e0.bare⟩ hl r x
  obtain ⟨ok, i1, i2, i3, i4, i5, i6, i7, i8, i9, i10⟩ := I
  exact ⟨⟨ok.mod, ok.kind, ok.glob, ok.blt, ok.above, ok.inj, ok.has, ok.cab, fun z => hd (by cases ht with | false => rfl | true => cases z), ok.frames, ok.stk, ok.exf, ok.bs, ok.bsz, ok.noex, ok.exfs, ok.funs, ok.frf⟩, i1, i2, i3, i4, i5, i6, i7, i8, i9, i10⟩
theorem FnG.cool (F : FnG true P w K mg base k f fd ps sp) : FnG ht P w K mg base k f fd ps sp := ⟨F.len, fun A os s H ag us vs Q E hr => F.run A os s H ag us vs Q E hr.hot⟩
theorem fnG_of {x qual : Str} {st : Stmt} (F : L2.Fun K x qual st f fd) (S : FnScope N ps (defScope st)) (len : ∀ vs H Q E, sp vs H Q E → vs.length = ps.length)
    (body : ∀ (cdv : Value) (A : Around) (os : List Env) (s : Shared) (H : Hp) (vs : List V) (Q : VK) (E : XK), RoomB ht k (A.deeper (envOfC qual (defScope st) s.heap.objs.size f cdv)) → (A.deeper (envOfC qual (defScope st) s.heap.objs.size f cdv)).guards = some [] → sp vs H Q E →
      ∃ t, PSs (cxB ht P w K mg base N qual (defScope st) f cdv A os s H E) (defBody st) t ∧ t { nx := fun _ H' => Q .non H', rt := Q } (start N vs) H) : FnG ht P w K mg base (k + 1) f fd ps sp := by
  obtain ⟨oc, od, kV, doc, pm, an, cdv, ct, osl, rfl, lk, hcd⟩ := F.ex
  refine ⟨len, fun A os s H ag us vs Q E hr hgu e0 hb rv hsp => ?_⟩
  have hln := len vs H Q E hsp
  have inK : K.In s.heap := e0.mod.kin.keeps fun b o z => (e0.bs b o z).1
  have noL : s.heap.NoLimit := e0.mod.nolimit.keeps fun b o z => (e0.bs b o z).1
  have kinds : ∀ y ∈ ps.zip us, (defScope st).names.lookup y.1 = some .local ∨ ((defScope st).names.lookup y.1 = some .cell ∧ ((cellsFrom (s.heap.objs.size + 1) (defScope st).names []).lookup y.1).isSome = true) := by
    rintro ⟨nm, v⟩ hy
    exact (S.par nm (List.of_mem_zip hy).1).imp id fun q => ⟨q, PySem.W.cellsFrom_some _ _ _ (.inl q)⟩
  refine codeAny_call_function hr.dlt (inK _ _ lk) rfl S.co S.gen rfl (PySem.W.codeRec_of inK hcd) (hb _ _ _ _ (wpAny_newFunctionEnv_cells S.kind kinds ?_))
  intro env he s1 x
  cases he
  refine ⟨noL.keeps x.toInCall.keep, codeAny_func ?_⟩
  obtain ⟨t, hT, hq⟩ := body cdv A os s H vs Q E (hr.deep _) hgu hsp
  have I0 : Inv (cxB ht P w K mg base N qual (defScope st) f cdv A os s H E) [] (start N vs) H s1 := inv_startB S hr.hd e0 hln rv x
  have done : ∀ {σ' : St} {H' : Hp} {v : V} {u : Value} {s' : Shared}, Inv (cxB ht P w K mg base N qual (defScope st) f cdv A os s H E) [] σ' H' s' → RelV v u → Q v H' → CE os P w H s Q u s' := by
    intro σ' H' v u s' J rv q
    exact ⟨v, H', J.os, J.bare, J.base, J.hok, rv, q⟩
  refine wpAny_mono (hT.run [] s1 (start N vs) H _ I0 hq) ?_ fun _ _ z => z
  intro fl s' z
  cases fl with
  | brk => exact z.elim fun _ ⟨_, _, q⟩ => q.elim
  | cont => exact z.elim fun _ ⟨_, _, q⟩ => q.elim
  | next =>
    obtain ⟨σ', H', J, q⟩ := z
    exact done (v := .non) (u := .none) J rfl q
  | ret u =>
    obtain ⟨v, σ', H', J, rv, q⟩ := z
    exact done J rv q
end
section
variable {ht : Bool} {X : Cx} {k : Nat} {f : Addr} {fd : FuncData} {ps ks : List Str} {sp : Sp} {E : St → XK} {x : Str} {p pos : Pos} {e : Expr} {es : List Expr} {t tk : TA}
theorem run_fnG {pins : List (Addr × Obj)} {σ : St} {H : Hp} {s : Shared} {Q : VK} {us us2 : List Value} {kw : List (Str × Value)} {vs : List V} (F : FnG ht X.prog X.w X.K X.mg X.base k f fd ps sp) (hr : RoomB ht k X.A) (hgu : X.A.guards = some []) (hb : BindsTo s fd ⟨us, kw⟩ (ps.zip us2)) (hx : PassesAt (L2N.CX X.prog X.w) X σ (E σ))
    (I : Inv X pins σ H s) (r : Vals vs us2) (h : sp vs H Q (E σ)) : wpAny (model X.prog X.w) X.A (call (.ref f) us kw) (EP X pins σ Q) X.xe s := by
  refine wpAny_call (codeAny_mono (F.run X.A X.stack s H _ us2 vs Q (E σ) hr hgu I.env0 hb r h) ?_)
  intro r s' z
  match r, z with
  | .error e, z => exact hx pins H s e s' I z
  | .ok (.ret u), z => exact I.after z
/-- f(e, ..), f(): a def of the text -/
theorem pe_callG (F : FnG ht X.prog X.w X.K X.mg X.base k f fd ps sp) (hr : RoomB ht k X.A) (hgu : X.A.guards = some []) (hg : Gl X x) (hm : X.mg x = some (.ref f)) (hk : PySem.W.keepIn X.K (.ref f) = true) (hb : Binds X.K fd ps []) (hx : ∀ σ, PassesAt (L2N.CX X.prog X.w) X σ (E σ))
    (ha : PA X es t) (hdb : (x == ("__debug__" : Str)) = false) (hst : ∀ e es', es = e :: es' → starEach (e :: es') X.env = (false, eval e X.env) :: starEach es' X.env ∧ (backTo pos (starEach es' X.env)).any (·.1) = false) (hnil : es = [] → ∀ σ H Q, t σ H Q → Q [] H) :
    PE X (.Call (.Name x p) es [] pos) (tCallS sp E t) := by
  refine ⟨fun pins s σ H Q I h => wpAny_Call_Name_kw (ld_glob I hg hm ?_ hdb)⟩
  cases es with
  | nil =>
    have q := hnil rfl _ _ _ h
    have b := hb s [] I.kIn (by rw [← F.len _ _ _ _ q]; rfl)
    exact PySem.W.callWith_K0 I.kIn hk (run_fnG F hr hgu b (hx σ) I .nil q)
  | cons e es =>
    refine PySem.W.callWith_K (h₀ := X.base) I.ok.mod.kin hk (thn (ha.run pos pins s σ H _ I h) ?_) (hst e es rfl).1 (hst e es rfl).2
    rintro us s1 ⟨vs, H1, I1, r, q⟩
    have hl : us.length = ps.length := by rw [← r.length]; exact F.len _ _ _ _ q
    have b := hb s1 us I1.kIn (by rw [List.append_nil]; exact hl)
    rw [List.append_nil] at b
    exact ⟨I1.kIn, run_fnG F hr hgu b (hx σ) I1 r q⟩
end

/-! ### the entry, the exit -/
def ioOut (io : Option Nat) (S : Sl) : W := match io with
  | none => .non
  | some p => match S[p]? with
    | some (some w) => w
    | _ => .non
def enter (n : Nat) (ws : List W) : Sl := ws.map some ++ List.replicate (n - ws.length) none
/-- what a def computes, from what its body does -/
def vcOf (n : Nat) (io : Option Nat) (f : Sl → Res Fl) : List W → CRes := fun ws => match f (enter n ws) with
  | .ok (.rt w) S => .ok w (ioOut io S)
  | .ok .nx S => .ok .non (ioOut io S)
  | .ok .bk _ => .err
  | .ok .ct _ => .err
  | .exc x S => .exc x (ioOut io S)
  | .err => .err
def G0 (n np : Nat) (io : Option Nat) : Gam := (List.range n).map fun i => if i < np then some (if io = some i then .O else .B []) else none
def Gend (io : Option Nat) : Gam := match io with
  | none => []
  | some p => List.replicate p none ++ [some .O]
def cellOf (io : Option Nat) (i : Nat) (c : Cell) : Cell := if io = some i then { c with m := .O } else { c with m := .B [] }
theorem cellOf_v {io : Option Nat} {i : Nat} {c : Cell} : (cellOf io i c).v = c.v ∧ (cellOf io i c).w = c.w ∧ (cellOf io i c).fp = c.fp := by
  unfold cellOf
  split <;> exact ⟨rfl, rfl, rfl⟩
def cells0 (n : Nat) (io : Option Nat) (as : List Cell) : Cells := (List.range n).map fun i => (as[i]?).map (cellOf io i)
theorem cells0_some {n : Nat} {io : Option Nat} {as : List Cell} {i : Nat} {d : Cell} (h : (cells0 n io as)[i]? = some (some d)) : i < n ∧ ∃ c, as[i]? = some c ∧ d = cellOf io i c := by
  unfold cells0 at h
  rw [List.getElem?_map, Option.map_eq_some_iff] at h
  obtain ⟨j, hj, e⟩ := h
  obtain ⟨hl, q⟩ := List.getElem?_eq_some_iff.mp hj
  rw [List.getElem_range] at q
  subst q
  rw [Option.map_eq_some_iff] at e
  obtain ⟨c, h1, h2⟩ := e
  exact ⟨by simpa using hl, c, h1, h2.symm⟩
theorem cells0_of {n : Nat} {io : Option Nat} {as : List Cell} {i : Nat} {c : Cell} (hi : i < n) (h : as[i]? = some c) : (cells0 n io as)[i]? = some (some (cellOf io i c)) := by
  unfold cells0
  rw [List.getElem?_map, List.getElem?_range hi]
  simp [h]
def frame0 (H : Hp) (io : Option Nat) (as : List Cell) : Frm where
  H0 := H
  io a := ∃ p c, io = some p ∧ as[p]? = some c ∧ a ∈ c.fp
  U a := ∃ c ∈ as, a ∈ c.fp
  ip := io.bind fun p => (as[p]?).map fun c => (p, c.v)
def ctx0 (K : Kz) (H : Hp) (io : Option Nat) (as : List Cell) (n : Nat) (xr : XV → Value → Option Addr → Hp → Prop) (E : XK) : Ctx := ⟨K, frame0 H io as, n, Gend io, xr, fun cls d _ H' => E cls d H'⟩
theorem start_get {N : List Str} {as : List Cell} {i : Nat} {c : Cell} (h : as[i]? = some c) : (start N (as.map Cell.v))[i]? = some (some c.v) := by
  have hl := (List.getElem?_eq_some_iff.mp h).1
  unfold L2.start
  rw [List.getElem?_append_left (by simpa using hl)]
  simp [h]
theorem enter_get {n : Nat} {as : List Cell} {i : Nat} {c : Cell} (h : as[i]? = some c) : (enter n (as.map Cell.w))[i]? = some (some c.w) := by
  have hl := (List.getElem?_eq_some_iff.mp h).1
  unfold enter
  rw [List.getElem?_append_left (by simpa using hl)]
  simp [h]
theorem rel0 {K : Kz} {H : Hp} {io : Option Nat} {as : List Cell} {N : List Str} (hn : as.length ≤ N.length) (hv : ∀ c ∈ as, Vw K H c.w c.v c.fp)
    (hio : ∀ p, io = some p → ∃ c, as[p]? = some c ∧ c.fp.Nodup ∧ (∀ a ∈ c.fp, ∃ o, H a = some o ∧ isMut o = true) ∧ ∀ (j : Nat) d, j ≠ p → as[j]? = some d → ∀ a ∈ c.fp, a ∉ d.fp) :
    Rel K (frame0 H io as) N.length (cells0 N.length io as) (enter N.length (as.map Cell.w)) (start N (as.map Cell.v)) H := by
  have mO : ∀ {i : Nat} {c : Cell}, (cellOf io i c).m = .O → io = some i := fun {i c} h => by
    unfold cellOf at h
    split at h
    · assumption
    · cases h
  refine ⟨?_, ?_, ?_, fun i d hi q => ?_, fun i d q => ?_, fun i d q m => ?_, fun i d q a ha => ?_, fun i d q x hx => ?_, fun i j c d ij q1 q2 m => ?_, fun a o h _ => h, fun a h => h, fun p v e => ?_⟩
  · unfold enter
    simp
    omega
  · unfold L2.start
    simp
    omega
  · simp [cells0]
  · obtain ⟨_, c, h1, rfl⟩ := cells0_some q
    obtain ⟨e1, e2, e3⟩ := cellOf_v (io := io) (i := i) (c := c)
    rw [e1, e2]
    exact ⟨start_get h1, enter_get h1⟩
  · obtain ⟨_, c, h1, rfl⟩ := cells0_some q
    obtain ⟨e1, e2, e3⟩ := cellOf_v (io := io) (i := i) (c := c)
    rw [e1, e2, e3]
    exact hv c (List.mem_of_getElem? h1)
  · obtain ⟨_, c, h1, rfl⟩ := cells0_some q
    have hp := mO m
    obtain ⟨c', g1, g2, g3, _⟩ := hio i hp
    rw [h1] at g1; cases g1
    rw [cellOf_v.2.2]
    exact ⟨g2, fun a ha => ⟨g3 a ha, .inr ⟨i, c, hp, h1, ha⟩⟩⟩
  · obtain ⟨_, c, h1, rfl⟩ := cells0_some q
    rw [cellOf_v.2.2] at ha
    exact .inr ⟨c, List.mem_of_getElem? h1, ha⟩
  · obtain ⟨_, c, h1, rfl⟩ := cells0_some q
    unfold cellOf at hx
    split at hx <;> cases hx
  · obtain ⟨_, c1, h1, rfl⟩ := cells0_some q1
    obtain ⟨_, c2, h2, rfl⟩ := cells0_some q2
    obtain ⟨c', g1, _, _, g4⟩ := hio i (mO m)
    rw [h1] at g1; cases g1
    rw [cellOf_v.2.2, cellOf_v.2.2]
    exact .inr (g4 j c2 (Ne.symm ij) h2)
  · simp only [frame0, Option.bind_eq_some_iff, Option.map_eq_some_iff] at e
    obtain ⟨p', hp, c, hc, e⟩ := e
    cases e
    have := (List.getElem?_eq_some_iff.mp hc).1
    refine ⟨by omega, fun d q => ?_⟩
    obtain ⟨_, c2, h2, rfl⟩ := cells0_some q
    rw [hc] at h2; cases h2
    exact cellOf_v.1
theorem has0 {n np : Nat} {io : Option Nat} {as : List Cell} (hl : as.length = np) : Has n (G0 n np io) (cells0 n io as) := by
  refine ⟨by simp [G0], fun i m q => ?_⟩
  unfold G0 at q
  rw [List.getElem?_map, Option.map_eq_some_iff] at q
  obtain ⟨j, hj, e⟩ := q
  obtain ⟨hl2, q⟩ := List.getElem?_eq_some_iff.mp hj
  rw [List.getElem_range] at q
  subst q
  have hjn : i < n := by simpa using hl2
  split at e
  · rename_i hlt
    cases e
    refine ⟨_, cells0_of hjn (List.getElem?_eq_getElem (by omega)), ?_⟩
    unfold cellOf
    split <;> rfl
  · cases e
theorem gend_has {n : Nat} {p : Nat} {cs : Cells} (h : Has n (Gend (some p)) cs) : p < n ∧ ∃ c, cs[p]? = some (some c) ∧ c.m = .O := by
  have l := h.1
  simp [Gend] at l
  refine ⟨l, h.2 p .O ?_⟩
  unfold Gend
  rw [List.getElem?_append_right (by simp)]
  simp
/-- what stands at an end -/
theorem exit_end {K : Kz} {H H' : Hp} {io : Option Nat} {as : List Cell} {n : Nat} {xr : XV → Value → Option Addr → Hp → Prop} {E : XK} {cs : Cells} {S : Sl} {σ : St} (R : RelC (ctx0 K H io as n xr E) cs S σ H') (g : Has n (Gend io) cs) :
    CallEnd K io as (ioOut io S) H H' := by
  refine ⟨fun a o h hn => R.frm a o h fun ⟨p, c, h1, h2, h3⟩ => hn p c h1 h2 h3, fun a h => R.alive a h, fun p c hp hc => ?_⟩
  subst hp
  obtain ⟨hpn, d, hd, hm⟩ := gend_has g
  have ev := (R.iov p c.v (by simp [ctx0, frame0, hc])).2 d hd
  have es := (R.slot p d hpn hd).2
  have eo : ioOut (some p) S = d.w := by
    unfold ioOut
    simp only [es]
  rw [eo, ← ev]
  refine ⟨d.fp, R.view p d hd, (R.nd p d hd hm).1, fun a ha => ?_⟩
  obtain ⟨h1, h2⟩ := (R.nd p d hd hm).2 a ha
  refine ⟨h1, h2.imp id ?_⟩
  rintro ⟨p', c', e1, e2, e3⟩
  cases e1
  rw [hc] at e2; cases e2
  exact e3
theorem fnG_vm {ht : Bool} {P : Program} {w : World} {K : Kz} {mg : Str → Option Value} {base : Heap} {k : Nat} {f : Addr} {fd : FuncData} {ps N : List Str} {x qual : Str} {st : Stmt} {xr : XV → Value → Option Addr → Hp → Prop} {io : Option Nat} {own : Bool} {np : Nat} {fb : Sl → Res Fl} {G' : Gam}
    (F : L2.Fun K x qual st f fd) (S : FnScope N ps (defScope st)) (hnp : ps.length = np) (hin : np ≤ N.length) (hG : gle (Gend io) G' = true)
    (body : ∀ (X : Cx) (C : Ctx), X.prog = P → X.w = w → X.K = K → X.mg = mg → X.base = base → X.N = N → X.env.scope = defScope st → X.fn = (fun _ => true) → (ht = false → X.calm = true) → X.A.guards = some [] → RoomB ht k X.A → L2N.Takes X C.Wh → (X.stack = X.env :: X.outer ∧ X.env.frame = some X.env.locals ∧ X.ex = []) → PassesOwn (model X.prog X.w) X.A X.env X.xe → C.K = K → C.n = N.length → C.Gx = Gend io → C.xr = xr →
      (∀ i v, C.fr.ip = some (i, v) → io = some i) → JB X C ⟨[], [], Gend io, own⟩ (G0 N.length np io) [] (defBody st) G' fb) :
    FnG ht P w K mg base (k + 1) f fd ps (specOf K xr io own np (vcOf N.length io fb)) := by
  refine fnG_of F S (fun vs H Q E h => ?_) fun cdv A os s H vs Q E hr hgu h => ?_
  · obtain ⟨as, rfl, hl, _⟩ := h
    rw [List.length_map, hl, hnp]
  · obtain ⟨as, rfl, hl, hv, hio, o⟩ := h
    have tk : L2N.Takes (cxB ht P w K mg base N qual (defScope st) f cdv A os s H E) (fun cls d _ H' => E cls d H') := L2N.takes_of rfl rfl rfl (E₁ := fun e' s'' => L2N.CX P w os H s E e' s'') rfl
    have po : PassesOwn (model P w) (cxB ht P w K mg base N qual (defScope st) f cdv A os s H E).A (cxB ht P w K mg base N qual (defScope st) f cdv A os s H E).env (cxB ht P w K mg base N qual (defScope st) f cdv A os s H E).xe :=
      passes_of (X := cxB ht P w K mg base N qual (defScope st) f cdv A os s H E) (K := fun e s'' => L2N.CX P w os H s E e s'') (E₁ := fun e' s'' => L2N.CX P w os H s E e' s'') rfl
    have B := body (cxB ht P w K mg base N qual (defScope st) f cdv A os s H E) (ctx0 K H io as N.length xr E) rfl rfl rfl rfl rfl rfl rfl rfl (fun z => by subst z; rfl) hgu hr tk ⟨rfl, rfl, rfl⟩ po rfl rfl rfl rfl (fun i v e => by
      simp only [ctx0, frame0, Option.bind_eq_some_iff, Option.map_eq_some_iff] at e
      obtain ⟨p', hp, c, hc, e⟩ := e
      cases e
      exact hp)
    refine ⟨_, B, cells0 N.length io as, enter N.length (as.map Cell.w), rel0 (by omega) hv hio, has0 hl, fun i c hi q => ?_, ?_⟩
    · have := (cells0_some q).1
      exact absurd hi (by show ¬ N.length ≤ i; omega)
    · unfold vcOf at o
      cases hf : fb (enter N.length (as.map Cell.w)) with
      | err => rw [hf] at o; exact o
      | exc y S' =>
        rw [hf] at o
        intro σ' cls d H' cs' R _ _ g hx
        exact o cls d H' (exit_end R g) hx
      | ok fl S' =>
        rw [hf] at o
        cases fl with
        | bk => exact o.elim
        | ct => exact o.elim
        | nx =>
          intro σ' H' cs' R _ _ g
          refine o .non [] H' (exit_end R (g.gle hG)) mkNon (fun a ha => by cases ha) (fun _ => ⟨List.nodup_nil, fun a ha => by cases ha⟩) fun p c hp hc => ?_
          obtain ⟨fp', h1, h2, h3⟩ := (exit_end R (g.gle hG)).fin p c hp hc
          exact ⟨fp', h1, h2, h3, fun _ a ha => by cases ha⟩
        | rt wr =>
          intro v σ' H' cs' kk m fp R hkk hc hown g
          have ee := exit_end R g
          have hview := R.view kk _ hc
          refine o v fp H' ee hview (fun a ha => ?_) (fun ho => ?_) fun p c hp hcp => ?_
          · exact R.uni kk _ hc a ha
          · have hm := hown ho
            subst hm
            have nd := R.nd kk _ hc rfl
            refine ⟨nd.1, fun a ha => ⟨(nd.2 a ha).1, ?_⟩⟩
            exact (nd.2 a ha).2
          · subst hp
            have g' : Has N.length (Gend (some p)) cs' := g
            obtain ⟨hpn, d, hd, hdm⟩ := gend_has g'
            have ev := (R.iov p c.v (by simp [ctx0, frame0, hcp])).2 d hd
            have es := (R.slot p d hpn hd).2
            have eo : ioOut (some p) S' = d.w := by
              unfold ioOut
              simp only [es]
            rw [eo, ← ev]
            have nd := R.nd p d hd hdm
            refine ⟨d.fp, R.view p d hd, nd.1, fun a ha => ?_, fun ho a ha => ?_⟩
            · obtain ⟨h1, h2⟩ := nd.2 a ha
              refine ⟨h1, h2.imp id ?_⟩
              rintro ⟨p', c', e1, e2, e3⟩
              cases e1
              rw [hcp] at e2; cases e2
              exact e3
            · have hm := hown ho
              subst hm
              have hkn : N.length ≤ kk := hkk
              rcases R.dis kk p _ d (by omega) hc hd rfl with z | z
              · have z2 : kk < N.length := R.dl p d hd kk z
                omega
              · exact z a ha
end Vm

namespace Vm
open PySem PySem.Spec PyProof.Rows L2

section
variable {ht : Bool} {X : Cx} {C : Ctx} {G G1 : Gam} {pins : List Nat} {k : Nat} {f : Addr} {fd : FuncData} {ps : List Str} {x : Str} {p pos : Pos} {es : List Expr} {ms : List Am} {g : Sl → Res (List W)} {io : Option (Nat × Nat)} {own : Bool} {np : Nat} {vc : List W → CRes}
theorem je_fnG (F : FnG ht X.prog X.w X.K X.mg X.base k f fd ps (specOf C.K C.xr (io.map (·.1)) own np vc)) (hr : RoomB ht k X.A) (hgu : X.A.guards = some []) (hg : Gl X x) (hm : X.mg x = some (.ref f)) (hk : PySem.W.keepIn X.K (.ref f) = true) (hb : Binds X.K fd ps []) (tk : L2N.Takes X C.Wh) (hdb : (x == ("__debug__" : Str)) = false)
    (ja : JA X C G pins es ms G1 g) (hio : ioOk ms pins io = true) (hnp : ms.length = np) (hx : gle C.Gx (killIo io G1) = true) (hO : ∀ p k, io = some (p, k) → G1[k]? = some (some .O)) :
    JE X C G pins (.Call (.Name x p) es [] pos) (resMo own ms io) (killIo io G1) (fCall vc io g) := by
  refine je_call (pe_callG (E := WE C.Wh) F hr hgu hg hm hk hb (L2N.passAt tk) ja.pa hdb ?_ ?_) (fun σ H Q q => q) hio hnp hx hO
  · rintro e es' rfl
    exact ⟨star_cons (ja.tail (pos := pos) (env := X.env)).1, (ja.tail (pos := pos) (env := X.env)).2⟩
  · rintro rfl
    exact ja_nil ja
end
section
variable {ht : Bool} {X : Cx} {C : Ctx} {G G1 G2 G' : Gam} {pins : List Nat} {es : List Expr} {ms : List Am} {g : Sl → Res (List W)}
/-- keywords, from the left -/
theorem JA.pk (h : JA X C G pins es ms G' g) : ∀ {kws : List Keyword}, kws.map (·.value) = es → PK X kws (semA C G pins ms G' g) := by
  induction h with
  | nil G pins =>
    intro kws e
    cases kws with
    | nil => exact ⟨fun pos pins s σ H Q I q => pk_nil.run pos pins s σ H Q I (semA_nil σ H Q q)⟩
    | cons _ _ => cases e
  | cons G pins e mo G1 f es ms G2 g h1 h2 h3 ih =>
    intro kws ek
    cases kws with
    | nil => cases ek
    | cons kw kws =>
      obtain ⟨nm, e', kp⟩ := kw
      simp only [List.map_cons, List.cons.injEq] at ek
      obtain ⟨rfl, rfl⟩ := ek
      exact ⟨fun pos pins s σ H Q I q => (pk_cons h2 (ih rfl)).run pos pins s σ H Q I (semA_cons σ H Q q)⟩
  | io G pins e k es ms G2 g h1 h2 h3 h4 ih =>
    intro kws ek
    cases kws with
    | nil => cases ek
    | cons kw kws =>
      obtain ⟨nm, e', kp⟩ := kw
      simp only [List.map_cons, List.cons.injEq] at ek
      obtain ⟨rfl, rfl⟩ := ek
      exact ⟨fun pos pins s σ H Q I q => (pk_cons h2 (ih rfl)).run pos pins s σ H Q I (semA_io h3 σ H Q q)⟩
end
/-! ### a call with keywords -/
def perm {α : Type} (d : α) (idx : List Nat) (l : List α) : List α := idx.map fun i => (l[i]?).getD d
def okPerm (idx : List Nat) (n : Nat) : Bool := decide (idx.length = n) && idx.all (decide <| · < n) && decide idx.Nodup
theorem perm_map {α β : Type} {f : α → β} {d : α} {idx : List Nat} {l : List α} : (perm d idx l).map f = perm (f d) idx (l.map f) := by
  unfold perm
  rw [List.map_map]
  refine List.map_congr_left fun i _ => ?_
  show f ((l[i]?).getD d) = ((l.map f)[i]?).getD (f d)
  rw [List.getElem?_map]
  cases l[i]? <;> rfl
theorem perm_get {α : Type} {d : α} {idx : List Nat} {l : List α} (h : ∀ i ∈ idx, i < l.length) {j : Nat} {c : α} : (perm d idx l)[j]? = some c ↔ ∃ i, idx[j]? = some i ∧ l[i]? = some c := by
  unfold perm
  rw [List.getElem?_map, Option.map_eq_some_iff]
  constructor
  · rintro ⟨i, h1, h2⟩
    have hi := h i (List.mem_of_getElem? h1)
    rw [List.getElem?_eq_getElem hi] at h2
    exact ⟨i, h1, by rw [List.getElem?_eq_getElem hi, ← h2]; rfl⟩
  · rintro ⟨i, h1, h2⟩
    exact ⟨i, h1, by rw [h2]; rfl⟩
theorem vals_perm {idx : List Nat} {vs : List V} {us : List Value} (r : Vals vs us) : Vals (perm .non idx vs) (perm .none idx us) := by
  unfold perm
  induction idx with
  | nil => exact .nil
  | cons i idx ih =>
    refine .cons ?_ ih
    show L2.RelV ((vs[i]?).getD V.non) ((us[i]?).getD Value.none)
    cases h : vs[i]? with
    | none =>
      rw [List.getElem?_eq_none_iff] at h
      rw [List.getElem?_eq_none (by rw [← r.length]; exact h)]
      exact rfl
    | some v =>
      obtain ⟨u, hu, rv⟩ := r.get h
      rw [hu]
      exact rv
theorem perm_mem {α : Type} {d : α} {idx : List Nat} {l : List α} (h : ∀ i ∈ idx, i < l.length) {c : α} (hc : c ∈ perm d idx l) : c ∈ l := by
  obtain ⟨j, hj⟩ := List.getElem?_of_mem hc
  obtain ⟨i, _, h2⟩ := (perm_get h).mp hj
  exact List.mem_of_getElem? h2
theorem nodup_get {l : List Nat} (h : l.Nodup) {i j x : Nat} (hi : l[i]? = some x) (hj : l[j]? = some x) : i = j := by
  obtain ⟨a, b⟩ := List.getElem?_eq_some_iff.mp hi
  have hb := (List.getElem?_eq_some_iff.mp hj)
  obtain ⟨c, d⟩ := hb
  rcases Nat.lt_trichotomy i j with z | z | z
  · exact absurd (b.trans d.symm) (List.pairwise_iff_getElem.mp h i j a c z)
  · exact z
  · exact absurd (d.trans b.symm) (List.pairwise_iff_getElem.mp h j i c a z)
def IoM (idx : List Nat) (io ioP : Option Nat) : Prop := (io = none ∧ ioP = none) ∨ ∃ p q, ioP = some p ∧ io = some q ∧ idx[p]? = some q
/-- io: the place in the source's order; idx tells for each parameter the place in the source -/
theorem specOf_perm {K : Kz} {xr : XV → Value → Option Addr → Hp → Prop} {io ioP : Option Nat} {own : Bool} {np : Nat} {vc : List W → CRes} {idx : List Nat} {vs : List V} {H : Hp} {Q : VK} {E : XK} (hp : okPerm idx np = true) (hio : IoM idx io ioP)
    (h : specOf K xr io own np (fun ws => vc (perm .non idx ws)) vs H Q E) : specOf K xr ioP own np vc (perm .non idx vs) H Q E ∧ vs.length = np := by
  unfold okPerm at hp
  simp only [Bool.and_eq_true, decide_eq_true_eq, List.all_eq_true] at hp
  obtain ⟨⟨hl, hlt⟩, hnd⟩ := hp
  obtain ⟨as, rfl, ha, hv, hi, o⟩ := h
  have hlt' : ∀ i ∈ idx, i < as.length := fun i hi => by rw [ha]; exact hlt i hi
  have ioc : ∀ (p : Nat) (c : Cell), ioP = some p → (perm ⟨.non, .non, .O, []⟩ idx as)[p]? = some c → ∃ q, io = some q ∧ as[q]? = some c := by
    intro p c hp hc
    obtain ⟨i, g1, g2⟩ := (perm_get hlt').mp hc
    rcases hio with ⟨_, z⟩ | ⟨p', q, e1, e2, e3⟩
    · rw [hp] at z; cases z
    · rw [hp] at e1; cases e1
      rw [e3] at g1; cases g1
      exact ⟨_, e2, g2⟩
  have ioc2 : ∀ (q : Nat) (c : Cell), io = some q → as[q]? = some c → ∃ p, ioP = some p ∧ (perm ⟨.non, .non, .O, []⟩ idx as)[p]? = some c := by
    intro q c hq hc
    rcases hio with ⟨z, _⟩ | ⟨p', q', e1, e2, e3⟩
    · rw [hq] at z; cases z
    · rw [hq] at e2; cases e2
      exact ⟨p', e1, (perm_get hlt').mpr ⟨q, e3, hc⟩⟩
  have ce : ∀ {wio : W} {H' : Hp}, CallEnd K ioP (perm ⟨.non, .non, .O, []⟩ idx as) wio H H' → CallEnd K io as wio H H' := fun {wio H'} ce =>
    ⟨fun a ob q0 hn => ce.pres a ob q0 fun p c hp hc => by
      obtain ⟨q, e1, e2⟩ := ioc p c hp hc
      exact hn q c e1 e2, ce.alive, fun q c hq hc => by
      obtain ⟨p, e1, e2⟩ := ioc2 q c hq hc
      exact ce.fin p c e1 e2⟩
  refine ⟨⟨perm ⟨.non, .non, .O, []⟩ idx as, (perm_map (f := Cell.v) (d := ⟨.non, .non, .O, []⟩)).symm, by unfold perm; rw [List.length_map]; exact hl, fun c hc => hv c (perm_mem hlt' hc), fun p hp => ?_, ?_⟩, by rw [List.length_map]; exact ha⟩
  · rcases hio with ⟨_, z⟩ | ⟨p', q, e1, e2, e3⟩
    · rw [hp] at z; cases z
    · rw [hp] at e1; cases e1
      obtain ⟨c, h1, h2, h3, h4⟩ := hi q e2
      exact ⟨c, (perm_get hlt').mpr ⟨q, e3, h1⟩, h2, h3, fun j d hj hd a hfp => by
        obtain ⟨i, g1, g2⟩ := (perm_get hlt').mp hd
        exact h4 i d (fun z => hj (nodup_get hnd (z ▸ g1) e3)) g2 a hfp⟩
  · have ew : (perm ⟨.non, .non, .O, []⟩ idx as).map Cell.w = perm .non idx (as.map Cell.w) := perm_map (f := Cell.w) (d := ⟨.non, .non, .O, []⟩)
    rw [ew]
    have o : (match vc (perm .non idx (as.map Cell.w)) with
      | .ok w wio => _
      | .exc x wio => _
      | .err => _ : Prop) := o
    cases hvc : vc (perm .non idx (as.map Cell.w)) with
    | err => rw [hvc] at o; exact o
    | exc x wio =>
      rw [hvc] at o
      exact fun cls d H' c hx => o cls d H' (ce c) hx
    | ok w wio =>
      rw [hvc] at o
      intro v fp H' c hvw hfp hown hfin
      refine o v fp H' (ce c) hvw (fun a ha => (hfp a ha).imp id fun ⟨c, hc, z⟩ => ⟨c, perm_mem hlt' hc, z⟩) (fun ho => ?_) fun q c hq hc => ?_
      · obtain ⟨n1, n2⟩ := hown ho
        refine ⟨n1, fun a ha => ⟨(n2 a ha).1, (n2 a ha).2.imp id ?_⟩⟩
        rintro ⟨p, c, hp, hc, z⟩
        obtain ⟨q, e1, e2⟩ := ioc p c hp hc
        exact ⟨q, c, e1, e2, z⟩
      · obtain ⟨p, e1, e2⟩ := ioc2 q c hq hc
        exact hfin p c e1 e2
section
variable {ht : Bool} {X : Cx} {k : Nat} {f : Addr} {fd : FuncData} {ps ks : List Str} {sp : Sp} {E : St → XK} {x : Str} {p pos : Pos} {es : List Expr} {t tk : TA} {kws : List Keyword} {idx : List Nat} {n1 n2 : Nat}
/-- f(e, .., k = v, ..): a def of the text -/
theorem pe_callKG (F : FnG ht X.prog X.w X.K X.mg X.base k f fd ps sp) (hr : RoomB ht k X.A) (hgu : X.A.guards = some []) (hg : Gl X x) (hm : X.mg x = some (.ref f)) (hk : PySem.W.keepIn X.K (.ref f) = true)
    (hb : ∀ (s : Shared) (us ws : List Value), us.length = n1 → ws.length = n2 → BindsTo s fd ⟨us, ks.zip ws⟩ (ps.zip (perm .none idx (us ++ ws)))) (hx : ∀ σ, PassesAt (L2N.CX X.prog X.w) X σ (E σ))
    (ha : PA X es t) (hkw : PK X kws tk) (hdb : (x == ("__debug__" : Str)) = false) (hall : (backToKw pos (keywordEach kws X.env)).all (·.1.isSome) = true) (hks : (backToKw pos (keywordEach kws X.env)).filterMap (·.1) = ks)
    (hst : ∀ e es', es = e :: es' → starEach (e :: es') X.env = (false, eval e X.env) :: starEach es' X.env) (hpl : ((backTo pos (starEach es X.env)).any (·.1) || (backToKw pos (keywordEach kws X.env)).any (·.1.isNone)) = false) (hnil : es = [] → ∀ σ H Q, t σ H Q → Q [] H) :
    PE X (.Call (.Name x p) es kws pos) (fun σ H Q => t σ H fun vs H1 => tk σ H1 fun zs H2 => vs.length = n1 ∧ zs.length = n2 ∧ sp (perm .non idx (vs ++ zs)) H2 Q (E σ)) := by
  refine ⟨fun pins s σ H Q I h => wpAny_Call_Name_kw (ld_glob I hg hm ?_ hdb)⟩
  cases es with
  | nil =>
    have q := hnil rfl _ _ _ h
    refine PySem.W.callWith_KW0 (h₀ := X.base) I.ok.mod.kin hk hall (thn (hkw.run pos pins s σ H _ I q) ?_) hpl
    rintro ws s2 ⟨zs, H2, I2, rz, l1, l2, z⟩
    rw [hks]
    exact ⟨I2.kIn, run_fnG F hr hgu (hb s2 [] ws l1 (by rw [← rz.length]; exact l2)) (hx σ) I2 (vals_perm rz) z⟩
  | cons e es =>
    refine PySem.W.callWith_KW (h₀ := X.base) I.ok.mod.kin hk hall (thn (ha.run pos pins s σ H _ I h) ?_) hpl (hst e es rfl)
    rintro us s1 ⟨vs, H1, I1, rv, q⟩
    refine thn (hkw.run pos pins s1 σ H1 _ I1 q) ?_
    rintro ws s2 ⟨zs, H2, I2, rz, l1, l2, z⟩
    rw [hks]
    exact ⟨I2.kIn, run_fnG F hr hgu (hb s2 us ws (by rw [← rv.length]; exact l1) (by rw [← rz.length]; exact l2)) (hx σ) I2 (vals_perm (rv.append rz)) z⟩
end
section
variable {ht : Bool} {X : Cx} {C : Ctx} {G G1 : Gam} {pins : List Nat} {k : Nat} {f : Addr} {fd : FuncData} {ps ks : List Str} {x : Str} {p pos : Pos} {es : List Expr} {kws : List Keyword} {ms : List Am} {g : Sl → Res (List W)} {io : Option (Nat × Nat)} {ioP : Option Nat} {own : Bool} {np : Nat} {vc : List W → CRes} {idx : List Nat}
/-- an argument list in two parts -/
theorem JA.split : ∀ {es : List Expr} {G : Gam} {pins : List Nat} {es2 : List Expr} {ms : List Am} {g : Sl → Res (List W)}, JA X C G pins (es ++ es2) ms G1 g → ∀ {kws : List Keyword}, kws.map (·.value) = es2 →
    ∃ ta tk : TA, PA X es ta ∧ PK X kws tk ∧ (∀ σ H Q Q', (∀ vs H', Q vs H' → Q' vs H') → ta σ H Q → ta σ H Q') ∧ (∀ σ H Q, semA C G pins ms G1 g σ H Q → ta σ H fun vs H1 => vs.length = es.length ∧ tk σ H1 fun zs H2 => Q (vs ++ zs) H2) ∧ (∀ σ H Q Q', (∀ vs H', Q vs H' → Q' vs H') → tk σ H Q → tk σ H Q') ∧ (es = [] → ∀ σ H Q, ta σ H Q → Q [] H)
  | [], G, pins, es2, ms, g, h, kws, e => ⟨tNil, semA C G pins ms G1 g, pa_nil, JA.pk h e, fun σ H Q Q' i q => i _ _ q, fun σ H Q q => ⟨rfl, q⟩, fun σ H Q Q' i ⟨cs, S, R, a, b, o⟩ => by
      refine ⟨cs, S, R, a, b, ?_⟩
      revert o
      cases g S with
      | ok w S' => exact fun o v H' cs' q1 q2 q3 q4 q5 => i _ _ (o v H' cs' q1 q2 q3 q4 q5)
      | exc x S' => exact id
      | err => exact id, fun _ σ H Q q => q⟩
  | a :: es, G, pins, es2, ms, g, h, kws, e => by
    obtain ⟨ta, Ga, p1, m1, g1, h1, h2, h3, mono, h4⟩ := ja_head h
    obtain ⟨ta2, tk, q1, q2, q3, q4, q5, _⟩ := JA.split (es := es) h3 e
    refine ⟨tCons ta ta2, tk, pa_cons h1 q1 (star_cons h2), q2, fun σ H Q Q' i q => mono _ _ _ _ (fun v H' z => q3 _ _ _ _ (fun vs H2 y => i _ _ y) z) q, fun σ H Q q => ?_, q5, fun z => by cases z⟩
    refine mono _ _ _ _ (fun v H' z => ?_) (h4 σ H Q q)
    refine q3 _ _ _ _ (fun vs H2 y => ?_) (q4 _ _ _ z)
    exact ⟨by simp [y.1], y.2⟩
/-- lengths of what a list of arguments gives -/
theorem semA_len {σ : St} {H : Hp} {Q : List V → Hp → Prop} (h : semA C G pins ms G1 g σ H Q) : semA C G pins ms G1 g σ H fun vs H' => vs.length = ms.length ∧ Q vs H' := by
  obtain ⟨cs, S, R, a, b, o⟩ := h
  refine ⟨cs, S, R, a, b, ?_⟩
  revert o
  cases g S with
  | exc x S' => exact id
  | err => exact id
  | ok w S' =>
    intro o v H' cs' q1 q2 q3 q4 q5
    refine ⟨?_, o v H' cs' q1 q2 q3 q4 q5⟩
    have : ∀ {L : Nat} {ms : List Am} {vs : List V} {ws : List W}, ArgsAt cs' σ L ms vs ws → vs.length = ms.length := by
      intro L ms
      induction ms generalizing L with
      | nil => intro vs ws h; cases vs <;> cases ws <;> first | rfl | exact h.elim
      | cons m ms ih =>
        intro vs ws h
        cases m <;> cases vs <;> cases ws <;> first | exact h.elim | (simp only [List.length_cons]; rw [ih h.2])
    exact this q3
theorem je_fnKG (F : FnG ht X.prog X.w X.K X.mg X.base k f fd ps (specOf C.K C.xr ioP own np vc)) (hr : RoomB ht k X.A) (hgu : X.A.guards = some []) (hg : Gl X x) (hm : X.mg x = some (.ref f)) (hk : PySem.W.keepIn X.K (.ref f) = true)
    (hb : ∀ (s : Shared) (us ws : List Value), us.length = es.length → ws.length = kws.length → BindsTo s fd ⟨us, ks.zip ws⟩ (ps.zip (perm .none idx (us ++ ws)))) (tk : L2N.Takes X C.Wh) (hdb : (x == ("__debug__" : Str)) = false)
    (hall : (backToKw pos (keywordEach kws X.env)).all (·.1.isSome) = true) (hks : (backToKw pos (keywordEach kws X.env)).filterMap (·.1) = ks) (hpl2 : (backToKw pos (keywordEach kws X.env)).any (·.1.isNone) = false)
    {es2 : List Expr} (he2 : kws.map (·.value) = es2) (ja : JA X C G pins (es ++ es2) ms G1 g) (hp : okPerm idx np = true) (hiom : IoM idx (io.map (·.1)) ioP)
    (hns : ∀ e ∈ es, notStar e = true) (hio : ioOk ms pins io = true) (hnp : ms.length = np) (hl : es.length + kws.length = np) (hx : gle C.Gx (killIo io G1) = true) (hO : ∀ p k, io = some (p, k) → G1[k]? = some (some .O)) :
    JE X C G pins (.Call (.Name x p) es kws pos) (resMo own ms io) (killIo io G1) (fCall (fun ws => vc (perm .non idx ws)) io g) := by
  obtain ⟨ta, tk2, h1, h2, m1, h3, m2, h4⟩ := ja.split he2
  have ns : ∀ {l : List Expr}, (∀ e ∈ l, notStar e = true) → (backTo pos (starEach l X.env)).any (·.1) = false := by
    intro l
    induction l with
    | nil => intro _; rfl
    | cons e l ih =>
      intro h
      rw [star_cons (h e List.mem_cons_self)]
      have := ih fun e he => h e (List.mem_cons_of_mem _ he)
      simpa [backTo] using this
  refine je_call (pe_callKG (E := WE C.Wh) F hr hgu hg hm hk hb (L2N.passAt tk) h1 h2 hdb hall hks ?_ (by rw [ns hns, hpl2]; rfl) h4) (fun σ H Q q => ?_) hio hnp hx hO
  · rintro e es' rfl
    exact star_cons (hns e List.mem_cons_self)
  · refine m1 _ _ _ _ (fun vs H1 z => ?_) (h3 σ H _ (semA_len q))
    obtain ⟨hl1, z⟩ := z
    refine m2 _ _ _ _ (fun zs H2 y => ?_) z
    obtain ⟨y1, y2⟩ := y
    rw [List.length_append] at y1
    exact ⟨hl1, by omega, (specOf_perm hp hiom y2).1⟩
end
end Vm

namespace Vm
open PySem PySem.Spec PyProof.Rows L2

section
variable {K : Kz}
/-! ### more operations on values -/
theorem vwLstMk {H : Hp} {a : Addr} {ws : List W} {vs : List V} {fps : List Addr} (r : Vws K H ws vs fps) (h : H a = some (.lst vs)) : Vw K H (.lst ws) (.ref a) (a :: fps) := by
  simp only [Vw]
  exact ⟨a, vs, fps, rfl, r, h, rfl⟩
/-- a list that is new -/
theorem mkNew {H : Hp} {p : Addr} {ws : List W} {vs : List V} {fps : List Addr} (hp : H p = none) (r : Vws K H ws vs fps) : Vw K (upd H p (.lst vs)) (.lst ws) (.ref p) (p :: fps) := vwLstMk (r.same (Same.upd hp)) upd_same
theorem newList {H : Hp} {Q : VK} {p : Addr} {ws : List W} {vs : List V} {fps fps0 : List Addr} (hp : H p = none) (r : Vws K H ws vs fps)
    (nd : fps.Nodup) (mu : ∀ a ∈ fps, a ∈ fps0 ∧ ∃ o, H a = some o ∧ isMut o = true)
    (k : ∀ (v : V) (H' : Hp) (fp : List Addr), Same H H' → Vw K H' (.lst ws) v fp → fp.Nodup → (∀ a ∈ fp, (H a = none ∨ a ∈ fps0) ∧ ∃ o, H' a = some o ∧ isMut o = true) → Q v H') : Q (.ref p) (upd H p (.lst vs)) := by
  refine k _ _ (p :: fps) (Same.upd hp) (mkNew hp r) (List.nodup_cons.mpr ⟨fun z => ?_, nd⟩) fun a ha => ?_
  · obtain ⟨_, o, e, _⟩ := mu p z
    rw [hp] at e; cases e
  · rcases List.mem_cons.mp ha with rfl | ha
    · exact ⟨.inl hp, _, upd_same, rfl⟩
    · obtain ⟨h1, o, e, hm⟩ := mu a ha
      exact ⟨.inr h1, o, by rw [upd_ne (ne_of_none e hp)]; exact e, hm⟩
theorem Vws.lenEq {H : Hp} {ws : List W} {vs : List V} {fp : List Addr} (h : Vws K H ws vs fp) : vs.length = ws.length := h.length
/-- list + list -/
def semCat (ok : List W → Bool) : List W → Option W
  | [.lst xs, .lst ys] => if xs.length + ys.length ≤ sizeLine ∧ ok (xs ++ ys) = true then some (.lst (xs ++ ys)) else none
  | _ => none
def anyW : List W → Bool := fun _ => true
theorem cat_parts {ok : List W → Bool} {vs : List V} {ws : List W} {fps : List Addr} {H : Hp} {w : W} (hv : Vws K H ws vs fps) (hs : semCat ok ws = some w) :
    ∃ l b xs zs wx wz f1 f2, vs = [.ref l, .ref b] ∧ w = .lst (wx ++ wz) ∧ H l = some (.lst xs) ∧ H b = some (.lst zs) ∧ xs.length + zs.length ≤ sizeLine ∧ ok (wx ++ wz) = true ∧ Vws K H wx xs f1 ∧ Vws K H wz zs f2 ∧ fps = (l :: f1) ++ (b :: f2) := by
  unfold semCat at hs
  split at hs
  · obtain ⟨x, y, f1, f2, rfl, rfl, r1, r2⟩ := vws2 hv
    obtain ⟨l, xs, g1, rfl, q1, s1, rfl⟩ := vwLst r1
    obtain ⟨b, zs, g2, rfl, q2, s2, rfl⟩ := vwLst r2
    split at hs
    · rename_i hz
      cases hs
      exact ⟨l, b, xs, zs, _, _, g1, g2, rfl, rfl, s1, s2, by rw [q1.length, q2.length]; exact hz.1, hz.2, q1, q2, rfl⟩
    · cases hs
  · cases hs
theorem loc_catF : LocF K (R2f rCat) (semCat W.pure.all) := by
  intro vs ws fps H Q w hv hs k
  obtain ⟨l, b, xs, zs, wx, wz, f1, f2, rfl, rfl, h1, h2, hz, hp, q1, q2, rfl⟩ := cat_parts hv hs
  refine ⟨_, _, rfl, l, b, xs, zs, rfl, rfl, h1, h2, hz, fun p hp0 => ?_⟩
  have r := Vws.append q1 q2
  have e := Vws.of_pure hp r
  rw [e] at r
  exact newList (fps0 := []) hp0 r List.nodup_nil (fun a ha => by cases ha) fun v H' fp s hw nd m => k v H' fp s hw nd fun a ha => ⟨(m a ha).1.elim id (fun z => by cases z), (m a ha).2⟩
theorem loc_catO : LocO K (R2f rCat) (semCat anyW) := by
  intro vs ws fps H Q w hv nd mu hs k
  obtain ⟨l, b, xs, zs, wx, wz, f1, f2, rfl, rfl, h1, h2, hz, hp, q1, q2, rfl⟩ := cat_parts hv hs
  refine ⟨_, _, rfl, l, b, xs, zs, rfl, rfl, h1, h2, hz, fun p hp0 => ?_⟩
  have sub : (f1 ++ f2).Sublist ((l :: f1) ++ (b :: f2)) := List.Sublist.append (List.sublist_cons_self _ _) (List.sublist_cons_self _ _)
  exact newList (fps0 := (l :: f1) ++ (b :: f2)) hp0 (Vws.append q1 q2) (nd.sublist sub) (fun a ha => ⟨sub.subset ha, mu a (sub.subset ha)⟩) k
theorem loc_catB : LocB K (R2f rCat) (semCat anyW) := by
  intro vs ws fps H Q w hv hs k
  obtain ⟨l, b, xs, zs, wx, wz, f1, f2, rfl, rfl, h1, h2, hz, hp, q1, q2, rfl⟩ := cat_parts hv hs
  refine ⟨_, _, rfl, l, b, xs, zs, rfl, rfl, h1, h2, hz, fun p hp0 => ?_⟩
  have sub : (f1 ++ f2).Sublist ((l :: f1) ++ (b :: f2)) := List.Sublist.append (List.sublist_cons_self _ _) (List.sublist_cons_self _ _)
  refine k _ _ (p :: (f1 ++ f2)) (Same.upd hp0) (mkNew hp0 (Vws.append q1 q2)) fun a ha => ?_
  rcases List.mem_cons.mp ha with rfl | ha
  · exact .inl hp0
  · exact .inr (sub.subset ha)
/-- list * int, its items pure -/
def semRep : List W → Option W
  | [.lst xs, .int k] => if -(2 ^ 63) ≤ k ∧ k < 2 ^ 63 ∧ xs.length * k.toNat ≤ sizeLine ∧ W.pure.all xs = true then some (.lst (List.replicate k.toNat xs).flatten) else none
  | _ => none
theorem vws_rep {H : Hp} {ws : List W} {vs : List V} (r : Vws K H ws vs []) : ∀ n : Nat, Vws K H (List.replicate n ws).flatten (List.replicate n vs).flatten []
  | 0 => by simp [Vws]
  | n + 1 => by
    simp only [List.replicate_succ, List.flatten_cons]
    have := Vws.append r (vws_rep r n)
    simpa using this
theorem loc_rep : LocF K (R2f rRep) semRep := by
  intro vs ws fps H Q w hv hs k
  unfold semRep at hs
  split at hs
  · obtain ⟨x, y, f1, f2, rfl, rfl, r1, r2⟩ := vws2 hv
    obtain ⟨l, xs, g1, rfl, q1, s1, rfl⟩ := vwLst r1
    obtain ⟨rfl, rfl⟩ := vwInt r2
    split at hs
    · rename_i hz
      cases hs
      have e := Vws.of_pure hz.2.2.2 q1
      subst e
      refine ⟨_, _, rfl, l, _, xs, rfl, rfl, s1, hz.1, hz.2.1, by rw [q1.length]; exact hz.2.2.1, fun p hp0 => ?_⟩
      exact newList (fps0 := []) hp0 (vws_rep q1 _) List.nodup_nil (fun a ha => by cases ha) fun v H' fp s hw nd m => k v H' fp s hw nd fun a ha => ⟨(m a ha).1.elim id (fun z => by cases z), (m a ha).2⟩
    · cases hs
  · cases hs
/-- x[i] -/
def semIx : List W → Option W
  | [.lst ws, .int i] => (ixN ws.length i).bind (ws[·]?)
  | [.scr ws, .int i] => (ixN ws.length i).bind (ws[·]?)
  | [.tup ws, .int i] => (ixN ws.length i).bind (ws[·]?)
  | [.str x, .int i] => if x.length ≤ sizeLine then (atI x.cps.toList i).map fun c => .str ⟨#[c]⟩ else none
  | _ => none
theorem at_of {H : Hp} {ws : List W} {vs : List V} {fp : List Addr} {i : Int} {w : W} (r : Vws K H ws vs fp) (h : (ixN ws.length i).bind (ws[·]?) = some w) : ∃ v f, atI vs i = some v ∧ Vw K H w v f ∧ ∀ a ∈ f, a ∈ fp := by
  rw [Option.bind_eq_some_iff] at h
  obtain ⟨j, hj, hw⟩ := h
  obtain ⟨v, f, h1, h2, h3⟩ := r.get hw
  exact ⟨v, f, by unfold atI; rw [r.length, hj]; exact h1, h2, h3⟩
theorem loc_ix : LocB K (R2f (rIx K)) semIx := by
  intro vs ws fps H Q w hv hs k
  unfold semIx at hs
  split at hs
  · obtain ⟨x, y, f1, f2, rfl, rfl, r1, r2⟩ := vws2 hv
    obtain ⟨a, xs, g, rfl, q, s, rfl⟩ := vwLst r1
    obtain ⟨rfl, rfl⟩ := vwInt r2
    obtain ⟨v, f, h1, h2, h3⟩ := at_of q hs
    exact ⟨_, _, rfl, .inl ⟨a, xs, _, v, rfl, rfl, SqL.of s, h1, k v H f (Same.refl H) h2 fun b hb => .inr (List.mem_append_left _ (List.mem_cons_of_mem _ (h3 b hb)))⟩⟩
  · obtain ⟨x, y, f1, f2, rfl, rfl, r1, r2⟩ := vws2 hv
    obtain ⟨a, xs, rfl, q, s, rfl⟩ := vwScr r1
    obtain ⟨rfl, rfl⟩ := vwInt r2
    obtain ⟨v, f, h1, h2, h3⟩ := at_of q hs
    exact ⟨_, _, rfl, .inl ⟨a, xs, _, v, rfl, rfl, s.sq, h1, k v H f (Same.refl H) h2 fun b hb => by have := h3 b hb; cases this⟩⟩
  · obtain ⟨x, y, f1, f2, rfl, rfl, r1, r2⟩ := vws2 hv
    obtain ⟨a, xs, rfl, s, q⟩ := vwTup r1
    obtain ⟨rfl, rfl⟩ := vwInt r2
    obtain ⟨v, f, h1, h2, h3⟩ := at_of q hs
    exact ⟨_, _, rfl, .inr (.inl ⟨a, xs, _, v, rfl, rfl, s, h1, k v H f (Same.refl H) h2 fun b hb => .inr (List.mem_append_left _ (h3 b hb))⟩)⟩
  · obtain ⟨x, y, f1, f2, rfl, rfl, r1, r2⟩ := vws2 hv
    obtain ⟨rfl, rfl⟩ := vwStr r1
    obtain ⟨rfl, rfl⟩ := vwInt r2
    split at hs
    · rename_i hz
      rw [Option.map_eq_some_iff] at hs
      obtain ⟨c, hc, rfl⟩ := hs
      exact ⟨_, _, rfl, .inr (.inr ⟨_, _, c, rfl, rfl, hz, hc, k _ H [] (Same.refl H) mkStr' fun b hb => by cases hb⟩)⟩
    · cases hs
  · cases hs
/-! displays -/
def semLst (ok : List W → Bool) : List W → Option W := fun ws => if ws.length ≤ sizeLine ∧ ok ws = true then some (.lst ws) else none
def rLst : RR := fun vs H Q => vs.length ≤ sizeLine ∧ ∀ p, H p = none → Q (.ref p) (upd H p (.lst vs))
def rTup : RR := fun vs H Q => vs.length ≤ sizeLine ∧ ∀ p, H p = none → Q (.ref p) (upd H p (.tup vs))
theorem lst_parts {ok : List W → Bool} {ws : List W} {w : W} (h : semLst ok ws = some w) : w = .lst ws ∧ ws.length ≤ sizeLine ∧ ok ws = true := by
  unfold semLst at h
  split at h
  · rename_i z
    cases h
    exact ⟨rfl, z⟩
  · cases h
theorem loc_lstF : LocF K rLst (semLst W.pure.all) := by
  intro vs ws fps H Q w hv hs k
  obtain ⟨rfl, hz, hp⟩ := lst_parts hs
  have e := Vws.of_pure hp hv
  subst e
  exact ⟨by rw [hv.length]; exact hz, fun p hp0 => newList (fps0 := []) hp0 hv List.nodup_nil (fun a ha => by cases ha) fun v H' fp s hw nd m => k v H' fp s hw nd fun a ha => ⟨(m a ha).1.elim id (fun z => by cases z), (m a ha).2⟩⟩
theorem loc_lstO : LocO K rLst (semLst anyW) := by
  intro vs ws fps H Q w hv nd mu hs k
  obtain ⟨rfl, hz, hp⟩ := lst_parts hs
  exact ⟨by rw [hv.length]; exact hz, fun p hp0 => newList (fps0 := fps) hp0 hv nd (fun a ha => ⟨ha, mu a ha⟩) k⟩
theorem loc_lstB : LocB K rLst (semLst anyW) := by
  intro vs ws fps H Q w hv hs k
  obtain ⟨rfl, hz, hp⟩ := lst_parts hs
  refine ⟨by rw [hv.length]; exact hz, fun p hp0 => k _ _ (p :: fps) (Same.upd hp0) (mkNew hp0 hv) fun a ha => ?_⟩
  rcases List.mem_cons.mp ha with rfl | ha
  · exact .inl hp0
  · exact .inr ha
def semTup : List W → Option W := fun ws => if ws.length ≤ sizeLine then some (.tup ws) else none
theorem mkTupNew {H : Hp} {p : Addr} {ws : List W} {vs : List V} {fps : List Addr} (hp : H p = none) (r : Vws K H ws vs fps) : Vw K (upd H p (.tup vs)) (.tup ws) (.ref p) fps := by
  simp only [Vw]
  exact ⟨p, vs, rfl, SqT.of upd_same, r.same (Same.upd hp)⟩
theorem loc_tupB : LocB K rTup semTup := by
  intro vs ws fps H Q w hv hs k
  unfold semTup at hs
  split at hs
  · rename_i hz
    cases hs
    exact ⟨by rw [hv.length]; exact hz, fun p hp0 => k _ _ fps (Same.upd hp0) (mkTupNew hp0 hv) fun a ha => .inr ha⟩
  · cases hs
theorem loc_tupO : LocO K rTup semTup := by
  intro vs ws fps H Q w hv nd mu hs k
  unfold semTup at hs
  split at hs
  · rename_i hz
    cases hs
    exact ⟨by rw [hv.length]; exact hz, fun p hp0 => k _ _ fps (Same.upd hp0) (mkTupNew hp0 hv) nd fun a ha => ⟨.inr ha, by
      obtain ⟨o, e, hm⟩ := mu a ha
      exact ⟨o, by rw [upd_ne (ne_of_none e hp0)]; exact e, hm⟩⟩⟩
  · cases hs
/-! functions of lists -/
def semInts (f : List Int → Option W) : List W → Option W
  | [w] => (itemsL [w]).bind fun ws => (ints? ws).bind f
  | _ => none
theorem ints_parts {f : List Int → Option W} {vs : List V} {ws : List W} {fps : List Addr} {H : Hp} {w : W} (hv : Vws K H ws vs fps) (hs : semInts f ws = some w) : ∃ a ns, vs = [.ref a] ∧ SqL K H a (ns.map V.int) ∧ f ns = some w := by
  unfold semInts at hs
  split at hs
  · simp only [Option.bind_eq_some_iff] at hs
    obtain ⟨its, h1, ns, h2, h3⟩ := hs
    obtain ⟨x, rfl, r⟩ := vws1 hv
    obtain ⟨a, vs, rfl, s, f, q, _⟩ := sqOf h1 r
    have e := ints?_eq h2
    subst e
    obtain ⟨rfl, _⟩ := vwsInts q
    exact ⟨a, ns, rfl, s, h3⟩
  · cases hs
def semSum : List W → Option W := semInts fun ns => some (.int ns.sum)
theorem loc_sum : LocF K (rSum K) semSum := by
  intro vs ws fps H Q w hv hs k
  obtain ⟨a, ns, rfl, s, e⟩ := ints_parts hv hs
  cases e
  exact ⟨a, ns, rfl, s, k _ H [] (Same.refl H) mkInt List.nodup_nil fun a ha => by cases ha⟩
def lMax : List Int → Int
  | [] => 0
  | n :: ns => ns.foldl max n
def lMin : List Int → Int
  | [] => 0
  | n :: ns => ns.foldl min n
theorem foldl_max : ∀ (ns : List Int) (n : Int), (ns.foldl max n = n ∨ ns.foldl max n ∈ ns) ∧ n ≤ ns.foldl max n ∧ ∀ y ∈ ns, y ≤ ns.foldl max n
  | [], n => ⟨.inl rfl, Int.le_refl _, fun y hy => by cases hy⟩
  | m :: ns, n => by
    obtain ⟨h1, h2, h3⟩ := foldl_max ns (max n m)
    simp only [List.foldl_cons, List.mem_cons]
    refine ⟨?_, by omega, fun y hy => ?_⟩
    · rcases h1 with z | z
      · rw [z]; omega
      · exact .inr (.inr z)
    · rcases hy with rfl | hy
      · omega
      · exact h3 y hy
theorem foldl_min : ∀ (ns : List Int) (n : Int), (ns.foldl min n = n ∨ ns.foldl min n ∈ ns) ∧ ns.foldl min n ≤ n ∧ ∀ y ∈ ns, ns.foldl min n ≤ y
  | [], n => ⟨.inl rfl, Int.le_refl _, fun y hy => by cases hy⟩
  | m :: ns, n => by
    obtain ⟨h1, h2, h3⟩ := foldl_min ns (min n m)
    simp only [List.foldl_cons, List.mem_cons]
    refine ⟨?_, by omega, fun y hy => ?_⟩
    · rcases h1 with z | z
      · rw [z]; omega
      · exact .inr (.inr z)
    · rcases hy with rfl | hy
      · omega
      · exact h3 y hy
theorem lMax_eq {ns : List Int} {m : Int} (h1 : m ∈ ns) (h2 : ∀ y, y ∈ ns → y ≤ m) : lMax ns = m := by
  cases ns with
  | nil => cases h1
  | cons n ns =>
    obtain ⟨q1, q2, q3⟩ := foldl_max ns n
    have z : m ≤ ns.foldl max n := by
      rcases List.mem_cons.mp h1 with rfl | h
      · exact q2
      · exact q3 m h
    have z2 : ns.foldl max n ≤ m := by
      rcases q1 with e | e
      · rw [e]; exact h2 n List.mem_cons_self
      · exact h2 _ (List.mem_cons_of_mem _ e)
    exact Int.le_antisymm z2 z
theorem lMin_eq {ns : List Int} {m : Int} (h1 : m ∈ ns) (h2 : ∀ y, y ∈ ns → m ≤ y) : lMin ns = m := by
  cases ns with
  | nil => cases h1
  | cons n ns =>
    obtain ⟨q1, q2, q3⟩ := foldl_min ns n
    have z : ns.foldl min n ≤ m := by
      rcases List.mem_cons.mp h1 with rfl | h
      · exact q2
      · exact q3 m h
    have z2 : m ≤ ns.foldl min n := by
      rcases q1 with e | e
      · rw [e]; exact h2 n List.mem_cons_self
      · exact h2 _ (List.mem_cons_of_mem _ e)
    exact Int.le_antisymm z z2
def semMax : List W → Option W := semInts fun ns => if ns = [] then none else some (.int (lMax ns))
def semMin : List W → Option W := semInts fun ns => if ns = [] then none else some (.int (lMin ns))
theorem loc_max : LocF K (rMax K) semMax := by
  intro vs ws fps H Q w hv hs k
  obtain ⟨a, ns, rfl, s, e⟩ := ints_parts hv hs
  split at e
  · cases e
  · rename_i hne
    cases e
    refine ⟨a, ns, rfl, s, List.length_pos_iff.mpr hne, fun m h1 h2 => ?_⟩
    rw [← lMax_eq h1 h2]
    exact k _ H [] (Same.refl H) mkInt List.nodup_nil fun a ha => by cases ha
theorem loc_min : LocF K (rMin K) semMin := by
  intro vs ws fps H Q w hv hs k
  obtain ⟨a, ns, rfl, s, e⟩ := ints_parts hv hs
  split at e
  · cases e
  · rename_i hne
    cases e
    refine ⟨a, ns, rfl, s, List.length_pos_iff.mpr hne, fun m h1 h2 => ?_⟩
    rw [← lMin_eq h1 h2]
    exact k _ H [] (Same.refl H) mkInt List.nodup_nil fun a ha => by cases ha
def rC2 (f : Int → Int → Int) : RR := fun xs H Q => ∃ i j, xs = [.int i, .int j] ∧ Q (.int (f i j)) H
theorem loc_c2 {f : Int → Int → Int} : LocF K (rC2 f) (semI2 (fun _ _ => true) fun i j => .int (f i j)) := by
  intro vs ws fps H Q w hv hs k
  unfold semI2 at hs
  split at hs
  · obtain ⟨x, y, f1, f2, rfl, rfl, r1, r2⟩ := vws2 hv
    obtain ⟨rfl, rfl⟩ := vwInt r1
    obtain ⟨rfl, rfl⟩ := vwInt r2
    cases hs
    exact ⟨_, _, rfl, k _ H [] (Same.refl H) mkInt List.nodup_nil fun a ha => by cases ha⟩
  · cases hs
def rC1 (f : Int → Int) : RR := fun xs H Q => ∃ i, xs = [.int i] ∧ Q (.int (f i)) H
theorem loc_c1 {f : Int → Int} : LocF K (rC1 f) (semI1 fun i => .int (f i)) := by
  intro vs ws fps H Q w hv hs k
  unfold semI1 at hs
  split at hs
  · obtain ⟨x, rfl, r1⟩ := vws1 hv
    obtain ⟨rfl, rfl⟩ := vwInt r1
    cases hs
    exact ⟨_, rfl, k _ H [] (Same.refl H) mkInt List.nodup_nil fun a ha => by cases ha⟩
  · cases hs
def semIntC : List W → Option W
  | [.int i] => some (.int i)
  | [.bl b] => some (.int (if b then 1 else 0))
  | _ => none
theorem loc_intC : LocF K (fun xs H Q => (∃ i, xs = [.int i] ∧ Q (.int i) H) ∨ ∃ k, xs = [.bl k] ∧ Q (.int (if k then 1 else 0)) H) semIntC := by
  intro vs ws fps H Q w hv hs k
  unfold semIntC at hs
  split at hs
  · obtain ⟨x, rfl, r1⟩ := vws1 hv
    obtain ⟨rfl, rfl⟩ := vwInt r1
    cases hs
    exact .inl ⟨_, rfl, k _ H [] (Same.refl H) mkInt List.nodup_nil fun a ha => by cases ha⟩
  · obtain ⟨x, rfl, r1⟩ := vws1 hv
    obtain ⟨rfl, rfl⟩ := vwBl r1
    cases hs
    exact .inr ⟨_, rfl, k _ H [] (Same.refl H) mkInt List.nodup_nil fun a ha => by cases ha⟩
  · cases hs
def semBls (f : List Bool → W) : List W → Option W
  | [w] => (itemsL [w]).bind fun ws => (bls? ws).map f
  | _ => none
theorem bls_parts {f : List Bool → W} {vs : List V} {ws : List W} {fps : List Addr} {H : Hp} {w : W} (hv : Vws K H ws vs fps) (hs : semBls f ws = some w) : ∃ a ns, vs = [.ref a] ∧ SqL K H a (ns.map V.bl) ∧ w = f ns := by
  unfold semBls at hs
  split at hs
  · simp only [Option.bind_eq_some_iff, Option.map_eq_some_iff] at hs
    obtain ⟨its, h1, ns, h2, h3⟩ := hs
    obtain ⟨x, rfl, r⟩ := vws1 hv
    obtain ⟨a, vs, rfl, s, f, q, _⟩ := sqOf h1 r
    have e := bls?_eq h2
    subst e
    obtain ⟨rfl, _⟩ := vwsBls q
    exact ⟨a, ns, rfl, s, h3.symm⟩
  · cases hs
theorem loc_all : LocF K (rAll K) (semBls fun bs => .bl (bs.all id)) := by
  intro vs ws fps H Q w hv hs k
  obtain ⟨a, ns, rfl, s, rfl⟩ := bls_parts hv hs
  exact ⟨a, ns, rfl, s, k _ H [] (Same.refl H) mkBl List.nodup_nil fun a ha => by cases ha⟩
theorem loc_any : LocF K (rAny K) (semBls fun bs => .bl (bs.any id)) := by
  intro vs ws fps H Q w hv hs k
  obtain ⟨a, ns, rfl, s, rfl⟩ := bls_parts hv hs
  exact ⟨a, ns, rfl, s, k _ H [] (Same.refl H) mkBl List.nodup_nil fun a ha => by cases ha⟩
/-- list(x): pure items, or borrowed ones -/
def items2 : List W → Option (List W)
  | [.lst ws] => some ws
  | [.scr ws] => some ws
  | [.tup ws] => some ws
  | _ => none
theorem items2_vw {H : Hp} {w : W} {v : V} {fp : List Addr} {its : List W} (hi : items2 [w] = some its) (h : Vw K H w v fp) : ∃ a vs, v = .ref a ∧ (SqL K H a vs ∨ SqT K H a vs) ∧ ∃ f, Vws K H its vs f ∧ ∀ b ∈ f, b ∈ fp := by
  cases w <;> simp only [items2, reduceCtorEq, Option.some.injEq] at hi
  · subst hi
    obtain ⟨a, vs, rfl, s, r⟩ := vwTup h
    exact ⟨a, vs, rfl, .inr s, fp, r, fun b hb => hb⟩
  · subst hi
    obtain ⟨a, vs, fps, rfl, r, s, rfl⟩ := vwLst h
    exact ⟨a, vs, rfl, .inl (SqL.of s), fps, r, fun b hb => List.mem_cons_of_mem _ hb⟩
  · subst hi
    obtain ⟨a, vs, rfl, r, s, rfl⟩ := vwScr h
    exact ⟨a, vs, rfl, .inl s.sq, [], r, fun b hb => by cases hb⟩
def semListC (ok : List W → Bool) : List W → Option W
  | [w] => (items2 [w]).bind fun its => if ok its = true then some (.lst its) else none
  | _ => none
theorem listC_parts {ok : List W → Bool} {vs : List V} {ws : List W} {fps : List Addr} {H : Hp} {w : W} (hv : Vws K H ws vs fps) (hs : semListC ok ws = some w) : ∃ a xs its f, vs = [.ref a] ∧ w = .lst its ∧ ok its = true ∧ (SqL K H a xs ∨ SqT K H a xs) ∧ Vws K H its xs f ∧ ∀ b ∈ f, b ∈ fps := by
  unfold semListC at hs
  split at hs
  · simp only [Option.bind_eq_some_iff] at hs
    obtain ⟨its, h1, h2⟩ := hs
    split at h2
    · rename_i hok
      cases h2
      obtain ⟨x, rfl, r⟩ := vws1 hv
      obtain ⟨a, vs, rfl, s, f, q, q2⟩ := items2_vw h1 r
      exact ⟨a, vs, its, f, rfl, rfl, hok, s, q, q2⟩
    · cases h2
  · cases hs
abbrev rListOf (K : Kz) : RR := fun xs H Q => ∃ p ys, xs = [V.ref p] ∧ (SqL K H p ys ∨ SqT K H p ys) ∧ ∀ l, H l = none → Q (.ref l) (upd H l (.lst ys))
theorem loc_listF : LocF K (rListOf K) (semListC W.pure.all) := by
  intro vs ws fps H Q w hv hs k
  obtain ⟨a, xs, its, f, rfl, rfl, hp, s, q, _⟩ := listC_parts hv hs
  have e := Vws.of_pure hp q
  subst e
  exact ⟨a, xs, rfl, s, fun p hp0 => newList (fps0 := []) hp0 q List.nodup_nil (fun a ha => by cases ha) fun v H' fp s hw nd m => k v H' fp s hw nd fun a ha => ⟨(m a ha).1.elim id (fun z => by cases z), (m a ha).2⟩⟩
theorem loc_listB : LocB K (rListOf K) (semListC anyW) := by
  intro vs ws fps H Q w hv hs k
  obtain ⟨a, xs, its, f, rfl, rfl, hp, s, q, q2⟩ := listC_parts hv hs
  refine ⟨a, xs, rfl, s, fun p hp0 => k _ _ (p :: f) (Same.upd hp0) (mkNew hp0 q) fun a ha => ?_⟩
  rcases List.mem_cons.mp ha with rfl | ha
  · exact .inl hp0
  · exact .inr (q2 a ha)
end
end Vm

namespace Vm
open PySem PySem.Spec PyProof.Rows L2

/-! ## slices -/
def fSlice (cut : W → Option Int → Option Int → Option W) (fe : Sl → Res W) (fl fh : Sl → Res (Option Int)) : Sl → Res W := fun S => (fe S).bind fun w S1 => (fl S1).bind fun l S2 => (fh S2).bind fun h S3 => match cut w l h with
  | some r => .ok r S3
  | none => .err
abbrev RS := V → Option Int → Option Int → Hp → VK → Prop
def LocS (K : Kz) (R : RS) (cut : W → Option Int → Option Int → Option W) : Prop := ∀ (x : V) (w : W) (fps : List Addr) (l h : Option Int) (H : Hp) (Q : VK) (r : W), Vw K H w x fps → cut w l h = some r →
  (∀ (v : V) (H' : Hp) (fp : List Addr), Same H H' → Vw K H' r v fp → (∀ a ∈ fp, H a = none ∨ a ∈ fps) → Q v H') → R x l h H Q
def LocSF (K : Kz) (R : RS) (cut : W → Option Int → Option Int → Option W) : Prop := ∀ (x : V) (w : W) (fps : List Addr) (l h : Option Int) (H : Hp) (Q : VK) (r : W), Vw K H w x fps → cut w l h = some r →
  (∀ (v : V) (H' : Hp) (fp : List Addr), Same H H' → Vw K H' r v fp → fp.Nodup → (∀ a ∈ fp, H a = none ∧ ∃ o, H' a = some o ∧ isMut o = true) → Q v H') → R x l h H Q
section
variable {X : Cx} {C : Ctx} {G G1 G2 G3 : Gam} {pins : List Nat} {e : Expr} {mo : Mo} {fe : Sl → Res W} {lo hi : Option Expr} {fl fh : Sl → Res (Option Int)} {pos p2 : Pos} {cut : W → Option Int → Option Int → Option W} {r : RS}
theorem slice_core {mr : Mo} {σ : St} {H : Hp} {Q : VK} (q : semE C G pins mr G3 (fSlice cut fe fl fh) σ H Q)
    (fin : ∀ (L : Nat) (cs : Cells) (S : Sl) (H : Hp) (v : V) (w : W) (fp : List Addr) (l h : Option Int) (x : W), C.n ≤ L → RelC C cs S σ H → cs.length = L + 1 → cs[L]? = some (some ⟨v, w, mo, fp⟩) → cut w l h = some x →
      (∀ (v : V) (fp : List Addr) (H2 : Hp), RelC C (cs.take L ++ [some ⟨v, x, mr, fp⟩]) S σ H2 → Q v H2) → r v l h H Q) :
    tSl r (semE C G pins mo G1 fe) (semV C G1 (pins ++ mo.dep) G2 fl) (semV C G2 (pins ++ mo.dep) G3 fh) σ H Q := by
  obtain ⟨cs, S, R, p, pp, o⟩ := q
  have ln := R.ln
  refine ⟨cs, S, R, p, pp, ?_⟩
  unfold fSlice at o
  cases hf : fe S with
  | err => rw [hf] at o; exact o
  | exc x S' => rw [hf] at o; exact o
  | ok w S1 =>
    rw [hf] at o
    intro v fp H1 cs1 R1 l1 t1 T1 g1
    have P1 : PinOk C.n (pins ++ mo.dep) cs1 := pp.push ln l1 T1 fun c hc x hx => by
      rw [t1] at hc; cases hc
      exact hx
    refine ⟨cs1, S1, R1, g1, P1, ?_⟩
    have o : Out C cs.length cs σ mr G3 Q ((fl S1).bind fun l S2 => (fh S2).bind fun h S3 => match cut w l h with | some r => .ok r S3 | none => .err) := o
    cases hl : fl S1 with
    | err => rw [hl] at o; exact o
    | exc x S' => rw [hl] at o; exact OutX.up (L := cs.length) o T1 (by omega)
    | ok l S2 =>
      rw [hl] at o
      intro H2 cs2 R2 l2 T2 g2
      refine ⟨cs2, S2, R2, g2, P1.same l2 T2, ?_⟩
      have T12 : Tsame C.n cs.length cs cs2 := T1.trans T2 (by omega)
      have o : Out C cs.length cs σ mr G3 Q ((fh S2).bind fun h S3 => match cut w l h with | some r => .ok r S3 | none => .err) := o
      cases hh : fh S2 with
      | err => rw [hh] at o; exact o
      | exc x S' => rw [hh] at o; exact OutX.up (L := cs.length) o T12 (by omega)
      | ok h S3 =>
        rw [hh] at o
        intro H3 cs3 R3 l3 T3 g3
        have o : Out C cs.length cs σ mr G3 Q (match cut w l h with | some r => .ok r S3 | none => .err) := o
        cases hc : cut w l h with
        | none => rw [hc] at o; exact o.elim
        | some x =>
          rw [hc] at o
          have t3 : cs3[cs.length]? = some (some ⟨v, w, mo, fp⟩) := by rw [T3 cs.length ln (by omega), T2 cs.length ln (by omega)]; exact t1
          refine fin cs.length cs3 S3 H3 v w fp l h x ln R3 (by omega) t3 hc fun v2 fp2 H4 R4 => ?_
          have lt : (cs3.take cs.length).length = cs.length := by rw [List.length_take]; omega
          refine o v2 fp2 H4 _ R4 (by rw [List.length_append, lt]; rfl) (by rw [List.getElem?_append_right (by omega), lt]; simp) (fun i hi hlt => ?_) (g3.take ln)
          rw [List.getElem?_append_left (by omega), List.getElem?_take_of_lt hlt, T3 i hi (by omega)]
          exact T12 i hi hlt
theorem je_slice (hr : SlR X r) (he : JE X C G pins e mo G1 fe) (hl : JP X C G1 (pins ++ mo.dep) lo G2 fl) (hh : JP X C G2 (pins ++ mo.dep) hi G3 fh) (loc : LocS C.K r cut) : JE X C G pins (.Subscript e (.Slice lo hi none p2) pos) (.B mo.dep) G3 (fSlice cut fe fl fh) :=
  PE.imp (pe_slice hr he hl hh) fun σ H Q q => slice_core q fun L cs S H v w fp l h x hL R hlen t hc k => loc v w fp l h H Q x (R.view L _ t) hc fun v2 H2 fp2 e2 hv hm =>
    k v2 fp2 H2 (R.repl (c := ⟨v2, x, .B mo.dep, fp2⟩) hL (by omega) e2 hv (R.dl L ⟨v, w, mo, fp⟩ t) (fun z => by cases z) fun ds z a ha => by
      cases z
      exact (hm a ha).imp id fun hb => ⟨L, _, Nat.le_refl _, t, hb, fun x hx => hx⟩)
theorem je_sliceF (hr : SlR X r) (he : JE X C G pins e mo G1 fe) (hl : JP X C G1 (pins ++ mo.dep) lo G2 fl) (hh : JP X C G2 (pins ++ mo.dep) hi G3 fh) (loc : LocSF C.K r cut) : JE X C G pins (.Subscript e (.Slice lo hi none p2) pos) .O G3 (fSlice cut fe fl fh) :=
  PE.imp (pe_slice hr he hl hh) fun σ H Q q => slice_core q fun L cs S H v w fp l h x hL R hlen t hc k => loc v w fp l h H Q x (R.view L _ t) hc fun v2 H2 fp2 e2 hv nd hm =>
    k v2 fp2 H2 (R.repl (c := ⟨v2, x, .O, fp2⟩) hL (by omega) e2 hv (fun x hx => by cases hx) (fun _ => ⟨nd, fun a ha => ⟨(hm a ha).2, .inl (hm a ha).1⟩⟩) fun ds z => by cases z)
end
def cutW (ws : List W) (lo hi : Option Int) : List W := (ws.drop (HT.sIx ws.length 0 lo)).take (HT.sIx ws.length ws.length hi - HT.sIx ws.length 0 lo)
def cutL (ok : List W → Bool) : W → Option Int → Option Int → Option W := fun w l h => (itemsL [w]).bind fun ws => if ok (cutW ws l h) = true then some (.lst (cutW ws l h)) else none
section
variable {K : Kz} {H : Hp}
theorem Vws.drop : ∀ {ws : List W} {vs : List V} {fp : List Addr} (n : Nat), Vws K H ws vs fp → ∃ f, Vws K H (ws.drop n) (vs.drop n) f ∧ f.Sublist fp
  | ws, vs, fp, 0, h => ⟨fp, by simpa using h, List.Sublist.refl _⟩
  | [], vs, fp, n + 1, h => by
    simp only [Vws] at h
    obtain ⟨rfl, rfl⟩ := h
    exact ⟨[], by simp [Vws], List.Sublist.refl _⟩
  | w :: ws, vs, fp, n + 1, h => by
    simp only [Vws] at h
    obtain ⟨v, vs', f1, f2, rfl, rfl, r1, r2⟩ := h
    obtain ⟨f, q, s⟩ := Vws.drop n r2
    exact ⟨f, by simpa using q, s.trans (List.sublist_append_right _ _)⟩
theorem Vws.take : ∀ {ws : List W} {vs : List V} {fp : List Addr} (n : Nat), Vws K H ws vs fp → ∃ f, Vws K H (ws.take n) (vs.take n) f ∧ f.Sublist fp
  | ws, vs, fp, 0, h => ⟨[], by simp [Vws], List.nil_sublist _⟩
  | [], vs, fp, n + 1, h => by
    simp only [Vws] at h
    obtain ⟨rfl, rfl⟩ := h
    exact ⟨[], by simp [Vws], List.Sublist.refl _⟩
  | w :: ws, vs, fp, n + 1, h => by
    simp only [Vws] at h
    obtain ⟨v, vs', f1, f2, rfl, rfl, r1, r2⟩ := h
    obtain ⟨f, q, s⟩ := Vws.take n r2
    refine ⟨f1 ++ f, ?_, List.Sublist.append (List.Sublist.refl _) s⟩
    simp only [List.take_succ_cons, Vws]
    exact ⟨v, _, f1, f, rfl, rfl, r1, q⟩
theorem Vws.cut {ws : List W} {vs : List V} {fp : List Addr} (l h : Option Int) (r : Vws K H ws vs fp) : ∃ f, Vws K H (cutW ws l h) (cutV vs l h) f ∧ f.Sublist fp := by
  unfold cutW cutV
  rw [r.length]
  obtain ⟨f1, q1, s1⟩ := r.drop (HT.sIx ws.length 0 l)
  obtain ⟨f2, q2, s2⟩ := q1.take (HT.sIx ws.length ws.length h - HT.sIx ws.length 0 l)
  exact ⟨f2, q2, s2.trans s1⟩
theorem loc_slB : LocS K (rSlL K) (cutL anyW) := by
  intro x w fps l h H Q r hv hs k
  simp only [cutL, Option.bind_eq_some_iff] at hs
  obtain ⟨its, h1, h2⟩ := hs
  split at h2
  · cases h2
    obtain ⟨a, vs, rfl, s, f, q, q2⟩ := sqOf h1 hv
    obtain ⟨f2, c1, c2⟩ := q.cut l h
    refine ⟨a, vs, rfl, s, fun p hp0 => k _ _ (p :: f2) (Same.upd hp0) (mkNew hp0 c1) fun b hb => ?_⟩
    rcases List.mem_cons.mp hb with rfl | hb
    · exact .inl hp0
    · exact .inr (q2 b (c2.subset hb))
  · cases h2
theorem loc_slF : LocSF K (rSlL K) (cutL W.pure.all) := by
  intro x w fps l h H Q r hv hs k
  simp only [cutL, Option.bind_eq_some_iff] at hs
  obtain ⟨its, h1, h2⟩ := hs
  split at h2
  · rename_i hp
    cases h2
    obtain ⟨a, vs, rfl, s, f, q, q2⟩ := sqOf h1 hv
    obtain ⟨f2, c1, c2⟩ := q.cut l h
    have e := Vws.of_pure hp c1
    subst e
    exact ⟨a, vs, rfl, s, fun p hp0 => newList (fps0 := []) hp0 c1 List.nodup_nil (fun a ha => by cases ha) fun v H' fp s hw nd m => k v H' fp s hw nd fun a ha => ⟨(m a ha).1.elim id (fun z => by cases z), (m a ha).2⟩⟩
  · cases h2
end

/-! ## repr -/
def rRepr (K : Kz) : RR := fun vs H Q => ∃ x d, vs = [x] ∧ Dp K H x d ∧ d.showable = true ∧ d.hasDict = false ∧ d.depth ≤ 100 ∧ d.shown.length ≤ sizeLine ∧ Q (.str d.shown) H
theorem cr_repr {X : Cx} {k : Nat} {ht : Bool} (hgu : X.A.guards = some []) (hr : RoomB ht k X.A) : CallR X (.builtin "repr") (rRepr X.K) := by
  intro pins s σ H xs us Q I r h
  obtain ⟨x, d, rfl, hd, h1, h2, h3, h4, q⟩ := h
  obtain ⟨u, rfl, ru⟩ := vals1 r
  obtain ⟨as, rd⟩ := Dp.reads I d x u hd ru
  have hu := hr.un
  cases rd with
  | none => exact PySem.P.repr_of_none ⟨.str _, H, I.tok _, ⟨_, rfl⟩, q⟩
  | bool b => exact PySem.P.repr_of_bool ⟨.str _, H, I.tok _, ⟨_, rfl⟩, q⟩
  | int i t => exact PySem.P.repr_of_int (by simpa [PyData.showable] using h1) ⟨.str _, H, I.tok _, ⟨_, rfl⟩, q⟩
  | str x t => exact PySem.P.repr_of_str ⟨.str _, H, I.tok _, ⟨_, rfl⟩, q⟩ h4
  | list a b c e => exact repr_of_reads' (h₀ := s.heap) (.list a b c e) h1 (fun z => by rw [h2] at z; cases z) hgu (by omega) (fun _ _ z => z) (fun h' u tk hk => ⟨.str _, H, I.kept hk, ⟨_, rfl⟩, q⟩) h4
  | tuple a b c e => exact repr_of_reads' (h₀ := s.heap) (.tuple a b c e) h1 (fun z => by rw [h2] at z; cases z) hgu (by omega) (fun _ _ z => z) (fun h' u tk hk => ⟨.str _, H, I.kept hk, ⟨_, rfl⟩, q⟩) h4
  | dict a b c e f => simp [PyData.hasDict] at h2
def semRepr : List W → Option W
  | [w] => (toD w).bind fun d => if d.showable = true ∧ d.hasDict = false ∧ d.depth ≤ 100 ∧ d.shown.length ≤ sizeLine then some (.str d.shown) else none
  | _ => none
theorem loc_repr {K : Kz} : LocF K (rRepr K) semRepr := by
  intro vs ws fps H Q w hv hs k
  unfold semRepr at hs
  split at hs
  · obtain ⟨x, rfl, r⟩ := vws1 hv
    simp only [Option.bind_eq_some_iff] at hs
    obtain ⟨d, e1, e2⟩ := hs
    split at e2
    · rename_i z
      cases e2
      exact ⟨x, d, rfl, dp_of r e1, z.1, z.2.1, z.2.2.1, z.2.2.2, k _ H [] (Same.refl H) mkStr' List.nodup_nil fun a ha => by cases ha⟩
    · cases e2
  · cases hs
end Vm

namespace Vm
open PySem PySem.Spec PyProof.Rows L2

/-! ## one def's surroundings, and every rule in them -/
/-- exceptions of ours: the class by its name, the fields in the dict -/
def xrK (K : Kz) : XV → Value → Option Addr → Hp → Prop := fun x cls d H => ∃ C vs, cls = .ref C ∧ PySem.W.nsIn K mainGlobals x.c = some (some (.ref C)) ∧ Vws K H x.as vs [] ∧ XdF H x.ns vs d
theorem takesN {X : Cx} : L2N.Takes X (fun _ _ _ _ => False) := fun _ _ h => by
  obtain ⟨_, _, _, _, _, _, _, _, _, _, _, _, _, _, _, _, z⟩ := h
  exact z.elim
/-- what a text stands on -/
structure Wd where
  P : Program
  w : World
  K : Kz
  mg : Str → Option Value
  base : Heap
structure Gd (ht : Bool) (X : Cx) (C : Ctx) (D : Wd) (sc : Scope) (N : List Str) (k : Nat) (Gx : Gam) (ip : Option Nat) (fnp : Str → Bool) : Prop where
  eP : X.prog = D.P
  ew : X.w = D.w
  eK : X.K = D.K
  eM : X.mg = D.mg
  eB : X.base = D.base
  eC : C.K = D.K
  en : C.n = N.length
  eG : C.Gx = Gx
  eX : C.xr = xrK D.K
  eN : X.N = N
  nd : N.Nodup
  eS : X.env.scope = sc
  eF : X.fn = fnp
  calm : ht = false → X.calm = true
  gu : X.A.guards = some []
  room : RoomB ht k X.A
  tk : L2N.Takes X C.Wh
  eI : ∀ i v, C.fr.ip = some (i, v) → ip = some i
/-- a def of the text that keeps a promise -/
structure Cal (ht : Bool) (D : Wd) (k : Nat) (x : Str) (st : Stmt) (ps : List Str) (io : Option Nat) (own : Bool) (np : Nat) (vc : List W → CRes) : Prop where
  ex : ∃ f fd, L2.Fun D.K x x st f fd ∧ D.mg x = some (.ref f) ∧ Binds D.K fd ps [] ∧ FnG ht D.P D.w D.K D.mg D.base k f fd ps (specOf D.K (xrK D.K) io own np vc)
/-- jc, jn: argument lists -/
theorem jn {X : Cx} {C : Ctx} {G : Gam} {pins : List Nat} : JA X C G pins [] [] G fNil := .nil G pins
theorem jc {X : Cx} {C : Ctx} {G G1 G2 : Gam} {pins : List Nat} {e : Expr} {mo : Mo} {f : Sl → Res W} {es : List Expr} {ms : List Am} {g : Sl → Res (List W)} (h : JE X C G pins e mo G1 f) (t : JA X C G1 (pins ++ mo.dep) es ms G2 g) (hs : notStar e = true := by rfl) : JA X C G pins (e :: es) (.mo mo :: ms) G2 (fCons f g) := .cons G pins e mo G1 f es ms G2 g hs h t

def semAdd : List W → Option W := semI2 (fun _ _ => true) fun i j => .int (i + j)
def semSub : List W → Option W := semI2 (fun _ _ => true) fun i j => .int (i - j)
def semMul : List W → Option W := semI2 mulOk fun i j => .int (i * j)
def semFdv : List W → Option W := semI2 (fun _ j => fdivOk j) fun i j => .int (i.fdiv j)
def semMod : List W → Option W := semI2 (fun _ j => decide (j ≠ 0)) fun i j => .int (i.fmod j)
def semPow : List W → Option W := semI2 powOk fun i j => .int (i ^ j.toNat)
def semLt : List W → Option W := semI2 (fun _ _ => true) fun i j => .bl (decide (i < j))
def semLe : List W → Option W := semI2 (fun _ _ => true) fun i j => .bl (decide (i ≤ j))
def semGt : List W → Option W := semI2 (fun _ _ => true) fun i j => .bl (decide (j < i))
def semGe : List W → Option W := semI2 (fun _ _ => true) fun i j => .bl (decide (j ≤ i))
def semMax2 : List W → Option W := semI2 (fun _ _ => true) fun i j => .int (if j > i then j else i)
def semMin2 : List W → Option W := semI2 (fun _ _ => true) fun i j => .int (if j < i then j else i)
def semAbs : List W → Option W := semI1 fun i => .int (if i < 0 then -i else i)
def semNeg : List W → Option W := semI1 fun i => .int (-i)

def semEqS (neg : Bool) : List W → Option W
  | [.str a, .str b] => some (.bl (if neg then !decide (a = b) else decide (a = b)))
  | _ => none
theorem loc_eqS {K : Kz} {neg : Bool} : LocF K (R2f (if neg then rNe else rEq)) (semEqS neg) := by
  intro vs ws fps H Q w hv hs k
  unfold semEqS at hs
  split at hs
  · rename_i a b
    obtain ⟨x, y, f1, f2, rfl, rfl, r1, r2⟩ := vws2 hv
    obtain ⟨rfl, rfl⟩ := vwStr r1
    obtain ⟨rfl, rfl⟩ := vwStr r2
    cases hs
    have e : decide (V.str a = V.str b) = decide (a = b) := by
      by_cases h : a = b <;> simp [h]
    have kk := k (.bl (if neg then !decide (a = b) else decide (a = b))) H [] (Same.refl H) mkBl List.nodup_nil fun a ha => by cases ha
    cases neg with
    | true => exact ⟨_, _, rfl, rfl, by rw [e]; exact kk⟩
    | false => exact ⟨_, _, rfl, rfl, by rw [e]; exact kk⟩
  · cases hs
section
variable {X : Cx} {C : Ctx} {D : Wd} {sc : Scope} {N : List Str} {k : Nat} {Gx : Gam} {ip : Option Nat} {fnp : Str → Bool} {ht : Bool}
theorem Gd.blk (g : Gd ht X C D sc N k Gx ip fnp) (s : Shared) (H : Hp) (scope : Scope) (cl : List (Str × Addr)) (Ca : Addr) (fp : List Addr) :
    Gd ht (X.blk s H scope (compEnvC scope cl Ca X.env) fp) C.quiet D (relS scope sc) N k Gx ip (fun x => scope.names.lookup x == some .cell) where
  eP := g.eP
  ew := g.ew
  eK := g.eK
  eM := g.eM
  eB := g.eB
  eC := g.eC
  en := g.en
  eG := g.eG
  eX := g.eX
  eN := g.eN
  nd := g.nd
  eS := by rw [← g.eS]; rfl
  eF := rfl
  calm := g.calm
  gu := g.gu
  room := g.room
  tk := takesN
  eI := g.eI
theorem Gd.hK (g : Gd ht X C D sc N k Gx ip fnp) : X.K = C.K := g.eK.trans g.eC.symm
theorem Gd.units (g : Gd ht X C D sc N k Gx ip fnp) : X.A.units + 64 < cLine := g.room.ult
theorem Gd.gl (g : Gd ht X C D sc N k Gx ip fnp) {x : Str} (h : sc.names.lookup x = some .globalImplicit) : Gl X x := by
  show X.env.scope.names.lookup x = _
  rw [g.eS]
  exact h
theorem Gd.mgn (g : Gd ht X C D sc N k Gx ip fnp) {x : Str} (h : D.mg x = none) : X.mg x = none := by rw [g.eM]; exact h
theorem Gd.ipFree (g : Gd ht X C D sc N k Gx ip fnp) {i : Nat} (h : ip ≠ some i) : ipFree C i := fun v e => h (g.eI i v e)
section
variable {G G1 G2 G3 G' : Gam} {pins : List Nat} {e a b c : Expr} {es rest : List Expr} {mo mo' : Mo} {ms : List Am} {gs : Sl → Res (List W)} {f f2 : Sl → Res W} {pos p p2 : Pos}
theorem Gd.pv (g : Gd ht X C D sc N k Gx ip fnp) {i : Nat} {x : Str} (hN : N[i]? = some x) (hv : Vis sc x) (hd : (x == ("__debug__" : Str)) = false) (hcd : (x == ("__classdict__" : Str)) = false) : PE X (.Name x pos) (tVar i) := pe_var (by rw [g.eN]; exact hN) (by rw [g.eS]; exact hv) hd hcd
/-- a name read -/
theorem Gd.nm (g : Gd ht X C D sc N k Gx ip fnp) (i : Nat) {x : Str} {m : Mo} (hi : G[i]? = some (some m) := by rfl) (hN : N[i]? = some x := by rfl) (hv : Vis sc x := by first | exact Or.inl rfl | exact Or.inr (Or.inl rfl) | exact Or.inr (Or.inr rfl))
    (hd : (x == ("__debug__" : Str)) = false := by decide +kernel) (hcd : (x == ("__classdict__" : Str)) = false := by decide +kernel) : JE X C G pins (.Name x pos) (nameMo i m) G (fName i) := je_name (g.pv hN hv hd hcd) hi
/-- a name that holds an int -/
theorem Gd.ni (g : Gd ht X C D sc N k Gx ip fnp) (i : Nat) {x : Str} {m : Mo} (hi : G[i]? = some (some m) := by rfl) (hN : N[i]? = some x := by rfl) (hv : Vis sc x := by first | exact Or.inl rfl | exact Or.inr (Or.inl rfl) | exact Or.inr (Or.inr rfl))
    (hd : (x == ("__debug__" : Str)) = false := by decide +kernel) (hcd : (x == ("__classdict__" : Str)) = false := by decide +kernel) : JE X C G pins (.Name x pos) .O G (fInt (fName i)) := je_int (je_name (g.pv hN hv hd hcd) hi)
theorem Gd.np (g : Gd ht X C D sc N k Gx ip fnp) (i : Nat) {x : Str} {m : Mo} (hi : G[i]? = some (some m) := by rfl) (hN : N[i]? = some x := by rfl) (hv : Vis sc x := by first | exact Or.inl rfl | exact Or.inr (Or.inl rfl) | exact Or.inr (Or.inr rfl))
    (hd : (x == ("__debug__" : Str)) = false := by decide +kernel) (hcd : (x == ("__classdict__" : Str)) = false := by decide +kernel) : JE X C G pins (.Name x pos) .O G (fPure (fName i)) := je_pure (je_name (g.pv hN hv hd hcd) hi)
/-- a name moved out -/
theorem Gd.mv (g : Gd ht X C D sc N k Gx ip fnp) (i : Nat) {x : Str} (hi : G[i]? = some (some .O) := by rfl) (hp : pins.contains i = false := by rfl) (hip : ip ≠ some i := by decide) (hN : N[i]? = some x := by rfl) (hv : Vis sc x := by first | exact Or.inl rfl | exact Or.inr (Or.inl rfl) | exact Or.inr (Or.inr rfl))
    (hd : (x == ("__debug__" : Str)) = false := by decide +kernel) (hcd : (x == ("__classdict__" : Str)) = false := by decide +kernel) : JE X C G pins (.Name x pos) .O (killG i (G.set i none)) (fMov i) := je_mov (g.pv hN hv hd hcd) hi hp (g.ipFree hip)
theorem Gd.io (g : Gd ht X C D sc N k Gx ip fnp) (i : Nat) {x : Str} {h : Sl → Res (List W)} (t : JA X C G pins es ms G2 h) (hi : G[i]? = some (some .O) := by rfl) (hN : N[i]? = some x := by rfl) (hv : Vis sc x := by first | exact Or.inl rfl | exact Or.inr (Or.inl rfl) | exact Or.inr (Or.inr rfl))
    (hd : (x == ("__debug__" : Str)) = false := by decide +kernel) (hcd : (x == ("__classdict__" : Str)) = false := by decide +kernel) : JA X C G pins (.Name x pos :: es) (.io i :: ms) G2 (fConsIo h) := .io G pins _ i es ms G2 h rfl (g.pv hN hv hd hcd) hi t
def fInt1 (i : Int) : Sl → Res W := fun S => .ok (.int i) S
def fBl1 (i : Bool) : Sl → Res W := fun S => .ok (.bl i) S
def fStr1 (i : Str) : Sl → Res W := fun S => .ok (.str i) S
def fNon : Sl → Res W := fun S => .ok .non S
theorem j_int {i : Int} {j : Nat} : JE X C G pins (.Constant (.int i) j pos) .O G (fInt1 i) := je_const pe_int fun _ => mkInt
theorem j_bl {i : Bool} {j : Nat} : JE X C G pins (.Constant (.bool i) j pos) .O G (fBl1 i) := je_const pe_bl fun _ => mkBl
theorem j_str {i : Str} {j : Nat} : JE X C G pins (.Constant (.str i) j pos) .O G (fStr1 i) := je_const pe_str fun _ => mkStr'
theorem j_non {j : Nat} : JE X C G pins (.Constant .none j pos) .O G fNon := je_const pe_non fun _ => mkNon
/-! operators -/
theorem Gd.add (g : Gd ht X C D sc N k Gx ip fnp) (ja : JA X C G pins [a, b] ms G' gs) (hp : plain ms = true := by rfl) : JE X C G pins (.BinOp a .Add b pos) .O G' (fPrim gs semAdd) := je_bin op_add ja hp (loc_i20 fun _ _ _ => mkInt)
theorem Gd.sub (g : Gd ht X C D sc N k Gx ip fnp) (ja : JA X C G pins [a, b] ms G' gs) (hp : plain ms = true := by rfl) : JE X C G pins (.BinOp a .Sub b pos) .O G' (fPrim gs semSub) := je_bin op_sub ja hp (loc_i20 fun _ _ _ => mkInt)
theorem Gd.mul (g : Gd ht X C D sc N k Gx ip fnp) (ja : JA X C G pins [a, b] ms G' gs) (hp : plain ms = true := by rfl) : JE X C G pins (.BinOp a .Mult b pos) .O G' (fPrim gs semMul) := je_bin op_mulX ja hp (loc_i2 (fun _ _ h => h) fun _ _ _ => mkInt)
theorem Gd.fdv (g : Gd ht X C D sc N k Gx ip fnp) (ja : JA X C G pins [a, b] ms G' gs) (hp : plain ms = true := by rfl) : JE X C G pins (.BinOp a .FloorDiv b pos) .O G' (fPrim gs semFdv) := je_bin op_fdivX ja hp (loc_i2 (fun _ _ h => h) fun _ _ _ => mkInt)
theorem Gd.mod (g : Gd ht X C D sc N k Gx ip fnp) (ja : JA X C G pins [a, b] ms G' gs) (hp : plain ms = true := by rfl) : JE X C G pins (.BinOp a .Mod b pos) .O G' (fPrim gs semMod) := je_bin op_modN ja hp (loc_i2 (fun _ _ h => by simpa using h) fun _ _ _ => mkInt)
theorem Gd.pow (g : Gd ht X C D sc N k Gx ip fnp) (ja : JA X C G pins [a, b] ms G' gs) (hp : plain ms = true := by rfl) : JE X C G pins (.BinOp a .Pow b pos) .O G' (fPrim gs semPow) := je_bin op_powX ja hp (loc_i2 (fun _ _ h => h) fun _ _ _ => mkInt)
theorem Gd.neg (g : Gd ht X C D sc N k Gx ip fnp) (ja : JA X C G pins [a] ms G' gs) (hp : plain ms = true := by rfl) : JE X C G pins (.UnaryOp .USub a pos) .O G' (fPrim gs semNeg) := je_un un_neg ja hp (loc_i1 fun _ _ => mkInt)
theorem Gd.catF (g : Gd ht X C D sc N k Gx ip fnp) (ja : JA X C G pins [a, b] ms G' gs) (hp : plain ms = true := by rfl) : JE X C G pins (.BinOp a .Add b pos) .O G' (fPrim gs (semCat W.pure.all)) := je_bin op_cat ja hp loc_catF
theorem Gd.catO (g : Gd ht X C D sc N k Gx ip fnp) (ja : JA X C G pins [a, b] ms G' gs) (hp : plain ms = true := by rfl) (hO : allO ms = true := by rfl) : JE X C G pins (.BinOp a .Add b pos) .O G' (fPrim gs (semCat anyW)) := je_binO op_cat ja hp hO loc_catO
theorem Gd.catB (g : Gd ht X C D sc N k Gx ip fnp) (ja : JA X C G pins [a, b] ms G' gs) (hp : plain ms = true := by rfl) : JE X C G pins (.BinOp a .Add b pos) (.B (deps ms)) G' (fPrim gs (semCat anyW)) := je_binB op_cat ja hp loc_catB
theorem Gd.rep (g : Gd ht X C D sc N k Gx ip fnp) (ja : JA X C G pins [a, b] ms G' gs) (hp : plain ms = true := by rfl) : JE X C G pins (.BinOp a .Mult b pos) .O G' (fPrim gs semRep) := je_bin op_rep ja hp loc_rep
theorem nmk {op : CmpOp} (b : Expr) (h : op ≠ .In ∧ op ≠ .NotIn) : behindInMarks op b = false := by
  cases op <;> first | exact absurd rfl h.1 | exact absurd rfl h.2 | (cases b <;> simp [behindInMarks])
theorem Gd.lt (g : Gd ht X C D sc N k Gx ip fnp) (ja : JA X C G pins [a, b] ms G' gs) (hp : plain ms = true := by rfl) : JE X C G pins (.Compare a [.Lt] [b] pos) .O G' (fPrim gs semLt) := je_cmp op_lt (nmk _ ⟨nofun, nofun⟩) ja hp (loc_i20 fun _ _ _ => mkBl)
theorem Gd.le (g : Gd ht X C D sc N k Gx ip fnp) (ja : JA X C G pins [a, b] ms G' gs) (hp : plain ms = true := by rfl) : JE X C G pins (.Compare a [.LtE] [b] pos) .O G' (fPrim gs semLe) := je_cmp op_le (nmk _ ⟨nofun, nofun⟩) ja hp (loc_i20 fun _ _ _ => mkBl)
theorem Gd.gt (g : Gd ht X C D sc N k Gx ip fnp) (ja : JA X C G pins [a, b] ms G' gs) (hp : plain ms = true := by rfl) : JE X C G pins (.Compare a [.Gt] [b] pos) .O G' (fPrim gs semGt) := je_cmp op_gt (nmk _ ⟨nofun, nofun⟩) ja hp (loc_i20 fun _ _ _ => mkBl)
theorem Gd.ge (g : Gd ht X C D sc N k Gx ip fnp) (ja : JA X C G pins [a, b] ms G' gs) (hp : plain ms = true := by rfl) : JE X C G pins (.Compare a [.GtE] [b] pos) .O G' (fPrim gs semGe) := je_cmp op_ge (nmk _ ⟨nofun, nofun⟩) ja hp (loc_i20 fun _ _ _ => mkBl)
theorem Gd.eq (g : Gd ht X C D sc N k Gx ip fnp) (ja : JA X C G pins [a, b] ms G' gs) (hp : plain ms = true := by rfl) : JE X C G pins (.Compare a [.Eq] [b] pos) .O G' (fPrim gs (semEq false)) := je_cmp (op_eqD g.units) (nmk _ ⟨nofun, nofun⟩) ja hp (by rw [g.hK]; exact loc_eq (neg := false))
theorem Gd.ne (g : Gd ht X C D sc N k Gx ip fnp) (ja : JA X C G pins [a, b] ms G' gs) (hp : plain ms = true := by rfl) : JE X C G pins (.Compare a [.NotEq] [b] pos) .O G' (fPrim gs (semEq true)) := je_cmp (op_neD g.units) (nmk _ ⟨nofun, nofun⟩) ja hp (by rw [g.hK]; exact loc_eq (neg := true))
theorem Gd.eqS (g : Gd ht X C D sc N k Gx ip fnp) (ja : JA X C G pins [a, b] ms G' gs) (hp : plain ms = true := by rfl) : JE X C G pins (.Compare a [.Eq] [b] pos) .O G' (fPrim gs (semEqS false)) := je_cmp op_eq (nmk _ ⟨nofun, nofun⟩) ja hp (loc_eqS (neg := false))
theorem Gd.neS (g : Gd ht X C D sc N k Gx ip fnp) (ja : JA X C G pins [a, b] ms G' gs) (hp : plain ms = true := by rfl) : JE X C G pins (.Compare a [.NotEq] [b] pos) .O G' (fPrim gs (semEqS true)) := je_cmp op_ne (nmk _ ⟨nofun, nofun⟩) ja hp (loc_eqS (neg := true))
theorem Gd.eqST (g : Gd ht X C D sc N k Gx ip fnp) (ja : JA X C G pins [a, b] ms G' gs) (hp : plain ms = true := by rfl) : JT X C G pins (.Compare a [.Eq] [b] pos) G' (fBl (fPrim gs (semEqS false))) := jt_cmp op_eq (nmk _ ⟨nofun, nofun⟩) ja hp (loc_eqS (neg := false))
theorem Gd.neST (g : Gd ht X C D sc N k Gx ip fnp) (ja : JA X C G pins [a, b] ms G' gs) (hp : plain ms = true := by rfl) : JT X C G pins (.Compare a [.NotEq] [b] pos) G' (fBl (fPrim gs (semEqS true))) := jt_cmp op_ne (nmk _ ⟨nofun, nofun⟩) ja hp (loc_eqS (neg := true))
theorem Gd.isN (g : Gd ht X C D sc N k Gx ip fnp) (ja : JA X C G pins [a, b] ms G' gs) (hp : plain ms = true := by rfl) : JE X C G pins (.Compare a [.Is] [b] pos) .O G' (fPrim gs (semIsN false)) := je_cmp op_isN (nmk _ ⟨nofun, nofun⟩) ja hp (loc_isN (neg := false))
theorem Gd.notN (g : Gd ht X C D sc N k Gx ip fnp) (ja : JA X C G pins [a, b] ms G' gs) (hp : plain ms = true := by rfl) : JE X C G pins (.Compare a [.IsNot] [b] pos) .O G' (fPrim gs (semIsN true)) := je_cmp op_notN (nmk _ ⟨nofun, nofun⟩) ja hp (loc_isN (neg := true))
theorem Gd.ltT (g : Gd ht X C D sc N k Gx ip fnp) (ja : JA X C G pins [a, b] ms G' gs) (hp : plain ms = true := by rfl) : JT X C G pins (.Compare a [.Lt] [b] pos) G' (fBl (fPrim gs semLt)) := jt_cmp op_lt (nmk _ ⟨nofun, nofun⟩) ja hp (loc_i20 fun _ _ _ => mkBl)
theorem Gd.leT (g : Gd ht X C D sc N k Gx ip fnp) (ja : JA X C G pins [a, b] ms G' gs) (hp : plain ms = true := by rfl) : JT X C G pins (.Compare a [.LtE] [b] pos) G' (fBl (fPrim gs semLe)) := jt_cmp op_le (nmk _ ⟨nofun, nofun⟩) ja hp (loc_i20 fun _ _ _ => mkBl)
theorem Gd.gtT (g : Gd ht X C D sc N k Gx ip fnp) (ja : JA X C G pins [a, b] ms G' gs) (hp : plain ms = true := by rfl) : JT X C G pins (.Compare a [.Gt] [b] pos) G' (fBl (fPrim gs semGt)) := jt_cmp op_gt (nmk _ ⟨nofun, nofun⟩) ja hp (loc_i20 fun _ _ _ => mkBl)
theorem Gd.geT (g : Gd ht X C D sc N k Gx ip fnp) (ja : JA X C G pins [a, b] ms G' gs) (hp : plain ms = true := by rfl) : JT X C G pins (.Compare a [.GtE] [b] pos) G' (fBl (fPrim gs semGe)) := jt_cmp op_ge (nmk _ ⟨nofun, nofun⟩) ja hp (loc_i20 fun _ _ _ => mkBl)
theorem Gd.eqT (g : Gd ht X C D sc N k Gx ip fnp) (ja : JA X C G pins [a, b] ms G' gs) (hp : plain ms = true := by rfl) : JT X C G pins (.Compare a [.Eq] [b] pos) G' (fBl (fPrim gs (semEq false))) := jt_cmp (op_eqD g.units) (nmk _ ⟨nofun, nofun⟩) ja hp (by rw [g.hK]; exact loc_eq (neg := false))
theorem Gd.neT (g : Gd ht X C D sc N k Gx ip fnp) (ja : JA X C G pins [a, b] ms G' gs) (hp : plain ms = true := by rfl) : JT X C G pins (.Compare a [.NotEq] [b] pos) G' (fBl (fPrim gs (semEq true))) := jt_cmp (op_neD g.units) (nmk _ ⟨nofun, nofun⟩) ja hp (by rw [g.hK]; exact loc_eq (neg := true))
theorem Gd.isNT (g : Gd ht X C D sc N k Gx ip fnp) (ja : JA X C G pins [a, b] ms G' gs) (hp : plain ms = true := by rfl) : JT X C G pins (.Compare a [.Is] [b] pos) G' (fBl (fPrim gs (semIsN false))) := jt_cmp op_isN (nmk _ ⟨nofun, nofun⟩) ja hp (loc_isN (neg := false))
theorem Gd.notNT (g : Gd ht X C D sc N k Gx ip fnp) (ja : JA X C G pins [a, b] ms G' gs) (hp : plain ms = true := by rfl) : JT X C G pins (.Compare a [.IsNot] [b] pos) G' (fBl (fPrim gs (semIsN true))) := jt_cmp op_notN (nmk _ ⟨nofun, nofun⟩) ja hp (loc_isN (neg := true))
/-- x[i], the item borrowed -/
theorem Gd.ix (g : Gd ht X C D sc N k Gx ip fnp) (ja : JA X C G pins [a, b] ms G' gs) (hs : PlainIx b := by exact fun _ _ => rfl) (hp : plain ms = true := by rfl) : JE X C G pins (.Subscript a b pos) (.B (deps ms)) G' (fPrim gs semIx) := je_ixB ix_seq hs ja hp (by rw [g.hK]; exact loc_ix)
theorem Gd.slB (g : Gd ht X C D sc N k Gx ip fnp) {lo hi : Option Expr} {fl fh : Sl → Res (Option Int)} (he : JE X C G pins e mo G1 f) (hl : JP X C G1 (pins ++ mo.dep) lo G2 fl) (hh : JP X C G2 (pins ++ mo.dep) hi G3 fh) : JE X C G pins (.Subscript e (.Slice lo hi none p2) pos) (.B mo.dep) G3 (fSlice (cutL anyW) f fl fh) := je_slice sl_list he hl hh (by rw [g.hK]; exact loc_slB)
theorem Gd.slF (g : Gd ht X C D sc N k Gx ip fnp) {lo hi : Option Expr} {fl fh : Sl → Res (Option Int)} (he : JE X C G pins e mo G1 f) (hl : JP X C G1 (pins ++ mo.dep) lo G2 fl) (hh : JP X C G2 (pins ++ mo.dep) hi G3 fh) : JE X C G pins (.Subscript e (.Slice lo hi none p2) pos) .O G3 (fSlice (cutL W.pure.all) f fl fh) := je_sliceF sl_list he hl hh (by rw [g.hK]; exact loc_slF)
theorem j_lstF (ja : JA X C G pins es ms G' gs) (hp : plain ms = true := by rfl) : JE X C G pins (.List es pos) .O G' (fPrim gs (semLst W.pure.all)) := je_fresh (R := rLst) (pe_lst ja.pa) (fun _ _ _ q => q) hp loc_lstF
theorem j_lstO (ja : JA X C G pins es ms G' gs) (hp : plain ms = true := by rfl) (hO : allO ms = true := by rfl) : JE X C G pins (.List es pos) .O G' (fPrim gs (semLst anyW)) := je_own (R := rLst) (pe_lst ja.pa) (fun _ _ _ q => q) hp hO loc_lstO
theorem j_lstB (ja : JA X C G pins es ms G' gs) (hp : plain ms = true := by rfl) : JE X C G pins (.List es pos) (.B (deps ms)) G' (fPrim gs (semLst anyW)) := je_bor (R := rLst) (pe_lst ja.pa) (fun _ _ _ q => q) hp loc_lstB
theorem j_tupB {j : Nat} (ja : JA X C G pins es ms G' gs) (hp : plain ms = true := by rfl) : JE X C G pins (.Tuple es j pos) (.B (deps ms)) G' (fPrim gs semTup) := je_bor (R := rTup) (pe_tup ja.pa) (fun _ _ _ q => q) hp loc_tupB
theorem j_tupO {j : Nat} (ja : JA X C G pins es ms G' gs) (hp : plain ms = true := by rfl) (hO : allO ms = true := by rfl) : JE X C G pins (.Tuple es j pos) .O G' (fPrim gs semTup) := je_own (R := rTup) (pe_tup ja.pa) (fun _ _ _ q => q) hp hO loc_tupO
/-! built-in functions -/
theorem Gd.len (g : Gd ht X C D sc N k Gx ip fnp) (hm : D.mg "len" = none) (ja : JA X C G pins [a] ms G' gs) (hl : sc.names.lookup ("len" : Str) = some .globalImplicit := by rfl) (hp : plain ms = true := by rfl) : JE X C G pins (.Call (.Name "len" p) [a] [] pos) .O G' (fPrim gs semLen) :=
  je_fn call_len (g.gl hl) (g.mgn hm) PySem.boot_len (by decide +kernel) (by decide +kernel) ja hp (by rw [g.hK]; exact loc_len)
theorem Gd.sum (g : Gd false X C D sc N k Gx ip fnp) (hm : D.mg "sum" = none) (ja : JA X C G pins [a] ms G' gs) (hl : sc.names.lookup ("sum" : Str) = some .globalImplicit := by rfl) (hp : plain ms = true := by rfl) : JE X C G pins (.Call (.Name "sum" p) [a] [] pos) .O G' (fPrim gs semSum) :=
  je_fn (cr_sum (g.calm rfl)) (g.gl hl) (g.mgn hm) (by decide +kernel) (by decide +kernel) (by decide +kernel) ja hp (by rw [g.hK]; exact loc_sum)
theorem Gd.max (g : Gd false X C D sc N k Gx ip fnp) (hm : D.mg "max" = none) (ja : JA X C G pins [a] ms G' gs) (hl : sc.names.lookup ("max" : Str) = some .globalImplicit := by rfl) (hp : plain ms = true := by rfl) : JE X C G pins (.Call (.Name "max" p) [a] [] pos) .O G' (fPrim gs semMax) :=
  je_fn (cr_max (g.calm rfl)) (g.gl hl) (g.mgn hm) (by decide +kernel) (by decide +kernel) (by decide +kernel) ja hp (by rw [g.hK]; exact loc_max)
theorem Gd.min (g : Gd false X C D sc N k Gx ip fnp) (hm : D.mg "min" = none) (ja : JA X C G pins [a] ms G' gs) (hl : sc.names.lookup ("min" : Str) = some .globalImplicit := by rfl) (hp : plain ms = true := by rfl) : JE X C G pins (.Call (.Name "min" p) [a] [] pos) .O G' (fPrim gs semMin) :=
  je_fn (cr_min (g.calm rfl)) (g.gl hl) (g.mgn hm) (by decide +kernel) (by decide +kernel) (by decide +kernel) ja hp (by rw [g.hK]; exact loc_min)
theorem Gd.max2 (g : Gd false X C D sc N k Gx ip fnp) (hm : D.mg "max" = none) (ja : JA X C G pins [a, b] ms G' gs) (hl : sc.names.lookup ("max" : Str) = some .globalImplicit := by rfl) (hp : plain ms = true := by rfl) : JE X C G pins (.Call (.Name "max" p) [a, b] [] pos) .O G' (fPrim gs semMax2) :=
  je_fn (call_max2 (g.calm rfl)) (g.gl hl) (g.mgn hm) (by decide +kernel) (by decide +kernel) (by decide +kernel) ja hp loc_c2
theorem Gd.min2 (g : Gd false X C D sc N k Gx ip fnp) (hm : D.mg "min" = none) (ja : JA X C G pins [a, b] ms G' gs) (hl : sc.names.lookup ("min" : Str) = some .globalImplicit := by rfl) (hp : plain ms = true := by rfl) : JE X C G pins (.Call (.Name "min" p) [a, b] [] pos) .O G' (fPrim gs semMin2) :=
  je_fn (call_min2 (g.calm rfl)) (g.gl hl) (g.mgn hm) (by decide +kernel) (by decide +kernel) (by decide +kernel) ja hp loc_c2
theorem Gd.abs (g : Gd ht X C D sc N k Gx ip fnp) (hm : D.mg "abs" = none) (ja : JA X C G pins [a] ms G' gs) (hl : sc.names.lookup ("abs" : Str) = some .globalImplicit := by rfl) (hp : plain ms = true := by rfl) : JE X C G pins (.Call (.Name "abs" p) [a] [] pos) .O G' (fPrim gs semAbs) :=
  je_fn call_abs (g.gl hl) (g.mgn hm) (by decide +kernel) (by decide +kernel) (by decide +kernel) ja hp loc_c1
theorem Gd.repr (g : Gd ht X C D sc N k Gx ip fnp) (hm : D.mg "repr" = none) (ja : JA X C G pins [a] ms G' gs) (hl : sc.names.lookup ("repr" : Str) = some .globalImplicit := by rfl) (hp : plain ms = true := by rfl) : JE X C G pins (.Call (.Name "repr" p) [a] [] pos) .O G' (fPrim gs semRepr) :=
  je_fn (cr_repr g.gu g.room) (g.gl hl) (g.mgn hm) (by decide +kernel) (by decide +kernel) (by decide +kernel) ja hp (by rw [g.hK]; exact loc_repr)
theorem Gd.all (g : Gd false X C D sc N k Gx ip fnp) (hm : D.mg "all" = none) (ja : JA X C G pins [a] ms G' gs) (hl : sc.names.lookup ("all" : Str) = some .globalImplicit := by rfl) (hp : plain ms = true := by rfl) : JE X C G pins (.Call (.Name "all" p) [a] [] pos) .O G' (fPrim gs (semBls fun bs => .bl (bs.all id))) :=
  je_fn (cr_all (g.calm rfl)) (g.gl hl) (g.mgn hm) (by decide +kernel) (by decide +kernel) (by decide +kernel) ja hp (by rw [g.hK]; exact loc_all)
theorem Gd.any (g : Gd false X C D sc N k Gx ip fnp) (hm : D.mg "any" = none) (ja : JA X C G pins [a] ms G' gs) (hl : sc.names.lookup ("any" : Str) = some .globalImplicit := by rfl) (hp : plain ms = true := by rfl) : JE X C G pins (.Call (.Name "any" p) [a] [] pos) .O G' (fPrim gs (semBls fun bs => .bl (bs.any id))) :=
  je_fn (cr_any (g.calm rfl)) (g.gl hl) (g.mgn hm) (by decide +kernel) (by decide +kernel) (by decide +kernel) ja hp (by rw [g.hK]; exact loc_any)
theorem Gd.int (g : Gd ht X C D sc N k Gx ip fnp) (hm : D.mg "int" = none) (ja : JA X C G pins [a] ms G' gs) (hl : sc.names.lookup ("int" : Str) = some .globalImplicit := by rfl) (hp : plain ms = true := by rfl) : JE X C G pins (.Call (.Name "int" p) [a] [] pos) .O G' (fPrim gs semIntC) :=
  je_ty call_int1 (g.gl hl) (g.mgn hm) (by decide +kernel) (by decide +kernel) (by decide +kernel) ja hp loc_intC
theorem Gd.listF (g : Gd ht X C D sc N k Gx ip fnp) (hm : D.mg "list" = none) (ja : JA X C G pins [a] ms G' gs) (hl : sc.names.lookup ("list" : Str) = some .globalImplicit := by rfl) (hp : plain ms = true := by rfl) : JE X C G pins (.Call (.Name "list" p) [a] [] pos) .O G' (fPrim gs (semListC W.pure.all)) :=
  je_ty call_list_of (g.gl hl) (g.mgn hm) (by decide +kernel) (by decide +kernel) (by decide +kernel) ja hp (by rw [g.hK]; exact loc_listF)
theorem Gd.listB (g : Gd ht X C D sc N k Gx ip fnp) (hm : D.mg "list" = none) (ja : JA X C G pins [a] ms G' gs) (hl : sc.names.lookup ("list" : Str) = some .globalImplicit := by rfl) (hp : plain ms = true := by rfl) : JE X C G pins (.Call (.Name "list" p) [a] [] pos) (.B (deps ms)) G' (fPrim gs (semListC anyW)) :=
  je_tyB call_list_of (g.gl hl) (g.mgn hm) (by decide +kernel) (by decide +kernel) (by decide +kernel) ja hp (by rw [g.hK]; exact loc_listB)
/-! defs of the text -/
theorem Gd.cl (g : Gd ht X C D sc N k Gx ip fnp) {j : Nat} {x : Str} {st : Stmt} {ps : List Str} {own : Bool} {np : Nat} {vc : List W → CRes} {ioP : Option Nat} (io : Option (Nat × Nat)) (cal : Cal ht D j x st ps ioP own np vc) (ja : JA X C G pins es ms G1 gs) (hj : j ≤ k := by decide) (hio : ioOk ms pins io = true := by rfl) (hip : io.map (·.1) = ioP := by rfl) (hnp : ms.length = np := by rfl)
    (hx : gle Gx (killIo io G1) = true := by rfl) (hO : ∀ p k, io = some (p, k) → G1[k]? = some (some .O) := by intro _ _ h; cases h <;> rfl) (hl : sc.names.lookup x = some .globalImplicit := by rfl) (hdb : (x == ("__debug__" : Str)) = false := by decide +kernel) :
    JE X C G pins (.Call (.Name x p) es [] pos) (resMo own ms io) (killIo io G1) (fCall vc io gs) := by
  obtain ⟨f, fd, F, hm, hb, H⟩ := cal.ex
  subst hip
  refine je_fnG (k := j) (f := f) (fd := fd) (ps := ps) ?_ (g.room.mono hj) g.gu (g.gl hl) (by rw [g.eM]; exact hm) (by rw [g.eK]; exact F.kp) (by rw [g.eK]; exact hb) g.tk hdb ja hio hnp (by rw [g.eG]; exact hx) hO
  rw [g.eP, g.ew, g.eK, g.eM, g.eB, g.eC, g.eX]
  exact H
theorem Gd.clK (g : Gd ht X C D sc N k Gx ip fnp) {j : Nat} {x : Str} {st : Stmt} {ps ks : List Str} {own : Bool} {np : Nat} {vc : List W → CRes} {ioP : Option Nat} {kws : List Keyword} {es2 : List Expr} (idx : List Nat) (io : Option (Nat × Nat)) (cal : Cal ht D j x st ps ioP own np vc)
    (hb : ∀ (kV doc pm : Value) (an : Option Addr) (cdv ct : Value) (us ws : List Value), us.length = es.length → ws.length = kws.length → bindArgs (PySem.W.fnOf x x (defArgs st) (defBody st) (defScope st) .none kV doc pm an cdv ct) ⟨us, ks.zip ws⟩ = pure (ps.zip (perm .none idx (us ++ ws))))
    (he2 : kws.map (·.value) = es2) (ja : JA X C G pins (es ++ es2) ms G1 gs)
    (hall : (backToKw pos (keywordEach kws X.env)).all (·.1.isSome) = true := by rfl) (hks : (backToKw pos (keywordEach kws X.env)).filterMap (·.1) = ks := by rfl) (hpl2 : (backToKw pos (keywordEach kws X.env)).any (·.1.isNone) = false := by rfl)
    (hj : j ≤ k := by decide) (hperm : okPerm idx np = true := by rfl) (hiom : IoM idx (io.map (·.1)) ioP := by first | exact Or.inl ⟨rfl, rfl⟩ | exact Or.inr ⟨_, _, rfl, rfl, rfl⟩) (hns : ∀ e ∈ es, notStar e = true := by simp [notStar])
    (hio : ioOk ms pins io = true := by rfl) (hnp : ms.length = np := by rfl) (hlen : es.length + kws.length = np := by rfl)
    (hx : gle Gx (killIo io G1) = true := by rfl) (hO : ∀ p k, io = some (p, k) → G1[k]? = some (some .O) := by intro _ _ h; cases h <;> rfl) (hl : sc.names.lookup x = some .globalImplicit := by rfl) (hdb : (x == ("__debug__" : Str)) = false := by decide +kernel) :
    JE X C G pins (.Call (.Name x p) es kws pos) (resMo own ms io) (killIo io G1) (fCall (fun ws => vc (perm .non idx ws)) io gs) := by
  obtain ⟨f, fd, F, hm, hb0, H⟩ := cal.ex
  obtain ⟨oc, od, kV, doc, pm, an, cdv, ct, osl, efd, lk, hcd⟩ := F.ex
  refine je_fnKG (k := j) (f := f) (fd := fd) (ps := ps) (ks := ks) (idx := idx) (ioP := ioP) ?_ (g.room.mono hj) g.gu (g.gl hl) (by rw [g.eM]; exact hm) (by rw [g.eK]; exact F.kp) (fun s us ws h1 h2 => ?_) g.tk hdb hall hks hpl2 he2 ja hperm hiom hns hio hnp hlen (by rw [g.eG]; exact hx) hO
  · rw [g.eP, g.ew, g.eK, g.eM, g.eB, g.eC, g.eX]
    exact H
  · rw [efd]
    exact .of_eq (hb kV doc pm an cdv ct us ws h1 h2)
end
end
end Vm

namespace Vm
open PySem PySem.Spec PyProof.Rows L2

/-! ## statements in their surroundings -/
def dumE (sc : Scope) : Env := { scope := sc, locals := 0, globals := 0, cells := [] }
theorem swS {t : List Expr} {v : Expr} {env : Env} {sc : Scope} (h : env.scope = sc) : swappedStores t v env = swappedStores t v (dumE sc) := by
  subst h
  unfold swappedStores
  rfl
theorem swW {v : Expr} {t : Option Expr} {l : Nat} {env : Env} {sc : Scope} (h : env.scope = sc) : swapsWith v t l env = swapsWith v t l (dumE sc) := by
  subst h
  unfold swapsWith
  rfl
/-- values stored from the right -/
def fPar (is : List Nat) (gs : Sl → Res (List W)) : Sl → Res Fl := fun S => (gs S).bind fun ws S1 => match setAll is ws S1 with
  | some S2 => .ok .nx S2
  | none => .err
section
variable {X : Cx} {C : Ctx} {D : Wd} {sc : Scope} {N : List Str} {k : Nat} {Gx : Gam} {ip : Option Nat} {fnp : Str → Bool} {ht : Bool} {s : Sx}
variable {G G1 G2 G3 G' : Gam} {pins : List Nat} {e a b c : Expr} {es rest : List Expr} {mo mo' m1 m2 m3 : Mo} {ms : List Am} {gs : Sl → Res (List W)} {fe f2 : Sl → Res W} {f : Sl → Res Fl} {pos p p2 px py pz pt : Pos} {st : Stmt} {sts : List Stmt}
theorem js_par2 {i j : Nat} {x y : Str} {kt k2 : Nat} {pt2 : Pos} (hc : X.calm = true) (hN : X.N.Nodup) (hi : X.N[i]? = some x) (hj : X.N[j]? = some y) (hij : i ≠ j) (hx : X.env.scope.names.lookup x = some .local) (hy : X.env.scope.names.lookup y = some .local)
    (ja : JA X C G pins [a, b] [.mo m1, .mo m2] G1 gs) (hin : i < C.n) (hjn : j < C.n) (hiG : i < G1.length) (hjG : j < G1.length) (ipi : ipFree C i) (ipj : ipFree C j)
    (hw : swappedStores [.Tuple [.Name x px, .Name y py] kt pt] (.Tuple [a, b] k2 pt2) X.env = pure (some [x, y])) :
    JS X C s G pins (.Assign [.Tuple [.Name x px, .Name y py] kt pt] (.Tuple [a, b] k2 pt2) pos) ((G1.set i (some m1)).set j (some m2)) (fPar [i, j] gs) := by
  refine PS.imp (ps_par hc hN hi hj hij hx hy ja.pa hw rfl) fun D σ H ⟨cs, S, R, p, pp, o⟩ => ⟨cs, S, R, p, pp, ?_⟩
  have ln := R.ln
  unfold fPar at o
  cases hg : gs S with
  | err => rw [hg] at o; exact o
  | exc x S' => rw [hg] at o; exact o σ
  | ok ws S1 =>
    rw [hg] at o
    intro vs H1 cs1 R1 l1 a1 T1 g1
    have o : OutS C cs.length cs s D ((G1.set i (some m1)).set j (some m2)) (match setAll [i, j] ws S1 with | some S2 => .ok .nx S2 | none => .err) := o
    match vs, ws, a1 with
    | [v1, v2], [w1, w2], a1 =>
      obtain ⟨⟨fp1, t1⟩, ⟨fp2, t2⟩, _⟩ := a1
      obtain ⟨R2, l2, T2, g2⟩ := rel_store R1 g1 (L := cs.length + 1) (by omega) (by rw [l1]; rfl) t2 hjn hjG ipj
      have t1' : (List.set (cs1.take (cs.length + 1)) j (some ⟨v2, w2, m2, fp2⟩))[cs.length]? = some (some ⟨v1, w1, m1, fp1⟩) := by rw [T2 cs.length ln (by omega)]; exact t1
      obtain ⟨R3, l3, T3, g3⟩ := rel_store R2 g2 (L := cs.length) ln l2 t1' hin (by simpa using hiG) ipi
      refine ⟨v1, v2, rfl, ?_⟩
      have o : OutS C cs.length cs s D ((G1.set i (some m1)).set j (some m2)) (.ok .nx ((S1.set i (some w1)).set j (some w2))) := o
      have eS : (S1.set j (some w2)).set i (some w1) = (S1.set i (some w1)).set j (some w2) := List.set_comm _ _ (Ne.symm hij)
      have eσ : (σ.set j (some v2)).set i (some v1) = (σ.set i (some v1)).set j (some v2) := List.set_comm _ _ (Ne.symm hij)
      have eG : (G1.set j (some m2)).set i (some m1) = (G1.set i (some m1)).set j (some m2) := List.set_comm _ _ (Ne.symm hij)
      rw [eS, eσ] at R3
      rw [eG] at g3
      exact o _ _ _ R3 l3 (fun q h1 h2 => by rw [T3 q h1 h2, T2 q h1 (by omega)]; exact T1 q h1 h2) g3
    | [], _, a1 => exact a1.elim
    | [_], [], a1 => exact a1.elim
    | [_], _ :: _, a1 => exact a1.2.elim
    | _ :: _ :: _, [], a1 => exact a1.elim
    | _ :: _ :: _, [_], a1 => exact a1.2.elim
    | _ :: _ :: _ :: _, _ :: _ :: _, a1 => exact a1.2.2.elim
    | [_, _], _ :: _ :: _ :: _, a1 => exact a1.2.2.elim
theorem Gd.nmOk (g : Gd ht X C D sc N k Gx ip fnp) {x : Str} {i : Nat} (hN : N[i]? = some x) (hx : Loc sc x) (hf : fnp x = true ∨ sc.names.lookup x = some .local) (hip : ip ≠ some i) : NmOk X C x i :=
  ⟨by rw [g.eN]; exact g.nd, by rw [g.eN]; exact hN, by rw [g.eS]; exact hx, by rw [g.eF, g.eS]; exact hf, by rw [g.en]; exact (List.getElem?_eq_some_iff.mp hN).1, g.ipFree hip⟩
theorem Gd.n1 (g : Gd ht X C D sc N k Gx ip fnp) {x : Str} (i : Nat) (is : List Nat) (t : NmsOk X C es is) (hN : N[i]? = some x := by rfl) (hx : Loc sc x := by first | exact Or.inl rfl | exact Or.inr rfl) (hf : fnp x = true ∨ sc.names.lookup x = some .local := by first | exact Or.inl rfl | exact Or.inr rfl) (hip : ip ≠ some i := by decide) : NmsOk X C (.Name x p :: es) (i :: is) := .cons x p i es is (g.nmOk hN hx hf hip) t
/-- x = e -/
theorem Gd.asg (g : Gd ht X C D sc N k Gx ip fnp) (i : Nat) {x : Str} (he : JE X C G pins e mo G1 fe) (hN : N[i]? = some x := by rfl) (hx : Loc sc x := by first | exact Or.inl rfl | exact Or.inr rfl) (hf : fnp x = true ∨ sc.names.lookup x = some .local := by first | exact Or.inl rfl | exact Or.inr rfl) (hip : ip ≠ some i := by decide)
    (hG : i < G1.length := by decide) (hs : swapsWith e (some (.Name x p)) pos.line X.env = pure false := by rfl) : JS X C s G pins (.Assign [.Name x p] e pos) (G1.set i (some mo)) (fAsg (.nm i) fe) :=
  let h := g.nmOk hN hx hf hip
  js_asg he h.nd h.ix h.loc h.fn h.lt hG h.ip hs
theorem Gd.tgN (g : Gd ht X C D sc N k Gx ip fnp) (i : Nat) {x : Str} (hN : N[i]? = some x := by rfl) (hx : Loc sc x := by first | exact Or.inl rfl | exact Or.inr rfl) (hf : fnp x = true ∨ sc.names.lookup x = some .local := by first | exact Or.inl rfl | exact Or.inr rfl) (hip : ip ≠ some i := by decide) (hG : i < G1.length := by decide) : JG X C G1 (.nm i) mo (.Name x p) :=
  let h := g.nmOk hN hx hf hip
  jg_name h.nd h.ix h.loc h.fn h.lt hG h.ip
theorem Gd.tgT (g : Gd false X C D sc N k Gx ip fnp) (is : List Nat) {j : Nat} (h : NmsOk X C es is) (hG : G1.length = N.length := by rfl) : JG X C G1 (.tp is) mo (.Tuple es j p) := jg_tup (g.calm rfl) g.hK h (by rw [g.en]; exact hG)
theorem Gd.asgT (g : Gd false X C D sc N k Gx ip fnp) (is : List Nat) {j : Nat} (he : JE X C G pins e mo G1 fe) (h : NmsOk X C es is) (hG : G1.length = N.length := by rfl) (hs : swapsWithSole [.Tuple es j p] e pos.line X.env = pure false := by rfl) (hw : swappedStores [.Tuple es j p] e (dumE sc) = pure none := by rfl)
    (h1 : (assignEach [.Tuple es j p] X.env).map (·.2) = [assign (.Tuple es j p) X.env] := by rfl) : JS X C s G pins (.Assign [.Tuple es j p] e pos) ((Tg.tp is).gam mo G1) (fAsg (.tp is) fe) :=
  js_asgG he (g.tgT is h hG) hs (by rw [swS g.eS]; exact hw) h1
theorem Gd.par2 (g : Gd false X C D sc N k Gx ip fnp) (i j : Nat) {x y : Str} {kt k2 : Nat} {pt2 : Pos} (ja : JA X C G pins [a, b] [.mo m1, .mo m2] G1 gs) (hi : N[i]? = some x := by rfl) (hj : N[j]? = some y := by rfl) (hij : i ≠ j := by decide) (hx : sc.names.lookup x = some .local := by rfl) (hy : sc.names.lookup y = some .local := by rfl)
    (hiG : i < G1.length := by decide) (hjG : j < G1.length := by decide) (ipi : ip ≠ some i := by decide) (ipj : ip ≠ some j := by decide) (hw : swappedStores [.Tuple [.Name x px, .Name y py] kt pt] (.Tuple [a, b] k2 pt2) (dumE sc) = pure (some [x, y]) := by rfl) :
    JS X C s G pins (.Assign [.Tuple [.Name x px, .Name y py] kt pt] (.Tuple [a, b] k2 pt2) pos) ((G1.set i (some m1)).set j (some m2)) (fPar [i, j] gs) :=
  js_par2 (g.calm rfl) (by rw [g.eN]; exact g.nd) (by rw [g.eN]; exact hi) (by rw [g.eN]; exact hj) hij (by rw [g.eS]; exact hx) (by rw [g.eS]; exact hy) ja (by rw [g.en]; exact (List.getElem?_eq_some_iff.mp hi).1) (by rw [g.en]; exact (List.getElem?_eq_some_iff.mp hj).1) hiG hjG (g.ipFree ipi) (g.ipFree ipj) (by rw [swS g.eS]; exact hw)
/-- k[ix] = e -/
theorem Gd.setix (g : Gd ht X C D sc N k Gx ip fnp) (q : Nat) {x : Str} {np tp : Pos} {ix : Expr} {mi : Mo} {fi : Sl → Res W} (he : JE X C G pins e .O G1 fe) (hi : JE X C G1 pins ix mi G2 fi) (hk1 : G1[q]? = some (some .O) := by rfl) (hk2 : G2[q]? = some (some .O) := by rfl) (hp : pins.contains q = false := by rfl)
    (hN : N[q]? = some x := by rfl) (hv : Vis sc x := by first | exact Or.inl rfl | exact Or.inr (Or.inl rfl) | exact Or.inr (Or.inr rfl)) (hd : (x == ("__debug__" : Str)) = false := by decide +kernel) (hcd : (x == ("__classdict__" : Str)) = false := by decide +kernel)
    (ha : ∀ v, assign (.Subscript (.Name x np) ix tp) X.env v = (do
      let ov ← holding [v] (eval (.Name x np) X.env)
      let iv ← holding [v, ov] (eval ix X.env)
      standAt tp
      holding [v, ov, iv] (setItem ov iv v)
      release [v, ov, iv] []) := by exact fun _ => rfl)
    (hs : swapsWithSole [.Subscript (.Name x np) ix tp] e pos.line X.env = pure false := by rfl) (hw : swappedStores [.Subscript (.Name x np) ix tp] e X.env = pure none := by rfl) (h1 : (assignEach [.Subscript (.Name x np) ix tp] X.env).map (·.2) = [assign (.Subscript (.Name x np) ix tp) X.env] := by rfl) :
    JS X C s G pins (.Assign [.Subscript (.Name x np) ix tp] e pos) (killG q G2) (fSetIx q fe fi) := js_setix (g.pv hN hv hd hcd) he hi hk1 hk2 hp ha hs hw h1
/-- k.append(e) -/
theorem Gd.app (g : Gd ht X C D sc N k Gx ip fnp) (q : Nat) {x : Str} {np ap cp : Pos} (he : JE X C G pins e .O G1 fe) (hn : notStar e = true := by rfl) (hk0 : G[q]? = some (some .O) := by rfl) (hk1 : G1[q]? = some (some .O) := by rfl) (hp : pins.contains q = false := by rfl) (hline : (ap.endLine == cp.line) = true := by rfl)
    (hN : N[q]? = some x := by rfl) (hv : Vis sc x := by first | exact Or.inl rfl | exact Or.inr (Or.inl rfl) | exact Or.inr (Or.inr rfl)) (hd : (x == ("__debug__" : Str)) = false := by decide +kernel) (hcd : (x == ("__classdict__" : Str)) = false := by decide +kernel) :
    JS X C s G pins (.Expr (.Call (.Attribute (.Name x np) "append" ap) [e] [] cp) pos) (killG q G1) (fApp q fe) := js_app g.hK (g.pv hN hv hd hcd) hn he hk0 hk1 hp hline
theorem j_expr (he : JE X C G pins e mo G' fe) (hs : swapsWith e none pos.line X.env = pure false := by rfl) : JS X C s G pins (.Expr e pos) G' (fExpr fe) := js_expr he hs
theorem j_ret (he : JE X C G pins e mo G' fe) (ho : s.own = true → mo = .O := by first | exact fun _ => rfl | exact fun h => Bool.noConfusion h) (hg : gle s.Gr G' = true := by rfl) : JS X C s G pins (.Return (some e) pos) G1 (fRet fe) := js_ret he ho hg
theorem lt_of_all (g : Gd ht X C D sc N k Gx ip fnp) {is : List Nat} (h : is.all (decide <| · < N.length) = true) : ∀ i ∈ is, i < C.n := fun i hi => by
  rw [g.en]
  simpa using List.all_eq_true.mp h i hi
/-- for t in iter: -/
theorem Gd.for (g : Gd false X C D sc N k Gx ip fnp) (po : PassesOwn (model X.prog X.w) X.A X.env X.xe) {tg iter : Expr} {t : Tg} (is : List Nat) (Gi : Gam) {fi : Sl → Res (List W)} (hi : JI X C G pins tg iter ms G1 fi) (hg : JG X C (forgetG is Gi) t (.B (deps ms)) tg)
    (hb : JB X C { s with Gb := Gi, Gc := Gi } (t.gam (.B (deps ms)) (forgetG is Gi)) (pins ++ deps ms) sts G2 f) (hp : plain ms = true := by rfl) (hg0 : gle Gi G1 = true := by rfl) (hg2 : gle Gi G2 = true := by rfl) (his : is.all (decide <| · < N.length) = true := by rfl)
    (hs : ∀ x, foldedSetIterable iter X.env x = pure x := by exact fun _ => rfl) : JS X C s G pins (.For tg iter sts [] pos) (forgetG is Gi) (fFor fi t is f) := js_for po (g.calm rfl) hi hp hg0 hg hb hg2 (lt_of_all g his) hs
theorem Gd.whl (g : Gd ht X C D sc N k Gx ip fnp) (po : PassesOwn (model X.prog X.w) X.A X.env X.xe) (is : List Nat) (Gi : Gam) {fb : Sl → Res Bool} (hc : JT X C (forgetG is Gi) pins c G1 fb) (hb : JB X C { s with Gb := Gi, Gc := Gi } G1 pins sts G2 f) (hg0 : gle Gi G = true := by rfl) (hg2 : gle Gi G2 = true := by rfl) (hg1 : gle Gi G1 = true := by rfl) (his : is.all (decide <| · < N.length) = true := by rfl) :
    JS X C s G pins (.While c sts [] pos) (forgetG is Gi) (fWhile fb is f) := js_while po hg0 hc hb hg2 hg1 (lt_of_all g his)
/-! walked things -/
variable {tg : Expr}
theorem Gd.itL (g : Gd ht X C D sc N k Gx ip fnp) (ja : JA X C G pins [a] ms G' gs) (hp : plain ms = true := by rfl) : JI X C G pins tg a ms G' (fItems gs itemsL) := ji_list g.hK ja hp
theorem Gd.itT (g : Gd ht X C D sc N k Gx ip fnp) (ja : JA X C G pins [a] ms G' gs) (hp : plain ms = true := by rfl) : JI X C G pins tg a ms G' (fItems gs itemsT) := ji_tup g.hK ja hp
theorem Gd.it1 (g : Gd ht X C D sc N k Gx ip fnp) (hm : D.mg "range" = none) (ja : JA X C G pins [a] ms G' gs) (hl : sc.names.lookup ("range" : Str) = some .globalImplicit := by rfl) (hp : plain ms = true := by rfl) : JI X C G pins tg (.Call (.Name "range" p) [a] [] pos) ms G' (fItems gs itemsR1) := ji_r1 (g.gl hl) (g.mgn hm) ja hp
theorem Gd.it2 (g : Gd ht X C D sc N k Gx ip fnp) (hm : D.mg "range" = none) (ja : JA X C G pins [a, b] ms G' gs) (hl : sc.names.lookup ("range" : Str) = some .globalImplicit := by rfl) (hp : plain ms = true := by rfl) (hb : notStar b = true := by rfl) : JI X C G pins tg (.Call (.Name "range" p) [a, b] [] pos) ms G' (fItems gs itemsR2) := ji_r2 (g.gl hl) (g.mgn hm) ja hp hb
theorem Gd.it3 (g : Gd ht X C D sc N k Gx ip fnp) (hm : D.mg "range" = none) (ja : JA X C G pins [a, b, c] ms G' gs) (hl : sc.names.lookup ("range" : Str) = some .globalImplicit := by rfl) (hp : plain ms = true := by rfl) : JI X C G pins tg (.Call (.Name "range" p) [a, b, c] [] pos) ms G' (fItems gs itemsR3) := ji_r3 (g.gl hl) (g.mgn hm) ja hp
theorem Gd.itE (g : Gd ht X C D sc N k Gx ip fnp) {elts : List Expr} {j : Nat} (hm : D.mg "enumerate" = none) (ja : JA X C G pins [a] ms G' gs) (hl : sc.names.lookup ("enumerate" : Str) = some .globalImplicit := by rfl) (hp : plain ms = true := by rfl) : JI X C G pins (.Tuple elts j pt) (.Call (.Name "enumerate" p) [a] [] pos) ms G' (fItems gs itemsE) := ji_enum g.hK (g.gl hl) (g.mgn hm) ja hp
theorem Gd.itZ (g : Gd ht X C D sc N k Gx ip fnp) {elts : List Expr} {j : Nat} (hm : D.mg "zip" = none) (ja : JA X C G pins [a, b] ms G' gs) (hl : sc.names.lookup ("zip" : Str) = some .globalImplicit := by rfl) (hp : plain ms = true := by rfl) : JI X C G pins (.Tuple elts j pt) (.Call (.Name "zip" p) [a, b] [] pos) ms G' (fItems gs itemsZ) := ji_zip g.hK (g.gl hl) (g.mgn hm) ja hp
/-! comprehensions -/
def blkB (N : List Str) (sc scope : Scope) (own : List (Str × Nat)) : Bool :=
  decide (scope.kind = .function) && scope.names.all (fun y => decide (scope.names.lookup y.1 = some y.2)) && own.all (fun p => decide (N[p.2]? = some p.1)) &&
  scope.names.all (fun y => decide (y.2 ≠ .free) || decide (sc.names.lookup y.1 = some .cell) || decide (sc.names.lookup y.1 = some .free)) && scope.names.all (fun y => (decide (y.2 ≠ .local) && decide (y.2 ≠ .cell)) || decide (y.1 ∈ own.map (·.1)) || decide (y.1 ∉ N))
theorem blk_of {N : List Str} {sc scope : Scope} {own : List (Str × Nat)} (h : blkB N sc scope own = true) : BlkOk N sc scope own := by
  unfold blkB at h
  simp only [Bool.and_eq_true, decide_eq_true_eq, List.all_eq_true, Bool.or_eq_true] at h
  obtain ⟨⟨⟨⟨h1, h2⟩, h3⟩, h4⟩, h5⟩ := h
  refine ⟨h1, h2, h3, fun y hy hf => ?_, fun y hy hf => ?_⟩
  · rcases h4 y hy with (z | z) | z
    · exact absurd hf z
    · exact .inl z
    · exact .inr z
  · rcases h5 y hy with (z | z) | z
    · exact (hf.elim z.1 z.2).elim
    · exact .inl z
    · exact .inr z
theorem Gd.comp (g : Gd false X C D sc N k Gx ip fnp) {scope : Scope} (own : List (Str × Nat)) {tg elt iter : Expr} {ifs : List Expr} {t : Tg} (Gi : Gam) {Ga Gb Gc : Gam} {fi : Sl → Res (List W)} {cond : Sl → Res Bool} (it : JI X C G pins tg iter ms G1 fi)
    (tgt : ∀ {X' : Cx} {C' : Ctx}, Gd false X' C' D (relS scope sc) N k Gx ip (fun x => scope.names.lookup x == some .cell) → JG X' C' (forgetG (own.map (·.2)) Gi) t (.B (deps ms)) tg)
    (tst : ∀ {X' : Cx} {C' : Ctx}, Gd false X' C' D (relS scope sc) N k Gx ip (fun x => scope.names.lookup x == some .cell) → JTs X' C' (t.gam (.B (deps ms)) (forgetG (own.map (·.2)) Gi)) (pins ++ deps ms) ifs Gb cond)
    (elt' : ∀ {X' : Cx} {C' : Ctx}, Gd false X' C' D (relS scope sc) N k Gx ip (fun x => scope.names.lookup x == some .cell) → JE X' C' Gb (pins ++ deps ms) elt .O Gc fe)
    (blk : blkB N sc scope own = true := by decide +kernel) (pl : plain ms = true := by rfl) (g0 : gle Gi G1 = true := by rfl) (gb : gle Gi Gb = true := by rfl) (gc : gle Gi Gc = true := by rfl) (ix : (own.map (·.2)).all (decide <| · < N.length) = true := by rfl) (tin : t.slots.all (own.map (·.2)).contains = true := by rfl) (fs : ∀ x, foldedSetIterable iter X.env x = pure x := by exact fun _ => rfl) :
    CompOk X C scope own tg elt iter ifs t ms pins G G1 Gi Ga Gb Gc fi cond fe where
  calm := (g.calm rfl)
  nd := by rw [g.eN]; exact g.nd
  it := it
  pl := pl
  g0 := g0
  blk := by rw [g.eN, g.eS]; exact blk_of blk
  tgt := fun s H Ca cl fp => tgt (g.blk s H scope cl Ca fp)
  tst := fun s H Ca cl fp => tst (g.blk s H scope cl Ca fp)
  elt := fun s H Ca cl fp => elt' (g.blk s H scope cl Ca fp)
  gb := gb
  gc := gc
  ix := lt_of_all g ix
  tin := fun i hi => by simpa using List.all_eq_true.mp tin i hi
  fs := fs
theorem Gd.asgC (g : Gd ht X C D sc N k Gx ip fnp) {scope : Scope} {own : List (Str × Nat)} {tg elt iter : Expr} {ifs : List Expr} {t : Tg} {Gi Ga Gb Gc : Gam} {fi : Sl → Res (List W)} {cond : Sl → Res Bool} (i : Nat) {y : Str} (h : CompOk X C scope own tg elt iter ifs t ms pins G G1 Gi Ga Gb Gc fi cond fe)
    (hN : N[i]? = some y := by rfl) (hy : sc.names.lookup y = some .local := by rfl) (hip : ip ≠ some i := by decide) (hG : i < Gi.length := by decide) (hsw : swapsWith (.ListComp elt [⟨tg, iter, ifs, 0⟩] scope pos) (some (.Name y py)) p.line (dumE sc) = pure true := by rfl) :
    JS X C s G pins (.Assign [.Name y py] (.ListComp elt [⟨tg, iter, ifs, 0⟩] scope pos) p) ((forgetG (own.map (·.2)) Gi).set i (some .O)) (fAsg (.nm i) (fComp fi t (own.map (·.2)) cond fe)) :=
  js_comp h (by rw [g.eN]; exact hN) (by rw [g.eS]; exact hy) (by rw [swW g.eS]; exact hsw) (by rw [g.en]; exact (List.getElem?_eq_some_iff.mp hN).1) hG (g.ipFree hip)
end
end Vm

namespace Vm
open PySem PySem.Spec PyProof.Rows L2

/-! ## isinstance(x, T), T a built-in type -/
def tyName : W → Option String
  | .non => some "NoneType"
  | .bl _ => some "bool"
  | .int _ => some "int"
  | .str _ => some "str"
  | .tup _ => some "tuple"
  | .lst _ => some "list"
  | .scr _ => some "list"
  | .dct _ _ => some "dict"
  | .ins _ _ _ => none
theorem tyX_of {K : Kz} {H : Hp} {w : W} {v : V} {fp : List Addr} {t : String} (h : Vw K H w v fp) (e : tyName w = some t) : TyX K H v (.type t) := by
  cases w <;> simp only [tyName, Option.some.injEq, reduceCtorEq] at e <;> subst e
  · obtain ⟨rfl, _⟩ := vwNon h; exact .base .non
  · obtain ⟨rfl, _⟩ := vwBl h; exact .base (.bl _)
  · obtain ⟨rfl, _⟩ := vwInt h; exact .base (.int _)
  · obtain ⟨rfl, _⟩ := vwStr h; exact .base (.str _)
  · obtain ⟨a, vs, rfl, s, r⟩ := vwTup h
    rcases s with (s | ⟨o, s⟩) | s
    · exact .base (.tup s)
    · exact .fTuple s
    · obtain ⟨o, its, n, h1, h2, _⟩ := s
      exact .kTuple h1 h2
  · obtain ⟨a, vs, fps, rfl, r, s, _⟩ := vwLst h; exact .base (.lst s)
  · obtain ⟨a, vs, rfl, r, s, _⟩ := vwScr h
    rcases s with ⟨o, s⟩ | ⟨o, its, n, h1, h2, _⟩
    · exact .base (.frz s)
    · exact .kList h1 h2
  · simp only [Vw] at h
    obtain ⟨a, vs, fps, rfl, r, l, s, _⟩ := h
    exact .base (.dK s)
def semIsi (T : String) : List W → Option W
  | [w] => (tyName w).bind fun t => (kitB t T).map W.bl
  | _ => none
section
variable {X : Cx} {C : Ctx} {D : Wd} {sc : Scope} {N : List Str} {k : Nat} {Gx : Gam} {ip : Option Nat} {fnp : Str → Bool} {ht : Bool} {s : Sx}
variable {G G1 G2 G3 G' : Gam} {pins : List Nat} {e a b c : Expr} {es rest : List Expr} {mo mo' ma mb mc : Mo} {ms : List Am} {gs : Sl → Res (List W)} {fe f1 f2 f3 : Sl → Res W} {f : Sl → Res Fl} {pos p p2 p3 : Pos} {st : Stmt} {sts : List Stmt}
theorem Gd.isi (g : Gd ht X C D sc N k Gx ip fnp) (T : String) {x : Str} (hm : D.mg "isinstance" = none) (hx : D.mg x = none) (ja : JA X C G pins [a] ms G' gs) (hb : bootBuiltins x = some (.type T) := by decide +kernel) (hl : sc.names.lookup ("isinstance" : Str) = some .globalImplicit := by rfl) (hl2 : sc.names.lookup x = some .globalImplicit := by rfl)
    (hp : plain ms = true := by rfl) (hn : x ≠ "__name__" := by decide +kernel) (hd : (x == ("__debug__" : Str)) = false := by decide +kernel) : JE X C G pins (.Call (.Name "isinstance" p) [a, .Name x p2] [] pos) .O G' (fPrim gs (semIsi T)) := by
  obtain ⟨ta, h1, mono, h3⟩ := ja1 ja
  have ns := (ja.tail (pos := pos) (env := X.env)).1
  have pa : PA X [a, .Name x p2] (tCons ta (tCons (tC (.ty T)) tNil)) := pa_cons h1 (pa_cons (pe_bltn (g.gl hl2) (g.mgn hx) hb rfl hn hd) pa_nil (star_cons (e := .Name x p2) rfl)) (star_cons ns)
  refine je_fresh (R := fun vs H Q => ∃ x0, vs = [x0] ∧ rIsi C.K [x0, .ty T] H Q) (sem := semIsi T) (pe_callB call_isi (g.gl hl) (g.mgn hm) (by decide +kernel) pa (by decide +kernel) (by decide +kernel) (star_cons ns) (by rw [star_cons (e := .Name x p2) rfl]; rfl)) (fun σ H Q q => ?_) hp ?_
  · refine h3 σ H _ _ (fun x0 H1 z => ?_) q
    obtain ⟨y, e, z⟩ := z
    cases e
    rw [g.hK]
    exact z
  · intro vs ws fps H Q w hv hs kk
    unfold semIsi at hs
    split at hs
    · obtain ⟨x0, rfl, r⟩ := vws1 hv
      simp only [Option.bind_eq_some_iff, Option.map_eq_some_iff] at hs
      obtain ⟨t, e1, bb, e2, rfl⟩ := hs
      exact ⟨x0, rfl, x0, .ty T, .type t, .type T, bb, rfl, .ty T, tyX_of r e1, kit_ty e2, kk _ H [] (Same.refl H) mkBl List.nodup_nil fun a ha => by cases ha⟩
    · cases hs
/-! ## a < b < c of ints -/
def chain3 (c2 : Int → Int → Bool) (j : Int) (w : W) (S : Sl) : Res W := match w with
  | .int l => .ok (.bl (c2 j l)) S
  | _ => .err
def chain2 (c1 c2 : Int → Int → Bool) (f3 : Sl → Res W) (w1 w2 : W) (S : Sl) : Res W := match w1, w2 with
  | .int i, .int j => if c1 i j = true then (f3 S).bind (chain3 c2 j) else .ok (.bl false) S
  | _, _ => .err
def fChain (c1 c2 : Int → Int → Bool) (f1 f2 f3 : Sl → Res W) : Sl → Res W := fun S => (f1 S).bind fun w1 S1 => (f2 S1).bind (chain2 c1 c2 f3 w1)
theorem chain_key {c1 c2 : Int → Int → Bool} {σ : St} {H : Hp} {Q : VK} (q : semE C G pins .O G2 (fChain c1 c2 f1 f2 f3) σ H Q) :
    tChain (rI0 fun i j => .bl (c1 i j)) (rI0 fun i j => .bl (c2 i j)) (semE C G pins ma G1 f1) (semE C G1 (pins ++ ma.dep) mb G2 f2) (semE C G2 (pins ++ ma.dep ++ mb.dep) mc G2 f3) σ H Q := by
  obtain ⟨cs, S, R, p, pp, o⟩ := q
  have ln := R.ln
  refine ⟨cs, S, R, p, pp, ?_⟩
  unfold fChain at o
  cases h1 : f1 S with
  | err => rw [h1] at o; exact o
  | exc x S' => rw [h1] at o; exact o
  | ok w1 S1 =>
    rw [h1] at o
    intro v1 fp1 H1 cs1 R1 l1 t1 T1 g1
    have P1 : PinOk C.n (pins ++ ma.dep) cs1 := pp.push ln l1 T1 fun c hc x hx => by rw [t1] at hc; cases hc; exact hx
    refine ⟨cs1, S1, R1, g1, P1, ?_⟩
    have o : Out C cs.length cs σ .O G2 Q ((f2 S1).bind (chain2 c1 c2 f3 w1)) := o
    cases h2 : f2 S1 with
    | err => rw [h2] at o; exact o
    | exc x S' => rw [h2] at o; exact OutX.up (L := cs.length) o T1 (by omega)
    | ok w2 S2 =>
      rw [h2] at o
      intro v2 fp2 H2 cs2 R2 l2 t2 T2 g2
      have P2 : PinOk C.n (pins ++ ma.dep ++ mb.dep) cs2 := P1.push R1.ln l2 T2 fun c hc x hx => by rw [t2] at hc; cases hc; exact hx
      have o : Out C cs.length cs σ .O G2 Q (chain2 c1 c2 f3 w1 w2 S2) := o
      have t1' : cs2[cs.length]? = some (some ⟨v1, w1, ma, fp1⟩) := by rw [T2 cs.length ln (by omega)]; exact t1
      have T12 : Tsame C.n cs.length cs cs2 := T1.trans T2 (by omega)
      match w1, w2 with
      | .int i, .int j =>
        obtain ⟨rfl, _⟩ := vwInt (R2.view _ _ t1')
        obtain ⟨rfl, _⟩ := vwInt (R2.view _ _ t2)
        have o : Out C cs.length cs σ .O G2 Q (if c1 i j = true then (f3 S2).bind (chain3 c2 j) else .ok (.bl false) S2) := o
        have fin : ∀ {cs4 : Cells} {S4 : Sl} {H4 : Hp} {bb : Bool}, RelC C cs4 S4 σ H4 → cs.length ≤ cs4.length → Tsame C.n cs.length cs cs4 → Has C.n G2 cs4 → Out C cs.length cs σ .O G2 Q (.ok (.bl bb) S4) → Q (.bl bb) H4 := by
          intro cs4 S4 H4 bb R4 l4 T4 g4 o
          have lt : (cs4.take cs.length).length = cs.length := by rw [List.length_take]; omega
          refine o (.bl bb) [] H4 (cs4.take cs.length ++ [some ⟨.bl bb, .bl bb, .O, []⟩]) (R4.repl ln l4 (Same.refl _) mkBl (fun x hx => by cases hx) (fun _ => ⟨List.nodup_nil, fun a ha => by cases ha⟩) fun ds z => by cases z) (by rw [List.length_append, lt]; rfl) (by rw [List.getElem?_append_right (by omega), lt]; simp) (fun q hq hlt => ?_) (g4.take ln)
          rw [List.getElem?_append_left (by omega), List.getElem?_take_of_lt hlt]
          exact T4 q hq hlt
        refine ⟨i, j, rfl, rfl, c1 i j, rfl, ?_⟩
        cases hc : c1 i j with
        | false =>
          rw [hc] at o
          exact fin R2 (by omega) T12 g2 o
        | true =>
          rw [hc] at o
          refine ⟨cs2, S2, R2, g2, P2, ?_⟩
          have o : Out C cs.length cs σ .O G2 Q ((f3 S2).bind (chain3 c2 j)) := o
          cases h3 : f3 S2 with
          | err => rw [h3] at o; exact o
          | exc x S' => rw [h3] at o; exact OutX.up (L := cs.length) o T12 (by omega)
          | ok w3 S3 =>
            rw [h3] at o
            intro v3 fp3 H3 cs3 R3 l3 t3 T3 g3
            match w3 with
            | .int l =>
              obtain ⟨rfl, _⟩ := vwInt (R3.view _ _ t3)
              exact ⟨j, l, rfl, rfl, fin R3 (by omega) (T12.trans T3 (by omega)) g3 o⟩
            | .non | .bl _ | .str _ | .tup _ | .lst _ | .scr _ | .dct _ _ | .ins _ _ _ => exact o.elim
      | .non, _ | .bl _, _ | .str _, _ | .tup _, _ | .lst _, _ | .scr _, _ | .dct _ _, _ | .ins _ _ _, _ => exact o.elim
      | .int _, .non | .int _, .bl _ | .int _, .str _ | .int _, .tup _ | .int _, .lst _ | .int _, .scr _ | .int _, .dct _ _ | .int _, .ins _ _ _ => exact o.elim
theorem lm2 {op op' : CmpOp} {b c : Expr} (h : op' ≠ .In ∧ op' ≠ .NotIn) (hz : lastMarks [op, op'] [b, c] = behindInMarks op' c := by rfl) : lastMarks [op, op'] [b, c] = false := by rw [hz]; exact nmk c h
theorem j_chain {op op' : CmpOp} {c1 c2 : Int → Int → Bool} (h1 : OpR X (compareOp op) (rI0 fun i j => .bl (c1 i j))) (h2 : OpR X (compareOp op') (rI0 fun i j => .bl (c2 i j))) (ha : JE X C G pins a ma G1 f1) (hb : JE X C G1 (pins ++ ma.dep) b mb G2 f2) (hc : JE X C G2 (pins ++ ma.dep ++ mb.dep) c mc G2 f3)
    (hm : lastMarks [op, op'] [b, c] = false) : JE X C G pins (.Compare a [op, op'] [b, c] pos) .O G2 (fChain c1 c2 f1 f2 f3) := PE.imp (pe_chain h1 h2 ha hb hc hm) fun σ H Q q => chain_key q
theorem j_chainT {op op' : CmpOp} {c1 c2 : Int → Int → Bool} (h1 : OpR X (compareOp op) (rI0 fun i j => .bl (c1 i j))) (h2 : OpR X (compareOp op') (rI0 fun i j => .bl (c2 i j))) (ha : JE X C G pins a ma G1 f1) (hb : JE X C G1 (pins ++ ma.dep) b mb G2 f2) (hc : JE X C G2 (pins ++ ma.dep ++ mb.dep) c mc G2 f3)
    (hm : lastMarks [op, op'] [b, c] = false) : JT X C G pins (.Compare a [op, op'] [b, c] pos) G2 (fBl (fChain c1 c2 f1 f2 f3)) := PT.imp (pt_chain h1 h2 ha hb hc hm) fun σ H Q q => chain_key (semE_bl (mo := .O) q)
/-! ## what is not reached; constants of the module; tests -/
def fErr : Sl → Res Fl := fun _ => .err
theorem jb_err : JB X C s G pins sts G' fErr := ⟨fun pn s0 σ H D I q => by
  obtain ⟨cs, S, R, p, pp, o⟩ := q
  exact o.elim⟩
theorem js_err : JS X C s G pins st G' fErr := ⟨fun pn s0 σ H D I q => by
  obtain ⟨cs, S, R, p, pp, o⟩ := q
  exact o.elim⟩
theorem Gd.cst (g : Gd ht X C D sc N k Gx ip fnp) {x : Str} {i : Int} {t : Tok} (hm : D.mg x = some (.int i t)) (hl : sc.names.lookup x = some .globalImplicit := by rfl) (hd : (x == ("__debug__" : Str)) = false := by decide +kernel) : JE X C G pins (.Name x pos) .O G (fInt1 i) :=
  je_const (v := .int i) (pe_glob (g.gl hl) (by rw [g.eM]; exact hm) ⟨t, rfl⟩ hd) fun _ => mkInt
theorem j_val (h : JE X C G pins e mo G' fe) (he : ∀ whole, isTrue e X.env whole = (do let v ← whole; standAt e.pos; holding [v] (truthy v)) := by exact fun _ => rfl) : JT X C G pins e G' (fBl fe) := jt_val h he
theorem je_and1 (h : JE X C G pins e mo G' fe) : JE X C G pins (.BoolOp .And [e] pos) mo G' fe := pe_one h
theorem je_or1 (h : JE X C G pins e mo G' fe) : JE X C G pins (.BoolOp .Or [e] pos) mo G' fe := pe_one h
/-- a block, statement by statement -/
theorem jbc {f g : Sl → Res Fl} (G1 : Gam) {G1' : Gam} (h1 : JS X C s G pins st G1' f) (h2 : JB X C s G1 pins sts G' g) (e : G1' = G1 := by rfl) : JB X C s G pins (st :: sts) G' (fSeq f g) := by
  subst e
  exact jb_cons h1 h2
theorem jbl {f : Sl → Res Fl} (h1 : JS X C s G pins st G' f) : JB X C s G pins [st] G' (fSeq f fSkip) := jb_cons h1 jb_nil
end
/-- a def of the text, by its body -/
structure Dfn (D : Wd) (x : Str) (st : Stmt) : Prop where
  ex : ∃ f fd, L2.Fun D.K x x st f fd ∧ D.mg x = some (.ref f)
theorem cal_of {ht : Bool} {D : Wd} {x : Str} {st : Stmt} {ps N : List Str} {k : Nat} {io : Option Nat} {own : Bool} {np : Nat} {fb : Sl → Res Fl} {G' : Gam} (F : Dfn D x st) (S : FnScope N ps (defScope st))
    (hb : ∀ (kV doc pm : Value) (an : Option Addr) (cdv ct : Value) (us : List Value), us.length = ps.length → bindArgs (PySem.W.fnOf x x (defArgs st) (defBody st) (defScope st) .none kV doc pm an cdv ct) ⟨us, []⟩ = pure (ps.zip us))
    (body : ∀ {X : Cx} {C : Ctx}, Gd ht X C D (defScope st) N k (Gend io) io (fun _ => true) → PassesOwn (model X.prog X.w) X.A X.env X.xe → (X.stack = X.env :: X.outer ∧ X.env.frame = some X.env.locals ∧ X.ex = []) → JB X C ⟨[], [], Gend io, own⟩ (G0 N.length np io) [] (defBody st) G' fb)
    (hnp : ps.length = np := by rfl) (hin : np ≤ N.length := by decide) (hG : gle (Gend io) G' = true := by rfl) : Cal ht D (k + 1) x st ps io own np (vcOf N.length io fb) := by
  obtain ⟨f, fd, F1, hm⟩ := F.ex
  refine ⟨f, fd, F1, hm, F1.binds hb, fnG_vm F1 S hnp hin hG fun X C h1 h2 h3 h4 h5 h6 h7 h8 h9 h10 h11 h12 h13 h14 h15 h16 h17 h18 h19 => ?_⟩
  exact body ⟨h1, h2, h3, h4, h5, h15, h16, h17, h18, h6, S.nd, h7, h8, h9, h10, h11, h12, h19⟩ h14 h13
end Vm

namespace Vm
open PySem PySem.Spec PyProof.Rows L2

/-! ## for x in k: x.append(None) -/
def app1 : W → Option W
  | .lst us => if us.length < sizeLine then some (.lst (us ++ [.non])) else none
  | _ => none
def appK (ws : List W) : Nat → Option (List W)
  | 0 => some ws
  | n + 1 => (appK ws n).bind fun c => (c[n]?).bind fun w => (app1 w).map (c.set n ·)
theorem appK_le {ws : List W} : ∀ {m n : Nat}, n ≤ m → (appK ws m).isSome = true → (appK ws n).isSome = true
  | 0, n, h, q => by
    have : n = 0 := by omega
    subst this
    exact q
  | m + 1, n, h, q => by
    by_cases e : n = m + 1
    · subst e; exact q
    · refine appK_le (m := m) (by omega) ?_
      unfold appK at q
      cases z : appK ws m with
      | none => rw [z] at q; simp at q
      | some c => rfl
theorem appK_len {ws : List W} : ∀ {n : Nat} {c : List W}, appK ws n = some c → c.length = ws.length
  | 0, c, h => by simp [appK] at h; rw [h]
  | n + 1, c, h => by
    simp only [appK, Option.bind_eq_some_iff, Option.map_eq_some_iff] at h
    obtain ⟨c0, h1, w, h2, w', h3, rfl⟩ := h
    rw [List.length_set]
    exact appK_len h1
/-- one item of a list of lists is changed in place -/
theorem Vws.appAt {K : Kz} {H : Hp} : ∀ {ws : List W} {vs : List V} {fps : List Addr} {n : Nat} {us : List W}, Vws K H ws vs fps → fps.Nodup → (∀ a ∈ fps, ∃ o, H a = some o ∧ isMut o = true) → ws[n]? = some (.lst us) →
    ∃ b xs, vs[n]? = some (.ref b) ∧ H b = some (.lst xs) ∧ xs.length = us.length ∧ b ∈ fps ∧ Vws K (upd H b (.lst (xs ++ [.non]))) (ws.set n (.lst (us ++ [.non]))) vs fps
  | [], _, _, _, _, _, _, _, h => by simp at h
  | w :: ws, vs, fps, 0, us, r, nd, mu, h => by
    simp only [Vws] at r
    obtain ⟨v, vs1, f1, f2, rfl, rfl, r1, r2⟩ := r
    simp at h
    subst h
    obtain ⟨b, xs, g, rfl, q, s, rfl⟩ := vwLst r1
    obtain ⟨n1, n2, n3⟩ := List.nodup_append.mp nd
    have nb : b ∉ g := (List.nodup_cons.mp n1).1
    have tk : TupK H (upd H b (.lst (xs ++ [.non]))) := fun a o e hi => by
      rw [upd_ne (fun z => by rw [z, s] at e; cases e; cases hi)]
      exact e
    refine ⟨b, xs, rfl, s, q.length, List.mem_append_left _ List.mem_cons_self, ?_⟩
    simp only [List.set_cons_zero, Vws]
    refine ⟨.ref b, vs1, b :: g, f2, rfl, rfl, ?_, r2.mono tk fun a ha => upd_ne fun z => n3 b List.mem_cons_self a ha z.symm⟩
    refine vwLstMk ?_ upd_same
    have h2 : Vws K (upd H b (.lst (xs ++ [.non]))) [.non] [.non] [] := by
      simp only [Vws]
      exact ⟨_, _, [], [], rfl, rfl, mkNon, rfl, rfl⟩
    have := Vws.append (q.mono tk fun a ha => upd_ne fun z => nb (z ▸ ha)) h2
    simpa using this
  | w :: ws, vs, fps, n + 1, us, r, nd, mu, h => by
    simp only [Vws] at r
    obtain ⟨v, vs1, f1, f2, rfl, rfl, r1, r2⟩ := r
    obtain ⟨n1, n2, n3⟩ := List.nodup_append.mp nd
    obtain ⟨b, xs, h1, h2, h3, h4, h5⟩ := Vws.appAt (n := n) r2 n2 (fun a ha => mu a (List.mem_append_right _ ha)) (by simpa using h)
    have tk : TupK H (upd H b (.lst (xs ++ [.non]))) := fun a o e hi => by
      rw [upd_ne (fun z => by rw [z, h2] at e; cases e; cases hi)]
      exact e
    refine ⟨b, xs, by simpa using h1, h2, h3, List.mem_append_right _ h4, ?_⟩
    simp only [List.set_cons_succ, Vws]
    exact ⟨v, vs1, f1, f2, rfl, rfl, r1.mono tk fun a ha => upd_ne fun z => n3 a ha b h4 z, h5⟩
def fForApp (i j : Nat) : Sl → Res Fl := fun S => match S[j]? with
  | some (some (.lst ws)) => match appK ws ws.length with
    | some c => .ok .nx ((S.set i none).set j (some (.lst c)))
    | none => .err
  | _ => .err
section
variable {X : Cx} {C : Ctx} {s : Sx} {G : Gam} {pins : List Nat} {pos p1 p2 p3 p4 ap cp : Pos} {jc : Nat}
theorem js_forApp {i j : Nat} {x y : Str} (hpo : PassesOwn (model X.prog X.w) X.A X.env X.xe) (hc : X.calm = true) (hK : X.K = C.K) (hi : NmOk X C x i) (hxi : PE X (.Name x p3) (tVar i)) (hyj : PE X (.Name y p2) (tVar j)) (hij : i ≠ j) (hj : G[j]? = some (some .O)) (hp : pins.contains j = false) (hline : (ap.endLine == cp.line) = true) :
    JS X C s G pins (.For (.Name x p1) (.Name y p2) [.Expr (.Call (.Attribute (.Name x p3) "append" ap) [.Constant .none jc p4] [] cp) cp] [] pos) (killG j (G.set i none)) (fForApp i j) := by
  have pe : PE X (.Call (.Attribute (.Name x p3) "append" ap) [.Constant .none jc p4] [] cp) (tBM X.K "list" rAppend (tVar i) (tCons (tC .non) tNil)) :=
    pe_bm PySem.F.plainAttrs_list PySem.F.slot_list_append PySem.F.type_list_append mt_append hxi (pa_cons pe_non pa_nil (star_cons rfl)) (by rfl) (by rw [star_cons rfl]; rfl) hline (star_cons rfl) (by rfl)
  refine PS.imp (ps_for hpo hc (pi_list hyj) (pg_name hi.nd hi.ix hi.loc hi.fn) (pss_one (ps_expr pe (by rfl))) (fun _ => rfl)) fun D σ H ⟨cs0, S0, R0, p0, pp0, o⟩ => ?_
  have ln := R0.ln
  obtain ⟨c0, hc0, hm0⟩ := p0.2 j _ hj
  have jn : j < C.n := Nat.lt_of_lt_of_le (List.getElem?_eq_some_iff.mp hj).1 p0.1
  obtain ⟨hσ0, hS0⟩ := R0.slot j c0 jn hc0
  refine ⟨c0.v, hσ0, ?_⟩
  unfold fForApp at o
  rw [hS0] at o
  cases hw : c0.w with
  | lst ws =>
    rw [hw] at o
    have o : OutS C cs0.length cs0 s D (killG j (G.set i none)) (match appK ws ws.length with
      | some c => .ok .nx ((S0.set i none).set j (some (.lst c)))
      | none => .err) := o
    have v0 := R0.view j c0 hc0
    rw [hw] at v0
    obtain ⟨a, vs, fps, ea, ra, sa, ef⟩ := vwLst v0
    have nd0 := R0.nd j c0 hc0 hm0
    cases hfin : appK ws ws.length with
    | none => rw [hfin] at o; exact o.elim
    | some fin =>
      rw [hfin] at o
      obtain ⟨cs1, R1, l1, T1, g1, d1⟩ := rel_forget1 R0 p0 i hi.lt
      have hc1 : cs1[j]? = some (some c0) := by
        obtain ⟨c, q1, q2⟩ := g1.2 j .O (by rw [List.getElem?_set_ne hij]; exact hj)
        have := (d1 j c q1).2
        rw [hc0] at this; cases this
        exact q1
      have pp1 : PinOk C.n pins cs1 := pp0.same l1 T1
      have hjG : (killG j (G.set i none))[j]? = some (some .O) := by
        unfold killG
        rw [List.getElem?_map, List.getElem?_set_ne hij, hj]
        simp [Mo.dep]
      refine ⟨a, ea, ⟨vs, by rw [hK]; exact SqL.of sa⟩, fun n m σ' H' => m = ws.length - n ∧ n ≤ ws.length ∧ ∃ (c : List W) (cs : Cells), appK ws n = some c ∧ RelC C cs ((S0.set i none).set j (some (.lst c))) σ' H' ∧ cs.length = cs0.length ∧ Tsame C.n cs0.length cs0 cs ∧ Has C.n (killG j (G.set i none)) cs ∧ σ'[j]? = some (some (.ref a)), ⟨ws.length, rfl, Nat.zero_le _, ?_⟩, ?_⟩
      · -- at the start: j's borrowers forgotten
        obtain ⟨cs2, R2, l2, T2, g2⟩ := slot_set (L := cs1.length) (w' := c0.w) (fp' := c0.fp) R1 g1 R1.ln (Nat.le_refl _) jn hc1 hm0 (H' := H) (fun _ _ h _ => h) (fun _ h => h) (R1.view j c0 hc1) nd0.1 (fun b hb => ⟨(nd0.2 b hb).1, .inr (.inl hb)⟩) (fun q d h1 h2 hd hz => by
          have := pp1 q d h1 hd j hz
          simp at hp
          exact hp this)
        rw [hw] at R2
        exact ⟨ws, cs2, rfl, R2, by omega, fun q h1 h2 => by rw [T2 q h1 (by omega)]; exact T1 q h1 h2, g2, by rw [hσ0, ea]⟩
      · rintro n m σ1 H1 ⟨rfl, hn, c, cs, hc, R, l, T, g, hσj⟩
        obtain ⟨c', hcj, hm'⟩ := g.2 j _ hjG
        obtain ⟨hs1, hs2⟩ := R.slot j c' jn hcj
        have hv : c'.v = .ref a := by rw [hσj] at hs1; exact (Option.some.inj (Option.some.inj hs1)).symm
        have hwc : c'.w = .lst c := by
          rw [List.getElem?_set_self (by rw [List.length_set, R0.ls]; exact jn)] at hs2
          exact (Option.some.inj (Option.some.inj hs2)).symm
        have vw := R.view j c' hcj
        rw [hwc] at vw
        obtain ⟨a2, vs2, fp2, e2, r2, s2, ef2⟩ := vwLst vw
        rw [hv] at e2
        cases e2
        have nd := R.nd j c' hcj hm'
        rw [ef2] at nd
        have hlen := appK_len hc
        by_cases hlt : n < ws.length
        · right
          obtain ⟨w, hw2⟩ : ∃ w, c[n]? = some w := ⟨c[n]'(by omega), List.getElem?_eq_getElem (by omega)⟩
          have h1 : (appK ws (n + 1)).isSome = true := appK_le (m := ws.length) (by omega) (by rw [hfin]; rfl)
          have h2 : appK ws (n + 1) = (app1 w).map (c.set n ·) := by
            show ((appK ws n).bind fun c => (c[n]?).bind fun w => (app1 w).map (c.set n ·)) = _
            rw [hc]
            show ((c[n]?).bind fun w => (app1 w).map (c.set n ·)) = _
            rw [hw2]
            rfl
          obtain ⟨us, rfl, hus⟩ : ∃ us, w = .lst us ∧ us.length < sizeLine := by
            rw [h2] at h1
            cases w <;> simp only [app1, Option.map_none, Option.isSome_none, reduceCtorEq] at h1
            rename_i us
            by_cases z : us.length < sizeLine
            · exact ⟨us, rfl, z⟩
            · rw [if_neg z] at h1; cases h1
          obtain ⟨b, xs, q1, q2, q3, q4, q5⟩ := Vws.appAt r2 (List.nodup_cons.mp nd.1).2 (fun b hb => (nd.2 b (List.mem_cons_of_mem _ hb)).1) hw2
          have hba : b ≠ a := fun z => (List.nodup_cons.mp nd.1).1 (z ▸ q4)
          refine ⟨⟨vs2, .ref b, by rw [hK]; exact SqL.of s2, q1⟩, fun σ' H' => ∃ m', m' < ws.length - n ∧ (m' = ws.length - (n + 1) ∧ n + 1 ≤ ws.length ∧ ∃ (c : List W) (cs : Cells), appK ws (n + 1) = some c ∧ RelC C cs ((S0.set i none).set j (some (.lst c))) σ' H' ∧ cs.length = cs0.length ∧ Tsame C.n cs0.length cs0 cs ∧ Has C.n (killG j (G.set i none)) cs ∧ σ'[j]? = some (some (.ref a))), fun _ _ h => h, ?_⟩
          rintro x H2 ⟨rfl, hx⟩
          have hx' := hx vs2 (by rw [hK]; exact SqL.of s2)
          rw [q1] at hx'
          cases hx'
          have hiσ : i < σ1.length := by rw [R.lσ]; exact hi.lt
          refine ⟨.ref b, List.getElem?_set_self hiσ, .inl ⟨rfl, xs, by rw [hK]; exact SqL.of q2⟩, b, xs, .non, rfl, rfl, q2, by omega, ?_⟩
          obtain ⟨cs3, R3, l3, T3, g3, d3⟩ := rel_forget1 R g i hi.lt
          have hcj3 : cs3[j]? = some (some c') := by
            obtain ⟨y, z1, z2⟩ := g3.2 j .O (by rw [List.getElem?_set_ne hij]; exact hjG)
            have := (d3 j y z1).2
            rw [hcj] at this; cases this
            exact z1
          have R4 : RelC C cs3 (((S0.set i none).set j (some (.lst c))).set i none) (σ1.set i (some (.ref b))) H2 := R3.weak rfl (fun q x y z1 z2 => by rw [z1] at z2; cases z2; exact .same) R3.ls (by rw [List.length_set]; exact R.lσ) fun q y hq z => ⟨rfl, List.getElem?_set_ne (fun w => (d3 q y z).1 w.symm)⟩
          have pp3 : PinOk C.n pins cs3 := pp0.same (by omega) (T.trans (L' := cs0.length) (fun q h1 h2 => T3 q h1 (by omega)) (Nat.le_refl _))
          have sa' : (upd H2 b (.lst (xs ++ [.non]))) a = some (.lst vs2) := by rw [upd_ne hba.symm]; exact s2
          obtain ⟨cs5, R5, l5, T5, g5⟩ := slot_set (L := cs3.length) (w' := .lst (c.set n (.lst (us ++ [.non])))) (fp' := c'.fp) R4 g3 R3.ln (Nat.le_refl _) jn hcj3 hm' (H' := upd H2 b (.lst (xs ++ [.non])))
            (fun z ob h hz => by rw [upd_ne (fun e => hz (by rw [ef2, e]; exact List.mem_cons_of_mem _ q4))]; exact h)
            (fun z h => by
              by_cases e : z = b
              · rw [e, upd_same]; simp
              · rw [upd_ne e]; exact h)
            (by rw [hv, ef2]; exact vwLstMk q5 sa') (by rw [ef2]; exact nd.1)
            (fun z hz => by
              refine ⟨?_, .inr (.inl hz)⟩
              by_cases e : z = b
              · rw [e, upd_same]; exact ⟨_, rfl, rfl⟩
              · rw [upd_ne e]; rw [ef2] at hz; exact (nd.2 z hz).1)
            (fun q d z1 z2 hd hz => by
              have := pp3 q d z1 hd j hz
              simp at hp
              exact hp this)
          refine ⟨ws.length - (n + 1), by omega, rfl, hlt, c.set n (.lst (us ++ [.non])), cs5, ?_, ?_, by omega, fun q z1 z2 => ?_, ?_, ?_⟩
          · rw [h2]
            show (if us.length < sizeLine then some (W.lst (us ++ [.non])) else none).map (c.set n ·) = _
            rw [if_pos hus]
            rfl
          · have eS : ((((S0.set i none).set j (some (.lst c))).set i none).set j (some (.lst (c.set n (.lst (us ++ [.non])))))) = (S0.set i none).set j (some (.lst (c.set n (.lst (us ++ [.non]))))) := by
              refine List.ext_getElem? fun q => ?_
              by_cases e1 : q = j
              · subst e1
                rw [List.getElem?_set_self (by simp [R0.ls]; exact jn), List.getElem?_set_self (by simp [R0.ls]; exact jn)]
              · rw [List.getElem?_set_ne (Ne.symm e1), List.getElem?_set_ne (Ne.symm e1)]
                by_cases e2 : q = i
                · subst e2
                  rw [List.getElem?_set_self (by simp [R0.ls]; exact hi.lt), List.getElem?_set_self (by rw [R0.ls]; exact hi.lt)]
                · rw [List.getElem?_set_ne (Ne.symm e2), List.getElem?_set_ne (Ne.symm e1)]
            rw [eS] at R5
            exact R5
          · rw [T5 q z1 (by omega), T3 q z1 (by omega)]
            exact T q z1 z2
          · refine ⟨g.1, fun q mm e => ?_⟩
            have hqi : q ≠ i := fun z => by
              subst z
              unfold killG at e
              rw [List.getElem?_map] at e
              by_cases hl : q < G.length
              · rw [List.getElem?_set_self hl] at e
                simp at e
              · rw [List.getElem?_eq_none (by simp; omega)] at e
                cases e
            refine g5.2 q mm ?_
            unfold killG at e ⊢
            rw [List.getElem?_map, List.getElem?_set_ne (Ne.symm hqi), List.getElem?_map]
            rw [List.getElem?_map] at e
            cases zz : (G.set i none)[q]? with
            | none => rw [zz] at e; cases e
            | some yy =>
              rw [zz] at e
              cases yy with
              | none => cases e
              | some mo =>
                simp only [Option.map_some] at e ⊢
                by_cases hm : j ∈ mo.dep
                · rw [if_pos hm] at e; cases e
                · rw [if_neg hm] at e ⊢
                  simp only [if_neg hm]
                  exact e
          · rw [List.getElem?_set_ne hij]; exact hσj
        · left
          have : n = ws.length := by omega
          subst this
          rw [hfin] at hc
          cases hc
          exact ⟨⟨vs2, by rw [hK]; exact SqL.of s2, by rw [r2.length, hlen]; exact Nat.le_refl _⟩, o σ1 H1 cs R l T g⟩
  | non => rw [hw] at o; exact o.elim
  | bl _ => rw [hw] at o; exact o.elim
  | int _ => rw [hw] at o; exact o.elim
  | str _ => rw [hw] at o; exact o.elim
  | tup _ => rw [hw] at o; exact o.elim
  | scr _ => rw [hw] at o; exact o.elim
  | dct _ _ => rw [hw] at o; exact o.elim
  | ins _ _ _ => rw [hw] at o; exact o.elim
variable {D : Wd} {sc : Scope} {N : List Str} {k : Nat} {Gx : Gam} {ip : Option Nat} {fnp : Str → Bool} {ht : Bool}
theorem Gd.forApp (g : Gd false X C D sc N k Gx ip fnp) (po : PassesOwn (model X.prog X.w) X.A X.env X.xe) (i j : Nat) {x y : Str} (hN : N[i]? = some x := by rfl) (hx : Loc sc x := by first | exact Or.inl rfl | exact Or.inr rfl) (hf : fnp x = true ∨ sc.names.lookup x = some .local := by first | exact Or.inl rfl | exact Or.inr rfl) (hip : ip ≠ some i := by decide)
    (hd : (x == ("__debug__" : Str)) = false := by decide +kernel) (hcd : (x == ("__classdict__" : Str)) = false := by decide +kernel) (hNy : N[j]? = some y := by rfl) (hy : Vis sc y := by first | exact Or.inl rfl | exact Or.inr (Or.inl rfl) | exact Or.inr (Or.inr rfl)) (hd2 : (y == ("__debug__" : Str)) = false := by decide +kernel) (hcd2 : (y == ("__classdict__" : Str)) = false := by decide +kernel)
    (hij : i ≠ j := by decide) (hj : G[j]? = some (some .O) := by rfl) (hp : pins.contains j = false := by rfl) (hline : (ap.endLine == cp.line) = true := by rfl) :
    JS X C s G pins (.For (.Name x p1) (.Name y p2) [.Expr (.Call (.Attribute (.Name x p3) "append" ap) [.Constant .none jc p4] [] cp) cp] [] pos) (killG j (G.set i none)) (fForApp i j) :=
  js_forApp po (g.calm rfl) g.hK (g.nmOk hN hx hf hip) (g.pv hN (hx.imp id .inl) hd hcd) (g.pv hNy hy hd2 hcd2) hij hj hp hline
end
end Vm

namespace Vm
open PySem PySem.Spec PyProof.Rows L2

/-! ## the end: a law that answers True -/
abbrev LawEnd (P : Program) (w : World) (s1 : Shared) (fa a : Addr) : Prop := codeAny (model P w) callerA (.call (.ref fa) ⟨[.ref a], []⟩) (fun r s' => r = .ok (.ret (.bool true)) ∧ OldK s1.heap s'.heap ∧ s'.os = s1.os ∧ AllBare s'.gens) s1
theorem law_end {P : Program} {w : World} {K : Kz} {mg mb : Str → Option Value} {k : Nat} {fa a : Addr} {fd : FuncData} {x : Str} {own : Bool} {vc : List W → CRes} {xr : XV → Value → Option Addr → Hp → Prop} {s1 : Shared} {vs : List Value} {ns : List Int}
    (inK : K.In s1.heap) (nsG : s1.heap.Ns mainGlobals mg) (nsB : s1.heap.Ns builtinsNs mb) (boot : ∀ x : Str, x ≠ "__name__" → mb x = bootBuiltins x) (noL : s1.heap.NoLimit) (gens : s1.gens = #[])
    (ha : s1.heap.get? a = some { cls := .type "list", data := .seq vs.toArray }) (hi : IntsAre vs ns) (hl : ns.length ≤ sizeLine) (hr : Room k callerA)
    (F : ∀ base : Heap, K.In base → base.Ns mainGlobals mg → FnG false P w K mg base k fa fd [x] (specOf K xr none own 1 vc)) (hbind : ∀ (s : Shared) (u : Value), BindsTo s fd ⟨[u], []⟩ [(x, u)])
    (hv : ∃ io, vc [.scr (ns.map W.int)] = .ok (.bl true) io) : LawEnd P w s1 fa a := by
  have rv := vals_ints hi
  have lv := hi.length
  -- H: what is tracked at the start, the script at most
  suffices core : ∀ H : Hp, (∀ b, H b = none ∨ ∃ o xs, H b = some (.frz o (.lst xs))) → RL K H a (ns.map V.int) → HOk P w H s1.heap → (∀ b, H b ≠ none → b = a) → (H a ≠ none → K.lookup a = none) → LawEnd P w s1 fa a by
    cases hk : K.lookup a with
    | none =>
      have e0 : ∀ b, (fun b => if b = a then some (HO.frz { cls := .type "list", data := .seq vs.toArray } (.lst (ns.map V.int))) else none : Hp) b = none ∨ b = a := fun b => by
        by_cases h : b = a
        · exact .inr h
        · exact .inl (if_neg h)
      refine core (fun b => if b = a then some (.frz { cls := .type "list", data := .seq vs.toArray } (.lst (ns.map V.int))) else none) (fun b => ?_) (.inl ⟨_, if_pos rfl⟩) ?_ (fun b hb => (e0 b).elim (fun z => absurd z hb) id) fun _ => hk
      · by_cases h : b = a
        · exact .inr ⟨_, _, if_pos h⟩
        · exact .inl (if_neg h)
      · intro b u z
        by_cases h : b = a
        · subst h
          have z2 := (if_pos rfl).symm.trans z
          cases z2
          exact ⟨ha, by rw [List.length_map]; exact hl, vs, _, rv, ha⟩
        · have z2 := (if_neg h).symm.trans z
          cases z2
    | some o =>
      have e := inK a o hk
      rw [ha] at e
      cases e
      refine core (fun _ => none) (fun _ => .inl rfl) (.inr ⟨_, vs.toArray, _, hk, rfl, rfl, rfl, ?_, ?_⟩) (fun b u z => nomatch z) (fun b z => absurd rfl z) fun z => absurd rfl z
      · rw [List.size_toArray, lv]; exact hl
      · simpa using rv
  intro H hO hS hok only hKa
  have lone : ∀ {b : Addr} {o : Obj} {es : Array DictEntry} {ep : Nat}, s1.heap.get? b = some o → o.data = .dict es ep → H b = none := by
    intro b o es ep e d
    cases q : H b with
    | none => rfl
    | some u =>
      have := only b (by rw [q]; exact nofun)
      subst this
      rw [ha] at e
      cases e
      cases (show Data.seq vs.toArray _ = Data.dict es ep from d)
  have keepNs : ∀ {b : Addr} {m : Str → Option Value}, s1.heap.Ns b m → (hidT s1.heap H).Ns b m := by
    rintro b m ⟨o, es, ep, e, d, r⟩
    exact ⟨o, es, ep, hidT_get e (lone e d), d, r⟩
  have inB : K.In (hidT s1.heap H) := by
    intro b o e
    refine hidT_get (inK b o e) ?_
    cases q : H b with
    | none => rfl
    | some u =>
      have := only b (by rw [q]; exact nofun)
      subst this
      rw [hKa (by rw [q]; exact nofun)] at e
      cases e
  obtain ⟨mc, c1, c2⟩ := noL
  have e0 : Env0 P w K mg (hidT s1.heap H) callerA [] s1 H := ⟨rfl, ⟨inB, keepNs nsG, ⟨mb, keepNs nsB, boot⟩, ⟨mc, keepNs c1, c2⟩⟩, fun b o e => of_hidT e, Nat.le_of_eq (hidT_size _ _), trivial, fun b hb => (by cases hb), hok, .of_eq gens⟩
  obtain ⟨io, hv⟩ := hv
  have hsp : specOf K xr none own 1 vc [.ref a] H (fun v _ => v = .bl true) fun _ _ _ => False := by
    refine ⟨[⟨.ref a, .scr (ns.map W.int), .B [], []⟩], rfl, rfl, fun c hc => ?_, (fun p z => by cases z), ?_⟩
    · rw [List.mem_singleton.mp hc]
      simp only [Vw]
      exact ⟨a, ns.map V.int, rfl, mkInts, hS, trivial⟩
    · show match vc [.scr (ns.map W.int)] with
        | .ok w wio => _
        | .exc x wio => _
        | .err => _
      rw [hv]
      intro v fp H' _ q _ _ _
      exact (vwBl q).1
  refine codeAny_mono ((F _ inB (keepNs nsG)).run callerA [] s1 H ⟨[.ref a], []⟩ [.ref a] [.ref a] _ _ (.of hr) rfl e0 (hbind s1 (.ref a)) (.cons rfl .nil) hsp) fun r s' h => ?_
  match r, h with
  | .error e, h =>
    obtain ⟨_, _, _, _, _, _, _, _, _, _, _, _, z⟩ := h
    exact z.elim
  | .ok (.ret u), h =>
    obtain ⟨v, H', os, bare, un, hok', r', q⟩ := h
    have q' : v = .bl true := q
    subst q'
    obtain rfl : u = Value.bool true := r'
    refine ⟨rfl, OldK.of_keep fun b o e => ?_, os, bare⟩
    cases q : H b with
    | none => exact un.keep b o e q (fun z => by cases z) (by simp)
    | some u =>
      rcases hO b with z | ⟨ob, xs, z⟩
      · rw [q] at z; cases z
      · have z2 := un.frzs b ob _ z
        obtain ⟨e1, _⟩ := hok b _ z
        obtain ⟨e2, _⟩ := hok' b _ z2
        rw [e] at e1; cases e1
        exact e2
/-- the goal that k_head leaves -/
theorem walk_vm {l : PySem.W.OpenLaw} {n k : Nat} {q : Program} {loose : List Str} {XP : (Str → Option Value) → Heap → Prop} {YP : World → Heap → Prop} {d : DefRec} {K : Params → Kz} {x : Str} {own : Bool} {vc : List W → CRes}
    (hn : l.most = some n) (hn2 : n ≤ sizeLine) (hdf : d.params.defaults = []) (hr : Room k callerA) (hY : ∀ (w : World) (h : Heap), YP w h → (K w.params).In h)
    (F : ∀ (w : World) (mg : Str → Option Value) (fa : Addr) (h : Heap), (K w.params).In h → h.Ns mainGlobals mg → mg d.name = some (.ref fa) →
      ∃ fd : FuncData, (∀ (s : Shared) (u : Value), BindsTo s fd ⟨[u], []⟩ [(x, u)]) ∧ ∀ base : Heap, (K w.params).In base → base.Ns mainGlobals mg → FnG false l.prog w (K w.params) mg base k fa fd [x] (specOf (K w.params) (xrK (K w.params)) none own 1 vc))
    (hv : ∀ ns : List Int, ns.length ≤ n → ∃ io, vc [.scr (ns.map W.int)] = .ok (.bl true) io) : PySem.W.WalkO q loose XP YP l.row.toRowW d [] (fun f vs => PySem.call f vs) := by
  refine Att.attach_call hn hdf ?_
  intro w s0 s1 mg mb fa o pm cd doc a vs ns G Y ho hd hcd hmg hobj hints hlen hg
  obtain ⟨fd, hb, hF⟩ := F w mg fa _ (hY w _ Y) G.T.g hmg
  exact law_end (hY w _ Y) G.T.g G.T.b G.T.builtins G.T.nolimit hg hobj hints (Nat.le_trans hlen hn2) hr hF hb (hv ns hlen)
/-- .. from the def's own derivation -/
theorem fd_of {D : Wd} {k : Nat} {x : Str} {st : Stmt} {y : Str} {io : Option Nat} {own : Bool} {np : Nat} {vc : List W → CRes} {fa : Addr} (c : Cal false D k x st [y] io own np vc) (hfa : D.mg x = some (.ref fa)) : ∃ fd, L2.Fun D.K x x st fa fd ∧ FnG false D.P D.w D.K D.mg D.base k fa fd [y] (specOf D.K (xrK D.K) io own np vc) := by
  obtain ⟨f, fd, F, hm, hb, H⟩ := c.ex
  rw [hfa] at hm
  cases hm
  exact ⟨fd, F, H⟩
end Vm

namespace Vm
open PySem PySem.Spec PyProof.Rows L2

/-! ## slices of lists with a step -/
def ixsS (n : Nat) (lo hi : Option Int) (c : Int) : List Nat := sliceRange (sliceBounds lo hi (some c) n).1 (sliceBounds lo hi (some c) n).2.1 (sliceBounds lo hi (some c) n).2.2
def pickL {α : Type} (xs : List α) (lo hi : Option Int) (c : Int) : List α := (ixsS xs.length lo hi c).filterMap (xs[·]?)
def tSlS (K : Kz) (te : TE) (tl th ts : TO) : TE := fun σ H Q => te σ H fun x H1 => tl σ H1 fun l H2 => th σ H2 fun u H3 => ts σ H3 fun c H4 => ∃ a xs k, x = .ref a ∧ c = some k ∧ k ≠ 0 ∧ SqL K H4 a xs ∧ (pickL xs l u k).length ≤ sizeLine ∧ ∀ p, H4 p = none → Q (.ref p) (upd H4 p (.lst (pickL xs l u k)))
theorem vals_pick {vs : List V} {us : List Value} (r : Vals vs us) : ∀ is : List Nat, Vals (is.filterMap (vs[·]?)) (is.filterMap (us[·]?))
  | [] => .nil
  | i :: is => by
    have ih := vals_pick r is
    cases h : vs[i]? with
    | none =>
      have h2 : us[i]? = none := by
        rw [List.getElem?_eq_none_iff] at h ⊢
        rw [← r.length]; exact h
      simp only [List.filterMap_cons, h, h2]
      exact ih
    | some v =>
      obtain ⟨u, hu, rv⟩ := r.get h
      simp only [List.filterMap_cons, h, hu]
      exact .cons rv ih
section
variable {X : Cx} {e st : Expr} {te : TE} {lo hi : Option Expr} {tl th ts : TO} {pos p2 : Pos}
theorem pe_slS (he : PE X e te) (hl : PO X lo tl) (hu : PO X hi th) (hs : PO X (some st) ts) : PE X (.Subscript e (.Slice lo hi (some st) p2) pos) (tSlS X.K te tl th ts) := by
  refine ⟨fun pins s σ H Q I h => ?_⟩
  refine Subscript_ (thn (he.run pins s σ H _ I h) ?_)
  rintro v s1 ⟨x, H1, I1, r1, q1⟩
  refine wpAny_Slice (thn (hl.run pins s1 σ H1 _ I1 q1) ?_)
  rintro vl s2 ⟨l, H2, I2, pl, q2⟩
  refine thn (hu.run pins s2 σ H2 _ I2 q2) ?_
  rintro vu s3 ⟨u, H3, I3, pu, q3⟩
  refine thn (hs.run pins s3 σ H3 _ I3 q3) ?_
  rintro vs s4 ⟨c, H4, I4, ps, a, xs, k, rfl, rfl, hk, hx, hz2, q⟩
  cases r1
  have I5 : Inv X pins σ H4 { s4 with heap := s4.heap.push { cls := .type "slice", data := .fields #[vl, vu, vs] } } := I4.kept (t' := s4.toks) fun b ob q => Heap.get?_push_of_some _ q
  obtain ⟨its, r, hli, hz⟩ := I5.list hx
  have hlen := r.length
  show wpAny (model X.prog X.w) X.A (subscriptTail e (.Slice lo hi (some st) p2) (.ref a) (.ref s4.heap.objs.size)) (EP X pins σ Q) X.xe { s4 with heap := s4.heap.push { cls := .type "slice", data := .fields #[vl, vu, vs] } }
  refine tail_any (ops := [.ref a, .ref s4.heap.objs.size]) hli.isList.typeIs PySem.slot_list_getitem.lookup (wpAny_getItem_list_slice hli.isList (Heap.IsSliceOf.new ..) pl pu ps (by simpa using hk) ?_ (by rw [List.size_toArray] <;> omega)) (by with_unfolding_all rfl)
  have e : slicePick its.toArray l u (some k) = ((ixsS xs.length l u k).filterMap (its[·]?)).toArray := by
    unfold slicePick ixsS
    rw [List.size_toArray, hlen]
    simp
  rw [e]
  refine ⟨.ref _, _, I5.laid (t' := s4.toks) (o := .lst (pickL xs l u k)) (fun b ob q => Heap.get?_push_of_some _ q) (Nat.le_refl _) ?_, rfl, q _ (I5.hok.fresh (Nat.le_refl _))⟩
  exact ⟨hz2, _, 0, vals_pick r _, Heap.get?_push_size _ rfl⟩
end
def cutS (w : W) (l h c : Option Int) : Option W := (itemsL [w]).bind fun ws => c.bind fun k => if k ≠ 0 ∧ (pickL ws l h k).length ≤ sizeLine ∧ W.pure.all (pickL ws l h k) = true then some (.lst (pickL ws l h k)) else none
def fSliceS (fe : Sl → Res W) (fl fh fs : Sl → Res (Option Int)) : Sl → Res W := fun S => (fe S).bind fun w S1 => (fl S1).bind fun l S2 => (fh S2).bind fun h S3 => (fs S3).bind fun c S4 => match cutS w l h c with
  | some r => .ok r S4
  | none => .err
theorem vws_pick {K : Kz} {H : Hp} {ws : List W} {vs : List V} {fp : List Addr} (r : Vws K H ws vs fp) : ∀ is : List Nat, W.pure.all (is.filterMap (ws[·]?)) = true → Vws K H (is.filterMap (ws[·]?)) (is.filterMap (vs[·]?)) []
  | [], _ => by simp [Vws]
  | i :: is, hp => by
    cases h : ws[i]? with
    | none =>
      have h2 : vs[i]? = none := by
        rw [List.getElem?_eq_none_iff] at h ⊢
        rw [r.length]; exact h
      simp only [List.filterMap_cons, h, h2] at hp ⊢
      exact vws_pick r is hp
    | some w =>
      obtain ⟨v, f, h1, h2, _⟩ := r.get h
      simp only [List.filterMap_cons, h, h1, W.pure.all, Bool.and_eq_true] at hp ⊢
      have e := Vw.of_pure hp.1 h2
      subst e
      simp only [Vws]
      exact ⟨v, _, [], [], rfl, rfl, h2, vws_pick r is hp.2⟩
section
variable {X : Cx} {C : Ctx} {G G1 G2 G3 G4 : Gam} {pins : List Nat} {e st : Expr} {mo : Mo} {fe : Sl → Res W} {lo hi : Option Expr} {fl fh fs : Sl → Res (Option Int)} {pos p2 : Pos}
theorem je_slS (hK : X.K = C.K) (he : JE X C G pins e mo G1 fe) (hl : JP X C G1 (pins ++ mo.dep) lo G2 fl) (hh : JP X C G2 (pins ++ mo.dep) hi G3 fh) (hs : JP X C G3 (pins ++ mo.dep) (some st) G4 fs) :
    JE X C G pins (.Subscript e (.Slice lo hi (some st) p2) pos) .O G4 (fSliceS fe fl fh fs) := PE.imp (pe_slS he hl hh hs) fun σ H Q q => by
  obtain ⟨cs, S, R, p, pp, o⟩ := q
  have ln := R.ln
  refine ⟨cs, S, R, p, pp, ?_⟩
  unfold fSliceS at o
  cases hf : fe S with
  | err => rw [hf] at o; exact o
  | exc x S' => rw [hf] at o; exact o
  | ok w S1 =>
    rw [hf] at o
    intro v fp H1 cs1 R1 l1 t1 T1 g1
    have P1 : PinOk C.n (pins ++ mo.dep) cs1 := pp.push ln l1 T1 fun c hc x hx => by
      rw [t1] at hc; cases hc
      exact hx
    refine ⟨cs1, S1, R1, g1, P1, ?_⟩
    have o : Out C cs.length cs σ .O G4 Q ((fl S1).bind fun l S2 => (fh S2).bind fun h S3 => (fs S3).bind fun c S4 => match cutS w l h c with | some r => .ok r S4 | none => .err) := o
    cases hl : fl S1 with
    | err => rw [hl] at o; exact o
    | exc x S' => rw [hl] at o; exact OutX.up (L := cs.length) o T1 (by omega)
    | ok l S2 =>
      rw [hl] at o
      intro H2 cs2 R2 l2 T2 g2
      refine ⟨cs2, S2, R2, g2, P1.same l2 T2, ?_⟩
      have T12 : Tsame C.n cs.length cs cs2 := T1.trans T2 (by omega)
      have o : Out C cs.length cs σ .O G4 Q ((fh S2).bind fun h S3 => (fs S3).bind fun c S4 => match cutS w l h c with | some r => .ok r S4 | none => .err) := o
      cases hh : fh S2 with
      | err => rw [hh] at o; exact o
      | exc x S' => rw [hh] at o; exact OutX.up (L := cs.length) o T12 (by omega)
      | ok h S3 =>
        rw [hh] at o
        intro H3 cs3 R3 l3 T3 g3
        have T13 : Tsame C.n cs.length cs cs3 := T12.trans T3 (by omega)
        refine ⟨cs3, S3, R3, g3, (P1.same l2 T2).same l3 T3, ?_⟩
        have o : Out C cs.length cs σ .O G4 Q ((fs S3).bind fun c S4 => match cutS w l h c with | some r => .ok r S4 | none => .err) := o
        cases hc : fs S3 with
        | err => rw [hc] at o; exact o
        | exc x S' => rw [hc] at o; exact OutX.up (L := cs.length) o T13 (by omega)
        | ok c S4 =>
          rw [hc] at o
          intro H4 cs4 R4 l4 T4 g4
          have T14 : Tsame C.n cs.length cs cs4 := T13.trans T4 (by omega)
          have o : Out C cs.length cs σ .O G4 Q (match cutS w l h c with | some r => .ok r S4 | none => .err) := o
          cases hx : cutS w l h c with
          | none => rw [hx] at o; exact o.elim
          | some r =>
            rw [hx] at o
            have t4 : cs4[cs.length]? = some (some ⟨v, w, mo, fp⟩) := by rw [T4 cs.length ln (by omega), T3 cs.length ln (by omega), T2 cs.length ln (by omega)]; exact t1
            simp only [cutS, Option.bind_eq_some_iff] at hx
            obtain ⟨ws, h1, k, rfl, h2⟩ := hx
            split at h2
            · rename_i hz
              cases h2
              obtain ⟨a, vs, ev, s, f, q1, _⟩ := sqOf h1 (R4.view _ _ t4)
              have vp := vws_pick q1 (ixsS ws.length l h k) hz.2.2
              have evl : pickL vs l h k = (ixsS ws.length l h k).filterMap (vs[·]?) := by unfold pickL; rw [q1.length]
              refine ⟨a, vs, k, ev, rfl, hz.1, by rw [hK]; exact s, ?_, fun pa hp0 => ?_⟩
              · rw [evl, vp.length]; exact hz.2.1
              · rw [evl]
                have lt : (cs4.take cs.length).length = cs.length := by rw [List.length_take]; omega
                have R5 := R4.repl (c := ⟨.ref pa, .lst (pickL ws l h k), .O, [pa]⟩) ln (by omega) (Same.upd hp0) (mkNew hp0 vp) (fun x hx => by cases hx) (fun _ => ⟨by simp, fun b hb => by
                  rw [List.mem_singleton.mp hb]
                  exact ⟨⟨_, upd_same, rfl⟩, .inl hp0⟩⟩) fun ds z => by cases z
                refine o _ [pa] _ _ R5 (by rw [List.length_append, lt]; rfl) (by rw [List.getElem?_append_right (by omega), lt]; simp) (fun i hi hlt => ?_) (g4.take ln)
                rw [List.getElem?_append_left (by omega), List.getElem?_take_of_lt hlt]
                exact T14 i hi hlt
            · cases h2
end
end Vm

namespace Vm
open PySem PySem.Spec PyProof.Rows L2

/-! ## the plain side: what the readings compute, step by step -/
@[simp] theorem bind_ok {α β : Type} (a : α) (S : Sl) (k : α → Sl → Res β) : (Res.ok a S).bind k = k a S := Eq.trans rfl rfl
@[simp] theorem bind_exc {α β : Type} (x : XV) (S : Sl) (k : α → Sl → Res β) : (Res.exc x S : Res α).bind k = .exc x S := Eq.trans rfl rfl
@[simp] theorem bind_err {α β : Type} (k : α → Sl → Res β) : (Res.err : Res α).bind k = .err := Eq.trans rfl rfl
def seqK (g : Sl → Res Fl) : Fl → Sl → Res Fl
  | .nx, S => g S
  | fl, S => .ok fl S
@[simp] theorem seqK_nx {g : Sl → Res Fl} {S : Sl} : seqK g .nx S = g S := Eq.trans rfl rfl
@[simp] theorem seqK_rt {g : Sl → Res Fl} {S : Sl} {w : W} : seqK g (.rt w) S = .ok (.rt w) S := Eq.trans rfl rfl
@[simp] theorem seqK_bk {g : Sl → Res Fl} {S : Sl} : seqK g .bk S = .ok .bk S := Eq.trans rfl rfl
@[simp] theorem seqK_ct {g : Sl → Res Fl} {S : Sl} : seqK g .ct S = .ok .ct S := Eq.trans rfl rfl
@[simp ↓] theorem fSeq_a {f g : Sl → Res Fl} {S : Sl} : fSeq f g S = (f S).bind (seqK g) := by
  unfold fSeq
  cases f S with
  | ok fl S1 => cases fl <;> rfl
  | exc x S1 => rfl
  | err => rfl
@[simp] theorem fSkip_a {S : Sl} : fSkip S = .ok .nx S := Eq.trans rfl rfl
@[simp] theorem fErr_a {S : Sl} : fErr S = .err := Eq.trans rfl rfl
def optS : Option Sl → Res Fl
  | some S => .ok .nx S
  | none => .err
@[simp] theorem optS_some {S : Sl} : optS (some S) = .ok .nx S := Eq.trans rfl rfl
def asgK (t : Tg) : W → Sl → Res Fl := fun w S => optS (t.sem w S)
@[simp] theorem asgK_a {t : Tg} {w : W} {S : Sl} : asgK t w S = optS (t.sem w S) := Eq.trans rfl rfl
@[simp ↓] theorem fAsg_a {t : Tg} {fe : Sl → Res W} {S : Sl} : fAsg t fe S = (fe S).bind (asgK t) := by
  unfold fAsg asgK optS
  cases fe S with
  | ok w S1 => simp only [bind_ok]; all_goals (cases t.sem w S1 <;> rfl)
  | exc x S1 => rfl
  | err => rfl
@[simp] theorem tg_nm {i : Nat} {w : W} {S : Sl} : (Tg.nm i).sem w S = some (S.set i (some w)) := Eq.trans rfl rfl
@[simp] theorem tg_tp {is : List Nat} {ws : List W} {S : Sl} : (Tg.tp is).sem (.tup ws) S = setAll is ws S := Eq.trans rfl rfl
@[simp] theorem setAll_nil {S : Sl} : setAll [] [] S = some S := Eq.trans rfl rfl
@[simp] theorem setAll_cons {i : Nat} {is : List Nat} {w : W} {ws : List W} {S : Sl} : setAll (i :: is) (w :: ws) S = setAll is ws (S.set i (some w)) := Eq.trans rfl rfl
def parK (is : List Nat) : List W → Sl → Res Fl := fun ws S => optS (setAll is ws S)
@[simp] theorem parK_a {is : List Nat} {ws : List W} {S : Sl} : parK is ws S = optS (setAll is ws S) := Eq.trans rfl rfl
@[simp ↓] theorem fPar_a {is : List Nat} {gs : Sl → Res (List W)} {S : Sl} : fPar is gs S = (gs S).bind (parK is) := by
  unfold fPar parK optS
  cases gs S with
  | ok w S1 => simp only [bind_ok]; all_goals (cases setAll is w S1 <;> rfl)
  | exc x S1 => rfl
  | err => rfl
def optW : Option W → Sl → Res W
  | some w, S => .ok w S
  | none, _ => .err
@[simp] theorem optW_some {w : W} {S : Sl} : optW (some w) S = .ok w S := Eq.trans rfl rfl
def primK (sem : List W → Option W) : List W → Sl → Res W := fun ws S => optW (sem ws) S
@[simp] theorem primK_a {sem : List W → Option W} {ws : List W} {S : Sl} : primK sem ws S = optW (sem ws) S := Eq.trans rfl rfl
@[simp ↓] theorem fPrim_a {g : Sl → Res (List W)} {sem : List W → Option W} {S : Sl} : fPrim g sem S = (g S).bind (primK sem) := by
  unfold fPrim primK optW
  cases g S with
  | ok w S1 => simp only [bind_ok]; all_goals (cases sem w <;> rfl)
  | exc x S1 => rfl
  | err => rfl
def consK2 (w : W) : List W → Sl → Res (List W) := fun ws S => .ok (w :: ws) S
@[simp] theorem consK2_a {w : W} {ws : List W} {S : Sl} : consK2 w ws S = .ok (w :: ws) S := Eq.trans rfl rfl
def consK1 (g : Sl → Res (List W)) : W → Sl → Res (List W) := fun w S => (g S).bind (consK2 w)
@[simp ↓] theorem consK1_a {g : Sl → Res (List W)} {w : W} {S : Sl} : consK1 g w S = (g S).bind (consK2 w) := Eq.trans rfl rfl
@[simp ↓] theorem fCons_a {f : Sl → Res W} {g : Sl → Res (List W)} {S : Sl} : fCons f g S = (f S).bind (consK1 g) := Eq.trans rfl rfl
@[simp ↓] theorem fConsIo_a {g : Sl → Res (List W)} {S : Sl} : fConsIo g S = (g S).bind (consK2 .non) := Eq.trans rfl rfl
@[simp] theorem fNil_a {S : Sl} : fNil S = .ok [] S := Eq.trans rfl rfl
@[simp] theorem fInt1_a {i : Int} {S : Sl} : fInt1 i S = .ok (.int i) S := Eq.trans rfl rfl
@[simp] theorem fBl1_a {i : Bool} {S : Sl} : fBl1 i S = .ok (.bl i) S := Eq.trans rfl rfl
@[simp] theorem fStr1_a {i : Str} {S : Sl} : fStr1 i S = .ok (.str i) S := Eq.trans rfl rfl
@[simp] theorem fNon_a {S : Sl} : fNon S = .ok .non S := Eq.trans rfl rfl
def nameR : Option (Option W) → Sl → Res W
  | some (some w), S => .ok w S
  | _, _ => .err
@[simp] theorem nameR_a {w : W} {S : Sl} : nameR (some (some w)) S = .ok w S := Eq.trans rfl rfl
@[simp] theorem fName_a {i : Nat} {S : Sl} : fName i S = nameR S[i]? S := by
  unfold fName nameR
  cases S[i]? with
  | none => rfl
  | some x => cases x <;> rfl
def movR (i : Nat) : Option (Option W) → Sl → Res W
  | some (some w), S => .ok w (S.set i none)
  | _, _ => .err
@[simp] theorem movR_a {i : Nat} {w : W} {S : Sl} : movR i (some (some w)) S = .ok w (S.set i none) := Eq.trans rfl rfl
@[simp] theorem fMov_a {i : Nat} {S : Sl} : fMov i S = movR i S[i]? S := by
  unfold fMov movR
  cases S[i]? with
  | none => rfl
  | some x => cases x <;> rfl
def intK : W → Sl → Res W
  | .int i, S => .ok (.int i) S
  | _, _ => .err
@[simp] theorem intK_a {i : Int} {S : Sl} : intK (.int i) S = .ok (.int i) S := Eq.trans rfl rfl
@[simp ↓] theorem fInt_a {f : Sl → Res W} {S : Sl} : fInt f S = (f S).bind intK := by
  unfold fInt
  cases f S with
  | ok w S1 => cases w <;> rfl
  | exc x S1 => rfl
  | err => rfl
def pureK : W → Sl → Res W := fun w S => if w.pure = true then .ok w S else .err
@[simp] theorem pureK_a {w : W} {S : Sl} : pureK w S = if w.pure = true then .ok w S else .err := Eq.trans rfl rfl
@[simp ↓] theorem fPure_a {f : Sl → Res W} {S : Sl} : fPure f S = (f S).bind pureK := Eq.trans rfl rfl
def blK : W → Sl → Res Bool
  | .bl i, S => .ok i S
  | _, _ => .err
@[simp] theorem blK_a {i : Bool} {S : Sl} : blK (.bl i) S = .ok i S := Eq.trans rfl rfl
@[simp ↓] theorem fBl_a {f : Sl → Res W} {S : Sl} : fBl f S = (f S).bind blK := by
  unfold fBl
  cases f S with
  | ok w S1 => cases w <;> rfl
  | exc x S1 => rfl
  | err => rfl
def partK : W → Sl → Res (Option Int)
  | .int i, S => .ok (some i) S
  | _, _ => .err
@[simp] theorem partK_a {i : Int} {S : Sl} : partK (.int i) S = .ok (some i) S := Eq.trans rfl rfl
@[simp ↓] theorem fPart_a {f : Sl → Res W} {S : Sl} : fPart f S = (f S).bind partK := by
  unfold fPart
  cases f S with
  | ok w S1 => cases w <;> rfl
  | exc x S1 => rfl
  | err => rfl
def notK : Bool → Sl → Res Bool := fun b S => .ok (!b) S
@[simp] theorem notK_a {b : Bool} {S : Sl} : notK b S = .ok (!b) S := Eq.trans rfl rfl
@[simp ↓] theorem fNot_a {f : Sl → Res Bool} {S : Sl} : fNot f S = (f S).bind notK := by
  unfold fNot
  cases f S <;> rfl
def bvK : Bool → Sl → Res W := fun b S => .ok (.bl b) S
@[simp] theorem bvK_a {b : Bool} {S : Sl} : bvK b S = .ok (.bl b) S := Eq.trans rfl rfl
@[simp ↓] theorem fBv_a {f : Sl → Res Bool} {S : Sl} : fBv f S = (f S).bind bvK := Eq.trans rfl rfl
def andK (g : Sl → Res Bool) : Bool → Sl → Res Bool := fun b S => if b = true then g S else .ok false S
def orK (g : Sl → Res Bool) : Bool → Sl → Res Bool := fun b S => if b = true then .ok true S else g S
@[simp] theorem andK_t {g : Sl → Res Bool} {S : Sl} : andK g true S = g S := Eq.trans rfl rfl
@[simp] theorem andK_f {g : Sl → Res Bool} {S : Sl} : andK g false S = .ok false S := Eq.trans rfl rfl
@[simp] theorem orK_t {g : Sl → Res Bool} {S : Sl} : orK g true S = .ok true S := Eq.trans rfl rfl
@[simp] theorem orK_f {g : Sl → Res Bool} {S : Sl} : orK g false S = g S := Eq.trans rfl rfl
@[simp ↓] theorem fAnd_a {f g : Sl → Res Bool} {S : Sl} : fAnd f g S = (f S).bind (andK g) := Eq.trans rfl rfl
@[simp ↓] theorem fOr_a {f g : Sl → Res Bool} {S : Sl} : fOr f g S = (f S).bind (orK g) := Eq.trans rfl rfl
def ifK {α : Type} (f g : Sl → Res α) : Bool → Sl → Res α := fun b S => if b = true then f S else g S
@[simp] theorem ifK_t {α : Type} {f g : Sl → Res α} {S : Sl} : ifK f g true S = f S := Eq.trans rfl rfl
@[simp] theorem ifK_f {α : Type} {f g : Sl → Res α} {S : Sl} : ifK f g false S = g S := Eq.trans rfl rfl
@[simp ↓] theorem fIf_a {α : Type} {c : Sl → Res Bool} {f g : Sl → Res α} {S : Sl} : fIf c f g S = (c S).bind (ifK f g) := Eq.trans rfl rfl
def retK : W → Sl → Res Fl := fun w S => .ok (.rt w) S
@[simp] theorem retK_a {w : W} {S : Sl} : retK w S = .ok (.rt w) S := Eq.trans rfl rfl
@[simp ↓] theorem fRet_a {f : Sl → Res W} {S : Sl} : fRet f S = (f S).bind retK := Eq.trans rfl rfl
def exprK : W → Sl → Res Fl := fun _ S => .ok .nx S
@[simp] theorem exprK_a {w : W} {S : Sl} : exprK w S = .ok .nx S := Eq.trans rfl rfl
@[simp ↓] theorem fExpr_a {f : Sl → Res W} {S : Sl} : fExpr f S = (f S).bind exprK := Eq.trans rfl rfl
def ofC : CRes → Sl → Res W
  | .ok w _, S => .ok w S
  | .exc x _, S => .exc x S
  | .err, _ => .err
@[simp] theorem ofC_a {w io : W} {S : Sl} : ofC (.ok w io) S = .ok w S := Eq.trans rfl rfl
def callK (vc : List W → CRes) : List W → Sl → Res W := fun ws S => ofC (vc ws) S
@[simp] theorem callK_a {vc : List W → CRes} {ws : List W} {S : Sl} : callK vc ws S = ofC (vc ws) S := Eq.trans rfl rfl
@[simp ↓] theorem fCall_a {vc : List W → CRes} {g : Sl → Res (List W)} {S : Sl} : fCall vc none g S = (g S).bind (callK vc) := by
  unfold fCall callK ofC
  cases g S with
  | ok w S1 => simp only [bind_ok]; all_goals (cases vc w <;> rfl)
  | exc x S1 => rfl
  | err => rfl
def ofIo (k : Nat) : CRes → Sl → Res W
  | .ok w io, S => .ok w (S.set k (some io))
  | .exc x io, S => .exc x (S.set k (some io))
  | .err, _ => .err
@[simp] theorem ofIo_a {k : Nat} {w io : W} {S : Sl} : ofIo k (.ok w io) S = .ok w (S.set k (some io)) := Eq.trans rfl rfl
def ioR (vc : List W → CRes) (p k : Nat) (ws : List W) : Option (Option W) → Sl → Res W
  | some (some wk), S => ofIo k (vc (ws.set p wk)) S
  | _, _ => .err
@[simp] theorem ioR_a {vc : List W → CRes} {p k : Nat} {ws : List W} {wk : W} {S : Sl} : ioR vc p k ws (some (some wk)) S = ofIo k (vc (ws.set p wk)) S := Eq.trans rfl rfl
def ioK (vc : List W → CRes) (p k : Nat) : List W → Sl → Res W := fun ws S => ioR vc p k ws S[k]? S
@[simp] theorem ioK_a {vc : List W → CRes} {p k : Nat} {ws : List W} {S : Sl} : ioK vc p k ws S = ioR vc p k ws S[k]? S := Eq.trans rfl rfl
@[simp ↓] theorem fCallIo_a {vc : List W → CRes} {p k : Nat} {g : Sl → Res (List W)} {S : Sl} : fCall vc (some (p, k)) g S = (g S).bind (ioK vc p k) := by
  unfold fCall ioK
  cases g S with
  | ok w S1 =>
    simp only [bind_ok]
    cases h : S1[k]? with
    | none => rfl
    | some x =>
      cases x with
      | none => rfl
      | some wk =>
        simp only [ioR]
        cases vc (w.set p wk) <;> rfl
  | exc x S1 => rfl
  | err => rfl
def optI : Option (List W) → Sl → Res (List W)
  | some w, S => .ok w S
  | none, _ => .err
@[simp] theorem optI_some {w : List W} {S : Sl} : optI (some w) S = .ok w S := Eq.trans rfl rfl
def itemsK (sem : List W → Option (List W)) : List W → Sl → Res (List W) := fun ws S => optI (sem ws) S
@[simp] theorem itemsK_a {sem : List W → Option (List W)} {ws : List W} {S : Sl} : itemsK sem ws S = optI (sem ws) S := Eq.trans rfl rfl
@[simp ↓] theorem fItems_a {g : Sl → Res (List W)} {sem : List W → Option (List W)} {S : Sl} : fItems g sem S = (g S).bind (itemsK sem) := by
  unfold fItems itemsK optI
  cases g S with
  | ok w S1 => simp only [bind_ok]; all_goals (cases sem w <;> rfl)
  | exc x S1 => rfl
  | err => rfl
def forK (t : Tg) (is : List Nat) (body : Sl → Res Fl) : List W → Sl → Res Fl := fun its S => fLoop t is body its S
@[simp] theorem forK_a {t : Tg} {is : List Nat} {body : Sl → Res Fl} {its : List W} {S : Sl} : forK t is body its S = fLoop t is body its S := Eq.trans rfl rfl
@[simp ↓] theorem fFor_a {fi : Sl → Res (List W)} {t : Tg} {is : List Nat} {body : Sl → Res Fl} {S : Sl} : fFor fi t is body S = (fi S).bind (forK t is body) := Eq.trans rfl rfl
def compK (t : Tg) (own : List Nat) (cond : Sl → Res Bool) (elt : Sl → Res W) : List W → Sl → Res W := fun its S => if its.length ≤ sizeLine then cLoop t own cond elt its [] S else .err
@[simp] theorem compK_a {t : Tg} {own : List Nat} {cond : Sl → Res Bool} {elt : Sl → Res W} {its : List W} {S : Sl} : compK t own cond elt its S = if its.length ≤ sizeLine then cLoop t own cond elt its [] S else .err := Eq.trans rfl rfl
@[simp ↓] theorem fComp_a {fi : Sl → Res (List W)} {t : Tg} {own : List Nat} {cond : Sl → Res Bool} {elt : Sl → Res W} {S : Sl} : fComp fi t own cond elt S = (fi S).bind (compK t own cond elt) := Eq.trans rfl rfl
def appR (k : Nat) (w : W) : Option (Option W) → Sl → Res Fl
  | some (some (.lst ws)), S => if ws.length < sizeLine then .ok .nx (S.set k (some (.lst (ws ++ [w])))) else .err
  | _, _ => .err
@[simp] theorem appR_a {k : Nat} {w : W} {ws : List W} {S : Sl} : appR k w (some (some (.lst ws))) S = if ws.length < sizeLine then .ok .nx (S.set k (some (.lst (ws ++ [w])))) else .err := Eq.trans rfl rfl
def appK2 (k : Nat) : W → Sl → Res Fl := fun w S => appR k w S[k]? S
@[simp] theorem appK2_a {k : Nat} {w : W} {S : Sl} : appK2 k w S = appR k w S[k]? S := Eq.trans rfl rfl
theorem fApp_a {k : Nat} {f : Sl → Res W} {S : Sl} {ws : List W} (h : S[k]? = some (some (.lst ws))) : fApp k f S = (f S).bind (appK2 k) := by
  unfold fApp
  rw [h]
  show (f S).bind _ = _
  cases f S with
  | err => rfl
  | exc x S1 => rfl
  | ok w S1 =>
    show (match S1[k]? with | some (some (.lst ws)) => _ | _ => _) = appK2 k w S1
    unfold appK2 appR
    cases S1[k]? with
    | none => rfl
    | some x => cases x with
      | none => rfl
      | some y => cases y <;> rfl
def setR2 (k : Nat) (w : W) (i : Int) : Option (Option W) → Sl → Res Fl
  | some (some (.lst ws)), S => optS ((ixN ws.length i).map fun j => S.set k (some (.lst (ws.set j w))))
  | _, _ => .err
@[simp] theorem setR2_a {k : Nat} {w : W} {i : Int} {ws : List W} {S : Sl} : setR2 k w i (some (some (.lst ws))) S = optS ((ixN ws.length i).map fun j => S.set k (some (.lst (ws.set j w)))) := Eq.trans rfl rfl
def setK2 (k : Nat) (w : W) : W → Sl → Res Fl
  | .int i, S => setR2 k w i S[k]? S
  | _, _ => .err
@[simp] theorem setK2_a {k : Nat} {w : W} {i : Int} {S : Sl} : setK2 k w (.int i) S = setR2 k w i S[k]? S := Eq.trans rfl rfl
def setR1 (k : Nat) (fi : Sl → Res W) (w : W) : Option (Option W) → Sl → Res Fl
  | some (some (.lst _)), S => (fi S).bind (setK2 k w)
  | _, _ => .err
@[simp] theorem setR1_a {k : Nat} {fi : Sl → Res W} {w : W} {ws : List W} {S : Sl} : setR1 k fi w (some (some (.lst ws))) S = (fi S).bind (setK2 k w) := Eq.trans rfl rfl
def setK1 (k : Nat) (fi : Sl → Res W) : W → Sl → Res Fl := fun w S => setR1 k fi w S[k]? S
@[simp] theorem setK1_a {k : Nat} {fi : Sl → Res W} {w : W} {S : Sl} : setK1 k fi w S = setR1 k fi w S[k]? S := Eq.trans rfl rfl
@[simp ↓] theorem fSetIx_a {k : Nat} {fe fi : Sl → Res W} {S : Sl} : fSetIx k fe fi S = (fe S).bind (setK1 k fi) := by
  unfold fSetIx
  cases fe S with
  | err => rfl
  | exc x S1 => rfl
  | ok w S1 =>
    show (match S1[k]? with | some (some (.lst _)) => _ | _ => _) = setK1 k fi w S1
    unfold setK1 setR1
    cases h1 : S1[k]? with
    | none => rfl
    | some x => cases x with
      | none => rfl
      | some y => cases y with
        | lst ws =>
          show (fi S1).bind _ = (fi S1).bind _
          cases fi S1 with
          | err => rfl
          | exc z S2 => rfl
          | ok wi S2 =>
            cases wi with
            | int i =>
              show (match S2[k]? with | some (some (.lst ws)) => _ | _ => _) = setR2 k w i S2[k]? S2
              unfold setR2
              cases S2[k]? with
              | none => rfl
              | some x => cases x with
                | none => rfl
                | some y => cases y <;> first | rfl | (rename_i ws; show (match ixN ws.length i with | some j => _ | none => _) = optS ((ixN ws.length i).map _); cases ixN ws.length i <;> rfl)
            | _ => rfl
        | _ => rfl
def cutR : Option W → Sl → Res W := optW
def sliceK3 (cut : W → Option Int → Option Int → Option W) (w : W) (l : Option Int) : Option Int → Sl → Res W := fun h S => optW (cut w l h) S
@[simp] theorem sliceK3_a {cut : W → Option Int → Option Int → Option W} {w : W} {l h : Option Int} {S : Sl} : sliceK3 cut w l h S = optW (cut w l h) S := Eq.trans rfl rfl
def sliceK2 (cut : W → Option Int → Option Int → Option W) (fh : Sl → Res (Option Int)) (w : W) : Option Int → Sl → Res W := fun l S => (fh S).bind (sliceK3 cut w l)
@[simp ↓] theorem sliceK2_a {cut : W → Option Int → Option Int → Option W} {fh : Sl → Res (Option Int)} {w : W} {l : Option Int} {S : Sl} : sliceK2 cut fh w l S = (fh S).bind (sliceK3 cut w l) := Eq.trans rfl rfl
def sliceK1 (cut : W → Option Int → Option Int → Option W) (fl fh : Sl → Res (Option Int)) : W → Sl → Res W := fun w S => (fl S).bind (sliceK2 cut fh w)
@[simp ↓] theorem sliceK1_a {cut : W → Option Int → Option Int → Option W} {fl fh : Sl → Res (Option Int)} {w : W} {S : Sl} : sliceK1 cut fl fh w S = (fl S).bind (sliceK2 cut fh w) := Eq.trans rfl rfl
@[simp ↓] theorem fSlice_a {cut : W → Option Int → Option Int → Option W} {fe : Sl → Res W} {fl fh : Sl → Res (Option Int)} {S : Sl} : fSlice cut fe fl fh S = (fe S).bind (sliceK1 cut fl fh) := by
  unfold fSlice sliceK1
  cases fe S with
  | err => rfl
  | exc x S1 => rfl
  | ok w S1 =>
    show (fl S1).bind _ = (fl S1).bind _
    cases fl S1 with
    | err => rfl
    | exc x S1 => rfl
    | ok l S2 =>
      show (fh S2).bind _ = (fh S2).bind _
      cases fh S2 with
      | err => rfl
      | exc x S1 => rfl
      | ok h S3 =>
        show (match cut w l h with | some r => _ | none => _) = optW (cut w l h) S3
        cases cut w l h <;> rfl
def chK2 (c1 c2 : Int → Int → Bool) (f3 : Sl → Res W) (i : Int) : W → Sl → Res W
  | .int j, S => if c1 i j = true then (f3 S).bind (chain3 c2 j) else .ok (.bl false) S
  | _, _ => .err
@[simp] theorem chain3_a {c2 : Int → Int → Bool} {j l : Int} {S : Sl} : chain3 c2 j (.int l) S = .ok (.bl (c2 j l)) S := Eq.trans rfl rfl
@[simp] theorem chain2_a {c1 c2 : Int → Int → Bool} {f3 : Sl → Res W} {i j : Int} {S : Sl} : chain2 c1 c2 f3 (.int i) (.int j) S = if c1 i j = true then (f3 S).bind (chain3 c2 j) else .ok (.bl false) S := Eq.trans rfl rfl
def chainK (c1 c2 : Int → Int → Bool) (f2 f3 : Sl → Res W) : W → Sl → Res W := fun w S => (f2 S).bind (chain2 c1 c2 f3 w)
@[simp ↓] theorem chainK_a {c1 c2 : Int → Int → Bool} {f2 f3 : Sl → Res W} {w : W} {S : Sl} : chainK c1 c2 f2 f3 w S = (f2 S).bind (chain2 c1 c2 f3 w) := Eq.trans rfl rfl
@[simp ↓] theorem fChain_a {c1 c2 : Int → Int → Bool} {f1 f2 f3 : Sl → Res W} {S : Sl} : fChain c1 c2 f1 f2 f3 S = (f1 S).bind (chainK c1 c2 f2 f3) := Eq.trans rfl rfl
/-! operations on what is known -/
section
variable {i j : Int} {ws vs : List W} {a b : W}
@[simp] theorem semAdd_a : semAdd [.int i, .int j] = some (.int (i + j)) := Eq.trans rfl rfl
@[simp] theorem semSub_a : semSub [.int i, .int j] = some (.int (i - j)) := Eq.trans rfl rfl
@[simp] theorem semLt_a : semLt [.int i, .int j] = some (.bl (decide (i < j))) := Eq.trans rfl rfl
@[simp] theorem semLe_a : semLe [.int i, .int j] = some (.bl (decide (i ≤ j))) := Eq.trans rfl rfl
@[simp] theorem semGt_a : semGt [.int i, .int j] = some (.bl (decide (j < i))) := Eq.trans rfl rfl
@[simp] theorem semGe_a : semGe [.int i, .int j] = some (.bl (decide (j ≤ i))) := Eq.trans rfl rfl
@[simp] theorem semMax2_a : semMax2 [.int i, .int j] = some (.int (if j > i then j else i)) := Eq.trans rfl rfl
@[simp] theorem semMin2_a : semMin2 [.int i, .int j] = some (.int (if j < i then j else i)) := Eq.trans rfl rfl
@[simp] theorem semAbs_a : semAbs [.int i] = some (.int (if i < 0 then -i else i)) := Eq.trans rfl rfl
@[simp] theorem semNeg_a : semNeg [.int i] = some (.int (-i)) := Eq.trans rfl rfl
@[simp] theorem semIntC_a : semIntC [.int i] = some (.int i) := Eq.trans rfl rfl
theorem semMul_a (h : mulOk i j = true) : semMul [.int i, .int j] = some (.int (i * j)) := by show (if mulOk i j = true then some (W.int (i * j)) else none) = _; rw [if_pos h]
theorem semPow_a (h : powOk i j = true) : semPow [.int i, .int j] = some (.int (i ^ j.toNat)) := by show (if powOk i j = true then some (W.int (i ^ j.toNat)) else none) = _; rw [if_pos h]
theorem semFdv_a (h : fdivOk j = true) : semFdv [.int i, .int j] = some (.int (i.fdiv j)) := by show (if fdivOk j = true then some (W.int (i.fdiv j)) else none) = _; rw [if_pos h]
theorem semMod_a (h : j ≠ 0) : semMod [.int i, .int j] = some (.int (i.fmod j)) := by show (if decide (j ≠ 0) = true then some (W.int (i.fmod j)) else none) = _; rw [if_pos (decide_eq_true h)]
@[simp] theorem semLen_l : semLen [.lst ws] = some (.int ws.length) := Eq.trans rfl rfl
@[simp] theorem semLen_s : semLen [.scr ws] = some (.int ws.length) := Eq.trans rfl rfl
@[simp] theorem semLen_t : semLen [.tup ws] = some (.int ws.length) := Eq.trans rfl rfl
@[simp] theorem semIx_l : semIx [.lst ws, .int i] = (ixN ws.length i).bind (ws[·]?) := Eq.trans rfl rfl
@[simp] theorem semIx_s : semIx [.scr ws, .int i] = (ixN ws.length i).bind (ws[·]?) := Eq.trans rfl rfl
@[simp] theorem semIx_t : semIx [.tup ws, .int i] = (ixN ws.length i).bind (ws[·]?) := Eq.trans rfl rfl
@[simp] theorem semCat_a {ok : List W → Bool} : semCat ok [.lst ws, .lst vs] = if ws.length + vs.length ≤ sizeLine ∧ ok (ws ++ vs) = true then some (.lst (ws ++ vs)) else none := Eq.trans rfl rfl
@[simp] theorem anyW_a : anyW ws = true := Eq.trans rfl rfl
@[simp] theorem semIsN_a : semIsN false [a, .non] = some (.bl (isNonB a)) := Eq.trans rfl rfl
@[simp] theorem semNotN_a : semIsN true [a, .non] = some (.bl (!isNonB a)) := Eq.trans rfl rfl
@[simp] theorem itemsL_l : itemsL [.lst ws] = some ws := Eq.trans rfl rfl
@[simp] theorem itemsL_s : itemsL [.scr ws] = some ws := Eq.trans rfl rfl
@[simp] theorem itemsE_l : itemsE [.lst ws] = some (pairUp ws) := Eq.trans rfl rfl
@[simp] theorem pureInts : ∀ ns : List Int, W.pure.all (ns.map W.int) = true
  | [] => rfl
  | n :: ns => by simp [W.pure.all, W.pure, pureInts ns]
theorem ixN_nat {n k : Nat} (h : k < n) : ixN n (k : Int) = some k := by
  unfold ixN
  rw [if_pos (by omega), if_pos (by omega)]
  simp
end
/-- a loop that goes through, by its invariant -/
theorem fLoop_inv {t : Tg} {is : List Nat} {body : Sl → Res Fl} (I : Nat → Sl → Prop) : ∀ (its : List W) (k : Nat) (S : Sl), I k S →
    (∀ (n : Nat) (w : W) (S : Sl), its[n]? = some w → I (k + n) S → ∃ S1 S2, t.sem w (forget is S) = some S1 ∧ (body S1 = .ok .nx S2 ∨ body S1 = .ok .ct S2) ∧ I (k + n + 1) S2) → ∃ S', fLoop t is body its S = .ok .nx (forget is S') ∧ I (k + its.length) S'
  | [], k, S, h0, _ => ⟨S, rfl, h0⟩
  | w :: ws, k, S, h0, step => by
    obtain ⟨S1, S2, e1, e2, e3⟩ := step 0 w S rfl h0
    obtain ⟨S', q1, q2⟩ := fLoop_inv I ws (k + 1) S2 e3 fun n w' S' hw hI => by
      obtain ⟨T1, T2, z1, z2, z3⟩ := step (n + 1) w' S' (by simpa using hw) (by rw [show k + (n + 1) = k + 1 + n from by omega]; exact hI)
      exact ⟨T1, T2, z1, z2, by rw [show k + 1 + n + 1 = k + (n + 1) + 1 from by omega]; exact z3⟩
    refine ⟨S', ?_, by rw [List.length_cons, show k + (ws.length + 1) = k + 1 + ws.length from by omega]; exact q2⟩
    unfold fLoop
    rw [e1]
    rcases e2 with e2 | e2
    · simp only [e2]; exact q1
    · simp only [e2]; exact q1
end Vm
namespace Vm
open PySem PySem.Spec PyProof.Rows L2
@[simp] theorem noX_ok {α : Type} {a : α} {S : Sl} : noX (.ok a S) = .ok a S := Eq.trans rfl rfl
/-- a comprehension of all items -/
theorem cLoop_fm {t : Tg} {own : List Nat} {cond : Sl → Res Bool} {elt : Sl → Res W} {T : Sl} {g : W → W} {p : W → Bool} : ∀ (its acc : List W) (S : Sl), forget own S = T →
    (∀ w ∈ its, ∃ S1 S2, t.sem w T = some S1 ∧ cond S1 = .ok (p w) S2 ∧ (p w = false → forget own S2 = T) ∧ (p w = true → ∃ S3, elt S2 = .ok (g w) S3 ∧ forget own S3 = T)) → cLoop t own cond elt its acc S = .ok (.lst (acc ++ (its.filter p).map g)) T
  | [], acc, S, h, _ => by
    unfold cLoop
    rw [h]
    simp
  | w :: ws, acc, S, h, step => by
    obtain ⟨S1, S2, e1, e2, e3, e4⟩ := step w List.mem_cons_self
    unfold cLoop
    rw [h, e1]
    simp only [e2, noX_ok, bind_ok]
    cases hp : p w with
    | false =>
      rw [if_neg (by decide)]
      rw [cLoop_fm ws acc S2 (e3 hp) fun x hx => step x (List.mem_cons_of_mem _ hx)]
      simp [hp]
    | true =>
      obtain ⟨S3, e5, e6⟩ := e4 hp
      rw [if_pos rfl]
      simp only [e5, noX_ok, bind_ok]
      rw [cLoop_fm ws (acc ++ [g w]) S3 e6 fun x hx => step x (List.mem_cons_of_mem _ hx)]
      simp [hp]
theorem cLoop_map {t : Tg} {own : List Nat} {elt : Sl → Res W} {T : Sl} {g : W → W} (its acc : List W) (S : Sl) (h : forget own S = T) (step : ∀ w ∈ its, ∃ S1 S3, t.sem w T = some S1 ∧ elt S1 = .ok (g w) S3 ∧ forget own S3 = T) :
    cLoop t own (fun S => .ok true S) elt its acc S = .ok (.lst (acc ++ its.map g)) T := by
  rw [cLoop_fm (p := fun _ => true) (g := g) its acc S h fun w hw => ?_]
  · rw [List.filter_eq_self.mpr fun _ _ => rfl]
  · obtain ⟨S1, S3, e1, e2, e3⟩ := step w hw
    exact ⟨S1, S1, e1, rfl, (fun z => by cases z), fun _ => ⟨S3, e2, e3⟩⟩
@[simp] theorem forget_nil {S : Sl} : forget [] S = S := Eq.trans rfl rfl
@[simp] theorem forget_cons {i : Nat} {is : List Nat} {S : Sl} : forget (i :: is) S = (forget is S).set i none := Eq.trans rfl rfl
/-! ### == of what is known -/
@[simp] theorem toDs_ints (ns : List Int) : toDs (ns.map W.int) = some (ns.map PyData.int) := by
  induction ns with
  | nil => rfl
  | cons n ns ih => simp [toDs, toD, ih]
theorem eqvAll_refl (ds : List PyData) (h : ∀ d ∈ ds, PyData.eqv d d = true) : PyData.eqvAll ds ds = true := by
  induction ds with
  | nil => simp [PyData.eqvAll]
  | cons d ds ih => simp [PyData.eqvAll, h d List.mem_cons_self, ih fun x hx => h x (List.mem_cons_of_mem _ hx)]
theorem eqvInts : ∀ xs ys : List Int, PyData.eqvAll (xs.map PyData.int) (ys.map PyData.int) = decide (xs = ys)
  | [], [] => by simp [PyData.eqvAll]
  | [], y :: ys => by simp [PyData.eqvAll]
  | x :: xs, [] => by simp [PyData.eqvAll]
  | x :: xs, y :: ys => by
    simp only [List.map_cons, PyData.eqvAll, PyData.eqv, eqvInts xs ys, List.cons.injEq]
    by_cases h : x = y <;> simp [h]
theorem depthInts (ns : List Int) : PyData.depthAll (ns.map PyData.int) = 0 := by
  induction ns with
  | nil => simp [PyData.depthAll]
  | cons n ns ih => simp [PyData.depthAll, PyData.depth, ih]
theorem layInts (ns : List Int) : PyData.canLayAll0 (ns.map PyData.int) = true := by
  induction ns with
  | nil => simp [PyData.canLayAll0]
  | cons n ns ih => simp [PyData.canLayAll0, PyData.canLay0, ih]
theorem shapedInts (ns : List Int) : SeqAt.shaped (.list (ns.map PyData.int)) = true := by
  simp [SeqAt.shaped, PyData.canLay0, PyData.depth, layInts, depthInts]
theorem semEq_li {neg : Bool} (xs ys : List Int) : semEq neg [.lst (xs.map W.int), .lst (ys.map W.int)] = some (.bl (if neg then !decide (xs = ys) else decide (xs = ys))) := by
  simp [semEq, toD, shapedInts, PyData.eqv, eqvInts]
theorem semEq_ii {neg : Bool} (i j : Int) : semEq neg [.int i, .int j] = some (.bl (if neg then !decide (i = j) else decide (i = j))) := by
  have h : SeqAt.shaped (.int i) = true := by simp [SeqAt.shaped, PyData.canLay0, PyData.depth]
  have h2 : SeqAt.shaped (.int j) = true := by simp [SeqAt.shaped, PyData.canLay0, PyData.depth]
  simp only [semEq, toD, Option.bind_some, h, h2, Bool.and_self, if_true, PyData.eqv]
  rw [Bool.beq_eq_decide_eq]
/-- equal trees -/
theorem semEq_self {neg : Bool} {a : W} {d : PyData} (h : toD a = some d) (hs : SeqAt.shaped d = true) : semEq neg [a, a] = some (.bl (if neg then false else true)) := by
  have h1 : d.canLay0 = true := (Bool.and_eq_true_iff.mp hs).1
  simp only [semEq, h, Option.bind_some, hs, Bool.and_self, if_true, SeqAt.eqv_refl d h1]
  cases neg <;> rfl
theorem semRep_ints (ns : List Int) (k : Int) (h1 : 0 ≤ k) (h2 : ns.length * k.toNat ≤ 10000000) (h3 : k ≤ 10000000) : semRep [.lst (ns.map W.int), .int k] = some (.lst ((List.replicate k.toNat ns).flatten.map W.int)) := by
  have hz : sizeLine = 2 ^ 24 := sizeLine_eq
  show (if -(2 ^ 63) ≤ k ∧ k < 2 ^ 63 ∧ (ns.map W.int).length * k.toNat ≤ sizeLine ∧ W.pure.all (ns.map W.int) = true then some (W.lst (List.replicate k.toNat (ns.map W.int)).flatten) else none) = _
  rw [if_pos ⟨by omega, by omega, by rw [List.length_map, hz]; omega, pureInts ns⟩]
  rw [List.map_flatten, List.map_replicate]
theorem semBls_map {α : Type} {f : List Bool → W} {p : α → Bool} (ns : List α) : semBls f [.lst (ns.map fun n => W.bl (p n))] = some (f (ns.map p)) := by
  have h := bls?_bls (ns.map p)
  rw [List.map_map] at h
  have e : (ns.map fun n => W.bl (p n)) = ns.map (W.bl ∘ p) := rfl
  rw [e]
  show (bls? (ns.map (W.bl ∘ p))).map f = _
  rw [h, Option.map_some]
theorem semSum_li (ns : List Int) : semSum [.lst (ns.map W.int)] = some (.int ns.sum) := by
  simp [semSum, semInts]
theorem itemsR1_a {n : Int} (h : n < 2 ^ 62) (h0 : 0 ≤ n) : itemsR1 [.int n] = some (upFrom 0 n.toNat) := by
  show (if -(2 ^ 62) ≤ n ∧ n < 2 ^ 62 then some (upFrom 0 n.toNat) else none) = _
  rw [if_pos ⟨by omega, h⟩]
theorem upFrom_get {lo : Int} {n k : Nat} {w : W} (h : (upFrom lo n)[k]? = some w) : w = .int (lo + k) ∧ k < n := by
  unfold upFrom at h
  rw [List.getElem?_map, Option.map_eq_some_iff] at h
  obtain ⟨j, hj, rfl⟩ := h
  obtain ⟨hl, e⟩ := List.getElem?_eq_some_iff.mp hj
  rw [List.getElem_range] at e
  subst e
  exact ⟨rfl, by simpa using hl⟩
@[simp] theorem upFrom_length {lo : Int} {n : Nat} : (upFrom lo n).length = n := by simp [upFrom]
theorem pairUp_get {ws : List W} {k : Nat} {w : W} (h : (pairUp ws)[k]? = some w) : ∃ x, ws[k]? = some x ∧ w = .tup [.int (k : Nat), x] := by
  unfold pairUp at h
  rw [List.getElem?_mapIdx, Option.map_eq_some_iff] at h
  obtain ⟨y, hy, rfl⟩ := h
  exact ⟨y, hy, rfl⟩
@[simp] theorem pairUp_length {ws : List W} : (pairUp ws).length = ws.length := by simp [pairUp]
theorem ints_get {ns : List Int} {k : Nat} {w : W} (h : (ns.map W.int)[k]? = some w) : ∃ i, ns[k]? = some i ∧ w = .int i := by
  rw [List.getElem?_map, Option.map_eq_some_iff] at h
  obtain ⟨i, h1, rfl⟩ := h
  exact ⟨i, h1, rfl⟩
theorem set_ints {ns : List Int} {k : Nat} {i : Int} : (ns.map W.int).set k (.int i) = (ns.set k i).map W.int := (List.map_set ..).symm
theorem bitsOf {i : Int} {n : Nat} (h : i.natAbs < 2 ^ n) : Builtin.Int.intBits i ≤ n := by
  unfold Builtin.Int.intBits
  by_cases z : i = 0
  · rw [if_pos (by simp [z])]; omega
  · rw [if_neg (by simpa using z)]
    have : i.natAbs.log2 < n := (Nat.log2_lt (by omega)).mpr h
    omega
theorem mulOk_l {i j : Int} (h : i.natAbs < 2 ^ 64) : mulOk i j = true := by
  unfold mulOk
  have := bitsOf h
  have hs : shortFactorBits = 64 := rfl
  simp only [Bool.not_eq_true', Bool.and_eq_false_imp, Bool.and_eq_true, decide_eq_true_eq, hs]
  omega
theorem mulOk_r {i j : Int} (h : j.natAbs < 2 ^ 64) : mulOk i j = true := by
  unfold mulOk
  have := bitsOf h
  have hs : shortFactorBits = 64 := rfl
  simp only [Bool.not_eq_true', Bool.and_eq_false_imp, Bool.and_eq_true, decide_eq_true_eq, hs]
  omega
theorem mulOk_b {i j : Int} (h1 : i.natAbs < 2 ^ 1000000) (h2 : j.natAbs < 2 ^ 1000000) : mulOk i j = true := by
  unfold mulOk Builtin.Int.intTooBig
  have b1 := bitsOf h1
  have b2 := bitsOf h2
  have hb : bitsLine = 2 ^ 27 := rfl
  simp only [Bool.not_eq_true', Bool.and_eq_false_imp, Bool.and_eq_true, decide_eq_true_eq, hb, decide_eq_false_iff_not]
  intro _
  omega
/-- a loop as a fold: T b is the state with what is forgotten gone -/
theorem fLoop_fold {α β : Type} {t : Tg} {is : List Nat} {body : Sl → Res Fl} (emb : α → W) (g : β → α → β) (T : β → Sl) (Inv : β → Prop) : ∀ (as : List α) (b : β) (S : Sl), Inv b → forget is S = T b →
    (∀ a ∈ as, ∀ b, Inv b → ∃ S1 S2, t.sem (emb a) (T b) = some S1 ∧ (body S1 = .ok .nx S2 ∨ body S1 = .ok .ct S2) ∧ forget is S2 = T (g b a) ∧ Inv (g b a)) → fLoop t is body (as.map emb) S = .ok .nx (T (as.foldl g b)) ∧ Inv (as.foldl g b)
  | [], b, S, hI, hS, _ => by
    simp only [List.map_nil, fLoop, hS, List.foldl_nil]
    exact ⟨trivial, hI⟩
  | a :: as, b, S, hI, hS, step => by
    obtain ⟨S1, S2, e1, e2, e3, e4⟩ := step a List.mem_cons_self b hI
    have ih := fLoop_fold emb g T Inv as (g b a) S2 e4 e3 fun x hx => step x (List.mem_cons_of_mem _ hx)
    simp only [List.map_cons, List.foldl_cons]
    refine ⟨?_, ih.2⟩
    unfold fLoop
    rw [hS, e1]
    rcases e2 with e2 | e2
    · simp only [e2]; exact ih.1
    · simp only [e2]; exact ih.1
theorem pairUp_ints (ns : List Int) : pairUp (ns.map W.int) = ns.zipIdx.map fun p => W.tup [.int (p.2 : Nat), .int p.1] := by
  refine List.ext_getElem? fun i => ?_
  unfold pairUp
  rw [List.getElem?_mapIdx, List.getElem?_map, List.getElem?_map, List.getElem?_zipIdx]
  cases ns[i]? <;> simp
theorem zipIdx_lt {α : Type} {ns : List α} {p : α × Nat} (h : p ∈ ns.zipIdx) : p.2 < ns.length ∧ p.1 ∈ ns := by
  obtain ⟨x, i⟩ := p
  have := List.mem_zipIdx h
  refine ⟨by omega, ?_⟩
  rw [this.2.2]
  exact List.getElem_mem _
theorem upFrom_map (n : Nat) : upFrom 0 n = (List.range n).map fun i => W.int (i : Nat) := by simp [upFrom]
theorem getD_map_int {f : List Int} {k : Nat} (h : k < f.length) : (f.map W.int)[k]? = some (.int (f.getD k 0)) := by
  rw [List.getElem?_map, List.getElem?_eq_getElem h]
  simp [List.getD, h]
theorem ixN_add {n i j : Nat} (h : i + j < n) : ixN n ((i : Int) + (j : Int)) = some (i + j) := by
  have := ixN_nat (n := n) (k := i + j) h
  rwa [Int.natCast_add] at this
theorem ixN_mul {n i j : Nat} (h : i * j < n) : ixN n ((i : Int) * (j : Int)) = some (i * j) := by
  have := ixN_nat (n := n) (k := i * j) h
  rwa [Int.natCast_mul] at this
/-! ### the length of what repr tells -/
theorem listText_le (ts : List Str) : (listText ts).length ≤ 2 + piled ts := by
  cases ts with
  | nil => exact Nat.le_refl _
  | cons t r =>
    have h := textFrom_length_pos r 1 (("[" : Str) ++ (if (0 : Nat) > 0 then ", " else "" : String) ++ t) (Nat.succ_pos 0)
    have e : ((("[" : Str) ++ (if (0 : Nat) > 0 then ", " else "" : String) ++ t)).length = 1 + t.length := by
      rw [strLen_append, strLen_append]; rfl
    show (textFrom 1 _ r ++ "]").length ≤ _
    rw [strLen_append, h, e, piled_cons]
    show 1 + t.length + piled r + 1 ≤ _
    omega
theorem shownInts_le (ns : List Int) (h : ∀ n ∈ ns, n.natAbs < 2 ^ 1000) : piled (PyData.shownAll (ns.map PyData.int)) ≤ 1010 * ns.length ∧ PyData.showableAll (ns.map PyData.int) = true ∧ PyData.hasDictAll (ns.map PyData.int) = false := by
  induction ns with
  | nil => exact ⟨Nat.le_refl _, rfl, rfl⟩
  | cons n ns ih =>
    obtain ⟨h1, h2, h3⟩ := ih fun x hx => h x (List.mem_cons_of_mem _ hx)
    have hn : n.natAbs.log2 < 1000 := by
      by_cases z : n.natAbs = 0
      · rw [z]; decide
      · exact (Nat.log2_lt z).mpr (h n List.mem_cons_self)
    have hl : (Str.ofString (toString n)).length ≤ 1001 := by
      rw [PySem.ofString_length]
      exact int_text_length_le (k := 1000) (by decide) hn
    refine ⟨?_, ?_, ?_⟩
    · show piled (Str.ofString (toString n) :: PyData.shownAll (ns.map PyData.int)) ≤ _
      rw [piled_cons, List.length_cons]
      omega
    · have : n.natAbs.log2 < 1920 := by omega
      simp [PyData.showableAll, PyData.showable, this, h2]
    · simp [PyData.hasDictAll, PyData.hasDict, h3]
/-- repr of a list of lists of ints -/
theorem repr_ll (ls : List (List Int)) (h : ∀ l ∈ ls, l.length ≤ 1000 ∧ ∀ n ∈ l, n.natAbs < 2 ^ 1000) (hl : ls.length ≤ 10) : ∃ z, semRepr [.lst (ls.map fun l => .lst (l.map W.int))] = some (.str z) := by
  have key : ∀ ls : List (List Int), (∀ l ∈ ls, l.length ≤ 1000 ∧ ∀ n ∈ l, n.natAbs < 2 ^ 1000) → toDs (ls.map fun l => W.lst (l.map W.int)) = some (ls.map fun l => PyData.list (l.map PyData.int)) ∧ PyData.showableAll (ls.map fun l => PyData.list (l.map PyData.int)) = true ∧ PyData.hasDictAll (ls.map fun l => PyData.list (l.map PyData.int)) = false ∧
      PyData.depthAll (ls.map fun l => PyData.list (l.map PyData.int)) ≤ 1 ∧ piled (PyData.shownAll (ls.map fun l => PyData.list (l.map PyData.int))) ≤ 1010004 * ls.length := by
    intro ls
    induction ls with
    | nil => intro _; exact ⟨rfl, rfl, rfl, by simp [PyData.depthAll], Nat.le_refl _⟩
    | cons l ls ih =>
      intro h
      obtain ⟨h1, h2, h3, h4, h5⟩ := ih fun x hx => h x (List.mem_cons_of_mem _ hx)
      obtain ⟨l1, l2⟩ := h l List.mem_cons_self
      obtain ⟨g1, g2, g3⟩ := shownInts_le l l2
      refine ⟨?_, ?_, ?_, ?_, ?_⟩
      · simp only [List.map_cons, toDs, toD, toDs_ints, Option.map_some, Option.bind_some, h1]
      · simp [PyData.showableAll, PyData.showable, g2, h2]
      · simp [PyData.hasDictAll, PyData.hasDict, g3, h3]
      · simp only [List.map_cons, PyData.depthAll, PyData.depth, depthInts]
        omega
      · show piled (listText (PyData.shownAll (l.map PyData.int)) :: PyData.shownAll (ls.map fun l => PyData.list (l.map PyData.int))) ≤ _
        have := listText_le (PyData.shownAll (l.map PyData.int))
        rw [piled_cons, List.length_cons]
        omega
  obtain ⟨h1, h2, h3, h4, h5⟩ := key ls h
  have hs : (PyData.list (ls.map fun l => PyData.list (l.map PyData.int))).shown.length ≤ sizeLine := by
    show (listText (PyData.shownAll (ls.map fun l => PyData.list (l.map PyData.int)))).length ≤ _
    have := listText_le (PyData.shownAll (ls.map fun l => PyData.list (l.map PyData.int)))
    rw [sizeLine_eq]
    omega
  refine ⟨(PyData.list (ls.map fun l => PyData.list (l.map PyData.int))).shown, ?_⟩
  unfold semRepr
  simp only [toD, h1, Option.map_some, Option.bind_some]
  rw [if_pos ⟨by simpa [PyData.showable] using h2, by simpa [PyData.hasDict] using h3, by simp only [PyData.depth]; omega, hs⟩]
theorem repr_i (n : Int) (h : n.natAbs < 2 ^ 1000) : ∃ z, semRepr [.int n] = some (.str z) := by
  have hn : n.natAbs.log2 < 1000 := by
    by_cases z : n.natAbs = 0
    · rw [z]; decide
    · exact (Nat.log2_lt z).mpr h
  refine ⟨(PyData.int n).shown, ?_⟩
  unfold semRepr
  simp only [toD, Option.bind_some]
  have h1 : n.natAbs.log2 < 1920 := by omega
  have h2 : (PyData.int n).shown.length ≤ sizeLine := int_text_fits (by omega)
  rw [if_pos ⟨by simp [PyData.showable, h1], by simp [PyData.hasDict], by simp [PyData.depth], h2⟩]
/-! ### sums -/
theorem sum_add {α : Type} (u v : α → Int) : ∀ bs : List α, (bs.map fun b => u b + v b).sum = (bs.map u).sum + (bs.map v).sum
  | [] => rfl
  | b :: bs => by
    have := sum_add u v bs
    simp only [List.map_cons, List.sum_cons, this]
    omega
theorem sum_zero {α : Type} : ∀ bs : List α, (bs.map fun _ => (0 : Int)).sum = 0
  | [] => rfl
  | b :: bs => by simp [sum_zero bs]
theorem sum_comm {α β : Type} (g : α → β → Int) (bs : List β) : ∀ as : List α, (as.map fun a => (bs.map fun b => g a b).sum).sum = (bs.map fun b => (as.map fun a => g a b).sum).sum
  | [] => by simp [sum_zero]
  | a :: as => by
    simp only [List.map_cons, List.sum_cons, sum_add, sum_comm g bs as]
end Vm

namespace Vm
open PySem PySem.Spec PyProof.Rows L2
/-! ## more words -/
section
variable {K : Kz}
/-- list * int, its items borrowed -/
def semRepB : List W → Option W
  | [.lst xs, .int k] => if -(2 ^ 63) ≤ k ∧ k < 2 ^ 63 ∧ xs.length * k.toNat ≤ sizeLine then some (.lst (List.replicate k.toNat xs).flatten) else none
  | _ => none
theorem vws_repB {H : Hp} {ws : List W} {vs : List V} {fp : List Addr} (r : Vws K H ws vs fp) : ∀ n : Nat, Vws K H (List.replicate n ws).flatten (List.replicate n vs).flatten (List.replicate n fp).flatten
  | 0 => by simp [Vws]
  | n + 1 => by
    simp only [List.replicate_succ, List.flatten_cons]
    exact Vws.append r (vws_repB r n)
theorem loc_repB : LocB K (R2f rRep) semRepB := by
  intro vs ws fps H Q w hv hs k
  unfold semRepB at hs
  split at hs
  · obtain ⟨x, y, f1, f2, rfl, rfl, r1, r2⟩ := vws2 hv
    obtain ⟨l, xs, g1, rfl, q1, s1, rfl⟩ := vwLst r1
    obtain ⟨rfl, rfl⟩ := vwInt r2
    split at hs
    · rename_i hz
      cases hs
      refine ⟨_, _, rfl, l, _, xs, rfl, rfl, s1, hz.1, hz.2.1, by rw [q1.length]; exact hz.2.2, fun p hp0 => ?_⟩
      refine k _ _ (p :: _) (Same.upd hp0) (mkNew hp0 (vws_repB q1 _)) fun a ha => ?_
      rcases List.mem_cons.mp ha with rfl | ha
      · exact .inl hp0
      · refine .inr ?_
        obtain ⟨l2, h1, h2⟩ := List.mem_flatten.mp ha
        rw [(List.mem_replicate.mp h1).2] at h2
        simp [h2]
    · cases hs
  · cases hs
/-- flat values -/
def fl? : W → Option V
  | .non => some .non
  | .bl b => some (.bl b)
  | .int i => some (.int i)
  | .str x => some (.str x)
  | _ => none
def fls? : List W → Option (List V)
  | [] => some []
  | w :: ws => (fl? w).bind fun v => (fls? ws).map (v :: ·)
theorem fl_eq {H : Hp} {w : W} {u v : V} {fp : List Addr} (h : fl? w = some u) (hv : Vw K H w v fp) : v = u ∧ flatV u = true := by
  cases w with
  | non => simp [fl?] at h; subst h; obtain ⟨rfl, _⟩ := vwNon hv; exact ⟨rfl, rfl⟩
  | bl b => simp [fl?] at h; subst h; obtain ⟨rfl, _⟩ := vwBl hv; exact ⟨rfl, rfl⟩
  | int b => simp [fl?] at h; subst h; obtain ⟨rfl, _⟩ := vwInt hv; exact ⟨rfl, rfl⟩
  | str b => simp [fl?] at h; subst h; obtain ⟨rfl, _⟩ := vwStr hv; exact ⟨rfl, rfl⟩
  | tup _ => simp [fl?] at h
  | lst _ => simp [fl?] at h
  | scr _ => simp [fl?] at h
  | dct _ _ => simp [fl?] at h
  | ins _ _ _ => simp [fl?] at h
theorem fls_eq {H : Hp} : ∀ {ws : List W} {us vs : List V} {fp : List Addr}, fls? ws = some us → Vws K H ws vs fp → vs = us ∧ us.all flatV = true
  | [], us, vs, fp, h, hv => by
    simp [fls?] at h
    simp only [Vws] at hv
    subst h
    exact ⟨hv.1, rfl⟩
  | w :: ws, us, vs, fp, h, hv => by
    simp only [fls?, Option.bind_eq_some_iff, Option.map_eq_some_iff] at h
    obtain ⟨u, h1, us', h2, rfl⟩ := h
    simp only [Vws] at hv
    obtain ⟨v, vs', f1, f2, rfl, rfl, r1, r2⟩ := hv
    obtain ⟨rfl, g1⟩ := fl_eq h1 r1
    obtain ⟨rfl, g2⟩ := fls_eq h2 r2
    exact ⟨rfl, by simp [g1, g2]⟩
def semIn (neg : Bool) : List W → Option W
  | [x, .lst ws] => (fl? x).bind fun u => (fls? ws).map fun us => .bl (if neg then !inV u us else inV u us)
  | [x, .tup ws] => (fl? x).bind fun u => (fls? ws).map fun us => .bl (if neg then !inV u us else inV u us)
  | _ => none
theorem loc_in {neg : Bool} : LocF K (R2f (rIn K neg)) (semIn neg) := by
  intro vs ws fps H Q w hv hs k
  unfold semIn at hs
  split at hs
  · obtain ⟨x, y, f1, f2, rfl, rfl, r1, r2⟩ := vws2 hv
    obtain ⟨l, xs, g1, rfl, q1, s1, rfl⟩ := vwLst r2
    simp only [Option.bind_eq_some_iff, Option.map_eq_some_iff] at hs
    obtain ⟨u, h1, us, h2, rfl⟩ := hs
    obtain ⟨rfl, e1⟩ := fl_eq h1 r1
    obtain ⟨rfl, e2⟩ := fls_eq h2 q1
    exact ⟨_, _, rfl, l, _, rfl, .inl (SqL.of s1), e1, e2, k _ H [] (fun _ _ h => h) mkBl List.nodup_nil fun a ha => by cases ha⟩
  · obtain ⟨x, y, f1, f2, rfl, rfl, r1, r2⟩ := vws2 hv
    obtain ⟨l, xs, rfl, s1, q1⟩ := vwTup r2
    simp only [Option.bind_eq_some_iff, Option.map_eq_some_iff] at hs
    obtain ⟨u, h1, us, h2, rfl⟩ := hs
    obtain ⟨rfl, e1⟩ := fl_eq h1 r1
    obtain ⟨rfl, e2⟩ := fls_eq h2 q1
    exact ⟨_, _, rfl, l, _, rfl, .inr s1, e1, e2, k _ H [] (fun _ _ h => h) mkBl List.nodup_nil fun a ha => by cases ha⟩
  · cases hs
def semBits : List W → Option W
  | [.int i] => some (.int (Builtin.Int.intBits i : Nat))
  | _ => none
end
section
variable {X : Cx} {C : Ctx} {D : Wd} {sc : Scope} {N : List Str} {k : Nat} {Gx : Gam} {ip : Option Nat} {fnp : Str → Bool} {ht : Bool}
variable {G G1 G2 G3 G' : Gam} {pins : List Nat} {e a b c : Expr} {es rest : List Expr} {mo mo' : Mo} {ms : List Am} {gs : Sl → Res (List W)} {f f2 : Sl → Res W} {pos p p2 apos : Pos}
theorem Gd.repB (g : Gd ht X C D sc N k Gx ip fnp) (ja : JA X C G pins [a, b] ms G' gs) (hp : plain ms = true := by rfl) : JE X C G pins (.BinOp a .Mult b pos) (.B (deps ms)) G' (fPrim gs semRepB) := je_binB op_rep ja hp loc_repB
theorem Gd.inS (g : Gd ht X C D sc N k Gx ip fnp) (ja : JA X C G pins [a, b] ms G' gs) (hm : behindInMarks .In b = false := by rfl) (hp : plain ms = true := by rfl) : JE X C G pins (.Compare a [.In] [b] pos) .O G' (fPrim gs (semIn false)) := je_cmp op_in_seq hm ja hp (by rw [g.hK]; exact loc_in)
theorem Gd.notInS (g : Gd ht X C D sc N k Gx ip fnp) (ja : JA X C G pins [a, b] ms G' gs) (hm : behindInMarks .NotIn b = false := by rfl) (hp : plain ms = true := by rfl) : JE X C G pins (.Compare a [.NotIn] [b] pos) .O G' (fPrim gs (semIn true)) := je_cmp op_notIn_seq hm ja hp (by rw [g.hK]; exact loc_in)
theorem Gd.inST (g : Gd ht X C D sc N k Gx ip fnp) (ja : JA X C G pins [a, b] ms G' gs) (hm : behindInMarks .In b = false := by rfl) (hp : plain ms = true := by rfl) : JT X C G pins (.Compare a [.In] [b] pos) G' (fBl (fPrim gs (semIn false))) := jt_cmp op_in_seq hm ja hp (by rw [g.hK]; exact loc_in)
theorem Gd.notInST (g : Gd ht X C D sc N k Gx ip fnp) (ja : JA X C G pins [a, b] ms G' gs) (hm : behindInMarks .NotIn b = false := by rfl) (hp : plain ms = true := by rfl) : JT X C G pins (.Compare a [.NotIn] [b] pos) G' (fBl (fPrim gs (semIn true))) := jt_cmp op_notIn_seq hm ja hp (by rw [g.hK]; exact loc_in)
theorem loc_bits {K : Kz} : LocF K (R1f fun x H Q => ∃ i, x = .int i ∧ Q (.int (Builtin.Int.intBits i : Nat)) H) semBits := by
  intro vs ws fps H Q w hv hs k
  unfold semBits at hs
  split at hs
  · obtain ⟨x, rfl, r⟩ := vws1 hv
    obtain ⟨rfl, _⟩ := vwInt r
    cases hs
    exact ⟨_, rfl, _, rfl, k _ H [] (Same.refl H) mkInt List.nodup_nil fun a ha => by cases ha⟩
  · cases hs
theorem Gd.bits (g : Gd ht X C D sc N k Gx ip fnp) (ja : JA X C G pins [a] ms G' gs) (hbase : attributeBase a "bit_length" X.env (eval a X.env) = eval a X.env := by rfl) (hline : (apos.endLine == pos.line) = true := by rfl) (hp : plain ms = true := by rfl) : JE X C G pins (.Call (.Attribute a "bit_length" apos) [] [] pos) .O G' (fPrim gs semBits) := by
  obtain ⟨ta, h1, _, h3⟩ := ja1 ja
  exact je_fresh (R := R1f fun x H Q => ∃ i, x = .int i ∧ Q (.int (Builtin.Int.intBits i : Nat)) H) (pe_bits h1 hbase hline) (fun σ H Q q => h3 σ H _ _ (fun x H1 ⟨_, e, z⟩ => by cases e; exact z) q) hp loc_bits
theorem Gd.softE (g : Gd ht X C D sc N k Gx ip fnp) (h : JE X C G pins e mo G1 f) (hm : mle N.length mo mo' = true := by rfl) (hg : gle G' G1 = true := by rfl) : JE X C G pins e mo' G' f := je_soft h (by rw [g.en]; exact hm) hg
/-- a slot becomes a borrowed one -/
theorem jb_softM {s : Sx} {sts : List Stmt} {f : Sl → Res Fl} (i : Nat) (d : List Nat) {mo : Mo} (h : JB X C s G pins sts G1 f) (h1 : G1[i]? = some (some mo)) (hm : mle C.n mo (.B d) = true) : JB X C s G pins sts (G1.set i (some (.B d))) f := PSs.imp h fun D σ H ⟨cs, S, R, p, pp, o⟩ => by
  refine ⟨cs, S, R, p, pp, ?_⟩
  revert o
  cases f S with
  | err => exact id
  | exc x S' => exact id
  | ok fl S1 =>
    cases fl with
    | nx =>
      intro o σ' H' cs' R' l T g
      obtain ⟨c, hc, hcm⟩ := g.2 i mo h1
      have hi : i < C.n := Nat.lt_of_lt_of_le (List.getElem?_eq_some_iff.mp h1).1 g.1
      have hil : i < cs'.length := (List.getElem?_eq_some_iff.mp hc).1
      have hm : (mo.dep.all (d.contains ·) && d.all (decide <| · < C.n)) = true := by cases mo <;> exact hm
      rw [Bool.and_eq_true] at hm
      have sft : Cle C.n (some ⟨c.v, c.w, .B d, c.fp⟩) (some c) := by
        have : c = ⟨c.v, c.w, mo, c.fp⟩ := by rw [← hcm]
        rw [this]
        exact .soft (fun x hx => by simpa using List.all_eq_true.mp hm.1 x hx) fun x hx => by simpa using List.all_eq_true.mp hm.2 x hx
      refine o σ' H' (cs'.set i (some ⟨c.v, c.w, .B d, c.fp⟩)) (R'.weak (by rw [List.length_set]) (fun j x y q1 q2 => ?_) R'.ls R'.lσ fun j c hj q => ⟨rfl, rfl⟩) (by rw [List.length_set]; exact l) (fun j h1 h2 => ?_) ⟨by rw [List.length_set]; exact g.1, fun j m q => ?_⟩
      · by_cases hj : j = i
        · subst hj
          rw [List.getElem?_set_self hil] at q1
          rw [hc] at q2
          cases q1; cases q2
          exact sft
        · rw [List.getElem?_set_ne (Ne.symm hj)] at q1
          rw [q1] at q2; cases q2
          exact .same
      · rw [List.getElem?_set_ne (by omega)]
        exact T j h1 h2
      · by_cases hj : j = i
        · subst hj
          rw [List.getElem?_set_self (List.getElem?_eq_some_iff.mp h1).1] at q
          cases q
          exact ⟨_, List.getElem?_set_self hil, rfl⟩
        · rw [List.getElem?_set_ne (Ne.symm hj)] at q
          rw [List.getElem?_set_ne (Ne.symm hj)]
          exact g.2 j m q
    | bk => exact id
    | ct => exact id
    | rt w => exact id
theorem Gd.soft (g : Gd ht X C D sc N k Gx ip fnp) {s : Sx} {sts : List Stmt} {f : Sl → Res Fl} (i : Nat) (d : List Nat) {mo : Mo} (h : JB X C s G pins sts G1 f) (h1 : G1[i]? = some (some mo) := by rfl) (hm : mle N.length mo (.B d) = true := by rfl) : JB X C s G pins sts (G1.set i (some (.B d))) f :=
  jb_softM i d h h1 (by rw [g.en]; exact hm)
end
end Vm

namespace Vm
open PySem PySem.Spec PyProof.Rows L2
/-! ## still more words -/
/-- isinstance(x, (T, U)) -/
def semIsi2 (T U : String) : List W → Option W
  | [w] => (tyName w).bind fun t => (kitB t T).bind fun b1 => (kitB t U).map fun b2 => .bl (b1 || b2)
  | _ => none
def semRg1 : List W → Option W
  | [.int n] => if 0 ≤ n ∧ n ≤ 16777216 then some (.lst (upFrom 0 n.toNat)) else none
  | _ => none
def semRg2 : List W → Option W
  | [.int m, .int n] => if 0 ≤ m ∧ m ≤ 16777216 ∧ 0 ≤ n ∧ n ≤ 16777216 then some (.lst (upFrom m (n - m).toNat)) else none
  | _ => none
def semTupC : List W → Option W
  | [.lst ws] => if W.pure.all ws = true then some (.tup ws) else none
  | [.scr ws] => if W.pure.all ws = true then some (.tup ws) else none
  | [.tup ws] => if W.pure.all ws = true then some (.tup ws) else none
  | _ => none
section
variable {K : Kz}
theorem vws_up {H : Hp} (a : Int) : ∀ n : Nat, Vws K H (upFrom a n) ((List.range n).map fun i => V.int (a + (i : Nat))) [] := fun n => by
  have e : upFrom a n = ((List.range n).map fun (i : Nat) => a + (i : Int)).map W.int := by
    unfold upFrom
    rw [List.map_map]
    rfl
  have e2 : ((List.range n).map fun i => V.int (a + (i : Nat))) = ((List.range n).map fun (i : Nat) => a + (i : Int)).map V.int := by
    rw [List.map_map]
    rfl
  rw [e, e2]
  exact mkInts
theorem mkTupF {H : Hp} {p : Addr} {ws : List W} {vs : List V} (hp : H p = none) (h : Vws K H ws vs []) : Vw K (upd H p (.tup vs)) (.tup ws) (.ref p) [] := by
  simp only [Vw]
  exact ⟨p, vs, rfl, .inl (.inl upd_same), h.same (Same.upd hp)⟩
end
section
variable {X : Cx} {C : Ctx} {D : Wd} {sc : Scope} {N : List Str} {k : Nat} {Gx : Gam} {ip : Option Nat} {fnp : Str → Bool} {ht : Bool} {s : Sx}
variable {G G1 G2 G3 G' : Gam} {pins : List Nat} {e a b c ix : Expr} {es rest : List Expr} {mo mo' mi : Mo} {ms : List Am} {gs : Sl → Res (List W)} {f f2 fe fi : Sl → Res W} {pos p p2 p3 apos npos tpos cpos : Pos}
theorem Gd.isi2 (g : Gd ht X C D sc N k Gx ip fnp) (T U : String) {x y : Str} {j : Nat} {tp : Pos} (hm : D.mg "isinstance" = none) (hx : D.mg x = none) (hy : D.mg y = none) (ja : JA X C G pins [a] ms G' gs) (hb : bootBuiltins x = some (.type T) := by decide +kernel) (hb2 : bootBuiltins y = some (.type U) := by decide +kernel)
    (hl : sc.names.lookup ("isinstance" : Str) = some .globalImplicit := by rfl) (hl2 : sc.names.lookup x = some .globalImplicit := by rfl) (hl3 : sc.names.lookup y = some .globalImplicit := by rfl)
    (hp : plain ms = true := by rfl) (hn : x ≠ "__name__" := by decide +kernel) (hd : (x == ("__debug__" : Str)) = false := by decide +kernel) (hn2 : y ≠ "__name__" := by decide +kernel) (hd2 : (y == ("__debug__" : Str)) = false := by decide +kernel) :
    JE X C G pins (.Call (.Name "isinstance" p) [a, .Tuple [.Name x p2, .Name y p3] j tp] [] pos) .O G' (fPrim gs (semIsi2 T U)) := by
  obtain ⟨ta, h1, mono, h3⟩ := ja1 ja
  have ns := (ja.tail (pos := pos) (env := X.env)).1
  have pt : PE X (.Tuple [.Name x p2, .Name y p3] j tp) (tTup (tCons (tC (.ty T)) (tCons (tC (.ty U)) tNil))) := pe_tup (pa_cons (pe_bltn (g.gl hl2) (g.mgn hx) hb rfl hn hd) (pa_cons (pe_bltn (g.gl hl3) (g.mgn hy) hb2 rfl hn2 hd2) pa_nil (star_cons (e := .Name y p3) rfl)) (star_cons (e := .Name x p2) rfl))
  have pa : PA X [a, .Tuple [.Name x p2, .Name y p3] j tp] (tCons ta (tCons (tTup (tCons (tC (.ty T)) (tCons (tC (.ty U)) tNil))) tNil)) := pa_cons h1 (pa_cons pt pa_nil (star_cons (e := .Tuple [.Name x p2, .Name y p3] j tp) rfl)) (star_cons ns)
  refine je_fresh (R := fun vs H Q => ∃ x0, vs = [x0] ∧ ∀ q, H q = none → rIsiT C.K [x0, .ref q] (upd H q (.tup [.ty T, .ty U])) Q) (sem := semIsi2 T U) (pe_callB call_isiT (g.gl hl) (g.mgn hm) (by decide +kernel) pa (by decide +kernel) (by decide +kernel) (star_cons ns) (by rw [star_cons (e := .Tuple [.Name x p2, .Name y p3] j tp) rfl]; rfl)) (fun σ H Q q => ?_) hp ?_
  · refine h3 σ H _ _ (fun x0 H1 z => ?_) q
    obtain ⟨y0, e, z⟩ := z
    cases e
    refine ⟨by rw [sizeLine_eq]; exact Nat.le_of_ble_eq_true rfl, fun q hq => ?_⟩
    rw [g.hK]
    exact z q hq
  · intro vs ws fps H Q w hv hs kk
    unfold semIsi2 at hs
    split at hs
    · obtain ⟨x0, rfl, r⟩ := vws1 hv
      simp only [Option.bind_eq_some_iff, Option.map_eq_some_iff] at hs
      obtain ⟨t, e1, b1, e2, b2, e3, rfl⟩ := hs
      refine ⟨x0, rfl, fun q hq => ⟨x0, q, [.ty T, .ty U], .type t, [.type T, .type U], b1 || b2, rfl, upd_same, .cons (.ty T) (.cons (.ty U) .nil), tyX_of (r.same (Same.upd hq)) e1, ?_, kk _ _ [] (Same.upd hq) mkBl List.nodup_nil fun a ha => by cases ha⟩⟩
      refine kitAny_cons (kit_ty e2) (fun hb => ?_) (fun hb => by rw [hb]; rfl)
      rw [hb, Bool.false_or]
      exact kitAny_cons (kit_ty e3) (fun hb2 => by rw [hb2]; exact kitAny_nil) (fun hb2 => hb2)
    · cases hs
theorem Gd.listR1 (g : Gd false X C D sc N k Gx ip fnp) {pos2 : Pos} (hm : D.mg "list" = none) (hm2 : D.mg "range" = none) (ja : JA X C G pins [a] ms G' gs) (hl : sc.names.lookup ("list" : Str) = some .globalImplicit := by rfl) (hl2 : sc.names.lookup ("range" : Str) = some .globalImplicit := by rfl) (hp : plain ms = true := by rfl) :
    JE X C G pins (.Call (.Name "list" p) [.Call (.Name "range" p2) [a] [] pos2] [] pos) .O G' (fPrim gs semRg1) := by
  obtain ⟨ta, h1, mono, h3⟩ := ja1 ja
  have ns := (ja.tail (pos := pos2) (env := X.env)).1
  refine je_fresh (R := fun vs H Q => ∃ n, vs = [V.int n] ∧ RgOk 0 n ∧ ∀ q, H q = none → Q (.ref q) (upd H q (.lst (rgV 0 n)))) (sem := semRg1) (pe_listRg (g.calm rfl) (g.gl hl) (g.mgn hm) (prg_1 (g.gl hl2) (g.mgn hm2) h1 (star_cons ns))) (fun σ H Q q => ?_) hp ?_
  · refine h3 σ H _ _ (fun x0 H1 z => ?_) q
    obtain ⟨n, e, z⟩ := z
    cases e
    exact ⟨n, rfl, z⟩
  · intro vs ws fps H Q w hv hs kk
    unfold semRg1 at hs
    split at hs
    · obtain ⟨x0, rfl, r⟩ := vws1 hv
      obtain ⟨rfl, _⟩ := vwInt r
      split at hs
      · rename_i hz
        cases hs
        refine ⟨_, rfl, .of_le (by omega) hz.2 (by omega) hz.1, fun q hq => kk _ _ [q] (Same.upd hq) (mkNew hq ?_) (by simp) fun b hb => by rw [List.mem_singleton.mp hb]; exact ⟨hq, _, upd_same, rfl⟩⟩
        unfold rgV
        rw [Int.sub_zero]
        exact vws_up 0 _
      · cases hs
    · cases hs
theorem Gd.listR2 (g : Gd false X C D sc N k Gx ip fnp) {pos2 : Pos} (hm : D.mg "list" = none) (hm2 : D.mg "range" = none) (ja : JA X C G pins [a, b] ms G' gs) (hnb : notStar b = true := by rfl) (hl : sc.names.lookup ("list" : Str) = some .globalImplicit := by rfl) (hl2 : sc.names.lookup ("range" : Str) = some .globalImplicit := by rfl) (hp : plain ms = true := by rfl) :
    JE X C G pins (.Call (.Name "list" p) [.Call (.Name "range" p2) [a, b] [] pos2] [] pos) .O G' (fPrim gs semRg2) := by
  obtain ⟨ta, tb, h1, h2, _, _, h3⟩ := ja2 ja
  have ns := (ja.tail (pos := pos2) (env := X.env)).1
  refine je_fresh (R := fun vs H Q => ∃ m n, vs = [V.int m, V.int n] ∧ RgOk m n ∧ ∀ q, H q = none → Q (.ref q) (upd H q (.lst (rgV m n)))) (sem := semRg2) (pe_listRg (g.calm rfl) (g.gl hl) (g.mgn hm) (prg_2 (g.gl hl2) (g.mgn hm2) h1 h2 (star_cons ns) (star_cons hnb) (by rw [star_cons hnb]; rfl))) (fun σ H Q q => ?_) hp ?_
  · refine h3 σ H _ _ (fun x0 y0 H1 z => ?_) q
    obtain ⟨m, n, e, z⟩ := z
    cases e
    exact ⟨m, n, rfl, rfl, z⟩
  · intro vs ws fps H Q w hv hs kk
    unfold semRg2 at hs
    split at hs
    · obtain ⟨x0, y0, f1, f2, rfl, rfl, r1, r2⟩ := vws2 hv
      obtain ⟨rfl, rfl⟩ := vwInt r1
      obtain ⟨rfl, rfl⟩ := vwInt r2
      split at hs
      · rename_i hz
        cases hs
        refine ⟨_, _, rfl, .of_le hz.1 hz.2.2.2 hz.2.1 hz.2.2.1, fun q hq => kk _ _ [q] (Same.upd hq) (mkNew hq ?_) (by simp) fun b hb => by rw [List.mem_singleton.mp hb]; exact ⟨hq, _, upd_same, rfl⟩⟩
        unfold rgV
        exact vws_up _ _
      · cases hs
    · cases hs
theorem Gd.tupC (g : Gd ht X C D sc N k Gx ip fnp) (hm : D.mg "tuple" = none) (ja : JA X C G pins [a] ms G' gs) (hl : sc.names.lookup ("tuple" : Str) = some .globalImplicit := by rfl) (hp : plain ms = true := by rfl) :
    JE X C G pins (.Call (.Name "tuple" p) [a] [] pos) .O G' (fPrim gs semTupC) := by
  obtain ⟨ta, h1, mono, h3⟩ := ja1 ja
  have ns := (ja.tail (pos := pos) (env := X.env)).1
  refine je_fresh (R := fun vs H Q => ∃ x0, vs = [x0] ∧ kTup C.K x0 H Q) (sem := semTupC) (pe_tupleOf (g.gl hl) (g.mgn hm) h1 (star_cons ns)) (fun σ H Q q => ?_) hp ?_
  · refine h3 σ H _ _ (fun x0 H1 z => ?_) q
    obtain ⟨y0, e, z⟩ := z
    cases e
    rw [g.hK]
    exact z
  · intro vs ws fps H Q w hv hs kk
    unfold semTupC at hs
    split at hs
    · obtain ⟨x0, rfl, r⟩ := vws1 hv
      obtain ⟨l, xs, g1, rfl, q1, s1, rfl⟩ := vwLst r
      split at hs
      · rename_i hz
        cases hs
        have e := Vws.of_pure hz q1
        subst e
        exact ⟨_, rfl, .inl ⟨l, xs, rfl, SqL.of s1, fun q hq => kk _ _ [] (Same.upd hq) (mkTupF hq q1) List.nodup_nil fun a ha => by cases ha⟩⟩
      · cases hs
    · obtain ⟨x0, rfl, r⟩ := vws1 hv
      obtain ⟨l, xs, rfl, q1, s1, rfl⟩ := vwScr r
      split at hs
      · cases hs
        exact ⟨_, rfl, .inl ⟨l, xs, rfl, s1.sq, fun q hq => kk _ _ [] (Same.upd hq) (mkTupF hq q1) List.nodup_nil fun a ha => by cases ha⟩⟩
      · cases hs
    · obtain ⟨x0, rfl, r⟩ := vws1 hv
      have r0 := r
      obtain ⟨l, xs, rfl, s1, q1⟩ := vwTup r
      split at hs
      · rename_i hz
        cases hs
        have e := Vws.of_pure hz q1
        subst e
        exact ⟨_, rfl, .inr ⟨l, xs, rfl, s1, kk _ _ [] (Same.refl H) r0 List.nodup_nil fun a ha => by cases ha⟩⟩
      · cases hs
    · cases hs
/-- x op= e, of ints -/
def fAug (op : Int → Int → Int) (i : Nat) (fe : Sl → Res W) : Sl → Res Fl := fun S => match S[i]? with
  | some (some (.int a)) => (fe S).bind fun w S1 => match w with
    | .int b => .ok .nx (S1.set i (some (.int (op a b))))
    | _ => .err
  | _ => .err
theorem js_aug {i : Nat} {x : Str} {o : Operator} {op : Int → Int → Int} {m0 : Mo} (ho : PIp X o (ipI op)) (he : JE X C G pins e mo G1 fe) (hk : G[i]? = some (some m0)) (hN : X.N.Nodup) (hi : X.N[i]? = some x) (hx : Loc X.env.scope x) (hf : X.fn x = true ∨ X.env.scope.names.lookup x = some .local) (hin : i < C.n) (hG : i < G1.length) (hip : ipFree C i) :
    JS X C s G pins (.AugAssign (.Name x npos) o e pos) (G1.set i (some .O)) (fAug op i fe) := PS.imp (ps_aug hN hi hx he ho hf) fun D σ H ⟨cs0, S0, R0, p0, pp0, o⟩ => by
  have ln := R0.ln
  obtain ⟨c0, hc0, hm0⟩ := p0.2 i m0 hk
  obtain ⟨hσ0, hS0⟩ := R0.slot i c0 hin hc0
  unfold fAug at o
  rw [hS0] at o
  cases hw0 : c0.w with
  | int a =>
    rw [hw0] at o
    have o : OutS C cs0.length cs0 s D (G1.set i (some .O)) ((fe S0).bind fun w S1 => match w with
      | .int b => .ok .nx (S1.set i (some (.int (op a b))))
      | _ => .err) := o
    have v0 := R0.view i c0 hc0
    rw [hw0] at v0
    obtain ⟨ev, _⟩ := vwInt v0
    refine ⟨.int a, by rw [hσ0, ev], cs0, S0, R0, p0, pp0, ?_⟩
    cases hfe : fe S0 with
    | err => rw [hfe] at o; exact o
    | exc y S' => rw [hfe] at o; exact o σ
    | ok w S1 =>
      rw [hfe] at o
      intro v fp H1 cs1 R1 l1 t1 T1 g1
      cases w with
      | int b =>
        obtain ⟨rfl, _⟩ := vwInt (R1.view _ _ t1)
        refine ⟨a, b, rfl, rfl, ?_⟩
        have R2 := R1.repl (L := cs0.length) ln (by omega) (Same.refl H1) (c := ⟨.int (op a b), .int (op a b), .O, []⟩) mkInt (fun x hx => by cases hx) (fun _ => ⟨List.nodup_nil, fun a ha => by cases ha⟩) (fun ds z => by cases z)
        have lt : (cs1.take cs0.length).length = cs0.length := by rw [List.length_take]; omega
        obtain ⟨R3, l3, T3, g3⟩ := rel_store (c := ⟨.int (op a b), .int (op a b), .O, []⟩) R2 (g1.take ln) ln (by rw [List.length_append, lt]; rfl) (by rw [List.getElem?_append_right (by omega), lt]; simp) hin hG hip
        refine o _ _ _ R3 l3 (fun j h1 h2 => ?_) g3
        rw [T3 j h1 h2, List.getElem?_append_left (by omega), List.getElem?_take_of_lt h2]
        exact T1 j h1 h2
      | non => exact o.elim
      | bl _ => exact o.elim
      | str _ => exact o.elim
      | tup _ => exact o.elim
      | lst _ => exact o.elim
      | scr _ => exact o.elim
      | dct _ _ => exact o.elim
      | ins _ _ _ => exact o.elim
  | non => rw [hw0] at o; exact o.elim
  | bl _ => rw [hw0] at o; exact o.elim
  | str _ => rw [hw0] at o; exact o.elim
  | tup _ => rw [hw0] at o; exact o.elim
  | lst _ => rw [hw0] at o; exact o.elim
  | scr _ => rw [hw0] at o; exact o.elim
  | dct _ _ => rw [hw0] at o; exact o.elim
  | ins _ _ _ => rw [hw0] at o; exact o.elim
theorem Gd.aug (g : Gd ht X C D sc N k Gx ip fnp) (i : Nat) {x : Str} {o : Operator} {op : Int → Int → Int} {m0 : Mo} (ho : PIp X o (ipI op)) (he : JE X C G pins e mo G1 fe) (hk : G[i]? = some (some m0) := by rfl) (hN : N[i]? = some x := by rfl) (hx : Loc sc x := by first | exact Or.inl rfl | exact Or.inr rfl) (hf : fnp x = true ∨ sc.names.lookup x = some .local := by first | exact Or.inl rfl | exact Or.inr rfl) (hip : ip ≠ some i := by decide) (hG : i < G1.length := by decide) :
    JS X C s G pins (.AugAssign (.Name x npos) o e pos) (G1.set i (some .O)) (fAug op i fe) :=
  let h := g.nmOk hN hx hf hip
  js_aug ho he hk h.nd h.ix h.loc h.fn h.lt hG h.ip
/-- o[i], a list -/
theorem get_list : PGet X (rIxL X.K) := by
  intro pins s σ H x y v u Q I rx ry h
  obtain ⟨p, xs, i, z, rfl, rfl, hq, he, q⟩ := h
  cases rx
  obtain ⟨t, rfl⟩ := ry
  obtain ⟨its, r, pl, hz⟩ := I.list hq
  obtain ⟨j, h1, h2, h3, h4, h5⟩ := atI_get he
  obtain ⟨w, ew, rw'⟩ := r.get h2
  have hl := r.length
  have hn := line63
  have fin : EP X pins σ Q w s := ⟨z, H, I, rw', q⟩
  by_cases h0 : 0 ≤ i
  · have hj : i.toNat = j := by
      rw [seqIndex_of h0 h5] at h1
      exact Option.some.inj h1
    exact wpAny_getItem_list pl.isList h0 (by omega) (by rw [hj]; simpa using ew) fin
  · have hj : (i + (its.toArray.size : Int)).toNat = j := by
      rw [seqIndex_neg (by omega) h4] at h1
      rw [List.size_toArray, ← hl]
      exact Option.some.inj h1
    exact wpAny_getItem_list_neg pl.isList (by omega) (by rw [List.size_toArray] <;> omega) (by omega) (by rw [hj]; simpa using ew) fin
/-- k[ix] op= e, of ints -/
def fAugIx (op : Int → Int → Int) (k : Nat) (fi fe : Sl → Res W) : Sl → Res Fl := fun S => match S[k]? with
  | some (some (.lst _)) => (fi S).bind fun wi S1 => match wi with
    | .int i => match S1[k]? with
      | some (some (.lst ws)) => match (ixN ws.length i).bind (ws[·]?) with
        | some (.int a) => (fe S1).bind fun w S2 => match w with
          | .int b => match S2[k]? with
            | some (some (.lst us)) => match ixN us.length i with
              | some j => .ok .nx (S2.set k (some (.lst (us.set j (.int (op a b))))))
              | none => .err
            | _ => .err
          | _ => .err
        | _ => .err
      | _ => .err
    | _ => .err
  | _ => .err
theorem js_augix {q : Nat} {x : Str} {o : Operator} {op : Int → Int → Int} (hK : X.K = C.K) (ho : PIp X o (ipI op)) (hx : PE X (.Name x npos) (tVar q)) (hi : JE X C G pins ix mi G1 fi) (he : JE X C G1 pins e mo G2 fe) (hk0 : G[q]? = some (some .O)) (hk1 : G1[q]? = some (some .O)) (hk2 : G2[q]? = some (some .O)) (hp : pins.contains q = false)
    (hmi : mi = .O)
    (ha : ∀ ov iv new, augStore ix ov iv new = (do holding [new, ov, iv] (setItem ov iv new); release [new, ov, iv] []; pure .next)) :
    JS X C s G pins (.AugAssign (.Subscript (.Name x npos) ix tpos) o e pos) (killG q G2) (fAugIx op q fi fe) := PS.imp (ps_augS hx hi get_list he ho set_list ha) fun D σ H ⟨cs0, S0, R0, p0, pp0, o⟩ => by
  subst hmi
  have ln := R0.ln
  obtain ⟨c0, hc0, hm0⟩ := p0.2 q _ hk0
  have kn : q < C.n := Nat.lt_of_lt_of_le (List.getElem?_eq_some_iff.mp hk0).1 p0.1
  obtain ⟨hσ0, hS0⟩ := R0.slot q c0 kn hc0
  refine ⟨c0.v, hσ0, cs0, S0, R0, p0, pp0, ?_⟩
  unfold fAugIx at o
  rw [hS0] at o
  cases hw0 : c0.w with
  | lst ws0 =>
    rw [hw0] at o
    have o : OutS C cs0.length cs0 s D (killG q G2) ((fi S0).bind fun wi S1 => match wi with
      | .int i => match S1[q]? with
        | some (some (.lst ws)) => match (ixN ws.length i).bind (ws[·]?) with
          | some (.int a) => (fe S1).bind fun w S2 => match w with
            | .int b => match S2[q]? with
              | some (some (.lst us)) => match ixN us.length i with
                | some j => .ok .nx (S2.set q (some (.lst (us.set j (.int (op a b))))))
                | none => .err
              | _ => .err
            | _ => .err
          | _ => .err
        | _ => .err
      | _ => .err) := o
    cases hfi : fi S0 with
    | err => rw [hfi] at o; exact o
    | exc y S' => rw [hfi] at o; exact o σ
    | ok wi S1 =>
      rw [hfi] at o
      intro vi fpi H1 cs1 R1 l1 t1 T1 g1
      cases wi with
      | int i =>
        obtain ⟨rfl, _⟩ := vwInt (R1.view _ _ t1)
        obtain ⟨c1, hc1, hm1⟩ := g1.2 q _ hk1
        obtain ⟨hσ1, hS1⟩ := R1.slot q c1 kn hc1
        have ev1 : c1.v = c0.v := by rw [hσ0] at hσ1; exact (Option.some.inj (Option.some.inj hσ1)).symm
        have o : OutS C cs0.length cs0 s D (killG q G2) (match S1[q]? with
          | some (some (.lst ws)) => match (ixN ws.length i).bind (ws[·]?) with
            | some (.int a) => (fe S1).bind fun w S2 => match w with
              | .int b => match S2[q]? with
                | some (some (.lst us)) => match ixN us.length i with
                  | some j => .ok .nx (S2.set q (some (.lst (us.set j (.int (op a b))))))
                  | none => .err
                | _ => .err
              | _ => .err
            | _ => .err
          | _ => .err) := o
        rw [hS1] at o
        cases hw1 : c1.w with
        | lst ws =>
          rw [hw1] at o
          have o : OutS C cs0.length cs0 s D (killG q G2) (match (ixN ws.length i).bind (ws[·]?) with
            | some (.int a) => (fe S1).bind fun w S2 => match w with
              | .int b => match S2[q]? with
                | some (some (.lst us)) => match ixN us.length i with
                  | some j => .ok .nx (S2.set q (some (.lst (us.set j (.int (op a b))))))
                  | none => .err
                | _ => .err
              | _ => .err
            | _ => .err) := o
          have vk := R1.view q c1 hc1
          rw [hw1] at vk
          obtain ⟨a0, vs, fps, ea, ra, sa, ef⟩ := vwLst vk
          cases hat : (ixN ws.length i).bind (ws[·]?) with
          | none => rw [hat] at o; exact o.elim
          | some wa =>
            rw [hat] at o
            cases wa with
            | int a =>
              have o : OutS C cs0.length cs0 s D (killG q G2) ((fe S1).bind fun w S2 => match w with
                | .int b => match S2[q]? with
                  | some (some (.lst us)) => match ixN us.length i with
                    | some j => .ok .nx (S2.set q (some (.lst (us.set j (.int (op a b))))))
                    | none => .err
                  | _ => .err
                | _ => .err) := o
              obtain ⟨va, fa, hva, hva2, _⟩ := at_of ra hat
              obtain ⟨rfl, _⟩ := vwInt hva2
              refine ⟨a0, vs, i, _, by rw [← ev1]; exact ea, rfl, SqL.of sa, hva, ?_⟩
              -- the temps of the index go
              have R1t := R1.take (L := cs0.length) ln (by omega)
              have lt1 : (cs1.take cs0.length).length = cs0.length := by rw [List.length_take]; omega
              have T1t : Tsame C.n cs0.length cs0 (cs1.take cs0.length) := fun j h1 h2 => by rw [List.getElem?_take_of_lt h2]; exact T1 j h1 h2
              have g1t := g1.pop (L := cs0.length) ln (by omega)
              refine ⟨cs1.take cs0.length, S1, R1t, g1t, pp0.same lt1 T1t, ?_⟩
              cases hfe : fe S1 with
              | err => rw [hfe] at o; exact o
              | exc y S' => rw [hfe] at o; exact OutX.up (L := cs0.length) (o σ) T1t (by omega)
              | ok w S2 =>
                rw [hfe] at o
                intro v fp H2 cs2 R2 l2 t2 T2 g2
                cases w with
                | int b =>
                  obtain ⟨rfl, _⟩ := vwInt (R2.view _ _ t2)
                  refine ⟨a, b, rfl, rfl, ?_⟩
                  obtain ⟨c2, hc2, hm2⟩ := g2.2 q _ hk2
                  obtain ⟨hσ2, hS2⟩ := R2.slot q c2 kn hc2
                  have ev2 : c2.v = c0.v := by rw [hσ0] at hσ2; exact (Option.some.inj (Option.some.inj hσ2)).symm
                  have o : OutS C cs0.length cs0 s D (killG q G2) (match S2[q]? with
                    | some (some (.lst us)) => match ixN us.length i with
                      | some j => .ok .nx (S2.set q (some (.lst (us.set j (.int (op a b))))))
                      | none => .err
                    | _ => .err) := o
                  rw [hS2] at o
                  cases hw2 : c2.w with
                  | lst us =>
                    rw [hw2] at o
                    have o : OutS C cs0.length cs0 s D (killG q G2) (match ixN us.length i with
                      | some j => .ok .nx (S2.set q (some (.lst (us.set j (.int (op a b))))))
                      | none => .err) := o
                    cases hj : ixN us.length i with
                    | none => rw [hj] at o; exact o.elim
                    | some j =>
                      rw [hj] at o
                      have vk2 := R2.view q c2 hc2
                      rw [hw2] at vk2
                      obtain ⟨a2, vs2, fps2, ea2, ra2, sa2, ef2⟩ := vwLst vk2
                      have ndk := R2.nd q c2 hc2 hm2
                      rw [ef2] at ndk
                      have naf : a2 ∉ fps2 := (List.nodup_cons.mp ndk.1).1
                      refine ⟨a2, vs2, i, j, by rw [← ev2]; exact ea2, rfl, sa2, by rw [ra2.length]; exact hj, ?_⟩
                      have hmono : ∀ {l : List Addr}, a2 ∉ l → ∀ b' ∈ l, (upd H2 a2 (.lst (vs2.set j (.int (op a b))))) b' = H2 b' := fun {l} hn b' hb => upd_ne fun z => hn (z ▸ hb)
                      have tk : TupK H2 (upd H2 a2 (.lst (vs2.set j (.int (op a b))))) := fun b' ob h hm => by
                        rw [upd_ne (fun z => by rw [z, sa2] at h; cases h; cases hm)]
                        exact h
                      obtain ⟨fps', q1, q2, q3⟩ := Vws.set (j := j) (ra2.mono tk (hmono naf)) (mkInt (i := op a b)) (List.nodup_cons.mp ndk.1).2 List.nodup_nil fun b' _ hb => by cases hb
                      have q3 : ∀ b' ∈ fps', b' ∈ fps2 := fun b' hb => (q3 b' hb).elim id fun z => by cases z
                      have naf' : a2 ∉ fps' := fun z => naf (q3 a2 z)
                      obtain ⟨cs3, R3, l3, T3, g3⟩ := slot_set (L := cs0.length) (w' := .lst (us.set j (.int (op a b)))) (fp' := a2 :: fps') R2 g2 ln (by omega) kn hc2 hm2 (H' := upd H2 a2 (.lst (vs2.set j (.int (op a b))))) (fun b' ob h hn => by
                          rw [upd_ne (fun z => hn (by rw [ef2, z]; exact List.mem_cons_self))]; exact h)
                        (fun b' h => by
                          by_cases hz : b' = a2
                          · rw [hz, upd_same]; simp
                          · rw [upd_ne hz]; exact h)
                        (by rw [ea2]; simp only [Vw]; exact ⟨a2, _, fps', rfl, q1, upd_same, rfl⟩) (List.nodup_cons.mpr ⟨naf', q2⟩)
                        (fun b' hb => by
                          rcases List.mem_cons.mp hb with rfl | hb
                          · exact ⟨⟨_, upd_same, rfl⟩, .inr (.inl (by rw [ef2]; exact List.mem_cons_self))⟩
                          · have hne : b' ≠ a2 := fun z => naf' (z ▸ hb)
                            rw [upd_ne hne]
                            exact ⟨(ndk.2 b' (List.mem_cons_of_mem _ (q3 b' hb))).1, .inr (.inl (by rw [ef2]; exact List.mem_cons_of_mem _ (q3 b' hb)))⟩)
                        (fun jj d h1 h2 hd hz => by
                          rw [T2 jj h1 (by omega), List.getElem?_take_of_lt h2, T1 jj h1 h2] at hd
                          have := pp0 jj d h1 hd q hz
                          simp at hp
                          exact hp this)
                      exact o σ _ cs3 R3 l3 (fun jj h1 h2 => by rw [T3 jj h1 h2, T2 jj h1 (by omega)]; exact T1t jj h1 h2) g3
                  | non => rw [hw2] at o; exact o.elim
                  | bl _ => rw [hw2] at o; exact o.elim
                  | int _ => rw [hw2] at o; exact o.elim
                  | str _ => rw [hw2] at o; exact o.elim
                  | tup _ => rw [hw2] at o; exact o.elim
                  | scr _ => rw [hw2] at o; exact o.elim
                  | dct _ _ => rw [hw2] at o; exact o.elim
                  | ins _ _ _ => rw [hw2] at o; exact o.elim
                | non => exact o.elim
                | bl _ => exact o.elim
                | str _ => exact o.elim
                | tup _ => exact o.elim
                | lst _ => exact o.elim
                | scr _ => exact o.elim
                | dct _ _ => exact o.elim
                | ins _ _ _ => exact o.elim
            | non => exact o.elim
            | bl _ => exact o.elim
            | str _ => exact o.elim
            | tup _ => exact o.elim
            | lst _ => exact o.elim
            | scr _ => exact o.elim
            | dct _ _ => exact o.elim
            | ins _ _ _ => exact o.elim
        | non => rw [hw1] at o; exact o.elim
        | bl _ => rw [hw1] at o; exact o.elim
        | int _ => rw [hw1] at o; exact o.elim
        | str _ => rw [hw1] at o; exact o.elim
        | tup _ => rw [hw1] at o; exact o.elim
        | scr _ => rw [hw1] at o; exact o.elim
        | dct _ _ => rw [hw1] at o; exact o.elim
        | ins _ _ _ => rw [hw1] at o; exact o.elim
      | non => exact o.elim
      | bl _ => exact o.elim
      | str _ => exact o.elim
      | tup _ => exact o.elim
      | lst _ => exact o.elim
      | scr _ => exact o.elim
      | dct _ _ => exact o.elim
      | ins _ _ _ => exact o.elim
  | non => rw [hw0] at o; exact o.elim
  | bl _ => rw [hw0] at o; exact o.elim
  | int _ => rw [hw0] at o; exact o.elim
  | str _ => rw [hw0] at o; exact o.elim
  | tup _ => rw [hw0] at o; exact o.elim
  | scr _ => rw [hw0] at o; exact o.elim
  | dct _ _ => rw [hw0] at o; exact o.elim
  | ins _ _ _ => rw [hw0] at o; exact o.elim
theorem Gd.augix (g : Gd ht X C D sc N k Gx ip fnp) (q : Nat) {x : Str} {o : Operator} {op : Int → Int → Int} (ho : PIp X o (ipI op)) (hi : JE X C G pins ix .O G1 fi) (he : JE X C G1 pins e mo G2 fe) (hk0 : G[q]? = some (some .O) := by rfl) (hk1 : G1[q]? = some (some .O) := by rfl) (hk2 : G2[q]? = some (some .O) := by rfl) (hp : pins.contains q = false := by rfl)
    (hN : N[q]? = some x := by rfl) (hv : Vis sc x := by first | exact Or.inl rfl | exact Or.inr (Or.inl rfl) | exact Or.inr (Or.inr rfl)) (hd : (x == ("__debug__" : Str)) = false := by decide +kernel) (hcd : (x == ("__classdict__" : Str)) = false := by decide +kernel)
    (ha : ∀ ov iv new, augStore ix ov iv new = (do holding [new, ov, iv] (setItem ov iv new); release [new, ov, iv] []; pure .next) := by intros; rfl) :
    JS X C s G pins (.AugAssign (.Subscript (.Name x npos) ix tpos) o e pos) (killG q G2) (fAugIx op q fi fe) :=
  js_augix g.hK ho (g.pv hN hv hd hcd) hi he hk0 hk1 hk2 hp rfl ha
/-- an expression that is at hand, pure -/
structure Hand (X : Cx) (C : Ctx) (G : Gam) (e : Expr) (fw : Sl → Option W) : Prop where
  ex : ∃ te, PE X e te ∧ ∀ (cs : Cells) (S : Sl) (σ : St) (H : Hp) (Q : VK) (w : W), RelC C cs S σ H → Has C.n G cs → fw S = some w → ∃ v, Vw C.K H w v [] ∧ w.pure = true ∧ (Q v H → te σ H Q)
def hName (i : Nat) : Sl → Option W := fun S => match S[i]? with
  | some (some w) => if w.pure = true then some w else none
  | _ => none
def hConst (w : W) : Sl → Option W := fun _ => some w
theorem Gd.hN (g : Gd ht X C D sc N k Gx ip fnp) (i : Nat) {x : Str} {m : Mo} (hi : G[i]? = some (some m) := by rfl) (hN : N[i]? = some x := by rfl) (hv : Vis sc x := by first | exact Or.inl rfl | exact Or.inr (Or.inl rfl) | exact Or.inr (Or.inr rfl))
    (hd : (x == ("__debug__" : Str)) = false := by decide +kernel) (hcd : (x == ("__classdict__" : Str)) = false := by decide +kernel) : Hand X C G (.Name x pos) (hName i) := ⟨_, g.pv hN hv hd hcd, fun cs S σ H Q w R p e => by
  obtain ⟨c, hc, hm⟩ := p.2 i m hi
  have kn : i < C.n := Nat.lt_of_lt_of_le (List.getElem?_eq_some_iff.mp hi).1 p.1
  obtain ⟨hσ, hS⟩ := R.slot i c kn hc
  unfold hName at e
  rw [hS] at e
  have e : (if c.w.pure = true then some c.w else none) = some w := e
  split at e
  · rename_i hp
    cases e
    have v := R.view i c hc
    have z := Vw.of_pure hp v
    rw [z] at v
    exact ⟨c.v, v, hp, fun q => ⟨c.v, hσ, q⟩⟩
  · cases e⟩
theorem h_non {j : Nat} : Hand X C G (.Constant .none j pos) (hConst .non) := ⟨_, pe_non, fun cs S σ H Q w R p e => by cases e; exact ⟨.non, mkNon, rfl, fun q => q⟩⟩
theorem h_int {i : Int} {j : Nat} : Hand X C G (.Constant (.int i) j pos) (hConst (.int i)) := ⟨_, pe_int, fun cs S σ H Q w R p e => by cases e; exact ⟨.int i, mkInt, rfl, fun q => q⟩⟩
theorem Vws.appAt2 {K : Kz} {H : Hp} : ∀ {ws : List W} {vs : List V} {fps : List Addr} {j : Nat} {us : List W}, Vws K H ws vs fps → fps.Nodup → ws[j]? = some (.lst us) →
    ∃ b xs, vs[j]? = some (.ref b) ∧ H b = some (.lst xs) ∧ xs.length = us.length ∧ b ∈ fps ∧ ∀ (v : V) (w : W), Vw K H w v [] → w.pure = true → Vws K (upd H b (.lst (xs ++ [v]))) (ws.set j (.lst (us ++ [w]))) vs fps
  | [], vs, fps, j, us, h, _, e => by simp at e
  | x :: ws, vs, fps, 0, us, h, nd, e => by
    simp at e
    subst e
    simp only [Vws] at h
    obtain ⟨y, vs', f1, f2, rfl, rfl, r1, r2⟩ := h
    obtain ⟨a, xs, fps0, rfl, ra, sa, rfl⟩ := vwLst r1
    obtain ⟨n1, n2, n3⟩ := List.nodup_append.mp nd
    have naf : a ∉ fps0 := (List.nodup_cons.mp n1).1
    have nf2 : a ∉ f2 := fun z => n3 a List.mem_cons_self a z rfl
    refine ⟨a, xs, rfl, sa, ra.length, List.mem_append_left _ List.mem_cons_self, fun v w hv hp => ?_⟩
    have tk : TupK H (upd H a (.lst (xs ++ [v]))) := fun b ob h hm => by
      rw [upd_ne (fun z => by rw [z, sa] at h; cases h; cases hm)]
      exact h
    have hmono : ∀ {l : List Addr}, a ∉ l → ∀ b ∈ l, (upd H a (.lst (xs ++ [v]))) b = H b := fun {l} hn b hb => upd_ne fun z => hn (z ▸ hb)
    simp only [List.set_cons_zero, Vws]
    refine ⟨.ref a, vs', a :: fps0, f2, rfl, rfl, ?_, r2.mono tk (hmono nf2)⟩
    simp only [Vw]
    refine ⟨a, xs ++ [v], fps0, rfl, ?_, upd_same, rfl⟩
    have := Vws.append (ra.mono tk (hmono naf)) (show Vws K (upd H a (.lst (xs ++ [v]))) [w] [v] [] by
      simp only [Vws]
      exact ⟨v, [], [], [], rfl, rfl, hv.mono tk (fun b hb => by cases hb), rfl, rfl⟩)
    simpa using this
  | x :: ws, vs, fps, j + 1, us, h, nd, e => by
    simp at e
    simp only [Vws] at h
    obtain ⟨y, vs', f1, f2, rfl, rfl, r1, r2⟩ := h
    obtain ⟨n1, n2, n3⟩ := List.nodup_append.mp nd
    obtain ⟨b, xs, q1, q2, q3, q4, q5⟩ := Vws.appAt2 (j := j) r2 n2 e
    refine ⟨b, xs, by simpa using q1, q2, q3, List.mem_append_right _ q4, fun v w hv hp => ?_⟩
    have tk : TupK H (upd H b (.lst (xs ++ [v]))) := fun b' ob h hm => by
      rw [upd_ne (fun z => by rw [z, q2] at h; cases h; cases hm)]
      exact h
    have nf1 : b ∉ f1 := fun z => n3 b z b q4 rfl
    simp only [List.set_cons_succ, Vws]
    exact ⟨y, vs', f1, f2, rfl, rfl, r1.mono tk fun b' hb => upd_ne fun z => nf1 (z ▸ hb), q5 v w hv hp⟩
/-- k[ix].append(e) -/
def fAppIx (k : Nat) (fi : Sl → Res W) (fw : Sl → Option W) : Sl → Res Fl := fun S => (fi S).bind fun wi S1 => match wi with
  | .int i => match S1[k]? with
    | some (some (.lst ws)) => match ixN ws.length i with
      | some j => match ws[j]? with
        | some (.lst us) => match fw S1 with
          | some w => if us.length < sizeLine then .ok .nx (S1.set k (some (.lst (ws.set j (.lst (us ++ [w])))))) else .err
          | none => .err
        | _ => .err
      | none => .err
    | _ => .err
  | _ => .err
theorem js_appix {q : Nat} {x : Str} {fw : Sl → Option W} (hK : X.K = C.K) (hx : PE X (.Name x npos) (tVar q)) (hi : JE X C G pins ix .O G1 fi) (hs : PlainIx ix) (hn : notStar e = true) (he : Hand X C G1 e fw) (hk0 : G[q]? = some (some .O)) (hk1 : G1[q]? = some (some .O)) (hp : pins.contains q = false) (hline : (apos.endLine == cpos.line) = true)
    (hbase : attributeBase (.Subscript (.Name x npos) ix p2) "append" X.env (eval (.Subscript (.Name x npos) ix p2) X.env) = eval (.Subscript (.Name x npos) ix p2) X.env) :
    JS X C s G pins (.Expr (.Call (.Attribute (.Subscript (.Name x npos) ix p2) "append" apos) [e] [] cpos) pos) (killG q G1) (fAppIx q fi fw) := by
  obtain ⟨te, he, hand⟩ := he.ex
  have pe : PE X (.Call (.Attribute (.Subscript (.Name x npos) ix p2) "append" apos) [e] [] cpos) (tBM X.K "list" rAppend (tOp (rIx X.K) (tVar q) (semE C G pins .O G1 fi)) (tCons te tNil)) :=
    pe_bm PySem.F.plainAttrs_list PySem.F.slot_list_append PySem.F.type_list_append mt_append (pe_ix ix_seq hx hi hs) (pa_cons he pa_nil (star_cons hn)) hbase (by rw [star_cons hn]; rfl) hline (star_cons hn) (by rfl)
  refine PS.imp (ps_expr pe (by rfl)) fun D σ H ⟨cs0, S0, R0, p0, pp0, o⟩ => ?_
  have ln := R0.ln
  obtain ⟨c0, hc0, hm0⟩ := p0.2 q _ hk0
  have kn : q < C.n := Nat.lt_of_lt_of_le (List.getElem?_eq_some_iff.mp hk0).1 p0.1
  obtain ⟨hσ0, hS0⟩ := R0.slot q c0 kn hc0
  refine ⟨c0.v, hσ0, cs0, S0, R0, p0, pp0, ?_⟩
  unfold fAppIx at o
  cases hfi : fi S0 with
  | err => rw [hfi] at o; exact o
  | exc y S' => rw [hfi] at o; exact o σ
  | ok wi S1 =>
    rw [hfi] at o
    intro vi fpi H1 cs1 R1 l1 t1 T1 g1
    cases wi with
    | int i =>
      obtain ⟨rfl, _⟩ := vwInt (R1.view _ _ t1)
      obtain ⟨c1, hc1, hm1⟩ := g1.2 q _ hk1
      obtain ⟨hσ1, hS1⟩ := R1.slot q c1 kn hc1
      have ev1 : c1.v = c0.v := by rw [hσ0] at hσ1; exact (Option.some.inj (Option.some.inj hσ1)).symm
      have o : OutS C cs0.length cs0 s D (killG q G1) (match S1[q]? with
        | some (some (.lst ws)) => match ixN ws.length i with
          | some j => match ws[j]? with
            | some (.lst us) => match fw S1 with
              | some w => if us.length < sizeLine then .ok .nx (S1.set q (some (.lst (ws.set j (.lst (us ++ [w])))))) else .err
              | none => .err
            | _ => .err
          | none => .err
        | _ => .err) := o
      rw [hS1] at o
      cases hw1 : c1.w with
      | lst ws =>
        rw [hw1] at o
        have o : OutS C cs0.length cs0 s D (killG q G1) (match ixN ws.length i with
          | some j => match ws[j]? with
            | some (.lst us) => match fw S1 with
              | some w => if us.length < sizeLine then .ok .nx (S1.set q (some (.lst (ws.set j (.lst (us ++ [w])))))) else .err
              | none => .err
            | _ => .err
          | none => .err) := o
        have vk := R1.view q c1 hc1
        rw [hw1] at vk
        obtain ⟨a0, vs, fps, ea, ra, sa, ef⟩ := vwLst vk
        have ndk := R1.nd q c1 hc1 hm1
        rw [ef] at ndk
        have naf : a0 ∉ fps := (List.nodup_cons.mp ndk.1).1
        cases hj : ixN ws.length i with
        | none => rw [hj] at o; exact o.elim
        | some j =>
          rw [hj] at o
          have o : OutS C cs0.length cs0 s D (killG q G1) (match ws[j]? with
            | some (.lst us) => match fw S1 with
              | some w => if us.length < sizeLine then .ok .nx (S1.set q (some (.lst (ws.set j (.lst (us ++ [w])))))) else .err
              | none => .err
            | _ => .err) := o
          cases hat : ws[j]? with
          | none => rw [hat] at o; exact o.elim
          | some wa =>
            rw [hat] at o
            cases wa with
            | lst us =>
              have o : OutS C cs0.length cs0 s D (killG q G1) (match fw S1 with
                | some w => if us.length < sizeLine then .ok .nx (S1.set q (some (.lst (ws.set j (.lst (us ++ [w])))))) else .err
                | none => .err) := o
              cases hfw : fw S1 with
              | none => rw [hfw] at o; exact o.elim
              | some w =>
                rw [hfw] at o
                have o : OutS C cs0.length cs0 s D (killG q G1) (if us.length < sizeLine then .ok .nx (S1.set q (some (.lst (ws.set j (.lst (us ++ [w])))))) else .err) := o
                by_cases hz : us.length < sizeLine
                case neg => rw [if_neg hz] at o; exact o.elim
                rw [if_pos hz] at o
                obtain ⟨b, xs, q1, q2, q3, q4, q5⟩ := Vws.appAt2 (j := j) ra (List.nodup_cons.mp ndk.1).2 hat
                have hne : a0 ≠ b := fun z => naf (z ▸ q4)
                have hat2 : atI vs i = some (.ref b) := by unfold atI; rw [ra.length, hj]; exact q1
                refine .inl ⟨a0, vs, i, .ref b, by rw [← ev1]; exact ea, rfl, SqL.of sa, hat2, .inl ⟨rfl, _, SqL.of q2⟩, ?_⟩
                obtain ⟨v, hv, hpw, hq⟩ := hand cs1 S1 σ H1 (fun x H2 => tNil σ H2 fun xs H2 => rAppend (V.ref b) (x :: xs) H2 fun _ H3 => D.nx σ H3) w R1 g1 hfw
                refine hq ⟨b, xs, v, rfl, rfl, q2, by rw [q3]; exact hz, ?_⟩
                have v5 := q5 v w hv hpw
                obtain ⟨cs3, R3, l3, T3, g3⟩ := slot_set (L := cs0.length) (w' := .lst (ws.set j (.lst (us ++ [w])))) (fp' := a0 :: fps) R1 g1 ln (by omega) kn hc1 hm1 (H' := upd H1 b (.lst (xs ++ [v]))) (fun b' ob h hn => by
                    rw [upd_ne (fun z => hn (by rw [ef, z]; exact List.mem_cons_of_mem _ q4))]; exact h)
                  (fun b' h => by
                    by_cases hz : b' = b
                    · rw [hz, upd_same]; simp
                    · rw [upd_ne hz]; exact h)
                  (by rw [ea]; simp only [Vw]; exact ⟨a0, _, fps, rfl, v5, by rw [upd_ne hne]; exact sa, rfl⟩) ndk.1
                  (fun b' hb => by
                    refine ⟨?_, .inr (.inl (by rw [ef]; exact hb))⟩
                    by_cases hz : b' = b
                    · rw [hz]; exact ⟨_, upd_same, rfl⟩
                    · rw [upd_ne hz]; exact (ndk.2 b' hb).1)
                  (fun jj d h1 h2 hd hz => by
                    rw [T1 jj h1 h2] at hd
                    have := pp0 jj d h1 hd q hz
                    simp at hp
                    exact hp this)
                exact o σ _ cs3 R3 l3 (fun jj h1 h2 => by rw [T3 jj h1 h2]; exact T1 jj h1 h2) g3
            | non => exact o.elim
            | bl _ => exact o.elim
            | int _ => exact o.elim
            | str _ => exact o.elim
            | tup _ => exact o.elim
            | scr _ => exact o.elim
            | dct _ _ => exact o.elim
            | ins _ _ _ => exact o.elim
      | non => rw [hw1] at o; exact o.elim
      | bl _ => rw [hw1] at o; exact o.elim
      | int _ => rw [hw1] at o; exact o.elim
      | str _ => rw [hw1] at o; exact o.elim
      | tup _ => rw [hw1] at o; exact o.elim
      | scr _ => rw [hw1] at o; exact o.elim
      | dct _ _ => rw [hw1] at o; exact o.elim
      | ins _ _ _ => rw [hw1] at o; exact o.elim
    | non => exact o.elim
    | bl _ => exact o.elim
    | str _ => exact o.elim
    | tup _ => exact o.elim
    | lst _ => exact o.elim
    | scr _ => exact o.elim
    | dct _ _ => exact o.elim
    | ins _ _ _ => exact o.elim
theorem Gd.appix (g : Gd ht X C D sc N k Gx ip fnp) (q : Nat) {x : Str} {fw : Sl → Option W} (hi : JE X C G pins ix .O G1 fi) (he : Hand X C G1 e fw) (hs : PlainIx ix := by exact fun _ _ => rfl) (hn : notStar e = true := by rfl) (hk0 : G[q]? = some (some .O) := by rfl) (hk1 : G1[q]? = some (some .O) := by rfl) (hp : pins.contains q = false := by rfl) (hline : (apos.endLine == cpos.line) = true := by rfl)
    (hbase : attributeBase (.Subscript (.Name x npos) ix p2) "append" X.env (eval (.Subscript (.Name x npos) ix p2) X.env) = eval (.Subscript (.Name x npos) ix p2) X.env := by rfl)
    (hN : N[q]? = some x := by rfl) (hv : Vis sc x := by first | exact Or.inl rfl | exact Or.inr (Or.inl rfl) | exact Or.inr (Or.inr rfl)) (hd : (x == ("__debug__" : Str)) = false := by decide +kernel) (hcd : (x == ("__classdict__" : Str)) = false := by decide +kernel) :
    JS X C s G pins (.Expr (.Call (.Attribute (.Subscript (.Name x npos) ix p2) "append" apos) [e] [] cpos) pos) (killG q G1) (fAppIx q fi fw) := js_appix g.hK (g.pv hN hv hd hcd) hi hs hn he hk0 hk1 hp hline hbase
end
end Vm

namespace Vm
open PySem PySem.Spec PyProof.Rows L2
section
variable {X : Cx} {C : Ctx} {D : Wd} {sc : Scope} {N : List Str} {k : Nat} {Gx : Gam} {ip : Option Nat} {fnp : Str → Bool} {ht : Bool} {s : Sx}
variable {G G1 G2 G3 G' : Gam} {pins : List Nat} {e a b c : Expr} {es rest : List Expr} {mo mo' m1 m2 m3 : Mo} {ms : List Am} {gs : Sl → Res (List W)} {fe f2 : Sl → Res W} {f : Sl → Res Fl} {pos p p2 px py pz pt : Pos} {st : Stmt} {sts : List Stmt}
/-- two names from a pair that is made first -/
theorem js_parT {i j : Nat} {x y : Str} {kt k2 : Nat} {pt2 : Pos} (hc : X.calm = true) (hij : i ≠ j) (hx : NmOk X C x i) (hy : NmOk X C y j)
    (ja : JA X C G pins [a, b] [.mo m1, .mo m2] G1 gs) (hiG : i < G1.length) (hjG : j < G1.length)
    (hs : swapsWithSole [.Tuple [.Name x px, .Name y py] kt pt] (.Tuple [a, b] k2 pt2) pos.line X.env = pure false)
    (hw : swappedStores [.Tuple [.Name x px, .Name y py] kt pt] (.Tuple [a, b] k2 pt2) X.env = pure none)
    (h1 : (assignEach [.Tuple [.Name x px, .Name y py] kt pt] X.env).map (·.2) = [assign (.Tuple [.Name x px, .Name y py] kt pt) X.env]) :
    JS X C s G pins (.Assign [.Tuple [.Name x px, .Name y py] kt pt] (.Tuple [a, b] k2 pt2) pos) ((G1.set i (some m1)).set j (some m2)) (fPar [i, j] gs) := by
  have hn : NmsOk X C [.Name x px, .Name y py] [i, j] := .cons x px i _ _ hx (.cons y py j _ _ hy .nil)
  refine PS.imp (ps_asg (pe_tup ja.pa) (pg_tup hc hn.pgs hn.each.1 hn.each.2) hs hw h1) fun D σ H ⟨cs, S, R, p, pp, o⟩ => ?_
  have ln := R.ln
  refine ⟨cs, S, R, p, pp, ?_⟩
  unfold fPar at o
  cases hg : gs S with
  | err => rw [hg] at o; exact o
  | exc x S' => rw [hg] at o; exact o σ
  | ok ws S1 =>
    rw [hg] at o
    intro vs H1 cs1 R1 l1 a1 T1 g1
    have o : OutS C cs.length cs s D ((G1.set i (some m1)).set j (some m2)) (match setAll [i, j] ws S1 with | some S2 => .ok .nx S2 | none => .err) := o
    match vs, ws, a1 with
    | [v1, v2], [w1, w2], a1 =>
      obtain ⟨⟨fp1, t1⟩, ⟨fp2, t2⟩, _⟩ := a1
      refine ⟨by rw [sizeLine_eq]; exact Nat.le_of_ble_eq_true rfl, fun q hq => ⟨q, [v1, v2], rfl, SqT.of upd_same, rfl, ?_⟩⟩
      have R1 := R1.same (Same.upd (o := .tup [v1, v2]) hq)
      obtain ⟨R2, l2, T2, g2⟩ := rel_store R1 g1 (L := cs.length + 1) (by omega) (by rw [l1]; rfl) t2 hy.lt hjG hy.ip
      have t1' : (List.set (cs1.take (cs.length + 1)) j (some ⟨v2, w2, m2, fp2⟩))[cs.length]? = some (some ⟨v1, w1, m1, fp1⟩) := by rw [T2 cs.length ln (by omega)]; exact t1
      obtain ⟨R3, l3, T3, g3⟩ := rel_store R2 g2 (L := cs.length) ln l2 t1' hx.lt (by simpa using hiG) hx.ip
      have o : OutS C cs.length cs s D ((G1.set i (some m1)).set j (some m2)) (.ok .nx ((S1.set i (some w1)).set j (some w2))) := o
      have eS : (S1.set j (some w2)).set i (some w1) = (S1.set i (some w1)).set j (some w2) := List.set_comm _ _ (Ne.symm hij)
      have eσ : (σ.set j (some v2)).set i (some v1) = (σ.set i (some v1)).set j (some v2) := List.set_comm _ _ (Ne.symm hij)
      have eG : (G1.set j (some m2)).set i (some m1) = (G1.set i (some m1)).set j (some m2) := List.set_comm _ _ (Ne.symm hij)
      rw [eS, eσ] at R3
      rw [eG] at g3
      exact ⟨v1, [v2], rfl, v2, [], rfl, rfl, o _ _ _ R3 l3 (fun q h1 h2 => by rw [T3 q h1 h2, T2 q h1 (by omega)]; exact T1 q h1 h2) g3⟩
    | [], _, a1 => exact a1.elim
    | [_], [], a1 => exact a1.elim
    | [_], _ :: _, a1 => exact a1.2.elim
    | _ :: _ :: _, [], a1 => exact a1.elim
    | _ :: _ :: _, [_], a1 => exact a1.2.elim
    | _ :: _ :: _ :: _, _ :: _ :: _, a1 => exact a1.2.2.elim
    | [_, _], _ :: _ :: _ :: _, a1 => exact a1.2.2.elim
theorem Gd.parT (g : Gd false X C D sc N k Gx ip fnp) (i j : Nat) {x y : Str} {kt k2 : Nat} {pt2 : Pos} (ja : JA X C G pins [a, b] [.mo m1, .mo m2] G1 gs) (hi : N[i]? = some x := by rfl) (hj : N[j]? = some y := by rfl) (hij : i ≠ j := by decide)
    (hx : Loc sc x := by first | exact Or.inl rfl | exact Or.inr rfl) (hfx : fnp x = true ∨ sc.names.lookup x = some .local := by first | exact Or.inl rfl | exact Or.inr rfl)
    (hy : Loc sc y := by first | exact Or.inl rfl | exact Or.inr rfl) (hfy : fnp y = true ∨ sc.names.lookup y = some .local := by first | exact Or.inl rfl | exact Or.inr rfl)
    (hiG : i < G1.length := by decide) (hjG : j < G1.length := by decide) (ipi : ip ≠ some i := by decide) (ipj : ip ≠ some j := by decide)
    (hs : swapsWithSole [.Tuple [.Name x px, .Name y py] kt pt] (.Tuple [a, b] k2 pt2) pos.line X.env = pure false := by rfl)
    (hw : swappedStores [.Tuple [.Name x px, .Name y py] kt pt] (.Tuple [a, b] k2 pt2) (dumE sc) = pure none := by rfl)
    (h1 : (assignEach [.Tuple [.Name x px, .Name y py] kt pt] X.env).map (·.2) = [assign (.Tuple [.Name x px, .Name y py] kt pt) X.env] := by rfl) :
    JS X C s G pins (.Assign [.Tuple [.Name x px, .Name y py] kt pt] (.Tuple [a, b] k2 pt2) pos) ((G1.set i (some m1)).set j (some m2)) (fPar [i, j] gs) :=
  js_parT (g.calm rfl) hij (g.nmOk hi hx hfx ipi) (g.nmOk hj hy hfy ipj) ja hiG hjG hs (by rw [swS g.eS]; exact hw) h1
/-- a slot becomes a borrowed one, behind a statement -/
theorem js_softM {s : Sx} {st : Stmt} {f : Sl → Res Fl} (i : Nat) (d : List Nat) {mo : Mo} (h : JS X C s G pins st G1 f) (h1 : G1[i]? = some (some mo)) (hm : mle C.n mo (.B d) = true) : JS X C s G pins st (G1.set i (some (.B d))) f := PS.imp h fun D σ H ⟨cs, S, R, p, pp, o⟩ => by
  refine ⟨cs, S, R, p, pp, ?_⟩
  revert o
  cases f S with
  | err => exact id
  | exc x S' => exact id
  | ok fl S1 =>
    cases fl with
    | nx =>
      intro o σ' H' cs' R' l T g
      obtain ⟨c, hc, hcm⟩ := g.2 i mo h1
      have hi : i < C.n := Nat.lt_of_lt_of_le (List.getElem?_eq_some_iff.mp h1).1 g.1
      have hil : i < cs'.length := (List.getElem?_eq_some_iff.mp hc).1
      have hm : (mo.dep.all (d.contains ·) && d.all (decide <| · < C.n)) = true := by cases mo <;> exact hm
      rw [Bool.and_eq_true] at hm
      have sft : Cle C.n (some ⟨c.v, c.w, .B d, c.fp⟩) (some c) := by
        have : c = ⟨c.v, c.w, mo, c.fp⟩ := by rw [← hcm]
        rw [this]
        exact .soft (fun x hx => by simpa using List.all_eq_true.mp hm.1 x hx) fun x hx => by simpa using List.all_eq_true.mp hm.2 x hx
      refine o σ' H' (cs'.set i (some ⟨c.v, c.w, .B d, c.fp⟩)) (R'.weak (by rw [List.length_set]) (fun j x y q1 q2 => ?_) R'.ls R'.lσ fun j c hj q => ⟨rfl, rfl⟩) (by rw [List.length_set]; exact l) (fun j h1 h2 => ?_) ⟨by rw [List.length_set]; exact g.1, fun j m q => ?_⟩
      · by_cases hj : j = i
        · subst hj
          rw [List.getElem?_set_self hil] at q1
          rw [hc] at q2
          cases q1; cases q2
          exact sft
        · rw [List.getElem?_set_ne (Ne.symm hj)] at q1
          rw [q1] at q2; cases q2
          exact .same
      · rw [List.getElem?_set_ne (by omega)]
        exact T j h1 h2
      · by_cases hj : j = i
        · subst hj
          rw [List.getElem?_set_self (List.getElem?_eq_some_iff.mp h1).1] at q
          cases q
          exact ⟨_, List.getElem?_set_self hil, rfl⟩
        · rw [List.getElem?_set_ne (Ne.symm hj)] at q
          rw [List.getElem?_set_ne (Ne.symm hj)]
          exact g.2 j m q
    | bk => exact id
    | ct => exact id
    | rt w => exact id
theorem Gd.softS (g : Gd ht X C D sc N k Gx ip fnp) {s : Sx} {st : Stmt} {f : Sl → Res Fl} (i : Nat) (d : List Nat) {mo : Mo} (h : JS X C s G pins st G1 f) (h1 : G1[i]? = some (some mo) := by rfl) (hm : mle N.length mo (.B d) = true := by rfl) : JS X C s G pins st (G1.set i (some (.B d))) f :=
  js_softM i d h h1 (by rw [g.en]; exact hm)
end
end Vm

namespace Vm
open PySem PySem.Spec PyProof.Rows L2
/-- zip of two tuples -/
def itemsZT : List W → Option (List W)
  | [.tup xs, .tup ys] => some (zipUp xs ys)
  | _ => none
theorem loci_zipT {K : Kz} : LocI K (fun vs H R => ∃ a b xs ys, vs = [.ref a, .ref b] ∧ SqT K H a xs ∧ SqT K H b ys ∧ R (RZ.ItzT K a b) H) itemsZT := by
  intro vs ws fps H Rr its hv hi k
  unfold itemsZT at hi
  split at hi
  · rename_i xs ys
    cases hi
    obtain ⟨x, y, f1, f2, rfl, rfl, r1, r2⟩ := vws2 hv
    obtain ⟨a, va, rfl, sa, _⟩ := vwTup r1
    obtain ⟨b, vb, rfl, sb, _⟩ := vwTup r2
    refine ⟨a, b, va, vb, rfl, sa, sb, k _ fun H2 fp2 hv2 => ?_⟩
    obtain ⟨x2, y2, g1, g2, e2, rfl, p1, p2⟩ := vws2 hv2
    cases e2
    obtain ⟨a2, va2, e3, sa2, qa⟩ := vwTup p1
    cases e3
    obtain ⟨b2, vb2, e3, sb2, qb⟩ := vwTup p2
    cases e3
    refine ⟨fun i x hx => ?_, ⟨va2, vb2, sa2, sb2, ?_⟩⟩
    · unfold zipUp at hx
      rw [List.getElem?_zipWith] at hx
      cases h1 : xs[i]? with
      | none => rw [h1] at hx; cases hx
      | some wx =>
        cases h2 : ys[i]? with
        | none => rw [h1, h2] at hx; cases hx
        | some wy =>
          rw [h1, h2] at hx
          cases hx
          obtain ⟨v1, u1, z1, z2, z3⟩ := qa.get h1
          obtain ⟨v2, u2, y1, y2, y3⟩ := qb.get h2
          refine ⟨⟨va2, vb2, v1, v2, sa2, sb2, z1, y1⟩, fun u H' hyl => ?_⟩
          obtain ⟨T, x, y, rfl, hT, rfl, hx, hy⟩ := hyl
          have e1 := hx va2 sa2
          rw [z1] at e1; cases e1
          have e2 := hy vb2 sb2
          rw [y1] at e2; cases e2
          have sm : Same H2 (upd H2 T (.tup [v1, v2])) := Same.upd hT
          refine ⟨sm, u1 ++ u2, ?_, fun a ha => ?_⟩
          · simp only [Vw]
            refine ⟨T, _, rfl, SqT.of upd_same, ?_⟩
            simp only [Vws]
            exact ⟨_, _, u1, u2, rfl, rfl, z2.same sm, v2, [], u2, [], rfl, by simp, y2.same sm, rfl, rfl⟩
          · rcases List.mem_append.mp ha with ha | ha
            · exact List.mem_append_left _ (z3 a ha)
            · exact List.mem_append_right _ (y3 a ha)
    · have l1 := qa.length
      have l2 := qb.length
      simp only [zipUp, List.length_zipWith]
      omega
  · cases hi
section
variable {X : Cx} {C : Ctx} {D : Wd} {sc : Scope} {N : List Str} {k : Nat} {Gx : Gam} {ip : Option Nat} {fnp : Str → Bool} {ht : Bool} {s : Sx}
variable {G G1 G2 G3 G' : Gam} {pins : List Nat} {a b c : Expr} {es rest : List Expr} {ms : List Am} {g : Sl → Res (List W)} {gs : Sl → Res (List W)} {pos p pt : Pos}
theorem ji_zipT {elts : List Expr} {kk : Nat} {tpos : Pos} (hK : X.K = C.K) (hg : Gl X "zip") (hm : X.mg "zip" = none) (ja : JA X C G pins [a, b] ms G' g) (hp : plain ms = true) : JI X C G pins (.Tuple elts kk tpos) (.Call (.Name "zip" p) [a, b] [] pos) ms G' (fItems g itemsZT) :=
  ji_of (RZ.pi_zipA hg hm ja.pa (star_cons (ja.tail (pos := pos) (env := X.env)).1) (ja.tail (pos := pos) (env := X.env)).2) (fun σ H R q => by
    unfold RZ.iZipA
    rw [hK]
    obtain ⟨cs, S, R0, p, pp, o⟩ := q
    refine ⟨cs, S, R0, p, pp, ?_⟩
    revert o
    cases g S with
    | err => exact id
    | exc x S' => exact id
    | ok ws S' => exact fun o vs H' cs' h1 h2 h3 h4 h5 => let ⟨a, b, xs, ys, e, s1, s2, r⟩ := o vs H' cs' h1 h2 h3 h4 h5; ⟨a, b, xs, ys, e, .inr ⟨s1, s2, r⟩⟩) hp loci_zipT
theorem Gd.itZT (g : Gd ht X C D sc N k Gx ip fnp) {elts : List Expr} {j : Nat} (hm : D.mg "zip" = none) (ja : JA X C G pins [a, b] ms G' gs) (hl : sc.names.lookup ("zip" : Str) = some .globalImplicit := by rfl) (hp : plain ms = true := by rfl) : JI X C G pins (.Tuple elts j pt) (.Call (.Name "zip" p) [a, b] [] pos) ms G' (fItems gs itemsZT) := ji_zipT g.hK (g.gl hl) (g.mgn hm) ja hp
end
end Vm

namespace Vm
open PySem PySem.Spec PyProof.Rows L2
/-- a range of great bounds, walked -/
theorem turn_long {P : Program} {w : World} {K : PySem.W.Frag} {tg : Expr} (it : Addr) (lo : Int) (n : Nat) : Turn P w K tg (Itr lo n) [it] it (fun i h => IsLongIter h it (lo + (i : Nat) * 1) ((n : Int) - (i : Nat)) 1) where
  mem := by simp
  obj := fun i h st b hb => by
    have e : b = it := by simpa using hb
    subst e
    exact ⟨_, st, fun v z => nomatch z⟩
  keep := fun i h h' st k => k it (by simp) _ st
  item := by
    intro X hP hw hK hc i pins s σ H E I hf st hg
    subst hP hw hK
    obtain ⟨f0, f1, f2, f3, f4, f5⟩ := hf it (by simp)
    have W := Walks.longrange (prog := X.prog) (w := X.w) (I.ok.hd hc) it lo 1 n
    refine W.item i s _ _ hg st fun v h' tk hv st' kk => ?_
    obtain ⟨t, rfl⟩ := hv
    have I1 : Inv X pins σ H { s with heap := h', toks := tk } := I.turned (fun b o hb e => kk b o (by simpa using hb) e) f0 f1 f3 f4 f5
    exact ⟨_, rfl, go_of (s := { s with heap := h', toks := tk }) (n := "longrange_iterator") st' rfl rfl (by decide) ⟨.int (lo + (i : Nat)), H, I1, ⟨t, by simp⟩, ⟨rfl, rfl⟩, st', fun b hb => (hf b hb).1⟩⟩
  done := by
    intro X hP hw hK hc i pins s σ H E I hf st hg
    subst hP hw hK
    obtain ⟨f0, f1, f2, f3, f4, f5⟩ := hf it (by simp)
    exact wpAny_pyNext_long_end (I.ok.hd hc) st (by have : n ≤ i := hg; omega) fun h' eb => ⟨rfl, I.turned (t' := s.toks) (fun b o hb e => eb b o hb e) f0 f1 f3 f4 f5⟩
  self := fun A i s Q E st h => wpAny_pyIter_longiter st h
section
variable {X : Cx} {tg : Expr}
theorem range_itA {pins : List (Addr × Obj)} {σ : L2.St} {H : Hp} {s : Shared} {R : It → Hp → Prop} {E : Value → Shared → Prop} {lo hi : Int} {t u v : Tok} {tk : Nat} (I : Inv X pins σ H s)
    (q : R (Itr lo (hi - lo).toNat) H) : wpAny (model X.prog X.w) X.A (pyIter (.ref s.heap.objs.size)) (PIE X pins σ tg R) E { s with heap := s.heap.push { cls := .type "range", data := .fields #[.int lo t, .int hi u, .int 1 v] }, toks := tk } := by
  have I2 : Inv X pins σ H { s with heap := s.heap.push { cls := .type "range", data := .fields #[.int lo t, .int hi u, .int 1 v] }, toks := tk } := I.kept (t' := tk) fun b o e => Heap.get?_push_of_some _ e
  have e1 : lo + ((0 : Nat) : Int) * 1 = lo := by simp
  have e2 : (((hi - lo).toNat : Nat) : Int) - ((0 : Nat) : Int) = Builtin.Range.rangeSize lo hi 1 := by rw [rangeSize_one]; split <;> omega
  cases hs : Builtin.Range.small lo hi 1 with
  | true =>
    refine wpAny_pyIter_range (IsRange.new ..) hs ?_
    refine pi_one (tk := tk) I2 _ (turn_range _ lo (hi - lo).toNat) ?_ q
    show IsRangeIter _ _ (lo + ((0 : Nat) : Int) * 1) ((((hi - lo).toNat : Nat) : Int) - ((0 : Nat) : Int)) 1
    rw [e1, e2]
    exact Heap.get?_push_size _ rfl
  | false =>
    refine wpAny_pyIter_longrange (IsRange.new ..) hs ?_
    refine pi_one (tk := tk) I2 _ (turn_long _ lo (hi - lo).toNat) ?_ q
    show IsLongIter _ _ (lo + ((0 : Nat) : Int) * 1) ((((hi - lo).toNat : Nat) : Int) - ((0 : Nat) : Int)) 1
    rw [e1, e2]
    exact Heap.get?_push_size _ rfl
def iRng2A (ta : TA) : TI := fun σ H R => ta σ H fun vs H1 => ∃ i j : Int, vs = [.int i, .int j] ∧ R (Itr i (j - i).toNat) H1
theorem pi_range2A {a b : Expr} {ta : TA} {p pos : Pos} (hg : Gl X "range") (hm : X.mg "range" = none) (ha : PA X [a, b] ta) (hs : starEach [a, b] X.env = [(false, eval a X.env), (false, eval b X.env)] := by rfl) (hs2 : starEach [b] X.env = [(false, eval b X.env)] := by rfl) :
    PI X tg (.Call (.Name "range" p) [a, b] [] pos) (iRng2A ta) := by
  refine ⟨fun pins s σ H R I h => ?_⟩
  refine Call_ (ld_blt I hg hm boot_range (PyProof.Rows.callWith_type1 (thn (ha.run pos pins s σ H _ I h) fun us s1 ⟨vs, H1, I1, r1, q1⟩ => ?_) (by rw [hs, hs2]) (by rw [hs2]; rfl)))
  obtain ⟨i, j, e, q⟩ := q1
  subst e
  cases r1 with
  | cons r rr =>
    cases rr with
    | cons r' rr =>
      cases rr
      obtain ⟨t, rfl⟩ := r
      obtain ⟨t', rfl⟩ := r'
      exact call_range_2 (range_itA I1 q)
end
def itemsR2A : List W → Option (List W)
  | [.int i, .int j] => some (upFrom i (j - i).toNat)
  | _ => none
theorem loci_r2A {K : Kz} : LocI K (fun vs H R => ∃ i j : Int, vs = [.int i, .int j] ∧ R (Itr i (j - i).toNat) H) itemsR2A := by
  intro vs ws fps H Rr its hv hi k
  unfold itemsR2A at hi
  split at hi
  · obtain ⟨x, y, f1, f2, rfl, rfl, r1, r2⟩ := vws2 hv
    obtain ⟨rfl, _⟩ := vwInt r1
    obtain ⟨rfl, _⟩ := vwInt r2
    cases hi
    exact ⟨_, _, rfl, k _ itok_range⟩
  · cases hi
section
variable {X : Cx} {C : Ctx} {D : Wd} {sc : Scope} {N : List Str} {k : Nat} {Gx : Gam} {ip : Option Nat} {fnp : Str → Bool} {ht : Bool}
variable {G G' : Gam} {pins : List Nat} {a b tg : Expr} {ms : List Am} {g : Sl → Res (List W)} {gs : Sl → Res (List W)} {pos p : Pos}
theorem ji_r2A (hg : Gl X "range") (hm : X.mg "range" = none) (ja : JA X C G pins [a, b] ms G' g) (hp : plain ms = true) (hb : notStar b = true) : JI X C G pins tg (.Call (.Name "range" p) [a, b] [] pos) ms G' (fItems g itemsR2A) :=
  ji_of (pi_range2A hg hm ja.pa (by rw [star_cons (ja.tail (pos := pos) (env := X.env)).1, star_cons hb]; rfl) (by rw [star_cons hb]; rfl)) (fun σ H R q => q) hp loci_r2A
theorem Gd.it2A (g : Gd ht X C D sc N k Gx ip fnp) (hm : D.mg "range" = none) (ja : JA X C G pins [a, b] ms G' gs) (hl : sc.names.lookup ("range" : Str) = some .globalImplicit := by rfl) (hp : plain ms = true := by rfl) (hb : notStar b = true := by rfl) : JI X C G pins tg (.Call (.Name "range" p) [a, b] [] pos) ms G' (fItems gs itemsR2A) := ji_r2A (g.gl hl) (g.mgn hm) ja hp hb
end
end Vm

namespace Vm
open PySem PySem.Spec PyProof.Rows L2

/-! ## try, at the hand's level: the caught exception is tracked in its suite -/
/-- a clause: the class, the slot of its name, what its suite wishes -/
structure Hnd where
  c : Value
  nm : Option Nat
  ts : Addr → Addr → Option Addr → TS
def Hnd.put (h : Hnd) (σ : St) (a : Addr) : St := match h.nm with
  | none => σ
  | some i => σ.set i (some (.ref a))
def Hnd.off (h : Hnd) (σ : St) : St := match h.nm with
  | none => σ
  | some i => σ.set i none
def Hnd.fin (h : Hnd) (D : Ends) : Ends := { nx := fun σ H => D.nx (h.off σ) H, rt := D.rt, bk := fun σ H => D.bk (h.off σ) H, ct := fun σ H => D.ct (h.off σ) H }
def wCls (K : Kz) (Wo : WX) (D : Ends) : List Hnd → WX
  | [] => Wo
  | h :: r => fun cls d σ H => ∃ b, PySem.W.exmOne K cls h.c = some b ∧ (b = true → ∃ C, cls = .ref C ∧ ∀ a, H a = none → h.ts a C d (h.fin D) (h.put σ a) (upd H a (exH C d a))) ∧ (b = false → wCls K Wo D r cls d σ H)
abbrev Cx.su (X : Cx) (a : Addr) (pn : List (Addr × Obj)) : Cx := Cx.suite X a pn
def NameOk (X : Cx) : Option Str → Option Nat → Prop
  | none, none => True
  | some n, some i => X.N[i]? = some n ∧ X.env.kindOf n = some .local
  | _, _ => False
inductive HndsOk (X : Cx) : List ExceptHandler → List Hnd → Prop
  | nil : HndsOk X [] []
  | cons (x : Str) (np pos : Pos) (nm : Option Str) (b0 : Stmt) (suite : List Stmt) (h : Hnd) (hds : List ExceptHandler) (l : List Hnd) (hc : Names X x h.c) (hn : NameOk X nm h.nm) (hs : ∀ a C d pn, PSs (Cx.su X a pn) (b0 :: suite) (h.ts a C d)) (r : HndsOk X hds l) :
      HndsOk X (.ExceptHandler (some (.Name x np)) nm (b0 :: suite) pos :: hds) (h :: l)

section
variable {X : Cx} {pins : List (Addr × Obj)} {σ : St} {H : Hp} {s : Shared} {a C : Addr} {d : Option Addr}
/-- the caught exception, tracked -/
theorem inv_caught (I : Inv X pins σ H s) {oe : Obj} {us : Array Value} (ha : s.heap.get? a = some oe) (z : L2N.Zn (.ref C) d oe) (hd : oe.data = .fields us) (na : H a = none) (n0 : X.s_0.heap.get? a = none) (nL : a ≠ X.env.locals) (np : ∀ p ∈ X.pn ++ pins, p.1 ≠ a) :
    Inv (Cx.su X a (X.pn ++ pins)) [] σ (upd H a (exH C d a)) s := by
  have s0 : ∀ b o, X.s_0.heap.get? b = some o → b ≠ a := fun b o e y => by rw [y, n0] at e; cases e
  have up : ∀ b o, H b = some o → upd H a (exH C d a) b = some o := fun b o e => by rw [upd_ne (ne_of_none e na)]; exact e
  have un : ∀ b, b ≠ a → H b = none → upd H a (exH C d a) b = none := fun b hb e => by rw [upd_ne hb]; exact e
  have new : ObjOk X.prog X.w (upd H a (exH C d a)) s.heap a (exH C d a) := ⟨⟨oe, us, ha, z.1, z.2.1, hd, z.2.2 us hd⟩, ⟨oe, ha⟩, fun h1 h2 ⟨o, u, q, r⟩ k => ⟨o, u, k o q, r⟩⟩
  refine ⟨I.ok.suite a (X.pn ++ pins), I.os, I.bare, ⟨I.base.keep, I.base.slot, fun b o e n hx => un b (s0 b o e) (I.base.free b o e n hx), I.base.there, fun b xs e => up b _ (I.base.tups b xs e), fun b o u e => up b _ (I.base.frzs b o u e), fun b ps e => ?_⟩, I.loc, I.cell, un _ (Ne.symm nL) I.free, fun x c e => ?_, fun p hp => ?_, I.hok.laidN (fun _ _ e => e) na new, I.len⟩
  · obtain ⟨m, e1⟩ := I.base.tbls b ps e
    exact ⟨m, up b _ e1⟩
  · refine un c (fun y => ?_) (I.freeC x c e)
    obtain ⟨v, o, ho, hv⟩ := I.cell x c e
    rw [y, ha] at ho
    cases ho
    rw [hd] at hv
    cases hv
  · have hp' : p ∈ X.pn ++ pins := by simpa using hp
    obtain ⟨h1, h2, h3⟩ := I.pin p hp'
    exact ⟨h1, un _ (np p hp') h2, h3⟩
theorem inv_uncaught (I : Inv (Cx.su X a (X.pn ++ pins)) [] σ H s) (ok : X.Ok) : Inv X pins σ H s :=
  ⟨ok, I.os, I.bare, I.base, I.loc, I.cell, I.free, I.freeC, fun p hp => I.pin p (by simpa using hp), I.hok, I.len⟩
end
section
variable {X : Cx} {body : List Stmt} {h0 : ExceptHandler} {hds : List ExceptHandler} {l : List Hnd} {pos : Pos} {tb : WX → TS} {Wo : WX}
theorem ps_tryT (hs : X.stack = X.env :: X.outer) (hf : X.env.frame = some X.env.locals) (hex : X.ex = []) (hN : X.N.Nodup) (tk : L2N.Takes X Wo)
    (hb : ∀ (W : WX) (pn : List (Addr × Obj)) (xe : Value → Shared → Prop), L2N.Takes (X.tr pn xe) W → PassesOwn (model X.prog X.w) X.A X.env xe → PSs (X.tr pn xe) body (tb W))
    (hh : HndsOk X (h0 :: hds) l) : PS X (.Try body (h0 :: hds) [] [] pos) (fun D σ H => tb (wCls X.K Wo D l) D σ H) := by
  refine ⟨fun pins s σ H D I h => ?_⟩
  have ok := I.ok
  have frm : X.A.frames = some (X.env :: X.outer) := by rw [ok.frames, hs]
  refine wpAny_Try_except (wpAny_mono ((hb (wCls X.K Wo D l) (X.pn ++ pins) (fun e s1 => wpAny (model X.prog X.w) X.A (noteFrame e X.env) (fun _ s2 => wpAny (model X.prog X.w) X.A (setFlight e none) (fun _ s3 => wpAny (model X.prog X.w) X.A (handleBy e X.env (h0 :: hds)) (SP X pins D) X.xe s3) X.xe s2) X.xe s1) (fun u s' xx => ?_) PassesOwn.looking).run [] s σ H D (I.toTry _) h) (fun f s1 hsp => ?_) (fun e s1 he => he))
  · obtain ⟨a, B, sI, pins', σ', H', cls, d, rfl, J', nb, up, sky, na, os, ag, w⟩ := xx
    have J : Inv X pins σ' H' sI := J'.ofTry ok
    show wpAny (model X.prog X.w) X.A (noteFrame (.ref a) X.env) _ _ _
    refine L2N.Sky.land L2N.Zn.steady frm hf (show Sky B (X.env :: X.outer) a (L2N.Zn cls d) X.env.locals s'.heap by rw [← hs]; exact sky) fun h3 fl up3 => ?_
    have J3 : Inv X pins σ' H' { s' with heap := h3 } := J.landed nb fl.1 (up.trans up3) os ag
    obtain ⟨o3, us3, g3, z3, d3⟩ := fl.there
    have nfr : a ∉ frs (X.env :: X.outer) := fun hm => by
      obtain ⟨_, o', e', hnf⟩ := fl.2.2.1.mem hm
      rw [g3] at e'; cases e'
      exact hnf _ d3
    have nL : a ≠ X.env.locals := fun z => nfr (List.mem_filterMap.mpr ⟨X.env, List.mem_cons_self, by rw [hf, z]⟩)
    have nI : sI.heap.get? a = none := by
      cases q : sI.heap.get? a with
      | none => rfl
      | some o =>
        have y := nb a o q (by rw [hs]; exact nfr)
        rw [fl.2.1] at y; cases y
    have n0 : X.s_0.heap.get? a = none := by
      cases q : X.s_0.heap.get? a with
      | none => rfl
      | some o =>
        obtain ⟨o', y⟩ := J.base.there a o q (by rw [hex]; simp)
        rw [nI] at y; cases y
    have npn : ∀ p ∈ X.pn ++ pins, p.1 ≠ a := fun p hp y => by
      have z := (J.pin p hp).1
      rw [y, nI] at z; cases z
    have go : ∀ {hd2 : List ExceptHandler} {l2 : List Hnd}, HndsOk X hd2 l2 → wCls X.K Wo D l2 cls d σ' H' → wpAny (model X.prog X.w) X.A (handleBy (.ref a) X.env hd2) (SP X pins D) X.xe { s' with heap := h3 } := by
      intro hd2 l2 hk
      induction hk with
      | nil =>
        intro w
        refine wpAny_handleBy_nil ?_
        obtain ⟨k1, k2, k3, oe, vs, T, oT, ts', he, hz, hdd, h1, hr⟩ := id fl
        unfold PySem.passOn
        refine wpAny_bind (wpAny_field he hdd h1 ?_)
        rw [if_neg (show ¬ ((Value.ref T == Value.none) = true) from by simp)]
        have fin : wpAny (model X.prog X.w) X.A (setFlight (.ref a) X.env.frame) (fun _ s4 => wpAny (model X.prog X.w) X.A (throw (.ref a) : Sem Flow) (SP X pins D) X.xe s4) X.xe { s' with heap := h3 } := by
          rw [hf]
          exact HandSPX.setFlight_upZ fl fun h4 hh4 up4 => wpAny_throw (tk _ _ ⟨a, B, sI, pins, σ', H', cls, d, rfl, J, nb, (up.trans up3).trans up4, .inr (.inr (by rw [hs]; exact hh4)), na, os, ag, w⟩)
        first | exact wpAny_bind (wpAny_pure (wpAny_bind fin)) | exact wpAny_bind fin
      | cons x np pos' nm b0 suite h hd3 l3 hc hn hsu r ih =>
        intro w
        obtain ⟨b, hb1, yes, no⟩ := w
        refine wpAny_handleBy_cons (codeAny_handlers_test ?_) (by intro q; cases q)
        have LT : PySem.W.Looks (model X.prog X.w) h3 (typeOf (.ref a)) cls := fun A Q E s k q => wpAny_typeOf_ref (k _ _ g3) (by rw [z3.1]; exact q)
        have LM := PySem.W.exm_one (M := model X.prog X.w) J3.kIn LT hb1
        have S0 : Inv (Cx.suite X a (X.pn ++ pins)) [] σ' H' { s' with heap := h3 } := ⟨ok.suite a (X.pn ++ pins), J3.os, J3.bare, J3.base, J3.loc, J3.cell, J3.free, J3.freeC, fun p hp => J3.pin p (by simpa using hp), J3.hok, J3.len⟩
        have test : ∀ {Q : Value → Shared → Prop} {E : Value → Shared → Prop}, Q h.c { s' with heap := h3 } → wpAny (model X.prog X.w) (X.A.mark (some (.ref a))) (eval (.Name x np) X.env) Q E { s' with heap := h3 } := fun {Q E} q => by
          obtain ⟨hg, hdbg, hm | ⟨hm, hv, hnn⟩⟩ := hc
          · exact ld_glob (X := Cx.suite X a (X.pn ++ pins)) S0 hg hm q hdbg
          · exact ld_blt (X := Cx.suite X a (X.pn ++ pins)) S0 hg hm hv q hnn hdbg
        refine test (LM.here ?_)
        cases b with
        | false => exact ih (no rfl)
        | true =>
          obtain ⟨C, ecl, yes2⟩ := yes rfl
          subst ecl
          have fins : ∀ {h4 : Heap}, HandSPX.FlyingZ B (X.env :: X.outer) a (L2N.Zn (.ref C) d) h4 → h3.UpToSlots h4 → Inv (Cx.su X a (X.pn ++ pins)) [] σ' (upd H' a (exH C d a)) { s' with heap := h4 } := fun {h4} fl4 up4 => by
            have J4 : Inv X pins σ' H' { s' with heap := h4 } := J.landed nb fl4.1 ((up.trans up3).trans up4) os ag
            obtain ⟨o4, us4, g4, z4, d4⟩ := fl4.there
            exact inv_caught J4 g4 z4 d4 na n0 nL npn
          cases nm with
          | none =>
            cases hnm : h.nm with
            | some i => rw [hnm] at hn; exact hn.elim
            | none =>
              refine codeAny_handlers_suite (HandSPX.lands_againZ fl fun h4 fl4 up4 => ?_)
              have yy := yes2 a na
              unfold Hnd.put at yy
              rw [hnm] at yy
              refine wpAny_mono ((hsu a C d (X.pn ++ pins)).run [] _ _ _ _ (fins fl4 up4) yy) (fun f s6 hsp => ?_) (fun _ _ z => False.elim z)
              have off : ∀ σ, h.off σ = σ := fun σ => by unfold Hnd.off; rw [hnm]
              cases f with
              | next =>
                obtain ⟨σ6, H6, S6, q6⟩ := hsp
                exact ⟨_, _, inv_uncaught S6 ok, by have q6 : D.nx (h.off σ6) H6 := q6; rw [off] at q6; exact q6⟩
              | brk =>
                obtain ⟨σ6, H6, S6, q6⟩ := hsp
                exact ⟨_, _, inv_uncaught S6 ok, by have q6 : D.bk (h.off σ6) H6 := q6; rw [off] at q6; exact q6⟩
              | cont =>
                obtain ⟨σ6, H6, S6, q6⟩ := hsp
                exact ⟨_, _, inv_uncaught S6 ok, by have q6 : D.ct (h.off σ6) H6 := q6; rw [off] at q6; exact q6⟩
              | ret u =>
                obtain ⟨v6, σ6, H6, S6, r6, q6⟩ := hsp
                exact ⟨_, _, _, inv_uncaught S6 ok, r6, q6⟩
          | some n =>
            cases hnm : h.nm with
            | none => rw [hnm] at hn; exact hn.elim
            | some i =>
              rw [hnm] at hn
              obtain ⟨hi, hln⟩ := hn
              have hln' : X.env.kindOf n = some .local := hln
              refine codeAny_handlers_suite_as (HandSPX.lands_againZ fl fun h4 fl4 up4 => ?_)
              have yy := yes2 a na
              unfold Hnd.put at yy
              rw [hnm] at yy
              have off : ∀ σ, h.off σ = σ.set i none := fun σ => by unfold Hnd.off; rw [hnm]
              refine store_ok (X := Cx.su X a (X.pn ++ pins)) (v := .ref a) (fins fl4 up4) hN hi (.inl hln') rfl (fun s5 S5 => ?_) (.inr hln')
              refine wpAny_mono ((hsu a C d (X.pn ++ pins)).run [] s5 _ _ _ S5 yy) (fun f s6 hsp => ?_) (fun _ _ z => False.elim z)
              have last : ∀ {σ6 : St} {H6 : Hp} {Q : Shared → Prop}, Inv (Cx.su X a (X.pn ++ pins)) [] σ6 H6 s6 → (∀ s7, Inv X pins (σ6.set i none) H6 s7 → Q s7) → wpAny (model X.prog X.w) X.A (do bindName X.env n .none; unbindBehindTheSuite X.env n pos') (fun _ s7 => Q s7) X.xe s6 := fun {σ6 H6 Q} S6 hq => gone_ok (inv_uncaught S6 ok) hN hi hln' hq
              cases f with
              | next =>
                obtain ⟨σ6, H6, S6, q6⟩ := hsp
                exact last S6 fun s7 J7 => ⟨_, _, J7, by have q6 : D.nx (h.off σ6) H6 := q6; rw [off] at q6; exact q6⟩
              | brk =>
                obtain ⟨σ6, H6, S6, q6⟩ := hsp
                exact last S6 fun s7 J7 => ⟨_, _, J7, by have q6 : D.bk (h.off σ6) H6 := q6; rw [off] at q6; exact q6⟩
              | cont =>
                obtain ⟨σ6, H6, S6, q6⟩ := hsp
                exact last S6 fun s7 J7 => ⟨_, _, J7, by have q6 : D.ct (h.off σ6) H6 := q6; rw [off] at q6; exact q6⟩
              | ret u =>
                obtain ⟨v6, σ6, H6, S6, r6, q6⟩ := hsp
                exact last S6 fun s7 J7 => ⟨_, _, _, J7, r6, q6⟩
    exact go hh w
  · cases f with
    | next =>
      obtain ⟨σ', H', J', q⟩ := hsp
      exact wpAny_execs_nil ⟨σ', H', J'.ofTry ok, q⟩
    | brk => exact hsp.elim fun σ' ⟨H', J', q⟩ => ⟨σ', H', J'.ofTry ok, q⟩
    | cont => exact hsp.elim fun σ' ⟨H', J', q⟩ => ⟨σ', H', J'.ofTry ok, q⟩
    | ret u => exact hsp.elim fun v ⟨σ', H', J', r, q⟩ => ⟨v, σ', H', J'.ofTry ok, r, q⟩
end
end Vm

namespace Vm
open PySem PySem.Spec PyProof.Rows L2

/-! ## exceptions of one's own classes, made -/
/-- a class over ValueError that has no __init__ of its own: C.__init__ is ValueError's -/
structure BaseC (K : Kz) (C0 : Addr) : Prop where
  ga : PySem.W.specialIn K (.ref C0) "__getattribute__" = some (some (.builtin "type.__getattribute__"))
  ty : PySem.W.typeIn K (.ref C0) = some (.type "type")
  rd : PySem.W.readsIn K C0 (.type "type") = true
  fi : PySem.W.findCls K (.ref C0) (.type "type") "__init__" = some (.val (.builtin "ValueError.__init__"))
/-- a class with fields: its own __init__ at fI -/
structure FldC (K : Kz) (C fI : Addr) (fs : List Str) : Prop where
  ox : OexC K C
  ini : PySem.W.findIn K (.ref C) "__init__" = some (some (.ref fI))
  tI : PySem.W.typeIn K (.ref fI) = some (.type "function")
  nf : ∀ f ∈ fs, PySem.W.findIn K (.ref C) f = some none
/-- what C's __init__ does: the fields are kept in a dict -/
def spInit (C : Addr) (fs : List Str) : Sp := fun vs H Q _ => ∃ (a : Addr) (us : List V), vs = .ref a :: us ∧ us.length = fs.length ∧ H a = some (exo a C none) ∧
  ∀ (d : Addr) (gs : List (Str × V)) (H2 : Hp), H d = none → d ≠ a → H2 a = some (exo a C (some d)) → H2 d = some (exd d gs) → (∀ (j : Nat) (n : Str), fs[j]? = some n → gs.lookup n = us[j]?) → (∀ b, b ≠ a → b ≠ d → H2 b = H b) → Q .non H2
/-- how a call x.__init__(..) is evaluated -/
def InitCall (x : Str) (p1 p2 : Pos) (es : List Expr) (pos : Pos) : Prop := ∀ env : Env, ∃ pl, eval (.Call (.Attribute (.Name x p1) "__init__" p2) es [] pos) env = (do
      let ov ← eval (.Name x p1) env
      standAt p2.atName
      let (f, first) ← holding [ov] (getMethod ov "__init__" pl)
      callWith pos f first (backTo pos (starEach es env)) (backToKw pos (keywordEach [] env)))
section
variable {X : Cx} {e : Expr} {es : List Expr} {ta : TA} {x : Str} {C0 : Addr} {p1 p2 pos : Pos}
theorem pe_initC (hg : Gl X x) (hm : X.mg x = some (.ref C0)) (B : BaseC X.K C0) (ha : PA X (e :: es) ta) (hdb : (x == ("__debug__" : Str)) = false)
    (hc : InitCall x p1 p2 (e :: es) pos)
    (he : starEach (e :: es) X.env = (false, eval e X.env) :: starEach es X.env := by rfl) (hpl : (backTo pos (starEach es X.env)).any (·.1) = false := by rfl) :
    PE X (.Call (.Attribute (.Name x p1) "__init__" p2) (e :: es) [] pos) (tVeI X.K ta) := by
  obtain ⟨pl, hc⟩ := hc X.env
  refine ⟨fun pins s σ H Q I h => PySem.W.methodCall_KW (ld_glob I hg hm ?_ hdb) hc⟩
  obtain ⟨m, fr⟩ := I.fr
  refine PySem.W.method_of_cls fr I.ok.mod.kin B.ga (PySem.W.cls_val fr I.ok.mod.kin B.ty B.rd B.fi (by decide +kernel) ?_)
  show wpAny _ _ (callWith pos (Value.builtin "ValueError.__init__") [] (backTo pos (starEach (e :: es) X.env)) []) _ _ _
  refine PyProof.Rows.callWith_method1 (thn (ha.run pos pins _ σ H _ (I.tok _) h) fun us s1 ⟨vs, H1, I1, r1, a, C, ws, ev, hl, T, ea, q⟩ => ?_) he hpl
  subst ev
  cases r1 with
  | @cons _ u0 _ ur ra rw' =>
    obtain rfl : u0 = Value.ref a := ra
    have hn : ur.length ≤ sizeLine := by rw [← Paired.length rw', sizeLine_eq]; omega
    exact oinit_ok T I1 ea hn fun s' J => ⟨.non, H1, J, rfl, q⟩
end
section
variable {P : Program} {w : World} {K : Kz} {mg : Str → Option Value} {base : Heap} {k : Nat} {f C C0 : Addr} {fd : FuncData} {st : Stmt} {qual sx f1 f2 x1 x2 m : Str} {j : Nat} {p1 p2 p3 p4 p5 p6 p7 p8 p9 q7 q8 q9 q6 pos2 : Pos}
/-- __init__ with one field -/
theorem initG1 (F : L2.Fun K "__init__" qual st f fd) (S : FnScope ["self", x1] ["self", x1] (defScope st)) (hs : (defScope st).names.lookup sx = some .globalImplicit) (h0 : (defScope st).names.lookup ("self" : Str) = some .local) (h1 : (defScope st).names.lookup x1 = some .local)
    (hd : (sx == ("__debug__" : Str)) = false) (hd1 : (x1 == ("__debug__" : Str)) = false) (hc1 : (x1 == ("__classdict__" : Str)) = false) (hm : mg sx = some (.ref C0)) (B : BaseC K C0) (T : FldC K C f [f1])
    (hcl : InitCall sx p1 p2 [.Name "self" p3, .Constant (.str m) j p4] p5) (hsw : ∀ env, swapsWith (.Call (.Attribute (.Name sx p1) "__init__" p2) [.Name "self" p3, .Constant (.str m) j p4] [] p5) none p6.line env = pure false) (hs1 : ∀ env, swapsWith (.Name x1 p9) (some (.Attribute (.Name "self" p7) f1 p8)) q6.line env = pure false)
    (hb : defBody st = [.Expr (.Call (.Attribute (.Name sx p1) "__init__" p2) [.Name "self" p3, .Constant (.str m) j p4] [] p5) p6, .Assign [.Attribute (.Name "self" p7) f1 p8] (.Name x1 p9) q6]) :
    FnG true P w K mg base (k + 1) f fd ["self", x1] (spInit C [f1]) := by
  refine fnG_of F S (fun vs H Q E ⟨a, us, e, l, _⟩ => by rw [e]; simp [l]) fun cdv A os s H vs Q E hr hgu h => ?_
  rw [hb]
  obtain ⟨a, us, rfl, l, ea, h⟩ := h
  obtain ⟨y, rfl⟩ : ∃ y, us = [y] := by
    match us, l with
    | [y], _ => exact ⟨y, rfl⟩
  refine ⟨_, pss_cons (ps_expr (pe_initC (C0 := C0) hs hm B (pa_cons (pe_var (i := 0) rfl (.inl h0) (by decide +kernel) (by decide +kernel)) (pa_cons pe_str pa_nil)) hd hcl) (hsw _)) (pss_one (ps_ost (pe_var (i := 0) rfl (.inl h0) (by decide +kernel) (by decide +kernel)) (pe_var (i := 1) rfl (.inl h1) hd1 hc1) (hs1 _))), ?_⟩
  refine ⟨.ref a, rfl, a, C, [.str m], rfl, by simp, T.ox, ea, y, rfl, .ref a, rfl, a, C, rfl, T.ox, T.nf f1 (by simp), .inl ⟨ea, fun dx n ne => ?_⟩⟩
  refine h dx [(f1, y)] _ n ne upd_same (by rw [upd_ne ne, upd_same]) (fun jj nn e => ?_) fun b hb1 hb2 => by rw [upd_ne hb1, upd_ne hb2]
  match jj, e with
  | 0, e => simp at e; subst e; simp
/-- .. with two -/
theorem initG2 (F : L2.Fun K "__init__" qual st f fd) (S : FnScope ["self", x1, x2] ["self", x1, x2] (defScope st)) (hs : (defScope st).names.lookup sx = some .globalImplicit) (h0 : (defScope st).names.lookup ("self" : Str) = some .local) (h1 : (defScope st).names.lookup x1 = some .local) (h2 : (defScope st).names.lookup x2 = some .local)
    (hd : (sx == ("__debug__" : Str)) = false) (hd1 : (x1 == ("__debug__" : Str)) = false) (hc1 : (x1 == ("__classdict__" : Str)) = false) (hd2 : (x2 == ("__debug__" : Str)) = false) (hc2 : (x2 == ("__classdict__" : Str)) = false) (hm : mg sx = some (.ref C0)) (B : BaseC K C0) (T : FldC K C f [f1, f2]) (hne : (f1 == f2) = false)
    (hcl : InitCall sx p1 p2 [.Name "self" p3, .Constant (.str m) j p4] p5) (hsw : ∀ env, swapsWith (.Call (.Attribute (.Name sx p1) "__init__" p2) [.Name "self" p3, .Constant (.str m) j p4] [] p5) none p6.line env = pure false) (hs1 : ∀ env, swapsWith (.Name x1 p9) (some (.Attribute (.Name "self" p7) f1 p8)) q6.line env = pure false) (hs2 : ∀ env, swapsWith (.Name x2 q9) (some (.Attribute (.Name "self" q7) f2 q8)) pos2.line env = pure false)
    (hb : defBody st = [.Expr (.Call (.Attribute (.Name sx p1) "__init__" p2) [.Name "self" p3, .Constant (.str m) j p4] [] p5) p6, .Assign [.Attribute (.Name "self" p7) f1 p8] (.Name x1 p9) q6, .Assign [.Attribute (.Name "self" q7) f2 q8] (.Name x2 q9) pos2]) :
    FnG true P w K mg base (k + 1) f fd ["self", x1, x2] (spInit C [f1, f2]) := by
  refine fnG_of F S (fun vs H Q E ⟨a, us, e, l, _⟩ => by rw [e]; simp [l]) fun cdv A os s H vs Q E hr hgu h => ?_
  rw [hb]
  obtain ⟨a, us, rfl, l, ea, h⟩ := h
  obtain ⟨y, z, rfl⟩ : ∃ y z, us = [y, z] := by
    match us, l with
    | [y, z], _ => exact ⟨y, z, rfl⟩
  refine ⟨_, pss_cons (ps_expr (pe_initC (C0 := C0) hs hm B (pa_cons (pe_var (i := 0) rfl (.inl h0) (by decide +kernel) (by decide +kernel)) (pa_cons pe_str pa_nil)) hd hcl) (hsw _)) (pss_cons (ps_ost (pe_var (i := 0) rfl (.inl h0) (by decide +kernel) (by decide +kernel)) (pe_var (i := 1) rfl (.inl h1) hd1 hc1) (hs1 _)) (pss_one (ps_ost (pe_var (i := 0) rfl (.inl h0) (by decide +kernel) (by decide +kernel)) (pe_var (i := 2) rfl (.inl h2) hd2 hc2) (hs2 _)))), ?_⟩
  refine ⟨.ref a, rfl, a, C, [.str m], rfl, by simp, T.ox, ea, y, rfl, .ref a, rfl, a, C, rfl, T.ox, T.nf f1 (by simp), .inl ⟨ea, fun dx n ne => ?_⟩⟩
  refine ⟨z, rfl, .ref a, rfl, a, C, rfl, T.ox, T.nf f2 (by simp), .inr ⟨dx, [(f1, y)], upd_same, by rw [upd_ne ne, upd_same], by simp, ?_⟩⟩
  refine h dx [(f2, z), (f1, y)] _ n ne (by rw [upd_ne (Ne.symm ne), upd_same]) upd_same (fun jj nn e => ?_) fun b hb1 hb2 => by rw [upd_ne hb2, upd_ne hb1, upd_ne hb2]
  match jj, e with
  | 0, e => simp at e; subst e; simp [List.lookup, hne]
  | 1, e => simp at e; subst e; simp
end
end Vm

namespace Vm
open PySem PySem.Spec PyProof.Rows L2

/-! ## raise, try, fields: as statements on trees -/
theorem xdf_same {H H' : Hp} {ns : List Str} {vs : List V} {d : Option Addr} (e : Same H H') (h : XdF H ns vs d) : XdF H' ns vs d := xdF_mono (.same e) h
section
variable {X : Cx} {C : Ctx} {s : Sx} {G G1 G2 Gh G' : Gam} {pins : List Nat} {es : List Expr} {e : Expr} {ms : List Am} {gs : Sl → Res (List W)} {fe : Sl → Res W} {mo : Mo} {pos p p2 p3 : Pos}
/-- raise X("..") -/
theorem js_raise0 {x m : Str} {j : Nat} {Ce : Addr} {bmB : List Value} {newId B initId : String} (hc : X.calm = true) (tk : L2N.Takes X C.Wh) (F : ExcBaseFacts B newId initId bmB) (q : PySem.W.excIn X.K Ce bmB newId = true) (gC : X.mg x = some (.ref Ce)) (kC : PySem.W.keepIn X.K (.ref Ce) = true) (r : Raises X (.ref Ce)) (hg : Gl X x) (hdb : (x == ("__debug__" : Str)) = false)
    (hxr : ∀ H, C.xr ⟨x, [], []⟩ (.ref Ce) none H) (hG : gle C.Gx G = true) : JS X C s G pins (.Raise (some (.Call (.Name x p) [.Constant (.str m) j p2] [] p3)) none pos) G' (fun S => .exc ⟨x, [], []⟩ S) :=
  PS.imp (L2N.ps_raise hc tk (L2N.pmk_own F q gC kC r hg hdb)) fun D σ H ⟨cs, S, R, p, pp, o⟩ => o σ (.ref Ce) none H cs R (Nat.le_refl _) .refl (p.gle hG) (hxr H)
/-- C(e, ..), C with fields -/
theorem pmk_fld {x : Str} {Ce fI : Addr} {k : Nat} {fd : FuncData} {ps fs : List Str} {ta : TA} (T : FldC X.K Ce fI fs) (F1 : FnG true X.prog X.w X.K X.mg X.base k fI fd ps (spInit Ce fs)) (hps : ps.length = fs.length + 1) (hl : fs.length ≤ 900) (hr : Room (k + 1) X.A) (hgu : X.A.guards = some []) (hb : Binds X.K fd ps []) (hg : Gl X x) (hm : X.mg x = some (.ref Ce)) (ha : PA X (e :: es) ta)
    (hdb : (x == ("__debug__" : Str)) = false) (he : starEach (e :: es) X.env = (false, eval e X.env) :: starEach es X.env) (hpl : (backTo pos (starEach es X.env)).any (·.1) = false) :
    L2N.PMk X (.Call (.Name x p) (e :: es) [] pos) (fun σ H Q => ta σ H fun vs H1 => vs.length = fs.length ∧ ∀ d gs, H1 d = none → (∀ (j : Nat) (n : Str), fs[j]? = some n → gs.lookup n = vs[j]?) → Q (.ref Ce) (some d) (upd H1 d (.xd gs))) := by
  intro pins s σ H Q I h
  obtain ⟨nm, q, N, bs, bm, sn, sub, ab, col, dd, k0, k1, k2, k3, k5, hC, hbm⟩ := T.ox.cls
  refine wpAny_Call_Name_kw (ld_glob I hg hm ?_ hdb)
  refine PySem.W.callWith_K (h₀ := X.base) I.ok.mod.kin T.ox.kC (thn (ha.run pos pins s σ H _ I h) fun us s1 ⟨vs, H1, I1, r1, hz, q1⟩ => ⟨I1.kIn, ?_⟩) he hpl
  show wpAny _ _ (call (.ref Ce) us) _ _ _
  obtain ⟨hp, g, dr, tk, os⟩ := s1
  have hsz : hp.objs.size ≤ hp.objs.size + 1 := Nat.le_succ _
  have hn : H1 (hp.objs.size + 1) = none := I1.hok.fresh hsz
  have eus : us.length = fs.length := by rw [← Paired.length r1]; exact hz
  have hus : us.length ≤ sizeLine := by rw [eus, sizeLine_eq]; omega
  have kk : ∀ b o, hp.get? b = some o → ((hp.push (PySem.W.kdv_tup us)).push (PySem.HandSPX.excO Ce hp.objs.size)).get? b = some o := fun b o e => Heap.get?_push_of_some _ (Heap.get?_push_of_some _ e)
  have hget : ((hp.push (PySem.W.kdv_tup us)).push (PySem.HandSPX.excO Ce hp.objs.size)).get? (hp.objs.size + 1) = some (PySem.HandSPX.excO Ce hp.objs.size) := by heap_get
  have I2 : Inv X pins σ (upd H1 (hp.objs.size + 1) (exo (hp.objs.size + 1) Ce none)) ⟨(hp.push (PySem.W.kdv_tup us)).push (PySem.HandSPX.excO Ce hp.objs.size), g, dr, tk, os⟩ := I1.laid (t' := tk) kk hsz (exo_ok hget)
  have r2 : Vals (V.ref (hp.objs.size + 1) :: vs) (Value.ref (hp.objs.size + 1) :: us) := .cons rfl r1
  have b2 := hb _ (Value.ref (hp.objs.size + 1) :: us) I2.kIn (by simp [eus, hps])
  rw [List.append_nil] at b2
  have hrm : RoomB true k (X.A.under (.builtin "type.__call__" ⟨.ref Ce :: us, []⟩)) := .of (hr.make Ce us [])
  have hsp : spInit Ce fs (V.ref (hp.objs.size + 1) :: vs) (upd H1 (hp.objs.size + 1) (exo (hp.objs.size + 1) Ce none)) (fun v H2 => v = .non ∧ ∃ (d : Addr) (gs : List (Str × V)), H2 (hp.objs.size + 1) = some (exo (hp.objs.size + 1) Ce (some d)) ∧ H2 d = some (exd d gs) ∧ H1 d = none ∧ Q (.ref Ce) (some d) (upd (del H2 (hp.objs.size + 1)) d (.xd gs))) (fun _ _ _ => False) := by
    refine ⟨_, vs, rfl, hz, upd_same, fun d gs H2 nd ne ea ed hgs oth => ⟨rfl, d, gs, ea, ed, by rw [upd_ne ne] at nd; exact nd, ?_⟩⟩
    have nd1 : H1 d = none := by rw [upd_ne ne] at nd; exact nd
    have eH : upd (del H2 (hp.objs.size + 1)) d (.xd gs) = upd H1 d (.xd gs) := by
      funext b
      by_cases hb1 : b = d
      · rw [hb1, upd_same, upd_same]
      · rw [upd_ne hb1, upd_ne hb1]
        by_cases hb2 : b = hp.objs.size + 1
        · rw [hb2, del_same, hn]
        · rw [del_ne hb2, oth b hb2 hb1, upd_ne hb2]
    rw [eH]
    exact q1 d gs nd1 hgs
  refine wpAny_call (PySem.HandSPX.call_own F.excBase_ValueError (fun Y => PySem.HandSPX.refsVE_contains Y bm hbm) (I1.kIn _ _ hC) (PySem.W.looks_findIn I1.kIn T.ini) (fun self => PySem.W.bind_fn I1.kIn self T.tI) hus
    (codeAny_mono (F1.run _ X.stack _ _ ⟨Value.ref (hp.objs.size + 1) :: us, []⟩ (Value.ref (hp.objs.size + 1) :: us) _ _ (fun _ _ _ => False) hrm hgu (I2.env0.make Ce us []) b2 r2 hsp) fun r s' hq' => ?_))
  cases r with
  | error er =>
    obtain ⟨_, _, _, _, _, _, _, _, _, _, _, _, z⟩ := hq'
    exact z.elim
  | ok fl =>
    cases fl with
    | ret u =>
      obtain ⟨v, H2, os2, bare2, un2, hok2, rv, ev, d, gs, ea, ed, hd1, q2⟩ := hq'
      subst ev
      obtain ⟨h2, g2, d2, t2, os'⟩ := s'
      obtain ⟨t0, Gg, J, kG, ge, hoe, na⟩ := mk_end0 (d2 := d2) (t2 := t2) I1 hsz kk un2 hok2 os2 bare2 ea ed hd1
      exact ⟨rv, hp.objs.size + 1, _, _, ⟨Gg, g2, d2, t2, os'⟩, _, .ref Ce, some d, rfl, J, kG, ge, hoe, ⟨rfl, rfl, fun vs hv => by cases hv; rfl⟩, rfl, rfl, na, rfl, bare2, raises_own T.ox.exC T.ox.tyC, q2⟩
    | next => exact False.elim hq'
    | brk => exact False.elim hq'
    | cont => exact False.elim hq'
def fRaise (c : Str) (ns : List Str) (g : Sl → Res (List W)) : Sl → Res Fl := fun S => (g S).bind fun ws S1 => if W.pure.all ws = true ∧ ws.length = ns.length then .exc ⟨c, ns, ws⟩ S1 else .err
theorem js_raiseF {x : Str} {Ce : Addr} {fs : List Str} (hc : X.calm = true) (tk : L2N.Takes X C.Wh) (ja : JA X C G pins (e :: es) ms G1 gs) (hp : plain ms = true)
    (mk : ∀ ta, PA X (e :: es) ta → L2N.PMk X (.Call (.Name x p) (e :: es) [] p3) (fun σ H Q => ta σ H fun vs H1 => vs.length = fs.length ∧ ∀ d us, H1 d = none → (∀ (j : Nat) (n : Str), fs[j]? = some n → us.lookup n = vs[j]?) → Q (.ref Ce) (some d) (upd H1 d (.xd us))))
    (hn : PySem.W.nsIn C.K mainGlobals x = some (some (.ref Ce))) (hxr : C.xr = xrK C.K) (hG : gle C.Gx G1 = true) : JS X C s G pins (.Raise (some (.Call (.Name x p) (e :: es) [] p3)) none pos) G' (fRaise x fs gs) := by
  refine PS.imp (L2N.ps_raise hc tk (mk _ ja.pa)) fun D σ H ⟨cs, S, R, p, pp, o⟩ => ⟨cs, S, R, p, pp, ?_⟩
  unfold fRaise at o
  cases hg : gs S with
  | err => rw [hg] at o; exact o
  | exc y S' => rw [hg] at o; exact o σ
  | ok ws S1 =>
    rw [hg] at o
    intro vs H1 cs1 R1 l1 a1 T1 g1
    have o : OutS C cs.length cs s D G' (if W.pure.all ws = true ∧ ws.length = fs.length then .exc ⟨x, fs, ws⟩ S1 else .err) := o
    by_cases hw : W.pure.all ws = true ∧ ws.length = fs.length
    · rw [if_pos hw] at o
      obtain ⟨fps, q, _⟩ := argsAt_vws R1 R.ln hp a1
      have ef := Vws.of_pure hw.1 q
      subst ef
      have lv := q.length
      refine ⟨by omega, fun d us nd hus => ?_⟩
      have sm : Same H1 (upd H1 d (.xd us)) := Same.upd nd
      exact o σ (.ref Ce) (some d) (upd H1 d (.xd us)) cs1 (R1.same sm) (by omega) T1 (g1.gle hG) (by rw [hxr]; exact ⟨Ce, vs, rfl, hn, q.same sm, us, upd_same, by show fs.length = _; omega, hus⟩)
    · rw [if_neg hw] at o
      exact o.elim

/-! ### try -/
/-- which class stands under which: what a law's text needs of it -/
abbrev SubT := List (Str × Str × Bool)
def subL (t : SubT) (a b : Str) : Option Bool := (t.find? fun r => r.1 == a && r.2.1 == b).map (·.2.2)
def SubOk (K : Kz) (t : SubT) : Prop := ∀ r ∈ t, ∀ A B, PySem.W.nsIn K mainGlobals r.1 = some (some (.ref A)) → PySem.W.nsIn K mainGlobals r.2.1 = some (some (.ref B)) → PySem.W.exmOne K (.ref A) (.ref B) = some r.2.2
theorem subL_ok {K : Kz} {t : SubT} (h : SubOk K t) {a b : Str} {r : Bool} (e : subL t a b = some r) {A B : Addr} (ha : PySem.W.nsIn K mainGlobals a = some (some (.ref A))) (hb : PySem.W.nsIn K mainGlobals b = some (some (.ref B))) : PySem.W.exmOne K (.ref A) (.ref B) = some r := by
  unfold subL at e
  obtain ⟨x, hx, rfl⟩ := Option.map_eq_some_iff.mp e
  have hm := List.mem_of_find?_eq_some hx
  have hp := List.find?_some hx
  rw [Bool.and_eq_true] at hp
  have e1 : x.1 = a := by simpa using hp.1
  have e2 : x.2.1 = b := by simpa using hp.2
  exact h x hm A B (by rw [e1]; exact ha) (by rw [e2]; exact hb)
/-- a clause on trees: the class, the slot of the name, the suite -/
structure Cl where
  c : Str
  nm : Option Nat
  f : Sl → Res Fl
def Cl.put (h : Cl) (x : XV) (S : Sl) : Sl := match h.nm with
  | none => S
  | some i => S.set i (some (.ins x.c x.ns x.as))
def Cl.off (h : Cl) (S : Sl) : Sl := match h.nm with
  | none => S
  | some i => S.set i none
def fHnd (t : SubT) : List Cl → XV → Sl → Res Fl
  | [], x, S => .exc x S
  | h :: r, x, S => match subL t x.c h.c with
    | none => .err
    | some false => fHnd t r x S
    | some true => match h.f (h.put x S) with
      | .ok fl S2 => .ok fl (h.off S2)
      | .exc _ _ => .err
      | .err => .err
def fTry (t : SubT) (fb : Sl → Res Fl) (hs : List Cl) : Sl → Res Fl := fun S => match fb S with
  | .exc x S' => fHnd t hs x S'
  | r => r
/-- the suite's context -/
def Ctx.suite (C : Ctx) : Ctx := { C with Gx := [], Wh := fun _ _ _ _ => False }
def putG (nm : Option Nat) (G : Gam) : Gam := match nm with
  | none => G
  | some i => G.set i (some (.B []))
def offG (nm : Option Nat) (G : Gam) : Gam := match nm with
  | none => G
  | some i => G.set i none
def nmOkT (X : Cx) (C : Ctx) (Gh : Gam) : Option Str → Option Nat → Prop
  | none, none => True
  | some n, some i => X.N[i]? = some n ∧ X.env.kindOf n = some .local ∧ i < C.n ∧ i < Gh.length ∧ ipFree C i
  | _, _ => False
/-- the clauses' suites -/
inductive JHs (X : Cx) (C : Ctx) (s : Sx) (Gh G' : Gam) (pins : List Nat) : List ExceptHandler → List Cl → Prop
  | nil : JHs X C s Gh G' pins [] []
  | cons (x : Str) (np pos : Pos) (nm : Option Str) (b0 : Stmt) (suite : List Stmt) (h : Cl) (hds : List ExceptHandler) (l : List Cl) (Ce : Addr) (Gt : Gam) (ec : h.c = x) (hN : PySem.W.nsIn X.K mainGlobals x = some (some (.ref Ce))) (hg : Gl X x) (hm : X.mg x = some (.ref Ce)) (hdb : (x == ("__debug__" : Str)) = false) (hn : nmOkT X C Gh nm h.nm)
      (hs : ∀ a pn, JB (Cx.su X a pn) C.suite s (putG h.nm Gh) pins (b0 :: suite) Gt h.f) (ge : gle G' (offG h.nm Gt) = true) (gb : gle s.Gb (offG h.nm s.Gb) = true) (gc : gle s.Gc (offG h.nm s.Gc) = true) (gr : gle s.Gr (offG h.nm s.Gr) = true) (r : JHs X C s Gh G' pins hds l) : JHs X C s Gh G' pins (.ExceptHandler (some (.Name x np)) nm (b0 :: suite) pos :: hds) (h :: l)
theorem rel_off {cs : Cells} {S : Sl} {σ : St} {H : Hp} (R : RelC C cs S σ H) (p : Has C.n G cs) (i : Nat) (hi : i < C.n) : ∃ cs', RelC C cs' (S.set i none) (σ.set i none) H ∧ cs'.length = cs.length ∧ Tsame C.n cs.length cs cs' ∧ Has C.n (G.set i none) cs' := by
  obtain ⟨cs', R1, l1, T1, g1, h1⟩ := rel_forget1 R p i hi
  refine ⟨cs', R1.weak rfl (fun j x y q1 q2 => by rw [q1] at q2; cases q2; exact .same) R1.ls (by rw [List.length_set]; exact R1.lσ) (fun j c hj q => ⟨rfl, ?_⟩), l1, T1, g1⟩
  rw [List.getElem?_set_ne (Ne.symm (h1 j c q).1)]
end
end Vm

namespace Vm
open PySem PySem.Spec PyProof.Rows L2

section
variable {X : Cx} {C : Ctx} {s : Sx} {G G1 Gh G' : Gam} {pins : List Nat} {pos : Pos}
theorem rel_offT {cs : Cells} {S : Sl} {σ : St} {H : Hp} (R : RelC C cs S σ H) (p : Has C.n G cs) (h : Cl) (hnd : Hnd) (e : hnd.nm = h.nm) (hi : ∀ i, h.nm = some i → i < C.n) : ∃ cs', RelC C cs' (h.off S) (hnd.off σ) H ∧ cs'.length = cs.length ∧ Tsame C.n cs.length cs cs' ∧ Has C.n (offG h.nm G) cs' := by
  unfold Cl.off Hnd.off offG
  rw [e]
  cases q : h.nm with
  | none => exact ⟨cs, R, rfl, .refl, p⟩
  | some i => exact rel_off R p i (hi i q)
theorem rel_offR {cs : Cells} {S : Sl} {σ : St} {H : Hp} (R : RelC C cs S σ H) (p : Has C.n G cs) (h : Cl) (hi : ∀ i, h.nm = some i → i < C.n) : ∃ cs', RelC C cs' (h.off S) σ H ∧ cs'.length = cs.length ∧ Tsame C.n cs.length cs cs' ∧ Has C.n (offG h.nm G) cs' := by
  unfold Cl.off offG
  cases q : h.nm with
  | none => exact ⟨cs, R, rfl, .refl, p⟩
  | some i =>
    obtain ⟨cs', R1, l1, T1, g1, _⟩ := rel_forget1 R p i (hi i q)
    exact ⟨cs', R1, l1, T1, g1⟩
theorem nmOkT_lt {nm : Option Str} {o : Option Nat} (h : nmOkT X C Gh nm o) : ∀ i, o = some i → i < C.n := fun i e => by
  subst e
  cases nm with
  | none => exact h.elim
  | some n => exact h.2.2.1
/-- the suite, at its begin -/
theorem put_in {cs' : Cells} {S' : Sl} {σ' : St} {H' : Hp} {L : Nat} {x : XV} {Ce a : Addr} {d : Option Addr} {nm : Option Str} (h : Cl) (hnd : Hnd) (e : hnd.nm = h.nm) (ok : nmOkT X C Gh nm h.nm) (R : RelC C cs' S' σ' H') (hL : C.n ≤ L) (hl : L ≤ cs'.length) (g : Has C.n Gh cs') (na : H' a = none)
    (hx : ∃ vs, PySem.W.nsIn C.K mainGlobals x.c = some (some (.ref Ce)) ∧ Vws C.K H' x.as vs [] ∧ XdF H' x.ns vs d) :
    ∃ cs2, RelC C cs2 (h.put x S') (hnd.put σ' a) (upd H' a (exH Ce d a)) ∧ cs2.length = L ∧ Tsame C.n L cs' cs2 ∧ Has C.n (putG h.nm Gh) cs2 := by
  have sm : Same H' (upd H' a (exH Ce d a)) := Same.upd na
  have lt : (cs'.take L).length = L := by rw [List.length_take]; omega
  unfold Cl.put Hnd.put putG
  rw [e]
  cases q : h.nm with
  | none => exact ⟨cs'.take L, (R.take hL hl).same sm, lt, fun i h1 h2 => List.getElem?_take_of_lt h2, g.pop hL hl⟩
  | some i =>
    obtain ⟨hi1, hi2, hi3⟩ : i < C.n ∧ i < Gh.length ∧ ipFree C i := by
      rw [q] at ok
      cases nm with
      | none => exact ok.elim
      | some n => exact ok.2.2
    obtain ⟨vs, x1, x2, x3⟩ := hx
    have hv : Vw C.K (upd H' a (exH Ce d a)) (.ins x.c x.ns x.as) (.ref a) [] := by
      simp only [Vw]
      exact ⟨a, vs, rfl, x2.same sm, ⟨Ce, d, x1, upd_same, xdf_same sm x3⟩, trivial⟩
    have R1 := R.repl (c := ⟨.ref a, .ins x.c x.ns x.as, .B [], []⟩) hL hl sm hv (fun y hy => by cases hy) (fun z => by cases z) (fun ds z b hb => by cases hb)
    obtain ⟨R2, l2, T2, g2⟩ := rel_store R1 (g.take (c := some (⟨.ref a, .ins x.c x.ns x.as, .B [], []⟩ : Cell)) hL) hL (by rw [List.length_append, lt]; rfl) (c := ⟨.ref a, .ins x.c x.ns x.as, .B [], []⟩) (by rw [List.getElem?_append_right (by omega), lt]; simp) hi1 hi2 hi3
    exact ⟨_, R2, l2, fun j h1 h2 => by rw [T2 j h1 h2, List.getElem?_append_left (by omega), List.getElem?_take_of_lt h2], g2⟩
theorem hnds_of {hds : List ExceptHandler} {l : List Cl} (hK : X.K = C.K) (h : JHs X C s Gh G' pins hds l) : ∃ hl : List Hnd, HndsOk X hds hl ∧
    ∀ {t : SubT}, SubOk C.K t → C.xr = xrK C.K → gle C.Gx Gh = true → ∀ {cs cs' : Cells} {S' : Sl} {σ' : St} {H' : Hp} {D : Ends} {x : XV} {cls : Value} {d : Option Addr}, C.n ≤ cs.length → PinOk C.n pins cs → OutS C cs.length cs s D G' (fHnd t l x S') → RelC C cs' S' σ' H' → cs.length ≤ cs'.length → Tsame C.n cs.length cs cs' → Has C.n Gh cs' → C.xr x cls d H' → wCls X.K C.Wh D hl cls d σ' H' := by
  induction h with
  | nil => exact ⟨[], .nil, fun {t} _ hxr gx {cs cs' S' σ' H' D x cls d} ln pp o R hl T g hx => o σ' cls d H' cs' R hl T (g.gle gx) hx⟩
  | cons x0 np pos nm b0 suite h hds l Ce Gt ec hN hg hm hdb hn hs ge gb gc gr r ih =>
    obtain ⟨hl, ok, key⟩ := ih
    refine ⟨⟨.ref Ce, h.nm, fun a C2 d => semS C.suite s (putG h.nm Gh) pins Gt h.f⟩ :: hl, .cons x0 np pos nm b0 suite _ hds hl ⟨hg, hdb, .inl hm⟩ ?_ (fun a C2 d pn => hs a pn) ok, ?_⟩
    · show NameOk X nm h.nm
      cases nm with
      | none => cases q : h.nm with
        | none => trivial
        | some i => rw [q] at hn; exact hn.elim
      | some n => cases q : h.nm with
        | none => rw [q] at hn; exact hn.elim
        | some i => rw [q] at hn; exact ⟨hn.1, hn.2.1⟩
    · intro t hsub hxr gx cs cs' S' σ' H' D x cls d ln pp o R hle T g hx
      have hx0 := hx
      rw [hxr] at hx
      obtain ⟨C2, vs, rfl, xn, xv, xd⟩ := hx
      rw [hK] at hN
      subst ec
      unfold fHnd at o
      cases hsb : subL t x.c h.c with
      | none => rw [hsb] at o; exact o.elim
      | some b =>
        rw [hsb] at o
        have exm := subL_ok hsub hsb xn hN
        rw [← hK] at exm
        cases b with
        | false => exact ⟨false, exm, fun z => (by cases z), fun _ => key hsub hxr gx ln pp o R hle T g hx0⟩
        | true =>
          refine ⟨true, exm, fun _ => ⟨C2, rfl, fun a na => ?_⟩, fun z => (by cases z)⟩
          obtain ⟨cs2, R2, l2, T2, g2⟩ := put_in (x := x) h ⟨.ref Ce, h.nm, fun a C2 d => semS C.suite s (putG h.nm Gh) pins Gt h.f⟩ rfl hn R ln hle g na ⟨vs, xn, xv, xd⟩
          have T12 : Tsame C.n cs.length cs cs2 := T.trans T2 (Nat.le_refl _)
          refine ⟨cs2, h.put x S', R2, g2, pp.same l2 T12, ?_⟩
          have hi := nmOkT_lt hn
          have o : OutS C cs.length cs s D G' (match h.f (h.put x S') with | .ok fl S2 => .ok fl (h.off S2) | .exc _ _ => .err | .err => .err) := o
          show OutS C.suite cs2.length cs2 s _ Gt (h.f (h.put x S'))
          cases hf : h.f (h.put x S') with
          | err => rw [hf] at o; exact o.elim
          | exc y S2 => rw [hf] at o; exact o.elim
          | ok fl S2 =>
            rw [hf] at o
            cases fl with
            | nx =>
              intro σ6 H6 cs6 R6 l6 T6 g6
              obtain ⟨cs7, R7, l7, T7, g7⟩ := rel_offT (C := C) R6 g6 h ⟨.ref Ce, h.nm, fun a C2 d => semS C.suite s (putG h.nm Gh) pins Gt h.f⟩ rfl hi
              exact o _ H6 cs7 R7 (by omega) ((T12.trans T6 (by omega)).trans T7 (by omega)) (g7.gle ge)
            | bk =>
              intro σ6 H6 cs6 R6 l6 T6 g6
              obtain ⟨cs7, R7, l7, T7, g7⟩ := rel_offT (C := C) R6 g6 h ⟨.ref Ce, h.nm, fun a C2 d => semS C.suite s (putG h.nm Gh) pins Gt h.f⟩ rfl hi
              exact o _ H6 cs7 R7 (by omega) ((T12.trans T6 (by omega)).trans T7 (by omega)) (g7.gle gb)
            | ct =>
              intro σ6 H6 cs6 R6 l6 T6 g6
              obtain ⟨cs7, R7, l7, T7, g7⟩ := rel_offT (C := C) R6 g6 h ⟨.ref Ce, h.nm, fun a C2 d => semS C.suite s (putG h.nm Gh) pins Gt h.f⟩ rfl hi
              exact o _ H6 cs7 R7 (by omega) ((T12.trans T6 (by omega)).trans T7 (by omega)) (g7.gle gc)
            | rt w =>
              intro v σ6 H6 cs6 k m fp R6 hk hc hown g6
              obtain ⟨cs7, R7, l7, T7, g7⟩ := rel_offR (C := C) R6 g6 h hi
              have hk' : C.n ≤ k := hk
              exact o v σ6 H6 cs7 k m fp R7 hk (by rw [T7 k hk' (List.getElem?_eq_some_iff.mp hc).1]; exact hc) hown (g7.gle gr)
/-- try: body, clauses -/
theorem js_try {t : SubT} {h0 : ExceptHandler} {hds : List ExceptHandler} {l : List Cl} {body : List Stmt} {fb : Sl → Res Fl} (Gh : Gam) (hs : X.stack = X.env :: X.outer) (hf : X.env.frame = some X.env.locals) (hex : X.ex = []) (hN : X.N.Nodup) (tk : L2N.Takes X C.Wh) (hK : X.K = C.K) (hsub : SubOk C.K t) (hxr : C.xr = xrK C.K)
    (hb : ∀ (W : WX) (pn : List (Addr × Obj)) (xe : Value → Shared → Prop), L2N.Takes (X.tr pn xe) W → PassesOwn (model X.prog X.w) X.A X.env xe → JB (X.tr pn xe) { C with Gx := Gh, Wh := W } s G pins body G1 fb)
    (hh : JHs X C s Gh G' pins (h0 :: hds) l) (gx : gle C.Gx Gh = true) (g1 : gle G' G1 = true) : JS X C s G pins (.Try body (h0 :: hds) [] [] pos) G' (fTry t fb l) := by
  obtain ⟨hl, ok, key⟩ := hnds_of hK hh
  refine PS.imp (ps_tryT (tb := fun W => semS { C with Gx := Gh, Wh := W } s G pins G1 fb) hs hf hex hN tk hb ok) fun D σ H ⟨cs, S, R, p, pp, o⟩ => ⟨cs, S, R, p, pp, ?_⟩
  unfold fTry at o
  show OutS { C with Gx := Gh, Wh := wCls X.K C.Wh D hl } cs.length cs s D G1 (fb S)
  cases hf : fb S with
  | err => rw [hf] at o; exact o
  | exc x S' =>
    rw [hf] at o
    intro σ' cls d H' cs' R' hle T g hx
    exact key hsub hxr gx R.ln pp o R' hle T g hx
  | ok fl S' =>
    rw [hf] at o
    cases fl with
    | nx => exact fun σ' H' cs' R' l' T g => o σ' H' cs' R' l' T (g.gle g1)
    | bk => exact o
    | ct => exact o
    | rt w => exact o
end
/-! ### a field of a caught exception -/
/-- classes and their fields: what a law's text needs of it -/
abbrev FldT := List (Str × Str)
def FldOk (K : Kz) (t : FldT) : Prop := ∀ r ∈ t, ∀ A, PySem.W.nsIn K mainGlobals r.1 = some (some (.ref A)) → XfC K A ∧ PySem.W.findIn K (.ref A) r.2 = some none
def semFld (t : FldT) (n : Str) : List W → Option W
  | [.ins c ns ws] => if t.contains (c, n) = true then match (ns.zip ws).lookup n with
      | some u => if u.pure = true then some u else none
      | none => none
    else none
  | _ => none
def tFld (n : Str) (te : TE) (K : Kz) : TE := fun σ H Q => te σ H fun x H1 => ∃ (a Ce dd : Addr) (fs : List (Str × V)) (v : V), x = .ref a ∧ H1 a = some (exH Ce (some dd) a) ∧ XfC K Ce ∧ PySem.W.findIn K (.ref Ce) n = some none ∧ H1 dd = some (.xd fs) ∧ fs.lookup n = some v ∧ Q v H1
theorem pe_fldT {X : Cx} {e : Expr} {te : TE} {n : Str} {pos : Pos} (he : PE X e te) (hb : attributeBase e n X.env (eval e X.env) = eval e X.env) : PE X (.Attribute e n pos) (tFld n te X.K) := by
  refine ⟨fun pins s σ H Q I h => attr_of hb (thn (he.run pins s σ H _ I h) fun u s1 hh => ?_)⟩
  obtain ⟨x, H1, I1, rx, a, Ce, dd, fs, v, ex, ea, T, hno, ed, l, q⟩ := hh
  subst ex
  obtain rfl : u = Value.ref a := rx
  obtain ⟨⟨oe, us, ha, h1, h2, h3, _⟩, _⟩ := (show ObjOk X.prog X.w H1 s1.heap a (exH Ce (some dd) a) from I1.hok a _ ea)
  obtain ⟨mA, hns, hr⟩ := (show ObjOk X.prog X.w H1 s1.heap dd (.xd fs) from I1.hok dd _ ed)
  obtain ⟨od, ho, hl⟩ := lookIn_ns hns
  obtain ⟨u, hu, ru⟩ := RelO.some_of (v := v) (o := mA n) (by rw [← l]; exact hr n)
  have J : PySem.W.InstAt s1.heap a oe Ce (some od) := ⟨ha, h1, by unfold PySem.W.notCls; rw [h3] <;> rfl, by rw [h2]; exact ho⟩
  exact HandSPX.exc_get I1.kIn J T.ga T.gg T.exC (PySem.W.findObj_own T.hdC hno rfl (by rw [hl, hu])) (handed_of ru) ⟨v, H1, I1.tok _, ru, q⟩
theorem lookup_zip {ns : List Str} {ws : List W} {n : Str} {u : W} (h : (ns.zip ws).lookup n = some u) : ∃ j : Nat, ns[j]? = some n ∧ ws[j]? = some u := by
  induction ns generalizing ws with
  | nil => simp at h
  | cons x ns ih =>
    cases ws with
    | nil => simp at h
    | cons w ws =>
      by_cases e : n = x
      · subst e
        simp [List.lookup] at h
        exact ⟨0, rfl, by simp [h]⟩
      · have e' : (n == x) = false := by simpa using e
        simp only [List.zip_cons_cons, List.lookup, e'] at h
        obtain ⟨j, h1, h2⟩ := ih h
        exact ⟨j + 1, by simpa using h1, by simpa using h2⟩
theorem Vws.nth {K : Kz} {H : Hp} : ∀ {ws : List W} {vs : List V} {fps : List Addr} {j : Nat} {u : W}, Vws K H ws vs fps → ws[j]? = some u → u.pure = true → ∃ v, vs[j]? = some v ∧ Vw K H u v []
  | [], vs, fps, j, u, h, e, _ => by simp at e
  | w :: ws, vs, fps, 0, u, h, e, pu => by
    simp only [Vws] at h
    obtain ⟨v, vs', f1, f2, rfl, rfl, r1, r2⟩ := h
    simp at e; subst e
    exact ⟨v, rfl, by rw [Vw.of_pure pu r1] at r1; exact r1⟩
  | w :: ws, vs, fps, j + 1, u, h, e, pu => by
    simp only [Vws] at h
    obtain ⟨v, vs', f1, f2, rfl, rfl, r1, r2⟩ := h
    obtain ⟨v2, q1, q2⟩ := Vws.nth (j := j) r2 (by simpa using e) pu
    exact ⟨v2, by simpa using q1, q2⟩
theorem loc_fld {K : Kz} {t : FldT} {n : Str} (ok : FldOk K t) : LocF K (fun vs H Q => ∃ (a Ce dd : Addr) (fs : List (Str × V)) (v : V), vs = [.ref a] ∧ H a = some (exH Ce (some dd) a) ∧ XfC K Ce ∧ PySem.W.findIn K (.ref Ce) n = some none ∧ H dd = some (.xd fs) ∧ fs.lookup n = some v ∧ Q v H) (semFld t n) := by
  intro vs ws fps H Q w hv hs k
  unfold semFld at hs
  split at hs
  · rename_i c ns us
    obtain ⟨v, rfl, r⟩ := vws1 hv
    split at hs
    · rename_i hc
      split at hs
      · rename_i u hu
        split at hs
        · rename_i pu
          cases hs
          simp only [Vw] at r
          obtain ⟨a, xs, rfl, rx, ⟨Ce, d, hn, hH, hx⟩, rfl⟩ := r
          obtain ⟨j, h1, h2⟩ := lookup_zip hu
          obtain ⟨z, q1, q2⟩ := rx.nth h2 pu
          have hm : (c, n) ∈ t := by simpa using hc
          obtain ⟨T, hno⟩ := ok _ hm Ce hn
          cases d with
          | none =>
            obtain ⟨e1, e2⟩ := hx
            subst e1
            simp at h1
          | some dd =>
            obtain ⟨fs, hd, hl, hf⟩ := hx
            exact ⟨a, Ce, dd, fs, z, rfl, hH, T, hno, hd, (hf j n h1).trans q1, k z H [] (Same.refl H) q2 List.nodup_nil fun b hb => by cases hb⟩
        · cases hs
      · cases hs
    · cases hs
  · cases hs
theorem je_fld {X : Cx} {C : Ctx} {G G' : Gam} {pins : List Nat} {e : Expr} {ms : List Am} {gs : Sl → Res (List W)} {t : FldT} {n : Str} {pos : Pos} (hK : X.K = C.K) (ok : FldOk C.K t) (ja : JA X C G pins [e] ms G' gs) (hp : plain ms = true) (hb : attributeBase e n X.env (eval e X.env) = eval e X.env) :
    JE X C G pins (.Attribute e n pos) .O G' (fPrim gs (semFld t n)) := by
  obtain ⟨ta, h1, _, h2⟩ := ja1 ja
  refine je_fresh (pe_fldT h1 hb) (fun σ H Q q => h2 σ H _ _ (fun x H1 z => ?_) q) hp (loc_fld ok)
  obtain ⟨a, Ce, dd, fs, v, e1, r⟩ := z
  cases e1
  rw [hK]
  exact ⟨a, Ce, dd, fs, v, rfl, r⟩
theorem subOk_nil {K : Kz} : SubOk K [] := fun r hr => by cases hr
theorem subOk_cons {K : Kz} {a b : Str} {r : Bool} {t : SubT} {A B : Addr} (ha : PySem.W.nsIn K mainGlobals a = some (some (.ref A))) (hb : PySem.W.nsIn K mainGlobals b = some (some (.ref B))) (h : PySem.W.exmOne K (.ref A) (.ref B) = some r) (ht : SubOk K t) : SubOk K ((a, b, r) :: t) := fun x hx A' B' h1 h2 => by
  rcases List.mem_cons.mp hx with rfl | hx
  · rw [ha] at h1; cases h1
    rw [hb] at h2; cases h2
    exact h
  · exact ht x hx A' B' h1 h2
theorem fldOk_nil {K : Kz} : FldOk K [] := fun r hr => by cases hr
theorem fldOk_cons {K : Kz} {a f : Str} {t : FldT} {A : Addr} (ha : PySem.W.nsIn K mainGlobals a = some (some (.ref A))) (h : XfC K A) (hf : PySem.W.findIn K (.ref A) f = some none) (ht : FldOk K t) : FldOk K ((a, f) :: t) := fun x hx A' h1 => by
  rcases List.mem_cons.mp hx with rfl | hx
  · rw [ha] at h1; cases h1
    exact ⟨h, hf⟩
  · exact ht x hx A' h1
/-! ### in a def's surroundings -/
/-- what a law's text has of a class without fields -/
structure Xc0 (D : Wd) (x : Str) : Prop where
  ex : ∃ Ce, PySem.W.nsIn D.K mainGlobals x = some (some (.ref Ce)) ∧ D.mg x = some (.ref Ce) ∧ PySem.W.excIn D.K Ce [.type "ValueError", .type "Exception", .type "BaseException", .type "object"] "ValueError.__new__" = true ∧ PySem.W.keepIn D.K (.ref Ce) = true ∧ PySem.W.subIn D.K (.ref Ce) (.type "BaseException") = some true ∧ PySem.W.typeIn D.K (.ref Ce) = some (.type "type")
/-- .. of a class with fields -/
structure XcF (D : Wd) (x : Str) (fs : List Str) : Prop where
  ex : ∃ Ce fI fd k ps, PySem.W.nsIn D.K mainGlobals x = some (some (.ref Ce)) ∧ D.mg x = some (.ref Ce) ∧ FldC D.K Ce fI fs ∧ FnG true D.P D.w D.K D.mg D.base k fI fd ps (spInit Ce fs) ∧ k ≤ 1 ∧ ps.length = fs.length + 1 ∧ fs.length ≤ 900 ∧ Binds D.K fd ps []
/-- .. of a class that is named in an except clause -/
structure XcN (D : Wd) (x : Str) : Prop where
  ex : ∃ Ce, PySem.W.nsIn D.K mainGlobals x = some (some (.ref Ce)) ∧ D.mg x = some (.ref Ce)
theorem Xc0.n {D : Wd} {x : Str} (h : Xc0 D x) : XcN D x := let ⟨Ce, a, b, _⟩ := h.ex; ⟨Ce, a, b⟩
theorem XcF.n {D : Wd} {x : Str} {fs : List Str} (h : XcF D x fs) : XcN D x := let ⟨Ce, _, _, _, _, a, b, _⟩ := h.ex; ⟨Ce, a, b⟩
abbrev Tt (X : Cx) : Prop := X.stack = X.env :: X.outer ∧ X.env.frame = some X.env.locals ∧ X.ex = []
section
variable {X : Cx} {C : Ctx} {D : Wd} {sc : Scope} {N : List Str} {k : Nat} {Gx : Gam} {ip : Option Nat} {fnp : Str → Bool} {ht : Bool} {s : Sx}
variable {G G1 Gh G' : Gam} {pins : List Nat} {e : Expr} {es : List Expr} {ms : List Am} {gs : Sl → Res (List W)} {pos p p2 p3 np : Pos}
theorem Gd.tr (g : Gd ht X C D sc N k Gx ip fnp) {W : WX} {pn : List (Addr × Obj)} {xe : Value → Shared → Prop} (tk : L2N.Takes (X.tr pn xe) W) : Gd ht (X.tr pn xe) { C with Gx := Gh, Wh := W } D sc N k Gh ip fnp :=
  ⟨g.eP, g.ew, g.eK, g.eM, g.eB, g.eC, g.en, rfl, g.eX, g.eN, g.nd, g.eS, g.eF, g.calm, g.gu, g.room, tk, g.eI⟩
theorem Gd.su (g : Gd ht X C D sc N k Gx ip fnp) (a : Addr) (pn : List (Addr × Obj)) : Gd true (Cx.su X a pn) C.suite D sc N k [] ip fnp :=
  ⟨g.eP, g.ew, g.eK, g.eM, g.eB, g.eC, g.en, rfl, g.eX, g.eN, g.nd, g.eS, g.eF, fun z => (by cases z), g.gu, g.room.mark _, takesN, g.eI⟩
theorem Gd.raise0 (g : Gd false X C D sc N k Gx ip fnp) {x m : Str} {j : Nat} (h : Xc0 D x) (hl : sc.names.lookup x = some .globalImplicit := by rfl) (hG : gle Gx G = true := by rfl) (hdb : (x == ("__debug__" : Str)) = false := by decide +kernel) :
    JS X C s G pins (.Raise (some (.Call (.Name x p) [.Constant (.str m) j p2] [] p3)) none pos) G' (fun S => .exc ⟨x, [], []⟩ S) := by
  obtain ⟨Ce, h1, h2, h3, h4, h5, h6⟩ := h.ex
  refine js_raise0 (g.calm rfl) g.tk F.excBase_ValueError (by rw [g.eK]; exact h3) (by rw [g.eM]; exact h2) (by rw [g.eK]; exact h4) (raises_own (by rw [g.eK]; exact h5) (by rw [g.eK]; exact h6)) (g.gl hl) hdb (fun H => ?_) (by rw [g.eG]; exact hG)
  rw [g.eX]
  exact ⟨Ce, [], rfl, h1, (by simp [Vws]), rfl, rfl⟩
theorem Gd.raiseF (g : Gd false X C D sc N k Gx ip fnp) {x : Str} {fs : List Str} (h : XcF D x fs) (ja : JA X C G pins (e :: es) ms G1 gs) (hp : plain ms = true := by rfl) (hk : 2 ≤ k := by decide) (hl : sc.names.lookup x = some .globalImplicit := by rfl) (hG : gle Gx G1 = true := by rfl) (hdb : (x == ("__debug__" : Str)) = false := by decide +kernel) :
    JS X C s G pins (.Raise (some (.Call (.Name x p) (e :: es) [] p3)) none pos) G' (fRaise x fs gs) := by
  obtain ⟨Ce, fI, fd, kk, ps, h1, h2, h3, h4, h5, h6, h7, h8⟩ := h.ex
  refine js_raiseF (g.calm rfl) g.tk ja hp (fun ta ha => ?_) (by rw [g.eC]; exact h1) (by rw [g.eX, g.eC]) (by rw [g.eG]; exact hG)
  have hrm : Room (kk + 1) X.A := ⟨g.room.hd rfl, by have := g.room.dp; omega, by have := g.room.un; omega⟩
  refine pmk_fld (k := kk) (by rw [g.eK]; exact h3) ?_ h6 h7 hrm g.gu (by rw [g.eK]; exact h8) (g.gl hl) (by rw [g.eM]; exact h2) ha hdb (star_cons (ja.tail (pos := p3) (env := X.env)).1) (ja.tail (pos := p3) (env := X.env)).2
  rw [g.eP, g.ew, g.eK, g.eM, g.eB]
  exact h4
theorem Gd.fld (g : Gd ht X C D sc N k Gx ip fnp) {t : FldT} {n : Str} (ok : FldOk D.K t) (ja : JA X C G pins [e] ms G' gs) (hp : plain ms = true := by rfl) (hb : attributeBase e n X.env (eval e X.env) = eval e X.env := by rfl) : JE X C G pins (.Attribute e n pos) .O G' (fPrim gs (semFld t n)) := je_fld g.hK (by rw [g.eC]; exact ok) ja hp hb
theorem jh_nil : JHs X C s Gh G' pins [] [] := .nil
theorem Gd.hcl (g : Gd ht X C D sc N k Gx ip fnp) {x : Str} {b0 : Stmt} {suite : List Stmt} {hds : List ExceptHandler} {l : List Cl} {Gt : Gam} {f : Sl → Res Fl} {nm : Option Str} (o : Option Nat) (h : XcN D x) (hs : ∀ {X' : Cx} {C' : Ctx}, Gd true X' C' D sc N k [] ip fnp → JB X' C' s (putG o Gh) pins (b0 :: suite) Gt f) (r : JHs X C s Gh G' pins hds l)
    (hn : nmOkT X C Gh nm o) (hl : sc.names.lookup x = some .globalImplicit := by rfl) (hdb : (x == ("__debug__" : Str)) = false := by decide +kernel) (ge : gle G' (offG o Gt) = true := by rfl) (gb : gle s.Gb (offG o s.Gb) = true := by rfl) (gc : gle s.Gc (offG o s.Gc) = true := by rfl) (gr : gle s.Gr (offG o s.Gr) = true := by rfl) :
    JHs X C s Gh G' pins (.ExceptHandler (some (.Name x np)) nm (b0 :: suite) pos :: hds) (⟨x, o, f⟩ :: l) := by
  obtain ⟨Ce, h1, h2⟩ := h.ex
  exact .cons x np pos nm b0 suite ⟨x, o, f⟩ hds l Ce Gt rfl (by rw [g.eK]; exact h1) (g.gl hl) (by rw [g.eM]; exact h2) hdb hn (fun a pn => hs (g.su a pn)) ge gb gc gr r
theorem Gd.nmT (g : Gd ht X C D sc N k Gx ip fnp) (i : Nat) {n : Str} (hN : N[i]? = some n := by rfl) (hx : sc.names.lookup n = some .local := by rfl) (hG : i < Gh.length := by decide) (hip : ip ≠ some i := by decide) : nmOkT X C Gh (some n) (some i) :=
  ⟨by rw [g.eN]; exact hN, by show X.env.scope.names.lookup n = _; rw [g.eS]; exact hx, by rw [g.en]; exact (List.getElem?_eq_some_iff.mp hN).1, hG, g.ipFree hip⟩
theorem Gd.try (g : Gd ht X C D sc N k Gx ip fnp) (tt : Tt X) (Gh : Gam) {t : SubT} {h0 : ExceptHandler} {hds : List ExceptHandler} {l : List Cl} {body : List Stmt} {fb : Sl → Res Fl} (hsub : SubOk D.K t)
    (hb : ∀ {X' : Cx} {C' : Ctx}, Gd ht X' C' D sc N k Gh ip fnp → PassesOwn (model X'.prog X'.w) X'.A X'.env X'.xe → Tt X' → JB X' C' s G pins body G1 fb)
    (hh : JHs X C s Gh G' pins (h0 :: hds) l) (gx : gle Gx Gh = true := by rfl) (g1 : gle G' G1 = true := by rfl) : JS X C s G pins (.Try body (h0 :: hds) [] [] pos) G' (fTry t fb l) :=
  js_try Gh tt.1 tt.2.1 tt.2.2 (by rw [g.eN]; exact g.nd) g.tk g.hK (by rw [g.eC]; exact hsub) (by rw [g.eX, g.eC]) (fun W pn xe tk po => hb (g.tr tk) po tt) hh (by rw [g.eG]; exact gx) g1
end
end Vm

namespace Vm
open PySem PySem.Spec PyProof.Rows L2

/-! ## comprehensions whose elements are borrowed -/
def Ctx.qf (C : Ctx) (fr : Frm) : Ctx := { C with Wh := fun _ _ _ _ => False, fr := fr }
/-- the object at D is out of reach -/
def Frm.hide (fr : Frm) (D : Addr) (o : HO) : Frm := { fr with H0 := upd fr.H0 D o, io := fun a => fr.io a ∧ a ≠ D, U := fun a => fr.U a ∧ a ≠ D }
theorem Rel.hide {K : Kz} {fr : Frm} {n : Nat} {cs : Cells} {S : Sl} {σ : St} {H : Hp} {D : Addr} {o : HO} (R : Rel K fr n cs S σ H) (hD : H D = some o) (hc : ∀ (i : Nat) (c : Cell), cs[i]? = some (some c) → D ∉ c.fp) : Rel K (fr.hide D o) n cs S σ H := by
  refine ⟨R.ls, R.lσ, R.ln, R.slot, R.view, fun i c q m => ⟨(R.nd i c q m).1, fun a ha => ?_⟩, fun i c q a ha => ?_, R.dl, R.dis, fun a o' h1 h2 => ?_, fun a h => ?_, R.iov⟩
  · have hne : a ≠ D := fun z => hc i c q (z ▸ ha)
    obtain ⟨h1, h2⟩ := (R.nd i c q m).2 a ha
    refine ⟨h1, ?_⟩
    show upd fr.H0 D o a = none ∨ (fr.io a ∧ a ≠ D)
    rw [upd_ne hne]
    exact h2.imp id fun h => ⟨h, hne⟩
  · have hne : a ≠ D := fun z => hc i c q (z ▸ ha)
    show upd fr.H0 D o a = none ∨ (fr.U a ∧ a ≠ D)
    rw [upd_ne hne]
    exact (R.uni i c q a ha).imp id fun h => ⟨h, hne⟩
  · have h1 : upd fr.H0 D o a = some o' := h1
    by_cases hz : a = D
    · subst hz
      rw [upd_same] at h1
      cases h1
      exact hD
    · rw [upd_ne hz] at h1
      exact R.frm a o' h1 fun z => h2 ⟨z, hz⟩
  · have h : upd fr.H0 D o a ≠ none := h
    by_cases hz : a = D
    · subst hz; rw [hD]; simp
    · rw [upd_ne hz] at h
      exact R.alive a h
theorem Rel.hidden {K : Kz} {fr : Frm} {n : Nat} {cs : Cells} {S : Sl} {σ : St} {H : Hp} {D : Addr} {o : HO} (R : Rel K (fr.hide D o) n cs S σ H) : H D = some o ∧ ∀ (i : Nat) (c : Cell), cs[i]? = some (some c) → D ∉ c.fp := by
  refine ⟨R.frm D o (show upd fr.H0 D o D = some o from upd_same) (fun z => z.2 rfl), fun i c q z => ?_⟩
  rcases R.uni i c q D z with h | h
  · have h : upd fr.H0 D o D = none := h
    rw [upd_same] at h; cases h
  · exact h.2 rfl
theorem Rel.unhide {K : Kz} {fr : Frm} {n : Nat} {cs : Cells} {S : Sl} {σ : St} {H : Hp} {D : Addr} {o o2 : HO} (R : Rel K (fr.hide D o) n cs S σ H) (h0 : fr.H0 D = none) (hm : isMut o = true) : Rel K fr n cs S σ (upd H D o2) := by
  obtain ⟨hD, hc⟩ := R.hidden
  have tk : TupK H (upd H D o2) := fun a ob h hi => by
    rw [upd_ne (fun z => by rw [z, hD] at h; cases h; rw [hm] at hi; cases hi)]
    exact h
  have keep : ∀ {i : Nat} {c : Cell}, cs[i]? = some (some c) → ∀ a ∈ c.fp, upd H D o2 a = H a := fun {i c} q a ha => upd_ne fun z => hc i c q (z ▸ ha)
  refine ⟨R.ls, R.lσ, R.ln, R.slot, fun i c q => (R.view i c q).mono tk (keep q), fun i c q m => ⟨(R.nd i c q m).1, fun a ha => ?_⟩, fun i c q a ha => ?_, R.dl, R.dis, fun a o' h1 h2 => ?_, fun a h => ?_, R.iov⟩
  · have hne : a ≠ D := fun z => hc i c q (z ▸ ha)
    obtain ⟨h1, h2⟩ := (R.nd i c q m).2 a ha
    rw [keep q a ha]
    refine ⟨h1, ?_⟩
    have h2 : upd fr.H0 D o a = none ∨ (fr.io a ∧ a ≠ D) := h2
    rw [upd_ne hne] at h2
    exact h2.imp id fun h => h.1
  · have hne : a ≠ D := fun z => hc i c q (z ▸ ha)
    have h2 : upd fr.H0 D o a = none ∨ (fr.U a ∧ a ≠ D) := R.uni i c q a ha
    rw [upd_ne hne] at h2
    exact h2.imp id fun h => h.1
  · have hne : a ≠ D := fun z => by rw [z, h0] at h1; cases h1
    rw [upd_ne hne]
    exact R.frm a o' (show upd fr.H0 D o a = _ by rw [upd_ne hne]; exact h1) fun z => h2 z.1
  · by_cases hz : a = D
    · rw [hz, upd_same]; simp
    · rw [upd_ne hz]
      exact R.alive a (show upd fr.H0 D o a ≠ none by rw [upd_ne hz]; exact h)
/-- a borrowed temp whose own objects nobody has -/
theorem Rel.replF {K : Kz} {fr : Frm} {n L : Nat} {cs : Cells} {S : Sl} {σ : St} {H : Hp} (R : Rel K fr n cs S σ H) (hL : n ≤ L) (hl : L ≤ cs.length) {c : Cell} (hv : Vw K H c.w c.v c.fp) {ds : List Nat} (em : c.m = .B ds) (hd : ∀ x ∈ ds, x < n)
    (hB : ∀ a ∈ c.fp, (fr.H0 a = none ∧ ∀ (j : Nat) (d : Cell), cs[j]? = some (some d) → a ∉ d.fp) ∨ ∃ j d, L ≤ j ∧ cs[j]? = some (some d) ∧ a ∈ d.fp ∧ ∀ x ∈ d.m.dep, x ∈ ds) :
    Rel K fr n (cs.take L ++ [some c]) S σ H := by
  have lt : (cs.take L).length = L := by rw [List.length_take]; omega
  refine ⟨R.ls, R.lσ, by rw [List.length_append, lt]; omega, fun i d hi q => ?_, fun i d q => ?_, fun i d q m => ?_, fun i d q a ha => ?_, fun i d q => ?_, fun i j x y ij q1 q2 m => ?_, R.frm, R.alive, fun p v e => ⟨(R.iov p v e).1, fun d q => ?_⟩⟩
  · rcases ix_push hl q with ⟨_, q⟩ | ⟨rfl, rfl⟩
    · exact R.slot i d hi q
    · omega
  · rcases ix_push hl q with ⟨_, q⟩ | ⟨rfl, rfl⟩
    · exact R.view i d q
    · exact hv
  · rcases ix_push hl q with ⟨_, q⟩ | ⟨rfl, rfl⟩
    · exact R.nd i d q m
    · rw [em] at m; cases m
  · rcases ix_push hl q with ⟨_, q⟩ | ⟨rfl, rfl⟩
    · exact R.uni i d q a ha
    · rcases hB a ha with h | ⟨j, y, h1, h2, h3, _⟩
      · exact .inl h.1
      · exact R.uni j y h2 a h3
  · rcases ix_push hl q with ⟨_, q⟩ | ⟨rfl, rfl⟩
    · exact R.dl i d q
    · rw [em]; exact hd
  · rcases ix_push hl q1 with ⟨i1, p1⟩ | ⟨rfl, rfl⟩
    · rcases ix_push hl q2 with ⟨_, p2⟩ | ⟨rfl, rfl⟩
      · exact R.dis i j x y ij p1 p2 m
      · by_cases hin : i ∈ y.m.dep
        · exact .inl hin
        · refine .inr fun a ha hb => ?_
          rcases hB a hb with h | ⟨k, d, h1, h2, h3, h4⟩
          · exact h.2 i x p1 ha
          · rcases R.dis i k x d (by omega) p1 h2 m with z | z
            · exact hin (by rw [em]; exact h4 i z)
            · exact z a ha h3
    · rw [em] at m; cases m
  · have hp := (R.iov p v e).1
    rcases ix_push hl q with ⟨_, q⟩ | ⟨rfl, _⟩
    · exact (R.iov p v e).2 d q
    · omega
def rep (k : Nat) (dd : List Nat) : List Am := List.replicate k (.mo (.B dd))
theorem rep_length {k : Nat} {dd : List Nat} : (rep k dd).length = k := by simp [rep]
theorem rep_plain {k : Nat} {dd : List Nat} : plain (rep k dd) = true := by
  induction k with
  | zero => rfl
  | succ k ih => rw [rep, List.replicate_succ]; exact ih
theorem rep_snoc {k : Nat} {dd : List Nat} : rep (k + 1) dd = rep k dd ++ [.mo (.B dd)] := by rw [rep, List.replicate_succ']; rfl
theorem rep_deps {k : Nat} {dd : List Nat} : ∀ x ∈ deps (rep k dd), x ∈ dd := by
  induction k with
  | zero => intro x hx; cases hx
  | succ k ih =>
    intro x hx
    rcases List.mem_append.mp (show x ∈ dd ++ deps (rep k dd) from hx) with h | h
    · exact h
    · exact ih x h
theorem ArgsAt.snoc {cs : Cells} {σ : St} {m : Mo} {v : V} {w : W} {fp : List Addr} : ∀ {L : Nat} {ms : List Am} {vs : List V} {ws : List W}, ArgsAt cs σ L ms vs ws → cs[L + ms.length]? = some (some ⟨v, w, m, fp⟩) → ArgsAt cs σ L (ms ++ [.mo m]) (vs ++ [v]) (ws ++ [w])
  | L, [], [], [], _, h => ⟨⟨fp, h⟩, trivial⟩
  | L, .mo _ :: ms, _ :: vs, _ :: ws, h, q => ⟨h.1, ArgsAt.snoc h.2 (by rw [← q]; congr 1; simp; omega)⟩
  | L, .io _ :: ms, _ :: vs, _ :: ws, h, q => ⟨h.1, ArgsAt.snoc h.2 (by rw [← q]; congr 1; simp; omega)⟩
/-- the cells of a plain list of arguments have their deps -/
theorem argsAt_dep {cs : Cells} {σ : St} {j : Nat} {d : Cell} (hd : cs[j]? = some (some d)) : ∀ {L : Nat} {ms : List Am} {vs : List V} {ws : List W}, ArgsAt cs σ L ms vs ws → plain ms = true → L ≤ j → j < L + ms.length → ∀ x ∈ d.m.dep, x ∈ deps ms
  | L, [], [], [], _, _, h1, h2 => by simp at h2; omega
  | L, .mo m :: ms, v :: vs, w :: ws, hA, hp, h1, h2 => fun x hx => by
    obtain ⟨⟨fp, hc⟩, hA⟩ := hA
    by_cases hjl : j = L
    · subst hjl
      rw [hc] at hd; cases hd
      exact List.mem_append_left _ hx
    · exact List.mem_append_right _ (argsAt_dep hd hA (by simpa [plain] using hp) (by omega) (by simp at h2; omega) x hx)
section
variable {X : Cx} {C : Ctx} {s : Sx} {G G1 G2 G' : Gam} {pins : List Nat} {e a b c : Expr} {st : Stmt} {sts : List Stmt} {mo : Mo} {f g : Sl → Res Fl} {fe : Sl → Res W} {fb : Sl → Res Bool} {pos : Pos} {ms : List Am}
structure CompOkB (X : Cx) (C : Ctx) (scope : Scope) (own : List (Str × Nat)) (tg elt iter : Expr) (ifs : List Expr) (t : Tg) (ms : List Am) (pins dd : List Nat) (G G1 Gi Gb Gc : Gam) (fi : Sl → Res (List W)) (cond : Sl → Res Bool) (fe : Sl → Res W) : Prop where
  calm : X.calm = true
  nd : X.N.Nodup
  it : JI X C G pins tg iter ms G1 fi
  pl : plain ms = true
  g0 : gle Gi G1 = true
  blk : BlkOk X.N X.env.scope scope own
  tgt : ∀ (fr : Frm), fr.ip = C.fr.ip → ∀ (s : Shared) (H : Hp) (Ca : Addr) (cl : List (Str × Addr)) (fp : List Addr), JG (X.blk s H scope (compEnvC scope cl Ca X.env) fp) (C.qf fr) (forgetG (own.map (·.2)) Gi) t (.B (deps ms)) tg
  tst : ∀ (fr : Frm), fr.ip = C.fr.ip → ∀ (s : Shared) (H : Hp) (Ca : Addr) (cl : List (Str × Addr)) (fp : List Addr), JTs (X.blk s H scope (compEnvC scope cl Ca X.env) fp) (C.qf fr) (t.gam (.B (deps ms)) (forgetG (own.map (·.2)) Gi)) (pins ++ deps ms ++ dd) ifs Gb cond
  elt : ∀ (fr : Frm), fr.ip = C.fr.ip → ∀ (s : Shared) (H : Hp) (Ca : Addr) (cl : List (Str × Addr)) (fp : List Addr), JE (X.blk s H scope (compEnvC scope cl Ca X.env) fp) (C.qf fr) Gb (pins ++ deps ms ++ dd) elt (.B dd) Gc fe
  gb : gle Gi Gb = true
  gc : gle Gi Gc = true
  ix : ∀ i ∈ own.map (·.2), i < C.n
  ddn : ∀ x ∈ dd, x < C.n
  tin : ∀ i ∈ t.slots, i ∈ own.map (·.2)
  fs : ∀ x, foldedSetIterable iter X.env x = pure x
theorem pg_ex {ι : Type} {t : ι → TG} {e : Expr} (h : ∀ i, PG X e (t i)) : PG X e (fun v σ H Q => ∃ i, t i v σ H Q) := ⟨fun pins s σ H v u Q I r ⟨i, q⟩ => (h i).run pins s σ H v u Q I r q⟩
theorem pe_ex {ι : Type} {t : ι → TE} {e : Expr} (h : ∀ i, PE X e (t i)) : PE X e (fun σ H Q => ∃ i, t i σ H Q) := ⟨fun pins s σ H Q I ⟨i, q⟩ => (h i).run pins s σ H Q I q⟩
theorem pts_ex {ι : Type} {t : ι → TT} {e : List Expr} (h : ∀ i, PTs X e (t i)) : PTs X e (fun σ H Q => ∃ i, t i σ H Q) := ⟨fun pins s σ H Q I ⟨i, q⟩ => (h i).run pins s σ H Q I q⟩
abbrev FrX (C : Ctx) := { fr : Frm // fr.ip = C.fr.ip }
theorem compB_sem {scope : Scope} {own : List (Str × Nat)} {tg elt iter : Expr} {ifs : List Expr} {t : Tg} {dd : List Nat} {Gi Gb Gc : Gam} {fi : Sl → Res (List W)} {cond : Sl → Res Bool} (k : CompOkB X C scope own tg elt iter ifs t ms pins dd G G1 Gi Gb Gc fi cond fe) {σ : St} {H : Hp} {Q : VK}
    (q : semE C G pins (.B dd) (forgetG (own.map (·.2)) Gi) (fComp fi t (own.map (·.2)) cond fe) σ H Q) :
    tLc (semI C G pins ms G1 fi) (fun v σ H Q => ∃ fr : FrX C, semG (C.qf fr.1) (forgetG (own.map (·.2)) Gi) t (.B (deps ms)) v σ H Q) (fun σ H Q => ∃ fr : FrX C, semV (C.qf fr.1) (t.gam (.B (deps ms)) (forgetG (own.map (·.2)) Gi)) (pins ++ deps ms ++ dd) Gb cond σ H Q) (fun σ H Q => ∃ fr : FrX C, semE (C.qf fr.1) Gb (pins ++ deps ms ++ dd) (.B dd) Gc fe σ H Q) (own.map (·.2)) σ H Q := by
  obtain ⟨cs0, S0, R0, p0, pp0, o⟩ := q
  refine ⟨cs0, S0, R0, p0, pp0, ?_⟩
  have hix := k.ix
  have htin := k.tin
  have hgb := k.gb
  have hgc := k.gc
  have hg0 := k.g0
  have hp := k.pl
  have hddn := k.ddn
  generalize own.map (·.2) = vs at *
  unfold fComp at o
  cases hf : fi S0 with
  | err => rw [hf] at o; exact o
  | exc x S' => rw [hf] at o; exact o
  | ok its S1 =>
    rw [hf] at o
    have o : Out C cs0.length cs0 σ (.B dd) (forgetG vs Gi) Q (if its.length ≤ sizeLine then cLoop t vs cond fe its [] S1 else .err) := o
    by_cases hsz : its.length ≤ sizeLine
    case neg => rw [if_neg hsz] at o; exact o.elim
    rw [if_pos hsz] at o
    intro J vv ws H1 cs1 R1 l1 a1 itok T1 g1 D hD
    have ln := R0.ln
    have hD0 : C.fr.H0 D = none := R1.new0 hD
    obtain ⟨cs2, R2, l2, q2, a2⟩ := argsSoft R1 ln (by omega) hp a1
    have T2 : Tsame C.n cs0.length cs0 cs2 := fun i h1 h2 => by rw [q2 i (.inl h2)]; exact T1 i h1 h2
    have g2 : Has C.n Gi cs2 := ⟨(g1.gle hg0).1, fun i m e => by
      obtain ⟨c, z1, z2⟩ := (g1.gle hg0).2 i m e
      have hin : i < C.n := Nat.lt_of_lt_of_le (List.getElem?_eq_some_iff.mp e).1 (g1.gle hg0).1
      exact ⟨c, by rw [q2 i (.inl (by omega))]; exact z1, z2⟩⟩
    have hps := softM_plain ms hp
    have hno := softM_noO ms
    have hms := softM_length ms
    have hdep := softM_deps ms
    have sm0 : Same H1 (upd H1 D (.lst [])) := Same.upd hD
    have R3 : RelC C cs2 S1 σ (upd H1 D (.lst [])) := R2.same sm0
    have nD0 : ∀ (j : Nat) (c : Cell), cs2[j]? = some (some c) → D ∉ c.fp := fun j c z hz => R2.trk z D hz hD
    -- a state at the head of a turn
    let At : List W → Sl → Hp → Prop := fun acc S H' => ∃ (cs : Cells) (va : List V), RelC C cs (forget vs S) (wipe σ vs) H' ∧ cs.length = cs0.length + ms.length + acc.length ∧ (∀ j, C.n ≤ j → j < cs0.length + ms.length → cs[j]? = cs2[j]?) ∧
      ArgsAt cs (wipe σ vs) (cs0.length + ms.length) (rep acc.length dd) va acc ∧ H' D = some (.lst va) ∧ (∀ (j : Nat) (c : Cell), cs[j]? = some (some c) → D ∉ c.fp) ∧ Has C.n (forgetG vs Gi) cs ∧ ∀ (j : Nat) (c : Cell), cs[j]? = some (some c) → j ∉ vs
    have enter : ∀ {acc : List W} {S : Sl} {H' : Hp} {cs : Cells} {σ' : St} {va : List V}, RelC C cs S σ' H' → cs.length = cs0.length + ms.length + acc.length → (∀ j, C.n ≤ j → j < cs0.length + ms.length → cs[j]? = cs2[j]?) →
        ArgsAt cs σ' (cs0.length + ms.length) (rep acc.length dd) va acc → H' D = some (.lst va) → (∀ (j : Nat) (c : Cell), cs[j]? = some (some c) → D ∉ c.fp) → Has C.n Gi cs → (∀ i, i ∉ vs → σ'[i]? = (wipe σ vs)[i]?) → At acc S H' := fun {acc S H' cs σ' va} R l T ht hDv nD g hσ => by
      obtain ⟨cs', R', l', T', g', d'⟩ := rel_forget vs R g hix
      refine ⟨cs', va, R'.weak rfl (fun i x y z1 z2 => by rw [z1] at z2; cases z2; exact .same) R'.ls (by rw [wipe_length]; exact R0.lσ) (fun i c hi z => ⟨rfl, (hσ i (d' i c z).1).symm⟩), by omega, fun j h1 h2 => ?_, ht.same rep_plain fun j h1 h2 => ?_, hDv, fun j c z => nD j c (d' j c z).2, g', fun j c z => (d' j c z).1⟩
      · rw [T' j h1 (by omega)]; exact T j h1 h2
      · rw [rep_length] at h2
        rw [T' _ (by omega) (by omega)]
    refine ⟨fun i m H' => m = its.length - i ∧ i ≤ its.length ∧ ∃ (acc : List W) (S : Sl), At acc S H' ∧ acc.length ≤ i ∧ Out C cs0.length cs0 σ (.B dd) (forgetG vs Gi) Q (cLoop t vs cond fe (its.drop i) acc S),
      ⟨its.length, rfl, Nat.zero_le _, [], S1, enter (va := []) R3 (by simp; omega) (fun j h1 h2 => rfl) (by trivial) upd_same nD0 g2 (fun i hi => (wipe_get hi).symm), Nat.le_refl _, o⟩, ?_⟩
    rintro i m H3 ⟨rfl, hle, acc, S3, ⟨cs4, va, R4, l4, T5, t4, h4D, nD4, g4, d4⟩, hacc, o3⟩
    have T6 : Tsame C.n cs0.length cs0 cs4 := fun j h1 h2 => by rw [T5 j h1 (by omega)]; exact T2 j h1 h2
    have a4 : ArgsAt cs4 (wipe σ vs) cs0.length (softM ms) vv ws := a2.same hps fun j h1 h2 => T5 j (by omega) (by omega)
    obtain ⟨fps, v4, f4⟩ := argsAt_src R4 hps a4
    obtain ⟨hgo, hstop⟩ := itok H3 fps v4
    by_cases hlt : i < its.length
    · have hd : its.drop i = its[i] :: its.drop (i + 1) := (List.drop_eq_getElem_cons hlt)
      obtain ⟨gg0, gy⟩ := hgo i its[i] (List.getElem?_eq_getElem hlt)
      refine .inr ⟨gg0, fun H' => ∃ m', m' < its.length - i ∧ (m' = its.length - (i + 1) ∧ i + 1 ≤ its.length ∧ ∃ (acc : List W) (S : Sl), At acc S H' ∧ acc.length ≤ i + 1 ∧ Out C cs0.length cs0 σ (.B dd) (forgetG vs Gi) Q (cLoop t vs cond fe (its.drop (i + 1)) acc S)), fun H' h => h, fun u H4 hy => ?_⟩
      obtain ⟨sm, f', hv, hf'⟩ := gy u H4 hy
      have R5 := item_push' R4 hps hno a4 f4 sm hv hf'
      rw [hdep] at R5
      have nD5 : ∀ (j : Nat) (c : Cell), (cs4 ++ [some (⟨u, its[i], .B (deps ms), f'⟩ : Cell)])[j]? = some (some c) → D ∉ c.fp := fun j c z hz => by
        by_cases hj : j < cs4.length
        · rw [List.getElem?_append_left hj] at z
          exact nD4 j c z hz
        · rw [List.getElem?_append_right (by omega)] at z
          have : j - cs4.length = 0 := by
            refine Decidable.byContradiction fun hn => ?_
            rw [List.getElem?_eq_none (by simp; omega)] at z; cases z
          rw [this] at z
          simp at z
          subst z
          obtain ⟨j2, d2, _, _, z3, z4, _⟩ := f4 D (hf' D hz)
          exact nD4 j2 d2 z3 z4
      have h5D : H4 D = some (.lst va) := sm D _ h4D
      have R5h := R5.hide h5D nD5
      rw [hd] at o3
      unfold cLoop at o3
      cases ht : t.sem its[i] (forget vs S3) with
      | none => rw [ht] at o3; exact o3.elim
      | some S5 =>
        rw [ht] at o3
        have o3 : Out C cs0.length cs0 σ (.B dd) (forgetG vs Gi) Q ((noX (cond S5)).bind fun b S2 => if b = true then (noX (fe S2)).bind fun y S3 => cLoop t vs cond fe (its.drop (i + 1)) (acc ++ [y]) S3 else cLoop t vs cond fe (its.drop (i + 1)) acc S2) := o3
        refine ⟨⟨C.fr.hide D (.lst va), rfl⟩, cs4 ++ [some (⟨u, its[i], .B (deps ms), f'⟩ : Cell)], forget vs S3, cs0.length + ms.length + acc.length, its[i], f', S5, R5h, g4.app R4.ln, (by show C.n ≤ _; omega), by simp; omega, by rw [← l4]; simp, ht, fun σ6 cs6 R6 l6 T7 g6 hσ6 => ?_⟩
        have hw6 : wipe σ6 vs = wipe σ vs := by
          have e1 : wipe σ6 vs = wipe (wipe σ vs) vs := wipe_eq (by rw [wipe_length, R6.lσ, R0.lσ]; rfl) fun j hj => hσ6 j fun z => hj (htin j z)
          have e2 : wipe (wipe σ vs) vs = wipe σ vs := wipe_eq (wipe_length _ _) fun j hj => wipe_get hj
          rw [e1, e2]
        refine ⟨hw6, ?_⟩
        have σout : ∀ j, j ∉ vs → σ6[j]? = (wipe σ vs)[j]? := fun j hj => by rw [← hw6, wipe_get hj]
        have T8 : ∀ j, C.n ≤ j → j < cs0.length + ms.length + acc.length → cs6[j]? = cs4[j]? := fun j h1 h2 => by
          rw [T7 j h1 h2, List.getElem?_append_left (by omega)]
        have pn6 : PinOk C.n (pins ++ deps ms ++ dd) cs6 := fun j d hj hd x hx => by
          have hlt6 : j < cs0.length + ms.length + acc.length := by have := (List.getElem?_eq_some_iff.mp hd).1; omega
          rw [T8 j hj hlt6] at hd
          by_cases hj1 : j < cs0.length + ms.length
          · by_cases hj0 : j < cs0.length
            · rw [T6 j hj hj0] at hd
              exact List.mem_append_left _ (List.mem_append_left _ (pp0 j d hj hd x hx))
            · refine List.mem_append_left _ (List.mem_append_right _ ?_)
              rw [← hdep]
              exact argsAt_dep hd a4 hps (by omega) (by omega) x hx
          · exact List.mem_append_right _ (rep_deps x (argsAt_dep hd t4 rep_plain (by omega) (by rw [rep_length]; omega) x hx))
        refine ⟨⟨C.fr.hide D (.lst va), rfl⟩, cs6, S5, R6, g6, pn6, ?_⟩
        cases hc : cond S5 with
        | err => rw [hc] at o3; exact o3.elim
        | exc x S6 => rw [hc] at o3; exact o3.elim
        | ok bb S6 =>
          rw [hc] at o3
          have o3 : Out C cs0.length cs0 σ (.B dd) (forgetG vs Gi) Q (if bb = true then (noX (fe S6)).bind fun y S3 => cLoop t vs cond fe (its.drop (i + 1)) (acc ++ [y]) S3 else cLoop t vs cond fe (its.drop (i + 1)) acc S6) := o3
          intro H7 cs7 R7 l7 T9 g7
          have T10 : ∀ j, C.n ≤ j → j < cs0.length + ms.length → cs7[j]? = cs2[j]? := fun j h1 h2 => by rw [T9 j h1 (by omega), T8 j h1 (by omega)]; exact T5 j h1 h2
          have t7 : ArgsAt cs7 (wipe σ vs) (cs0.length + ms.length) (rep acc.length dd) va acc := t4.same rep_plain fun j h1 h2 => by
            rw [rep_length] at h2
            rw [T9 j (show C.n ≤ j by omega) (by omega), T8 j (by omega) (by omega)]
          cases bb with
          | false =>
            rw [if_neg (by decide)] at o3 ⊢
            obtain ⟨h7D, nD7⟩ := Rel.hidden R7
            have R8 : RelC C cs7 S6 σ6 (upd H7 D (.lst va)) := Rel.unhide R7 hD0 rfl
            have eu : upd H7 D (.lst va) = H7 := funext fun a => by
              by_cases z : a = D
              · rw [z, upd_same, h7D]
              · exact upd_ne z
            rw [eu] at R8
            exact ⟨its.length - (i + 1), by omega, rfl, hlt, acc, S6, enter (va := va) R8 (by omega) T10 (t7.same rep_plain fun _ _ _ => rfl) h7D nD7 (g7.gle hgb) σout, by omega, o3⟩
          | true =>
            rw [if_pos rfl] at o3 ⊢
            refine ⟨⟨C.fr.hide D (.lst va), rfl⟩, cs7, S6, R7, g7, pn6.same (by omega) T9, ?_⟩
            cases he : fe S6 with
            | err => rw [he] at o3; exact o3.elim
            | exc x S7 => rw [he] at o3; exact o3.elim
            | ok y S7 =>
              rw [he] at o3
              have o3 : Out C cs0.length cs0 σ (.B dd) (forgetG vs Gi) Q (cLoop t vs cond fe (its.drop (i + 1)) (acc ++ [y]) S7) := o3
              intro vy fy H8 cs8 R8 l8 ty T11 g8
              obtain ⟨h8D, nD8⟩ := Rel.hidden R8
              have R9 : RelC C cs8 S7 σ6 (upd H8 D (.lst (va ++ [vy]))) := Rel.unhide R8 hD0 rfl
              have t8 : ArgsAt cs8 σ6 (cs0.length + ms.length) (rep acc.length dd) va acc := t7.same rep_plain fun j h1 h2 => by
                rw [rep_length] at h2
                rw [T11 j (show C.n ≤ j by omega) (by omega)]
              have hva : va.length = acc.length := by
                obtain ⟨fps9, v9, _⟩ := argsAt_src R9 rep_plain t8
                exact v9.length
              have t9 : ArgsAt cs8 σ6 (cs0.length + ms.length) (rep (acc ++ [y]).length dd) (va ++ [vy]) (acc ++ [y]) := by
                rw [List.length_append, List.length_singleton, rep_snoc]
                refine t8.snoc (fp := fy) ?_
                rw [rep_length]
                have : cs0.length + ms.length + acc.length = cs7.length := by omega
                rw [this]
                exact ty
              refine ⟨va, h8D, by omega, its.length - (i + 1), by omega, rfl, hlt, acc ++ [y], S7, ?_, by simp; omega, o3⟩
              refine enter (va := va ++ [vy]) R9 (by simp; omega) (fun j h1 h2 => ?_) t9 upd_same nD8 (g8.gle hgc) σout
              rw [T11 j h1 (by omega)]
              exact T10 j h1 h2
    · have hi : i = its.length := by omega
      subst hi
      refine .inl ⟨hstop, ?_⟩
      rw [List.drop_length] at o3
      have o3 : Out C cs0.length cs0 σ (.B dd) (forgetG vs Gi) Q (.ok (.lst acc) (forget vs S3)) := o3
      have R5 : RelC C cs4 (forget vs S3) σ H3 := R4.weak rfl (fun i x y z1 z2 => by rw [z1] at z2; cases z2; exact .same) R4.ls R0.lσ fun i c hi z => ⟨rfl, (wipe_get (d4 i c z)).symm⟩
      obtain ⟨fq, vq, sq⟩ := argsAt_src R5 rep_plain (t4.same (σ' := σ) rep_plain fun _ _ _ => rfl)
      have R6 := R5.replF (L := cs0.length) (c := ⟨.ref D, .lst acc, .B dd, D :: fq⟩) ln (by omega) (vwLstMk vq h4D) rfl hddn (fun a ha => by
        rcases List.mem_cons.mp ha with rfl | ha
        · exact .inl ⟨hD0, nD4⟩
        · obtain ⟨j, d, z1, z2, z3, z4, z5⟩ := sq a ha
          exact .inr ⟨j, d, by omega, z3, z4, fun x hx => rep_deps x (z5 x hx)⟩)
      have lt9 : (cs4.take cs0.length).length = cs0.length := by rw [List.length_take]; omega
      refine o3 (.ref D) (D :: fq) H3 _ R6 (by rw [List.length_append, lt9]; rfl) (by rw [List.getElem?_append_right (by omega), lt9]; simp) (fun j h1 h2 => ?_) (g4.take ln)
      rw [List.getElem?_append_left (by omega), List.getElem?_take_of_lt h2]
      exact T6 j h1 h2
variable {scope : Scope} {own : List (Str × Nat)} {tg elt iter : Expr} {ifs : List Expr} {t : Tg} {dd : List Nat} {Gi Gb Gc : Gam} {fi : Sl → Res (List W)} {cond : Sl → Res Bool}
theorem CompOkB.pg (k : CompOkB X C scope own tg elt iter ifs t ms pins dd G G1 Gi Gb Gc fi cond fe) (s : Shared) (H : Hp) (Ca : Addr) (cl : List (Str × Addr)) (fp : List Addr) :
    PG (X.blk s H scope (compEnvC scope cl Ca X.env) fp) tg (fun v σ H Q => ∃ fr : FrX C, semG (C.qf fr.1) (forgetG (own.map (·.2)) Gi) t (.B (deps ms)) v σ H Q) := pg_ex fun fr : FrX C => k.tgt fr.1 fr.2 s H Ca cl fp
theorem CompOkB.pts (k : CompOkB X C scope own tg elt iter ifs t ms pins dd G G1 Gi Gb Gc fi cond fe) (s : Shared) (H : Hp) (Ca : Addr) (cl : List (Str × Addr)) (fp : List Addr) :
    PTs (X.blk s H scope (compEnvC scope cl Ca X.env) fp) ifs (fun σ H Q => ∃ fr : FrX C, semV (C.qf fr.1) (t.gam (.B (deps ms)) (forgetG (own.map (·.2)) Gi)) (pins ++ deps ms ++ dd) Gb cond σ H Q) := pts_ex fun fr : FrX C => k.tst fr.1 fr.2 s H Ca cl fp
theorem CompOkB.pe (k : CompOkB X C scope own tg elt iter ifs t ms pins dd G G1 Gi Gb Gc fi cond fe) (s : Shared) (H : Hp) (Ca : Addr) (cl : List (Str × Addr)) (fp : List Addr) :
    PE (X.blk s H scope (compEnvC scope cl Ca X.env) fp) elt (fun σ H Q => ∃ fr : FrX C, semE (C.qf fr.1) Gb (pins ++ deps ms ++ dd) (.B dd) Gc fe σ H Q) := pe_ex fun fr : FrX C => k.elt fr.1 fr.2 s H Ca cl fp
theorem je_compB (k : CompOkB X C scope own tg elt iter ifs t ms pins dd G G1 Gi Gb Gc fi cond fe) :
    JE X C G pins (.ListComp elt [⟨tg, iter, ifs, 0⟩] scope pos) (.B dd) (forgetG (own.map (·.2)) Gi) (fComp fi t (own.map (·.2)) cond fe) :=
  PE.imp (pe_lc k.calm k.nd k.it k.blk k.pg k.pts k.pe k.fs) fun σ H Q q => compB_sem k q
theorem js_compB (k : CompOkB X C scope own tg elt iter ifs t ms pins dd G G1 Gi Gb Gc fi cond fe) {i : Nat} {y : Str} {py spos : Pos}
    (hy : X.N[i]? = some y) (hyl : X.env.scope.names.lookup y = some .local) (hsw : swapsWith (.ListComp elt [⟨tg, iter, ifs, 0⟩] scope pos) (some (.Name y py)) spos.line X.env = pure true) (hin : i < C.n) (hG : i < Gi.length) (hip : ipFree C i) :
    JS X C s G pins (.Assign [.Name y py] (.ListComp elt [⟨tg, iter, ifs, 0⟩] scope pos) spos) ((forgetG (own.map (·.2)) Gi).set i (some (.B dd))) (fAsg (.nm i) (fComp fi t (own.map (·.2)) cond fe)) :=
  PS.imp (ps_setLc k.calm k.nd hy hyl hsw k.it k.blk k.pg k.pts k.pe k.fs) fun D σ H q => asg_core (t := .nm i) (mo := .B dd) (fun σ H Q z => compB_sem k z) (fun v σ H Q ⟨cs, S, L, w, fp, S', R, h, hL, hl, hc, e, q⟩ => by
    cases e
    obtain ⟨R2, l2, T2, g2⟩ := rel_store R h hL hl hc hin (by rw [forgetG_length]; exact hG) hip
    exact q _ _ R2 l2 T2 g2 fun j hj => List.getElem?_set_ne (fun z => hj (by rw [← z]; exact List.mem_singleton.mpr rfl))) q
variable {D : Wd} {sc : Scope} {N : List Str} {kk : Nat} {Gx : Gam} {ip : Option Nat} {fnp : Str → Bool} {ht : Bool} {py p : Pos}
theorem Gd.blkF (g : Gd ht X C D sc N kk Gx ip fnp) (fr : Frm) (hf : fr.ip = C.fr.ip) (s : Shared) (H : Hp) (scope : Scope) (cl : List (Str × Addr)) (Ca : Addr) (fp : List Addr) :
    Gd ht (X.blk s H scope (compEnvC scope cl Ca X.env) fp) (C.qf fr) D (relS scope sc) N kk Gx ip (fun x => scope.names.lookup x == some .cell) :=
  let h := g.blk s H scope cl Ca fp
  ⟨h.eP, h.ew, h.eK, h.eM, h.eB, h.eC, h.en, h.eG, h.eX, h.eN, h.nd, h.eS, h.eF, h.calm, h.gu, h.room, h.tk, fun i v z => g.eI i v (hf ▸ z)⟩
theorem Gd.compB (g : Gd false X C D sc N kk Gx ip fnp) {scope : Scope} (own : List (Str × Nat)) {tg elt iter : Expr} {ifs : List Expr} {t : Tg} (Gi : Gam) (dd : List Nat) {Gb Gc : Gam} {fi : Sl → Res (List W)} {cond : Sl → Res Bool} (it : JI X C G pins tg iter ms G1 fi)
    (tgt : ∀ {X' : Cx} {C' : Ctx}, Gd false X' C' D (relS scope sc) N kk Gx ip (fun x => scope.names.lookup x == some .cell) → JG X' C' (forgetG (own.map (·.2)) Gi) t (.B (deps ms)) tg)
    (tst : ∀ {X' : Cx} {C' : Ctx}, Gd false X' C' D (relS scope sc) N kk Gx ip (fun x => scope.names.lookup x == some .cell) → JTs X' C' (t.gam (.B (deps ms)) (forgetG (own.map (·.2)) Gi)) (pins ++ deps ms ++ dd) ifs Gb cond)
    (elt' : ∀ {X' : Cx} {C' : Ctx}, Gd false X' C' D (relS scope sc) N kk Gx ip (fun x => scope.names.lookup x == some .cell) → JE X' C' Gb (pins ++ deps ms ++ dd) elt (.B dd) Gc fe)
    (blk : blkB N sc scope own = true := by decide +kernel) (pl : plain ms = true := by rfl) (g0 : gle Gi G1 = true := by rfl) (gb : gle Gi Gb = true := by rfl) (gc : gle Gi Gc = true := by rfl) (ix : (own.map (·.2)).all (decide <| · < N.length) = true := by rfl) (ddn : dd.all (decide <| · < N.length) = true := by rfl) (tin : t.slots.all (own.map (·.2)).contains = true := by rfl) (fs : ∀ x, foldedSetIterable iter X.env x = pure x := by exact fun _ => rfl) :
    CompOkB X C scope own tg elt iter ifs t ms pins dd G G1 Gi Gb Gc fi cond fe where
  calm := (g.calm rfl)
  nd := by rw [g.eN]; exact g.nd
  it := it
  pl := pl
  g0 := g0
  blk := by rw [g.eN, g.eS]; exact blk_of blk
  tgt := fun fr hf s H Ca cl fp => tgt (g.blkF fr hf s H scope cl Ca fp)
  tst := fun fr hf s H Ca cl fp => tst (g.blkF fr hf s H scope cl Ca fp)
  elt := fun fr hf s H Ca cl fp => elt' (g.blkF fr hf s H scope cl Ca fp)
  gb := gb
  gc := gc
  ix := lt_of_all g ix
  ddn := lt_of_all g ddn
  tin := fun i hi => by simpa using List.all_eq_true.mp tin i hi
  fs := fs
theorem Gd.asgCB (g : Gd ht X C D sc N kk Gx ip fnp) {scope : Scope} {own : List (Str × Nat)} {tg elt iter : Expr} {ifs : List Expr} {t : Tg} {dd : List Nat} {Gi Gb Gc : Gam} {fi : Sl → Res (List W)} {cond : Sl → Res Bool} (i : Nat) {y : Str} (h : CompOkB X C scope own tg elt iter ifs t ms pins dd G G1 Gi Gb Gc fi cond fe)
    (hN : N[i]? = some y := by rfl) (hy : sc.names.lookup y = some .local := by rfl) (hip : ip ≠ some i := by decide) (hG : i < Gi.length := by decide) (hsw : swapsWith (.ListComp elt [⟨tg, iter, ifs, 0⟩] scope pos) (some (.Name y py)) p.line (dumE sc) = pure true := by rfl) :
    JS X C s G pins (.Assign [.Name y py] (.ListComp elt [⟨tg, iter, ifs, 0⟩] scope pos) p) ((forgetG (own.map (·.2)) Gi).set i (some (.B dd))) (fAsg (.nm i) (fComp fi t (own.map (·.2)) cond fe)) :=
  js_compB h (by rw [g.eN]; exact hN) (by rw [g.eS]; exact hy) (by rw [swW g.eS]; exact hsw) (by rw [g.en]; exact (List.getElem?_eq_some_iff.mp hN).1) hG (g.ipFree hip)
end
end Vm

namespace Vm
open PySem PySem.Spec PyProof.Rows L2

/-! ## x[i][j] = e, e pure -/
theorem Vws.setAt2 {K : Kz} {H : Hp} : ∀ {ws : List W} {vs : List V} {fps : List Addr} {j : Nat} {us : List W}, Vws K H ws vs fps → fps.Nodup → ws[j]? = some (.lst us) →
    ∃ b xs, vs[j]? = some (.ref b) ∧ H b = some (.lst xs) ∧ xs.length = us.length ∧ b ∈ fps ∧ (W.pure.all us = true → ∀ (v : V) (w : W) (l : Nat), Vw K H w v [] → w.pure = true → Vws K (upd H b (.lst (xs.set l v))) (ws.set j (.lst (us.set l w))) vs fps)
  | [], vs, fps, j, us, h, _, e => by simp at e
  | x :: ws, vs, fps, 0, us, h, nd, e => by
    simp at e
    subst e
    simp only [Vws] at h
    obtain ⟨y, vs', f1, f2, rfl, rfl, r1, r2⟩ := h
    obtain ⟨a, xs, fps0, rfl, ra, sa, rfl⟩ := vwLst r1
    obtain ⟨n1, n2, n3⟩ := List.nodup_append.mp nd
    have nf2 : a ∉ f2 := fun z => n3 a List.mem_cons_self a z rfl
    refine ⟨a, xs, rfl, sa, ra.length, List.mem_append_left _ List.mem_cons_self, fun hpu v w l hv hp => ?_⟩
    have tk : TupK H (upd H a (.lst (xs.set l v))) := fun b ob h hm => by
      rw [upd_ne (fun z => by rw [z, sa] at h; cases h; cases hm)]
      exact h
    have e0 := Vws.of_pure hpu ra
    subst e0
    have hmono : ∀ {q : List Addr}, a ∉ q → ∀ b ∈ q, (upd H a (.lst (xs.set l v))) b = H b := fun {q} hn b hb => upd_ne fun z => hn (z ▸ hb)
    simp only [List.set_cons_zero, Vws]
    refine ⟨.ref a, vs', [a], f2, rfl, rfl, ?_, r2.mono tk (hmono nf2)⟩
    simp only [Vw]
    refine ⟨a, xs.set l v, [], rfl, ?_, upd_same, rfl⟩
    obtain ⟨fps', q1, q2, q3⟩ := Vws.set (j := l) (ra.mono tk (fun b hb => by cases hb)) (hv.mono tk (fun b hb => by cases hb)) List.nodup_nil List.nodup_nil (fun b hb => by cases hb)
    have e1 : fps' = [] := by
      cases fps' with
      | nil => rfl
      | cons z zs => rcases q3 z List.mem_cons_self with h | h <;> cases h
    rw [e1] at q1
    exact q1
  | x :: ws, vs, fps, j + 1, us, h, nd, e => by
    simp at e
    simp only [Vws] at h
    obtain ⟨y, vs', f1, f2, rfl, rfl, r1, r2⟩ := h
    obtain ⟨n1, n2, n3⟩ := List.nodup_append.mp nd
    obtain ⟨b, xs, q1, q2, q3, q4, q5⟩ := Vws.setAt2 (j := j) r2 n2 e
    refine ⟨b, xs, by simpa using q1, q2, q3, List.mem_append_right _ q4, fun hpu v w l hv hp => ?_⟩
    have tk : TupK H (upd H b (.lst (xs.set l v))) := fun b' ob h hm => by
      rw [upd_ne (fun z => by rw [z, q2] at h; cases h; cases hm)]
      exact h
    have nf1 : b ∉ f1 := fun z => n3 b z b q4 rfl
    simp only [List.set_cons_succ, Vws]
    exact ⟨y, vs', f1, f2, rfl, rfl, r1.mono tk fun b' hb => upd_ne fun z => nf1 (z ▸ hb), q5 hpu v w l hv hp⟩
def set2W (w : W) (i i2 : Option W) (ws : List W) : Option (List W) := match i, i2 with
  | some (.int i), some (.int i2) => match ixN ws.length i with
    | some j => match ws[j]? with
      | some (.lst us) => match ixN us.length i2 with
        | some l => if w.pure = true ∧ W.pure.all us = true then some (ws.set j (.lst (us.set l w))) else none
        | none => none
      | _ => none
    | none => none
  | _, _ => none
theorem set2W_ok {w : W} {i i2 : Option W} {ws r : List W} (h : set2W w i i2 ws = some r) : ∃ a b j l us, i = some (.int a) ∧ i2 = some (.int b) ∧ ixN ws.length a = some j ∧ ws[j]? = some (.lst us) ∧ ixN us.length b = some l ∧ w.pure = true ∧ W.pure.all us = true ∧ r = ws.set j (.lst (us.set l w)) := by
  unfold set2W at h
  split at h
  · rename_i a b
    split at h
    · rename_i j hj
      split at h
      · rename_i us hu
        split at h
        · rename_i l hl
          split at h
          · rename_i hp
            exact ⟨a, b, j, l, us, rfl, rfl, hj, hu, hl, hp.1, hp.2, (Option.some.inj h).symm⟩
          · cases h
        · cases h
      · cases h
    · cases h
  · cases h
def setF2 (k : Nat) (h1 h2 : Sl → Option W) (w : W) (S : Sl) : Option (Option W) → Res Fl
  | some (some (.lst ws)) => match set2W w (h1 S) (h2 S) ws with
    | some r => .ok .nx (S.set k (some (.lst r)))
    | none => .err
  | _ => .err
def fSetIx2 (k : Nat) (fe : Sl → Res W) (h1 h2 : Sl → Option W) : Sl → Res Fl := fun S => (fe S).bind fun w S1 => setF2 k h1 h2 w S1 S1[k]?
def setK7 (k : Nat) (h1 h2 : Sl → Option W) : W → Sl → Res Fl := fun w S1 => setF2 k h1 h2 w S1 S1[k]?
@[simp] theorem setK7_a {k : Nat} {h1 h2 : Sl → Option W} {w : W} {S : Sl} : setK7 k h1 h2 w S = setF2 k h1 h2 w S S[k]? := Eq.trans rfl rfl
@[simp ↓] theorem fSetIx2_a {k : Nat} {fe : Sl → Res W} {h1 h2 : Sl → Option W} {S : Sl} : fSetIx2 k fe h1 h2 S = (fe S).bind (setK7 k h1 h2) := Eq.trans rfl rfl
theorem setF2_a {k : Nat} {h1 h2 : Sl → Option W} {w : W} {S : Sl} {ws r : List W} (h : set2W w (h1 S) (h2 S) ws = some r) : setF2 k h1 h2 w S (some (some (.lst ws))) = .ok .nx (S.set k (some (.lst r))) := by
  unfold setF2
  simp only [h]
theorem set2W_a {w : W} {a b : Int} {ws us : List W} {j l : Nat} (h1 : ixN ws.length a = some j) (h2 : ws[j]? = some (.lst us)) (h3 : ixN us.length b = some l) (h4 : w.pure = true) (h5 : W.pure.all us = true) : set2W w (some (.int a)) (some (.int b)) ws = some (ws.set j (.lst (us.set l w))) := by
  unfold set2W
  simp only [h1, h2, h3, h4, h5, and_self, if_true]
section
variable {X : Cx} {C : Ctx} {s : Sx} {G G1 G2 G' : Gam} {pins : List Nat} {e a b c ix ix2 : Expr} {st : Stmt} {sts : List Stmt} {mo mi : Mo} {f g : Sl → Res Fl} {fe fi : Sl → Res W} {fb : Sl → Res Bool} {pos tpos npos p2 : Pos} {ms : List Am}
theorem js_setix2 {k : Nat} {x : Str} {h1 h2 : Sl → Option W} (hK : X.K = C.K) (hx : PE X (.Name x npos) (tVar k)) (he : JE X C G pins e .O G1 fe) (hi : Hand X C G1 ix h1) (hi2 : Hand X C G1 ix2 h2) (hpl : PlainIx ix) (hk1 : G1[k]? = some (some .O)) (hp : pins.contains k = false)
    (ha : ∀ v, assign (.Subscript (.Subscript (.Name x npos) ix p2) ix2 tpos) X.env v = (do
      let ov ← holding [v] (eval (.Subscript (.Name x npos) ix p2) X.env)
      let iv ← holding [v, ov] (eval ix2 X.env)
      standAt tpos
      holding [v, ov, iv] (setItem ov iv v)
      release [v, ov, iv] []))
    (hs : swapsWithSole [.Subscript (.Subscript (.Name x npos) ix p2) ix2 tpos] e pos.line X.env = pure false) (hw : swappedStores [.Subscript (.Subscript (.Name x npos) ix p2) ix2 tpos] e X.env = pure none)
    (h1' : (assignEach [.Subscript (.Subscript (.Name x npos) ix p2) ix2 tpos] X.env).map (·.2) = [assign (.Subscript (.Subscript (.Name x npos) ix p2) ix2 tpos) X.env]) :
    JS X C s G pins (.Assign [.Subscript (.Subscript (.Name x npos) ix p2) ix2 tpos] e pos) (killG k G1) (fSetIx2 k fe h1 h2) := by
  obtain ⟨te1, pe1, hand1⟩ := hi.ex
  obtain ⟨te2, pe2, hand2⟩ := hi2.ex
  refine PS.imp (ps_asg he (pg_sub (pe_ix ix_seq hx pe1 hpl) pe2 set_list ha) hs hw h1') fun D σ H ⟨cs0, S0, R0, p0, pp0, o⟩ => ?_
  have ln := R0.ln
  refine ⟨cs0, S0, R0, p0, pp0, ?_⟩
  unfold fSetIx2 at o
  cases hf : fe S0 with
  | err => rw [hf] at o; exact o
  | exc y S' => rw [hf] at o; exact o σ
  | ok w S1 =>
    rw [hf] at o
    intro v fp H1 cs1 R1 l1 t1 T1 g1
    obtain ⟨ck, hck, hcm⟩ := g1.2 k _ hk1
    have kn : k < C.n := Nat.lt_of_lt_of_le (List.getElem?_eq_some_iff.mp hk1).1 g1.1
    obtain ⟨hσ, hS⟩ := R1.slot k ck kn hck
    have o : OutS C cs0.length cs0 s D (killG k G1) (setF2 k h1 h2 w S1 S1[k]?) := o
    rw [hS] at o
    cases hcw : ck.w with
    | lst ws =>
      rw [hcw] at o
      have o : OutS C cs0.length cs0 s D (killG k G1) (match set2W w (h1 S1) (h2 S1) ws with
        | some r => .ok .nx (S1.set k (some (.lst r)))
        | none => .err) := o
      cases hr : set2W w (h1 S1) (h2 S1) ws with
      | none => rw [hr] at o; exact o.elim
      | some r =>
        rw [hr] at o
        obtain ⟨i, i2, j, l, us, e1, e2, hj, hu, hl, hwp, hup, rfl⟩ := set2W_ok hr
        have vk := R1.view k ck hck
        rw [hcw] at vk
        obtain ⟨a0, vs, fps, ea, ra, sa, ef⟩ := vwLst vk
        have ndk := R1.nd k ck hck hcm
        rw [ef] at ndk
        have naf : a0 ∉ fps := (List.nodup_cons.mp ndk.1).1
        obtain ⟨b, xs, q1, q2, q3, q4, q5⟩ := Vws.setAt2 (j := j) ra (List.nodup_cons.mp ndk.1).2 hu
        have hne : a0 ≠ b := fun z => naf (z ▸ q4)
        have hat : atI vs i = some (.ref b) := by unfold atI; rw [ra.length, hj]; exact q1
        have hwv := R1.view _ _ t1
        have efp : fp = [] := Vw.of_pure hwp hwv
        subst efp
        refine ⟨ck.v, hσ, ?_⟩
        obtain ⟨vi, hvi, _, go1⟩ := hand1 cs1 S1 σ H1 (fun y H2 => rIx X.K ck.v y H2 fun o H1 => te2 σ H1 fun i H2 => rSetL o i v H2 fun H3 => D.nx σ H3) (.int i) R1 g1 e1
        refine go1 ?_
        obtain ⟨rfl, _⟩ := vwInt hvi
        refine .inl ⟨a0, vs, i, .ref b, ea, rfl, SqL.of sa, hat, ?_⟩
        obtain ⟨vi2, hvi2, _, go2⟩ := hand2 cs1 S1 σ H1 (fun y H2 => rSetL (.ref b) y v H2 fun H3 => D.nx σ H3) (.int i2) R1 g1 e2
        refine go2 ?_
        obtain ⟨rfl, _⟩ := vwInt hvi2
        refine ⟨b, xs, i2, l, rfl, rfl, q2, by rw [q3]; exact hl, ?_⟩
        have v5 := q5 hup v w l hwv hwp
        obtain ⟨cs3, R3, l3, T3, g3⟩ := slot_set (L := cs0.length) (w' := .lst (ws.set j (.lst (us.set l w)))) (fp' := a0 :: fps) R1 g1 ln (by omega) kn hck hcm (H' := upd H1 b (.lst (xs.set l v))) (fun b' ob h hn => by
            rw [upd_ne (fun z => hn (by rw [ef, z]; exact List.mem_cons_of_mem _ q4))]; exact h)
          (fun b' h => by
            by_cases hz : b' = b
            · rw [hz, upd_same]; simp
            · rw [upd_ne hz]; exact h)
          (by rw [ea]; simp only [Vw]; exact ⟨a0, _, fps, rfl, v5, by rw [upd_ne hne]; exact sa, rfl⟩) ndk.1
          (fun b' hb => by
            refine ⟨?_, .inr (.inl (by rw [ef]; exact hb))⟩
            by_cases hz : b' = b
            · rw [hz]; exact ⟨_, upd_same, rfl⟩
            · rw [upd_ne hz]; exact (ndk.2 b' hb).1)
          (fun jj d h1 h2 hd hz => by
            rw [T1 jj h1 h2] at hd
            have := pp0 jj d h1 hd k hz
            simp at hp
            exact hp this)
        exact o σ _ cs3 R3 l3 (fun jj h1 h2 => by rw [T3 jj h1 h2]; exact T1 jj h1 h2) g3
    | non => rw [hcw] at o; exact o.elim
    | bl _ => rw [hcw] at o; exact o.elim
    | int _ => rw [hcw] at o; exact o.elim
    | str _ => rw [hcw] at o; exact o.elim
    | tup _ => rw [hcw] at o; exact o.elim
    | scr _ => rw [hcw] at o; exact o.elim
    | dct _ _ => rw [hcw] at o; exact o.elim
    | ins _ _ _ => rw [hcw] at o; exact o.elim
variable {D : Wd} {sc : Scope} {N : List Str} {kk : Nat} {Gx : Gam} {ip : Option Nat} {fnp : Str → Bool} {ht : Bool} {py p : Pos}
theorem Gd.setix2 (g : Gd ht X C D sc N kk Gx ip fnp) (q : Nat) {x : Str} {h1 h2 : Sl → Option W} (he : JE X C G pins e .O G1 fe) (hi : Hand X C G1 ix h1) (hi2 : Hand X C G1 ix2 h2) (hpl : PlainIx ix := by exact fun _ _ => rfl) (hk1 : G1[q]? = some (some .O) := by rfl) (hp : pins.contains q = false := by rfl)
    (hN : N[q]? = some x := by rfl) (hv : Vis sc x := by first | exact Or.inl rfl | exact Or.inr (Or.inl rfl) | exact Or.inr (Or.inr rfl)) (hd : (x == ("__debug__" : Str)) = false := by decide +kernel) (hcd : (x == ("__classdict__" : Str)) = false := by decide +kernel)
    (ha : ∀ v, assign (.Subscript (.Subscript (.Name x npos) ix p2) ix2 tpos) X.env v = (do
      let ov ← holding [v] (eval (.Subscript (.Name x npos) ix p2) X.env)
      let iv ← holding [v, ov] (eval ix2 X.env)
      standAt tpos
      holding [v, ov, iv] (setItem ov iv v)
      release [v, ov, iv] []) := by exact fun _ => rfl)
    (hs : swapsWithSole [.Subscript (.Subscript (.Name x npos) ix p2) ix2 tpos] e pos.line X.env = pure false := by rfl) (hw : swappedStores [.Subscript (.Subscript (.Name x npos) ix p2) ix2 tpos] e X.env = pure none := by rfl)
    (h1' : (assignEach [.Subscript (.Subscript (.Name x npos) ix p2) ix2 tpos] X.env).map (·.2) = [assign (.Subscript (.Subscript (.Name x npos) ix p2) ix2 tpos) X.env] := by rfl) :
    JS X C s G pins (.Assign [.Subscript (.Subscript (.Name x npos) ix p2) ix2 tpos] e pos) (killG q G1) (fSetIx2 q fe h1 h2) := js_setix2 g.hK (g.pv hN hv hd hcd) he hi hi2 hpl hk1 hp ha hs hw h1'
/-! ### a if c else b, as a test -/
variable {h fa fb2 : Sl → Res Bool}
def tIfT (t ta tb : TT) : TT := fun σ H Q => t σ H fun c H1 => if c = true then ta σ H1 Q else tb σ H1 Q
theorem pt_ifExp {tc ta tb : TT} (hc : PT X c tc) (ha : PT X a ta) (hb : PT X b tb) : PT X (.IfExp c a b pos) (tIfT tc ta tb) := by
  refine ⟨fun pins s σ H Q I h => ?_⟩
  refine isTrue_IfExp (thn (hc.run pins s σ H _ I h) fun d s1 ⟨H1, I1, q1⟩ => ?_)
  cases d with
  | true => exact ha.run pins s1 σ H1 Q I1 q1
  | false => exact hb.run pins s1 σ H1 Q I1 q1
theorem jt_ife (hc : JT X C G pins c G1 h) (ha : JT X C G1 pins a G' fa) (hb : JT X C G1 pins b G' fb2) : JT X C G pins (.IfExp c a b pos) G' (fIf h fa fb2) := PT.imp (pt_ifExp hc ha hb) fun σ H Q ⟨cs, S, R, p, pp, o⟩ => by
  refine if_out R p pp (P := OutV C cs.length cs σ G' Q) o (fun x S' z => z) (fun z => z) ?_ ?_
  · intro H1 cs1 S1 R1 l1 T1 g1 pn o
    refine ⟨cs1, S1, R1, g1, pn, ?_⟩
    revert o
    cases fa S1 with
    | err => exact id
    | exc x S' => exact fun o => OutX.up (L := cs.length) o T1 (by omega)
    | ok w S2 => exact fun o H2 cs2 R2 l2 T2 g2 => o H2 cs2 R2 (by omega) (T1.trans T2 (by omega)) g2
  · intro H1 cs1 S1 R1 l1 T1 g1 pn o
    refine ⟨cs1, S1, R1, g1, pn, ?_⟩
    revert o
    cases fb2 S1 with
    | err => exact id
    | exc x S' => exact fun o => OutX.up (L := cs.length) o T1 (by omega)
    | ok w S2 => exact fun o H2 cs2 R2 l2 T2 g2 => o H2 cs2 R2 (by omega) (T1.trans T2 (by omega)) g2
end
end Vm

namespace Vm
open PySem PySem.Spec PyProof.Rows L2

/-! ## x + e where x is given away behind e -/
def semCatR (ok : List W → Bool) : List W → Option W
  | [y, x] => semCat ok [x, y]
  | _ => none
theorem semCatR_a {ok : List W → Bool} {x y : W} : semCatR ok [y, x] = semCat ok [x, y] := Eq.trans rfl rfl
def rCatR : RR := fun vs H Q => ∃ x y, vs = [y, x] ∧ rCat x y H Q
theorem loc_catR {K : Kz} : LocO K rCatR (semCatR anyW) := by
  intro vs ws fps H Q w hv nd mu hs k
  unfold semCatR at hs
  split at hs
  · rename_i wy wx
    obtain ⟨y, x, f1, f2, rfl, rfl, r1, r2⟩ := vws2 hv
    have hv2 : Vws K H [wx, wy] [x, y] (f2 ++ f1) := by
      simp only [Vws]
      exact ⟨x, [y], f2, f1, rfl, rfl, r2, y, [], f1, [], rfl, by simp, r1, rfl, rfl⟩
    have hpm : (f2 ++ f1).Perm (f1 ++ f2) := List.perm_append_comm
    obtain ⟨x', y', e, q⟩ := loc_catO (K := K) [x, y] [wx, wy] (f2 ++ f1) H Q w hv2 (hpm.nodup_iff.mpr nd) (fun a ha => mu a (hpm.mem_iff.mp ha)) hs
      fun v H' fp s hw nd m => k v H' fp s hw nd fun a ha => ⟨(m a ha).1.imp id fun z => hpm.mem_iff.mp z, (m a ha).2⟩
    cases e
    exact ⟨x, y, rfl, q⟩
  · cases hs
section
variable {X : Cx} {C : Ctx} {s : Sx} {G G1 G2 G' : Gam} {pins : List Nat} {e a b c : Expr} {mo : Mo} {fe : Sl → Res W} {pos npos : Pos} {ms : List Am} {gs : Sl → Res (List W)}
theorem je_catS {k : Nat} {x : Str} (hx : PE X (.Name x npos) (tVar k)) (hG : G[k]? = some (some .O)) (hG1 : G1[k]? = some (some .O)) (hp : pins.contains k = false) (hip : ∀ v, C.fr.ip ≠ some (k, v)) (he : JE X C G pins e .O G1 fe) :
    JE X C G pins (.BinOp (.Name x npos) .Add e pos) .O (killG k (G1.set k none)) (fPrim (fCons fe (fCons (fMov k) fNil)) (semCatR anyW)) := by
  refine je_own (ms := [.mo .O, .mo .O]) (R := rCatR) (pe_op op_cat hx he) (fun σ H Q q => ?_) rfl rfl loc_catR
  obtain ⟨c0, h0⟩ : ∃ c0 : Cell, σ[k]? = some (some c0.v) := by
    obtain ⟨cs, S, R, p, pp, o⟩ := q
    obtain ⟨c, hc, hm⟩ := p.2 k _ hG
    have kn : k < C.n := Nat.lt_of_lt_of_le (List.getElem?_eq_some_iff.mp hG).1 p.1
    exact ⟨c, (R.slot k c kn hc).1⟩
  refine ⟨c0.v, h0, semE_mono (fun y H2 hz => ?_) (semA_cons σ H _ q)⟩
  have hp1 : (pins ++ Mo.dep .O).contains k = false := by simpa [Mo.dep] using hp
  obtain ⟨x, hx, q2⟩ := mov_sem hG1 hp1 hip (semE_mono (fun y H' hz => semA_nil σ H' _ hz) (semA_cons σ H2 _ hz))
  rw [h0] at hx
  cases hx
  obtain ⟨x', y', e, q3⟩ := q2
  cases e
  exact q3
variable {D : Wd} {sc : Scope} {N : List Str} {kk : Nat} {Gx : Gam} {ip : Option Nat} {fnp : Str → Bool} {ht : Bool} {py p : Pos}
theorem Gd.catS (g : Gd ht X C D sc N kk Gx ip fnp) (k : Nat) {x : Str} (he : JE X C G pins e .O G1 fe) (hG : G[k]? = some (some .O) := by rfl) (hG1 : G1[k]? = some (some .O) := by rfl) (hp : pins.contains k = false := by rfl) (hip : ip ≠ some k := by decide)
    (hN : N[k]? = some x := by rfl) (hv : Vis sc x := by first | exact Or.inl rfl | exact Or.inr (Or.inl rfl) | exact Or.inr (Or.inr rfl)) (hd : (x == ("__debug__" : Str)) = false := by decide +kernel) (hcd : (x == ("__classdict__" : Str)) = false := by decide +kernel) :
    JE X C G pins (.BinOp (.Name x npos) .Add e pos) .O (killG k (G1.set k none)) (fPrim (fCons fe (fCons (fMov k) fNil)) (semCatR anyW)) := je_catS (g.pv hN hv hd hcd) hG hG1 hp (g.ipFree hip) he

/-! ## sorted(ints), len(set(ints)) -/
def insI (x : Int) : List Int → List Int
  | [] => [x]
  | y :: ys => if x ≤ y then x :: y :: ys else y :: insI x ys
def sortI : List Int → List Int
  | [] => []
  | x :: xs => insI x (sortI xs)
theorem insI_perm (x : Int) : ∀ l : List Int, (insI x l).Perm (x :: l)
  | [] => List.Perm.refl _
  | y :: ys => by
    unfold insI
    split
    · exact List.Perm.refl _
    · exact ((insI_perm x ys).cons y).trans (List.Perm.swap x y ys)
theorem sortI_perm : ∀ l : List Int, (sortI l).Perm l
  | [] => List.Perm.refl _
  | x :: xs => (insI_perm x _).trans ((sortI_perm xs).cons x)
theorem insI_pw (x : Int) : ∀ {l : List Int}, l.Pairwise (· ≤ ·) → (insI x l).Pairwise (· ≤ ·)
  | [], _ => List.pairwise_singleton _ _
  | y :: ys, h => by
    obtain ⟨h1, h2⟩ := List.pairwise_cons.mp h
    unfold insI
    split
    · rename_i hxy
      refine List.pairwise_cons.mpr ⟨fun z hz => ?_, h⟩
      rcases List.mem_cons.mp hz with rfl | hz
      · exact hxy
      · exact Int.le_trans hxy (h1 z hz)
    · refine List.pairwise_cons.mpr ⟨fun z hz => ?_, insI_pw x h2⟩
      rcases List.mem_cons.mp ((insI_perm x ys).mem_iff.mp hz) with rfl | hz
      · omega
      · exact h1 z hz
theorem sortI_pw : ∀ l : List Int, (sortI l).Pairwise (· ≤ ·)
  | [] => List.Pairwise.nil
  | x :: xs => insI_pw x (sortI_pw xs)
theorem sorted_one : ∀ {l m : List Int}, l.Perm m → l.Pairwise (· ≤ ·) → m.Pairwise (· ≤ ·) → l = m
  | [], m, h, _, _ => (List.nil_perm.mp h).symm
  | x :: xs, [], h, _, _ => absurd h.length_eq (by simp)
  | x :: xs, y :: ys, h, h1, h2 => by
    obtain ⟨a1, a2⟩ := List.pairwise_cons.mp h1
    obtain ⟨b1, b2⟩ := List.pairwise_cons.mp h2
    have e : x = y := by
      have hx : x ∈ y :: ys := h.mem_iff.mp List.mem_cons_self
      have hy : y ∈ x :: xs := h.mem_iff.mpr List.mem_cons_self
      rcases List.mem_cons.mp hx with rfl | hx
      · rfl
      · rcases List.mem_cons.mp hy with rfl | hy
        · rfl
        · have := b1 x hx
          have := a1 y hy
          omega
    subst e
    rw [sorted_one (List.perm_cons x |>.mp h) a2 b2]
theorem vws_ints {K : Kz} {H : Hp} : ∀ (ns : List Int), Vws K H (ns.map W.int) (ns.map V.int) []
  | [] => by simp [Vws]
  | n :: ns => by
    simp only [List.map_cons, Vws]
    exact ⟨.int n, ns.map V.int, [], [], rfl, rfl, mkInt, vws_ints ns⟩
def semSorted : List W → Option W := semInts fun ns => some (.lst ((sortI ns).map W.int))
theorem loc_sorted {K : Kz} : LocF K (rSortedI K) semSorted := by
  intro vs ws fps H Q w hv hs k
  obtain ⟨a, ns, rfl, s, e⟩ := ints_parts hv hs
  cases e
  refine ⟨a, ns, rfl, s, fun ns' p h1 h2 h3 => ?_⟩
  have e := sorted_one (h1.trans (sortI_perm ns).symm) h2 (sortI_pw ns)
  subst e
  exact k _ _ [p] (Same.upd h3) (mkNew h3 (vws_ints _)) (by simp) fun b hb => by
    rw [List.mem_singleton.mp hb]
    exact ⟨h3, _, upd_same, rfl⟩
theorem Gd.sorted (g : Gd ht X C D sc N kk Gx ip fnp) (hm : D.mg "sorted" = none) (ja : JA X C G pins [a] ms G' gs) (hl : sc.names.lookup ("sorted" : Str) = some .globalImplicit := by rfl) (hp : plain ms = true := by rfl) : JE X C G pins (.Call (.Name "sorted" p) [a] [] pos) .O G' (fPrim gs semSorted) :=
  je_fn cr_sortedI (g.gl hl) (g.mgn hm) (by decide +kernel) (by decide +kernel) (by decide +kernel) ja hp (by rw [g.hK]; exact loc_sorted)
/-- how many unlike ones -/
def unl (ns : List Int) : Nat := (PyProof.Rows.firstMet (fun i => ns.getD i 0) ns.length).length
def rLenSet (K : PySem.W.Frag) : RR := fun vs H Q => ∃ (l : Addr) (ns : List Int), vs = [.ref l] ∧ SqL K H l (ns.map V.int) ∧ ns.length ≤ 4000 ∧ Q (.int (unl ns : Nat)) H
theorem pe_lenSet {ta : TE} {p p2 q pos : Pos} (hg : Gl X "len") (hm : X.mg "len" = none) (hg2 : Gl X "set") (hm2 : X.mg "set" = none) (ha : PE X a ta) (hc : X.calm = true)
    (na : starEach [a] X.env = (false, eval a X.env) :: starEach [] X.env) : PE X (.Call (.Name "len" p) [.Call (.Name "set" p2) [a] [] q] [] pos) (fun σ H Q => ta σ H fun x H1 => rLenSet X.K [x] H1 Q) := by
  refine ⟨fun pins s σ H Q I h => ?_⟩
  refine Call_ (ld_blt I hg hm boot_len (PyProof.Rows.callWith_builtin1 (PyProof.Rows.args_cons (Call_ (ld_blt I hg2 hm2 boot_set ?_)) rfl) rfl rfl))
  refine PyProof.Rows.callWith_type1 (PyProof.Rows.args_cons (thn (ha.run pins s σ H _ I h) fun v s1 ⟨x, H1, I1, r1, q1⟩ => PyProof.Rows.args_nil ?_) na) na rfl
  obtain ⟨l, ns, ex, hq, hl, q1⟩ := q1
  obtain rfl : x = .ref l := by simpa using ex
  cases r1
  obtain ⟨its, r, pl, hz⟩ := I1.list hq
  have hlen : its.toArray.size = ns.length := by rw [List.size_toArray, ← r.length, List.length_map]
  refine call_set_list (ns := ns) (I1.ok.hd hc) pl.isList (by simpa using r.ints) (by rw [hlen]; unfold scanBound; omega) fun h' tk hS hk => PyProof.Rows.args_nil ?_
  rw [hlen] at hS
  have hle := PyProof.Rows.firstMet_length_le (fun i => ns.getD i 0) ns.length
  obtain ⟨o, es, ep, t, ho, hex, hd, _, _, _, hf, hn⟩ := hS
  have I2 : Inv X pins σ H1 { s1 with heap := h', toks := tk } := I1.kept fun b o e => hk b o (Heap.lt_size e) e
  exact call_len_set ho hex hd hf (by rw [hn] <;> omega) ⟨.int (unl ns : Nat), H1, I2.tok _, ⟨_, by rw [hn]; rfl⟩, q1⟩
def semLenSet : List W → Option W := semInts fun ns => if ns.length ≤ 4000 then some (.int (unl ns : Nat)) else none
theorem loc_lenSet {K : Kz} : LocF K (rLenSet K) semLenSet := by
  intro vs ws fps H Q w hv hs k
  obtain ⟨a, ns, rfl, s, e⟩ := ints_parts hv hs
  split at e
  · rename_i hl
    cases e
    exact ⟨a, ns, rfl, s, hl, k _ H [] (Same.refl H) mkInt List.nodup_nil fun a ha => by cases ha⟩
  · cases e
theorem Gd.lenSet (g : Gd false X C D sc N kk Gx ip fnp) {p2 q : Pos} (hm : D.mg "len" = none) (hm2 : D.mg "set" = none) (ja : JA X C G pins [a] ms G' gs) (hl : sc.names.lookup ("len" : Str) = some .globalImplicit := by rfl) (hl2 : sc.names.lookup ("set" : Str) = some .globalImplicit := by rfl) (hp : plain ms = true := by rfl) (hn : notStar a = true := by rfl) :
    JE X C G pins (.Call (.Name "len" p) [.Call (.Name "set" p2) [a] [] q] [] pos) .O G' (fPrim gs semLenSet) := by
  obtain ⟨ta, h1, mono, h2⟩ := ja1 ja
  exact je_fresh (R := rLenSet C.K) (pe_lenSet (g.gl hl) (g.mgn hm) (g.gl hl2) (g.mgn hm2) h1 (g.calm rfl) (star_cons hn)) (fun σ H Q q => h2 σ H _ _ (fun x H1 z => by rw [g.hK]; exact z) q) hp loc_lenSet
/-! ## three names -/
variable {m1 m2 m3 : Mo} {px py2 pz pt : Pos} {st : Stmt}
theorem js_par3 {i j l : Nat} {x y z : Str} {kt k2 : Nat} {pt2 : Pos} (hc : X.calm = true) (hN : X.N.Nodup) (hi : X.N[i]? = some x) (hj : X.N[j]? = some y) (hl : X.N[l]? = some z) (hij : i ≠ j) (hil : i ≠ l) (hjl : j ≠ l)
    (hx : X.env.scope.names.lookup x = some .local) (hy : X.env.scope.names.lookup y = some .local) (hz : X.env.scope.names.lookup z = some .local)
    (ja : JA X C G pins [a, b, c] [.mo m1, .mo m2, .mo m3] G1 gs) (hin : i < C.n) (hjn : j < C.n) (hln : l < C.n) (hiG : i < G1.length) (hjG : j < G1.length) (hlG : l < G1.length) (ipi : ipFree C i) (ipj : ipFree C j) (ipl : ipFree C l)
    (hw : swappedStores [.Tuple [.Name x px, .Name y py2, .Name z pz] kt pt] (.Tuple [a, b, c] k2 pt2) X.env = pure (some [x, y, z]))
    (hs : swapsWithSole [.Tuple [.Name x px, .Name y py2, .Name z pz] kt pt] (.Tuple [a, b, c] k2 pt2) pos.line X.env = pure false) :
    JS X C s G pins (.Assign [.Tuple [.Name x px, .Name y py2, .Name z pz] kt pt] (.Tuple [a, b, c] k2 pt2) pos) (((G1.set i (some m1)).set j (some m2)).set l (some m3)) (fPar [i, j, l] gs) := by
  refine PS.imp (ps_par3 hc hN hi hj hl hij hil hjl hx hy hz ja.pa hw hs) fun D σ H ⟨cs, S, R, p, pp, o⟩ => ⟨cs, S, R, p, pp, ?_⟩
  have ln := R.ln
  unfold fPar at o
  cases hg : gs S with
  | err => rw [hg] at o; exact o
  | exc x S' => rw [hg] at o; exact o σ
  | ok ws S1 =>
    rw [hg] at o
    intro vs H1 cs1 R1 l1 a1 T1 g1
    have o : OutS C cs.length cs s D (((G1.set i (some m1)).set j (some m2)).set l (some m3)) (match setAll [i, j, l] ws S1 with | some S2 => .ok .nx S2 | none => .err) := o
    match vs, ws, a1 with
    | [v1, v2, v3], [w1, w2, w3], a1 =>
      obtain ⟨⟨fp1, t1⟩, ⟨fp2, t2⟩, ⟨fp3, t3⟩, _⟩ := a1
      obtain ⟨R2, l2, T2, g2⟩ := rel_store R1 g1 (L := cs.length + 1 + 1) (by omega) (by rw [l1]; rfl) t3 hln hlG ipl
      have t2' : (List.set (cs1.take (cs.length + 1 + 1)) l (some ⟨v3, w3, m3, fp3⟩))[cs.length + 1]? = some (some ⟨v2, w2, m2, fp2⟩) := by rw [T2 (cs.length + 1) (by omega) (by omega)]; exact t2
      obtain ⟨R3, l3, T3, g3⟩ := rel_store R2 g2 (L := cs.length + 1) (by omega) l2 t2' hjn (by simpa using hjG) ipj
      have t1'' : (((List.set (cs1.take (cs.length + 1 + 1)) l (some ⟨v3, w3, m3, fp3⟩)).take (cs.length + 1)).set j (some ⟨v2, w2, m2, fp2⟩))[cs.length]? = some (some ⟨v1, w1, m1, fp1⟩) := by
        rw [T3 cs.length ln (by omega), T2 cs.length ln (by omega)]
        exact t1
      obtain ⟨R4, l4, T4, g4⟩ := rel_store R3 g3 (L := cs.length) ln l3 t1'' hin (by simpa using hiG) ipi
      refine ⟨v1, v2, v3, rfl, ?_⟩
      have o : OutS C cs.length cs s D (((G1.set i (some m1)).set j (some m2)).set l (some m3)) (.ok .nx (((S1.set i (some w1)).set j (some w2)).set l (some w3))) := o
      have key : ∀ {α : Type} (xs : List α) (u v w : α), ((xs.set l w).set j v).set i u = ((xs.set i u).set j v).set l w := fun xs u v w => by
        rw [List.set_comm v u (Ne.symm hij), List.set_comm w u (Ne.symm hil), List.set_comm w v (Ne.symm hjl)]
      rw [key, key] at R4
      rw [key] at g4
      exact o _ _ _ R4 l4 (fun q h1 h2 => by rw [T4 q h1 h2, T3 q h1 (by omega), T2 q h1 (by omega)]; exact T1 q h1 h2) g4
    | [], _, a1 => exact a1.elim
    | [_], [], a1 => exact a1.elim
    | [_], _ :: _, a1 => exact a1.2.elim
    | _ :: _ :: _, [], a1 => exact a1.elim
    | [_, _], [_], a1 => exact a1.2.elim
    | [_, _], _ :: _ :: _, a1 => exact a1.2.2.elim
    | _ :: _ :: _ :: _, [_], a1 => exact a1.2.elim
    | _ :: _ :: _ :: _, [_, _], a1 => exact a1.2.2.elim
    | _ :: _ :: _ :: _ :: _, _ :: _ :: _ :: _, a1 => exact a1.2.2.2.elim
    | [_, _, _], _ :: _ :: _ :: _ :: _, a1 => exact a1.2.2.2.elim
theorem Gd.par3 (g : Gd false X C D sc N kk Gx ip fnp) (i j l : Nat) {x y z : Str} {kt k2 : Nat} {pt2 : Pos} (ja : JA X C G pins [a, b, c] [.mo m1, .mo m2, .mo m3] G1 gs) (hi : N[i]? = some x := by rfl) (hj : N[j]? = some y := by rfl) (hl : N[l]? = some z := by rfl) (hij : i ≠ j := by decide) (hil : i ≠ l := by decide) (hjl : j ≠ l := by decide)
    (hx : sc.names.lookup x = some .local := by rfl) (hy : sc.names.lookup y = some .local := by rfl) (hz : sc.names.lookup z = some .local := by rfl) (hiG : i < G1.length := by decide) (hjG : j < G1.length := by decide) (hlG : l < G1.length := by decide) (ipi : ip ≠ some i := by decide) (ipj : ip ≠ some j := by decide) (ipl : ip ≠ some l := by decide)
    (hw : swappedStores [.Tuple [.Name x px, .Name y py2, .Name z pz] kt pt] (.Tuple [a, b, c] k2 pt2) (dumE sc) = pure (some [x, y, z]) := by rfl)
    (hs : swapsWithSole [.Tuple [.Name x px, .Name y py2, .Name z pz] kt pt] (.Tuple [a, b, c] k2 pt2) pos.line X.env = pure false := by rfl) :
    JS X C s G pins (.Assign [.Tuple [.Name x px, .Name y py2, .Name z pz] kt pt] (.Tuple [a, b, c] k2 pt2) pos) (((G1.set i (some m1)).set j (some m2)).set l (some m3)) (fPar [i, j, l] gs) :=
  js_par3 (g.calm rfl) (by rw [g.eN]; exact g.nd) (by rw [g.eN]; exact hi) (by rw [g.eN]; exact hj) (by rw [g.eN]; exact hl) hij hil hjl (by rw [g.eS]; exact hx) (by rw [g.eS]; exact hy) (by rw [g.eS]; exact hz) ja
    (by rw [g.en]; exact (List.getElem?_eq_some_iff.mp hi).1) (by rw [g.en]; exact (List.getElem?_eq_some_iff.mp hj).1) (by rw [g.en]; exact (List.getElem?_eq_some_iff.mp hl).1) hiG hjG hlG (g.ipFree ipi) (g.ipFree ipj) (g.ipFree ipl) (by rw [swS g.eS]; exact hw) hs
end
end Vm

namespace Vm
open PySem PySem.Spec PyProof.Rows L2

/-! ## sorted(set(ints)) -/
section
variable {P : Program} {w : World} {A : Around} {E : Value → Shared → Prop} {s : Shared}
/-- an empty set, as it is made -/
def setOb (w : World) : Obj := { cls := .type "set", dict := none, data := .set #[] 0 (.fresh 0 0 (!w.params.followText "set-order")) }
/-- what stands after the set was filled -/
def Filled (w : World) (s : Shared) (ns : List Int) (s2 : Shared) : Prop := ∃ h' tk c, s2 = { s with heap := h', toks := tk } ∧ SetR w h' s.heap.objs.size (fun j => decide (j ∈ ns)) c ∧ c ≤ ns.length ∧ ∀ b o, s.heap.get? b = some o → h'.get? b = some o
set_option maxRecDepth 100000 in
set_option maxHeartbeats 3200000 in
/-- a new set is filled from a list of ints -/
theorem fill_set {l : Addr} {items : Array Value} (ns : List Int) (hh : A.handled = none) (hl : s.heap.IsList l items) (hit : IntsAre items.toList ns) (hb : ns.length + 1 < scanBound) :
    codeAny (model P w) A (.call (.builtin "set.__init__") ⟨[.ref s.heap.objs.size, .ref l], []⟩) (wants (fun r s₂ => r = .none ∧ Filled w s ns s₂) E) { s with heap := s.heap.push (setOb w) } := by
  have hisz : items.size = ns.length := by
    have q := IntsAre.length hit
    rwa [Array.length_toList] at q
  have hS : (s.heap.push (setOb w)).get? s.heap.objs.size = some (setOb w) := Heap.get?_push_size _ rfl
  have hT : Shared.TypeIs { s with heap := s.heap.push (setOb w) } (.ref s.heap.objs.size) "set" := ⟨_, hS, rfl⟩
  have hlS : l < s.heap.objs.size := by
    obtain ⟨ol, hol, _⟩ := hl
    exact Heap.lt_size hol
  have hz1 : (s.heap.push (setOb w)).objs.size = s.heap.objs.size + 1 := Heap.size_push ..
  refine codeAny_call_builtin F.called_set.init.plain F.entry_set_init (check_set_init_1 hT ?_)
  obtain ⟨ol, hol, hcl, nl, hdl⟩ := hl
  obtain ⟨ocls, odict, odata, oslots⟩ := ol
  simp only at hcl hdl
  subst hcl; subst hdl
  have hol' : (s.heap.push (setOb w)).get? l = some { cls := .type "list", dict := odict, data := .seq items nl, slots := oslots } := Heap.get?_push_of_some _ hol
  have hl1 : (s.heap.push (setOb w)).IsList l items := ⟨_, hol', rfl, nl, rfl⟩
  have k1 := F.sub_list_set
  have k2 := F.sub_list_frozenset
  have k3 : (Value.type "list" == Value.type "dict") = false := by decide
  unfold Builtin.«set.__init__» noKeywords Builtin.Frozenset.updateFrom
  generalize hPI : pyIter = PI
  wp_walk
  subst hPI
  refine wpAny_pyIter_list hl1 (wpAny_bind (wpAny_runValue ?_))
  have hval : ∀ (i : Nat) (v : Value), items[i]? = some v → ∃ k t, ns[i]? = some k ∧ v = .int k t := fun i v hv => by
    have hi : i < ns.length := by rw [← hisz]; exact (Array.getElem?_eq_some_iff.mp hv).1
    obtain ⟨t, e⟩ := PyProof.Rows.IntsAre.int_at hit i v (by rw [Array.getElem?_toList]; exact hv)
    exact ⟨ns[i], t, List.getElem?_eq_getElem hi, by rw [e, List.getD_eq_getElem?_getD, List.getElem?_eq_getElem hi] <;> rfl⟩
  have hne : l ≠ (s.heap.push (setOb w)).objs.size := by rw [hz1]; exact Nat.ne_of_lt (Nat.lt_succ_of_lt hlS)
  refine set_update_ints ((Walks.list (by simp [hh]) _ l hne items).toS) s.heap.objs.size (fun z => by
      rcases List.mem_cons.mp z with z | z
      · exact absurd (z.trans hz1) (Nat.ne_of_lt (Nat.lt_succ_self _))
      · exact absurd (List.mem_singleton.mp z) (Nat.ne_of_gt hlS)) ns hisz hb hval items.size 0 _ (by omega) (Nat.zero_le _) ⟨⟨_, Heap.get?_push_size _ rfl, rfl, rfl⟩, hl1.push _⟩ ⟨0, Nat.le_refl 0, setR_new_at (Heap.get?_push_of_some _ hS)⟩ fun s' c' hm hc' hS' => ?_
  obtain ⟨h', g2, d', tk', os'⟩ := s'
  have eg : g2 = s.gens := hm.gens
  have ed : d' = s.drawn := hm.drawn
  have eo : os' = s.os := hm.os
  subst eg; subst ed; subst eo
  show wpAny _ _ _ _ _ _
  refine wpAny_pure ?_
  show wpAny _ _ (ret Value.none) _ _ _
  refine wpAny_pure ⟨rfl, h', tk', c', rfl, hS', by omega, fun b o e => ?_⟩
  have hb0 : b < s.heap.objs.size := Heap.lt_size e
  exact hm.heap b o (fun z => by
    rcases List.mem_cons.mp z with z | z
    · exact absurd z (Nat.ne_of_lt hb0)
    · exact absurd ((List.mem_singleton.mp z).trans hz1) (Nat.ne_of_lt (Nat.lt_succ_of_lt hb0))) (Heap.get?_push_of_some _ (Heap.get?_push_of_some _ e))
set_option maxRecDepth 100000 in
set_option maxHeartbeats 3200000 in
theorem set_of_list {l : Addr} {items : Array Value} (ns : List Int) {Q : Value → Shared → Prop} (hh : A.handled = none) (hl : s.heap.IsList l items) (hit : IntsAre items.toList ns) (hb : ns.length + 1 < scanBound)
    (h : ∀ s2, Filled w s ns s2 → Q (.ref s.heap.objs.size) s2) : wpAny (model P w) A (call (.type "set") [.ref l]) Q E s := by
  obtain ⟨c, tl, hmro⟩ := F.called_set.mro
  have hmade := F.called_set.made
  have hsub := F.called_set.sub
  have h1 := F.called_set.notType
  have h2 := F.called_set.canCreate
  have hct := F.typeCall_set_1 (.ref l)
  refine wpAny_call (codeAny_of_tree ?_)
  show wpAny _ _ (callAny (.type "set") _) _ _ _
  refine wpAny_pure ⟨Code.quiet_builtin _ (by decide +kernel), codeAny_builtin F.entry_type_call ?_⟩
  rw [Around.under_plain (weight_type_call_type "set" [.ref l] []) rfl]
  repeat (any_goals (first | assumption | wp_step))
  refine codeAny_mono (code_set_led1 (.ref l) (E := E) (Q₁ := fun obj s₁ => obj = .ref s.heap.objs.size ∧ s₁ = { s with heap := s.heap.push (setOb w) }) ⟨rfl, rfl⟩) fun r s₁ hr => ?_
  cases r with
  | error e => exact hr
  | ok fl =>
    cases fl with
    | ret obj =>
      obtain ⟨rfl, rfl⟩ := hr
      have hT : Shared.TypeIs { s with heap := s.heap.push (setOb w) } (.ref s.heap.objs.size) "set" := ⟨_, Heap.get?_push_size _ rfl, rfl⟩
      have hli := F.called_set.init.lookup
      have hbi := F.called_set.init.bind (.ref s.heap.objs.size)
      repeat (any_goals (first | assumption | wp_step))
      refine codeAny_mono (fill_set (P := P) (E := E) ns ?_ hl hit hb) fun r₂ s₂ hr₂ => ?_
      · simp [hh]
      · cases r₂ with
        | error e => exact hr₂
        | ok fl₂ =>
          cases fl₂ with
          | ret r =>
            obtain ⟨rfl, F2⟩ := hr₂
            repeat (any_goals (first | assumption | wp_step))
            exact h _ F2
          | _ => exact hr₂.elim
    | _ => exact hr.elim
end
def rSetOfI (K : PySem.W.Frag) (w : World) : RR := fun vs H Q => ∃ (l : Addr) (ns : List Int), vs = [V.ref l] ∧ SqL K H l (ns.map V.int) ∧ ns.length < 60 ∧ ∀ (p : Addr) (c : Nat), H p = none → c ≤ ns.length → Q (.ref p) (upd H p (SetO w p (fun j => decide (j ∈ ns)) c))
theorem cr_setOfI {X : Cx} (hc : X.calm = true) : CallR X (.type "set") (rSetOfI X.K X.w) := by
  intro pins s σ H vs us Q I r h
  obtain ⟨l, ns, rfl, hs, hl, q⟩ := h
  obtain ⟨its, rv, pl, hz⟩ := I.list hs
  rw [Vals.ref1 r]
  refine set_of_list ns (I.ok.hd hc) pl.isList (by simpa using rv.ints) (by unfold scanBound; omega) fun s2 F => ?_
  obtain ⟨h', tk, c, rfl, R, hc', k⟩ := F
  exact ⟨.ref _, upd H s.heap.objs.size (SetO X.w s.heap.objs.size _ c), I.laid (t' := tk) (fun b u e => k b u e) (Nat.le_refl _) (setO_new R), rfl, q _ c (I.hok.fresh (Nat.le_refl _)) hc'⟩
def setI : List Int → List Int
  | [] => []
  | x :: xs => if x ∈ setI xs then setI xs else insI x (setI xs)
theorem setI_mem {k : Int} : ∀ {l : List Int}, k ∈ setI l ↔ k ∈ l
  | [] => Iff.rfl
  | x :: xs => by
    unfold setI
    split
    · rename_i h
      rw [setI_mem (l := xs), List.mem_cons]
      constructor
      · exact .inr
      · rintro (rfl | h2)
        · exact setI_mem.mp h
        · exact h2
    · rw [(insI_perm x _).mem_iff, List.mem_cons, List.mem_cons, setI_mem (l := xs)]
theorem insI_lt (x : Int) : ∀ {l : List Int}, l.Pairwise (· < ·) → x ∉ l → (insI x l).Pairwise (· < ·)
  | [], _, _ => List.pairwise_singleton _ _
  | y :: ys, h, hx => by
    obtain ⟨h1, h2⟩ := List.pairwise_cons.mp h
    have hxy : x ≠ y := fun e => hx (e ▸ List.mem_cons_self)
    unfold insI
    split
    · refine List.pairwise_cons.mpr ⟨fun z hz => ?_, h⟩
      rcases List.mem_cons.mp hz with rfl | hz
      · omega
      · have := h1 z hz; omega
    · refine List.pairwise_cons.mpr ⟨fun z hz => ?_, insI_lt x h2 fun h => hx (List.mem_cons_of_mem _ h)⟩
      rcases List.mem_cons.mp ((insI_perm x ys).mem_iff.mp hz) with rfl | hz
      · omega
      · exact h1 z hz
theorem setI_lt : ∀ l : List Int, (setI l).Pairwise (· < ·)
  | [] => List.Pairwise.nil
  | x :: xs => by
    unfold setI
    split
    · exact setI_lt xs
    · rename_i h; exact insI_lt x (setI_lt xs) h
theorem strict_one : ∀ {l m : List Int}, l.Pairwise (· < ·) → m.Pairwise (· < ·) → (∀ k, k ∈ l ↔ k ∈ m) → l = m
  | [], [], _, _, _ => rfl
  | [], y :: ys, _, _, h => absurd ((h y).mpr List.mem_cons_self) (by simp)
  | x :: xs, [], _, _, h => absurd ((h x).mp List.mem_cons_self) (by simp)
  | x :: xs, y :: ys, h1, h2, h => by
    obtain ⟨a1, a2⟩ := List.pairwise_cons.mp h1
    obtain ⟨b1, b2⟩ := List.pairwise_cons.mp h2
    have e : x = y := by
      rcases List.mem_cons.mp ((h x).mp List.mem_cons_self) with e | hx
      · exact e
      · rcases List.mem_cons.mp ((h y).mpr List.mem_cons_self) with e | hy
        · exact e.symm
        · have := b1 x hx
          have := a1 y hy
          omega
    subst e
    rw [strict_one a2 b2 fun k => ?_]
    constructor
    · intro hk
      rcases List.mem_cons.mp ((h k).mp (List.mem_cons_of_mem _ hk)) with e | hk2
      · have := a1 k hk; omega
      · exact hk2
    · intro hk
      rcases List.mem_cons.mp ((h k).mpr (List.mem_cons_of_mem _ hk)) with e | hk2
      · have := b1 k hk; omega
      · exact hk2
def rSortSet (K : PySem.W.Frag) (w : World) : RR := fun vs H Q => rSetOfI K w vs H fun v H2 => rSortedSet w [v] H2 Q
def semSortSet : List W → Option W := semInts fun ns => if ns.length < 60 then some (.lst ((setI ns).map W.int)) else none
theorem loc_sortSet {K : Kz} {w : World} : LocF K (rSortSet K w) semSortSet := by
  intro vs ws fps H Q u hv hs k
  obtain ⟨a, ns, rfl, s, e⟩ := ints_parts hv hs
  split at e
  · rename_i hl
    cases e
    refine ⟨a, ns, rfl, s, hl, fun p c hp hc => ⟨p, _, c, rfl, upd_same, by omega, fun ns' q h1 h2 h3 hq => ?_⟩⟩
    have en : ns' = setI ns := strict_one h1 (setI_lt ns) fun j => by rw [h2 j, decide_eq_true_eq, setI_mem]
    subst en
    have hqp : q ≠ p := fun e => by rw [e, upd_same] at hq; cases hq
    have hq0 : H q = none := by rw [upd_ne hqp] at hq; exact hq
    exact k _ _ [q] ((Same.upd hp).trans (Same.upd hq)) (mkNew hq (vws_ints _)) (by simp) fun b hb => by
      rw [List.mem_singleton.mp hb]
      exact ⟨hq0, _, upd_same, rfl⟩
  · cases e
section
variable {X : Cx} {C : Ctx} {G G' : Gam} {pins : List Nat} {a : Expr} {ms : List Am} {gs : Sl → Res (List W)} {D : Wd} {sc : Scope} {N : List Str} {kk : Nat} {Gx : Gam} {ip : Option Nat} {fnp : Str → Bool} {p p2 q pos : Pos}
theorem Gd.sortSet (g : Gd false X C D sc N kk Gx ip fnp) (hm : D.mg "sorted" = none) (hm2 : D.mg "set" = none) (ja : JA X C G pins [a] ms G' gs) (hl : sc.names.lookup ("sorted" : Str) = some .globalImplicit := by rfl) (hl2 : sc.names.lookup ("set" : Str) = some .globalImplicit := by rfl) (hp : plain ms = true := by rfl) :
    JE X C G pins (.Call (.Name "sorted" p) [.Call (.Name "set" p2) [a] [] q] [] pos) .O G' (fPrim gs semSortSet) := by
  have hns := (ja.tail (pos := q) (env := X.env))
  have p1 := pe_callTy (p := p2) (pos := q) (cr_setOfI (g.calm rfl)) (g.gl hl2) (g.mgn hm2) PyProof.Rows.boot_set ja.pa (by decide) (by decide) (star_cons hns.1) hns.2
  have pp := pe_callB (p := p) (pos := pos) (es := []) (cr_sortedSet (g.calm rfl)) (g.gl hl) (g.mgn hm) (by decide +kernel) (pa_cons p1 pa_nil (star_cons rfl)) (by decide) (by decide) (star_cons rfl) (by rfl)
  exact je_fresh (R := rSortSet C.K X.w) pp (fun σ H Q z => by rw [← g.hK] at z; exact z) hp loc_sortSet
end
end Vm

namespace Vm
open PySem PySem.Spec PyProof.Rows L2

/-! ## sorted(pairs of ints) -/
abbrev PairAt (K : PySem.W.Frag) (H : Hp) (x : V) (p : Int × Int) : Prop := ∃ t, x = .ref t ∧ SqT K H t [.int p.1, .int p.2]
def PairsAt (K : PySem.W.Frag) (H : Hp) : List V → List (Int × Int) → Prop
  | [], [] => True
  | x :: xs, p :: ps => PairAt K H x p ∧ PairsAt K H xs ps
  | _, _ => False
def lexLe (p q : Int × Int) : Prop := p.1 < q.1 ∨ (p.1 = q.1 ∧ p.2 ≤ q.2)
instance {p q : Int × Int} : Decidable (lexLe p q) := by unfold lexLe; infer_instance
theorem pairsAt_map {K : PySem.W.Frag} {H : Hp} {k : V → Int × Int} : ∀ {xs : List V} {ps : List (Int × Int)}, PairsAt K H xs ps → (∀ x p, PairAt K H x p → k x = p) → ps = xs.map k ∧ ∀ x ∈ xs, PairAt K H x (k x)
  | [], [], _, _ => ⟨rfl, fun x hx => by cases hx⟩
  | x :: xs, p :: ps, h, hk => by
    obtain ⟨e, m⟩ := pairsAt_map h.2 hk
    refine ⟨by rw [List.map_cons, ← e, hk x p h.1], fun y hy => ?_⟩
    rcases List.mem_cons.mp hy with rfl | hy
    · rw [hk y p h.1]; exact h.1
    · exact m y hy
  | [], _ :: _, h, _ => h.elim
  | _ :: _, [], h, _ => h.elim
theorem pairsAt_of {K : PySem.W.Frag} {H : Hp} {k : V → Int × Int} : ∀ {xs : List V}, (∀ x ∈ xs, PairAt K H x (k x)) → PairsAt K H xs (xs.map k)
  | [], _ => trivial
  | x :: xs, h => ⟨h x List.mem_cons_self, pairsAt_of fun y hy => h y (List.mem_cons_of_mem _ hy)⟩
def rSortedPT (K : PySem.W.Frag) : RR := fun vs H Q => ∃ (a : Addr) (xs : List V) (ps : List (Int × Int)), vs = [V.ref a] ∧ SqL K H a xs ∧ PairsAt K H xs ps ∧
  ∀ ys qs p, PairsAt K H ys qs → qs.Pairwise lexLe → qs.Perm ps → H p = none → Q (.ref p) (upd H p (.lst ys))
open Classical in
noncomputable def pairOf (K : PySem.W.Frag) (H : Hp) (x : V) : Int × Int := if h : ∃ p, PairAt K H x p then choose h else (0, 0)
theorem cr_sortedPT {X : Cx} : CallR X (.builtin "sorted") (rSortedPT X.K) := by
  intro pins s σ H vs us Q I r h
  obtain ⟨a, xs, ps, rfl, hs, hx, q⟩ := h
  obtain ⟨its, rv, hl, hz⟩ := I.list hs
  obtain ⟨u, rfl, ru⟩ := vals1 r
  obtain rfl : u = Value.ref a := ru
  have hk : ∀ x p, PairAt X.K H x p → pairOf X.K H x = p := fun x p hp => by
    have hex : ∃ p, PairAt X.K H x p := ⟨p, hp⟩
    unfold pairOf
    rw [dif_pos hex]
    obtain ⟨t, e, ht⟩ := Classical.choose_spec hex
    obtain ⟨t', e', ht'⟩ := hp
    rw [e] at e'
    cases e'
    have := I.tuple_inj ht ht'
    simp only [List.cons.injEq, V.int.injEq, and_true] at this
    exact Prod.ext this.1 this.2
  obtain ⟨eps, hm⟩ := pairsAt_map hx hk
  obtain ⟨e1, e2⟩ := refs_back rv fun x m => by
    obtain ⟨t, e, _⟩ := hm x m
    exact ⟨t, e⟩
  refine SrtO.sorted_pairsO (k := fun u => pairOf X.K H (backV u)) hl.isList (by rw [← rv.length]; exact hz) (fun v hv => ?_) fun h' d out h1 h2 kp hd hn => ?_
  · obtain ⟨t, rfl⟩ := e2 v hv
    have hmv : V.ref t ∈ xs := by rw [e1]; exact List.mem_map.mpr ⟨_, hv, rfl⟩
    obtain ⟨t', e, ht⟩ := hm _ hmv
    cases e
    obtain ⟨its2, r2, ⟨o, ho, hc, n, hd⟩, _⟩ := I.tuple ht
    obtain ⟨u1, u2, rfl, ri, rj⟩ := vals2 r2
    obtain ⟨t1, rfl⟩ := ri
    obtain ⟨t2, rfl⟩ := rj
    exact ⟨t, o, t1, t2, n, rfl, ho, hc, hd⟩
  · have h3 : ∀ u ∈ out, ∃ a, u = Value.ref a := fun u hu => e2 u (h2.perm.mem_iff.mp hu)
    obtain ⟨n, hn⟩ := hn
    have hp : (out.map backV).Perm xs := by rw [e1]; exact h2.perm.map backV
    refine ⟨.ref d, upd H d (.lst (out.map backV)), I.laid (t' := s.toks) kp hd ⟨?_, out, n, vals_back h3, hn⟩, rfl, q _ ((out.map backV).map (pairOf X.K H)) d (pairsAt_of fun y hy => hm y (hp.mem_iff.mp hy)) ?_ ?_ (I.hok.fresh hd)⟩
    · rw [hp.length_eq]; exact hz
    · rw [List.map_map]
      refine List.pairwise_map.mpr (h1.imp fun {x y} h => ?_)
      have := SrtO.lexB_no.mp h
      show lexLe (pairOf X.K H (backV x)) (pairOf X.K H (backV y))
      unfold lexLe
      omega
    · rw [eps]; exact hp.map _
def insP (x : Int × Int) : List (Int × Int) → List (Int × Int)
  | [] => [x]
  | y :: ys => if lexLe x y then x :: y :: ys else y :: insP x ys
def sortP : List (Int × Int) → List (Int × Int)
  | [] => []
  | x :: xs => insP x (sortP xs)
theorem insP_perm (x : Int × Int) : ∀ l, (insP x l).Perm (x :: l)
  | [] => List.Perm.refl _
  | y :: ys => by
    unfold insP
    split
    · exact List.Perm.refl _
    · exact ((insP_perm x ys).cons y).trans (List.Perm.swap x y ys)
theorem sortP_perm : ∀ l, (sortP l).Perm l
  | [] => List.Perm.refl _
  | x :: xs => (insP_perm x _).trans ((sortP_perm xs).cons x)
theorem lexLe_trans {a b c : Int × Int} (h1 : lexLe a b) (h2 : lexLe b c) : lexLe a c := by unfold lexLe at *; omega
theorem insP_pw (x : Int × Int) : ∀ {l}, l.Pairwise lexLe → (insP x l).Pairwise lexLe
  | [], _ => List.pairwise_singleton _ _
  | y :: ys, h => by
    obtain ⟨h1, h2⟩ := List.pairwise_cons.mp h
    unfold insP
    split
    · rename_i hxy
      refine List.pairwise_cons.mpr ⟨fun z hz => ?_, h⟩
      rcases List.mem_cons.mp hz with rfl | hz
      · exact hxy
      · exact lexLe_trans hxy (h1 z hz)
    · rename_i hxy
      refine List.pairwise_cons.mpr ⟨fun z hz => ?_, insP_pw x h2⟩
      rcases List.mem_cons.mp ((insP_perm x ys).mem_iff.mp hz) with rfl | hz
      · unfold lexLe at *; omega
      · exact h1 z hz
theorem sortP_pw : ∀ l, (sortP l).Pairwise lexLe
  | [] => List.Pairwise.nil
  | x :: xs => insP_pw x (sortP_pw xs)
theorem lexLe_anti {a b : Int × Int} (h1 : lexLe a b) (h2 : lexLe b a) : a = b := by
  unfold lexLe at *
  exact Prod.ext (by omega) (by omega)
theorem sorted_oneP : ∀ {l m : List (Int × Int)}, l.Perm m → l.Pairwise lexLe → m.Pairwise lexLe → l = m
  | [], m, h, _, _ => (List.nil_perm.mp h).symm
  | x :: xs, [], h, _, _ => absurd h.length_eq (by simp)
  | x :: xs, y :: ys, h, h1, h2 => by
    obtain ⟨a1, a2⟩ := List.pairwise_cons.mp h1
    obtain ⟨b1, b2⟩ := List.pairwise_cons.mp h2
    have e : x = y := by
      rcases List.mem_cons.mp (h.mem_iff.mp (List.mem_cons_self (a := x))) with e | hx
      · exact e
      · rcases List.mem_cons.mp (h.mem_iff.mpr (List.mem_cons_self (a := y))) with e | hy
        · exact e.symm
        · exact lexLe_anti (a1 y hy) (b1 x hx)
    subst e
    rw [sorted_oneP (List.perm_cons x |>.mp h) a2 b2]
def pairW (p : Int × Int) : W := .tup [.int p.1, .int p.2]
def pairs? : List W → Option (List (Int × Int))
  | [] => some []
  | .tup [.int i, .int j] :: ws => (pairs? ws).map ((i, j) :: ·)
  | _ => none
theorem pairs?_eq : ∀ {ws : List W} {ps : List (Int × Int)}, pairs? ws = some ps → ws = ps.map pairW
  | [], ps, h => by simp [pairs?] at h; subst h; rfl
  | w :: ws, ps, h => by
    unfold pairs? at h
    split at h
    · cases ‹_ = []›
    · rename_i i j ws' e
      cases e
      obtain ⟨qs, h1, rfl⟩ := Option.map_eq_some_iff.mp h
      rw [pairs?_eq h1]
      rfl
    · cases h
@[simp] theorem pairs?_map : ∀ ps : List (Int × Int), pairs? (ps.map pairW) = some ps
  | [] => rfl
  | p :: ps => by
    show (pairs? (ps.map pairW)).map ((p.1, p.2) :: ·) = _
    rw [pairs?_map ps]
    rfl
theorem vws_pairs {K : Kz} {H : Hp} : ∀ {ps : List (Int × Int)} {vs : List V} {fp : List Addr}, Vws K H (ps.map pairW) vs fp → PairsAt K H vs ps ∧ fp = []
  | [], vs, fp, h => by
    simp only [List.map_nil, Vws] at h
    rw [h.1]; exact ⟨trivial, h.2⟩
  | p :: ps, vs, fp, h => by
    simp only [List.map_cons, Vws, pairW, Vw] at h
    obtain ⟨v, vs', f1, f2, rfl, rfl, ⟨a, us, rfl, hs, r⟩, r2⟩ := h
    obtain ⟨v1, us1, g1, g2, rfl, rfl, ⟨rfl, rfl⟩, v2, us2, g3, g4, rfl, rfl, ⟨rfl, rfl⟩, rfl, rfl⟩ := r
    obtain ⟨h1, rfl⟩ := vws_pairs r2
    exact ⟨⟨⟨a, rfl, hs⟩, h1⟩, rfl⟩
theorem pairs_vws {K : Kz} {H : Hp} : ∀ {ps : List (Int × Int)} {vs : List V}, PairsAt K H vs ps → Vws K H (ps.map pairW) vs []
  | [], [], _ => by simp [Vws]
  | p :: ps, v :: vs, h => by
    obtain ⟨⟨t, rfl, ht⟩, h2⟩ := h
    simp only [List.map_cons, Vws, pairW, Vw]
    exact ⟨_, _, [], [], rfl, rfl, ⟨t, _, rfl, ht, _, _, [], [], rfl, rfl, ⟨rfl, rfl⟩, _, _, [], [], rfl, rfl, ⟨rfl, rfl⟩, rfl, rfl⟩, pairs_vws h2⟩
  | [], _ :: _, h => h.elim
  | _ :: _, [], h => h.elim
def semSortedP : List W → Option W
  | [.lst ws] => (pairs? ws).map fun ps => .lst ((sortP ps).map pairW)
  | _ => none
theorem loc_sortedP {K : Kz} : LocF K (rSortedPT K) semSortedP := by
  intro vs ws fps H Q w hv hs k
  unfold semSortedP at hs
  split at hs
  · rename_i ws'
    obtain ⟨ps, h1, rfl⟩ := Option.map_eq_some_iff.mp hs
    have e := pairs?_eq h1
    subst e
    obtain ⟨x, rfl, r⟩ := vws1 hv
    obtain ⟨a, us, gs, rfl, ra, sa, rfl⟩ := vwLst r
    obtain ⟨hp, _⟩ := vws_pairs ra
    refine ⟨a, us, ps, rfl, SqL.of sa, hp, fun ys qs p h1 h2 h3 h4 => ?_⟩
    have e := sorted_oneP (h3.trans (sortP_perm ps).symm) h2 (sortP_pw ps)
    subst e
    exact k _ _ [p] (Same.upd h4) (mkNew h4 (pairs_vws h1)) (by simp) fun b hb => by
      rw [List.mem_singleton.mp hb]
      exact ⟨h4, _, upd_same, rfl⟩
  · cases hs
section
variable {X : Cx} {C : Ctx} {G G' : Gam} {pins : List Nat} {a : Expr} {ms : List Am} {gs : Sl → Res (List W)} {D : Wd} {sc : Scope} {N : List Str} {kk : Nat} {Gx : Gam} {ip : Option Nat} {fnp : Str → Bool} {ht : Bool} {p p2 q pos : Pos}
theorem Gd.sortedP (g : Gd ht X C D sc N kk Gx ip fnp) (hm : D.mg "sorted" = none) (ja : JA X C G pins [a] ms G' gs) (hl : sc.names.lookup ("sorted" : Str) = some .globalImplicit := by rfl) (hp : plain ms = true := by rfl) : JE X C G pins (.Call (.Name "sorted" p) [a] [] pos) .O G' (fPrim gs semSortedP) :=
  je_fn cr_sortedPT (g.gl hl) (g.mgn hm) (by decide +kernel) (by decide +kernel) (by decide +kernel) ja hp (by rw [g.hK]; exact loc_sortedP)
end
end Vm

namespace Vm
open PySem PySem.Spec PyProof.Rows L2
/-! ## dicts whose values are pure -/
def lookG {α : Type} (l : List (Key × α)) (k : Key) : Option α := (l.find? fun p => decide (p.1 = k)).map (·.2)
def putD {α : Type} (l : List (Key × α)) (k : Key) (a : α) : List (Key × α) :=
  if (l.any fun kv => decide (kv.1 = k)) = true then l.map (fun kv => if kv.1 = k then (kv.1, a) else kv) else l ++ [(k, a)]
def kW : Key → W
  | .inl i => .int i
  | .inr x => .str x
def kOf : W → Option Key
  | .int i => some (.inl i)
  | .str x => some (.inr x)
  | _ => none
section
variable {K : Kz} {H : Hp}
inductive KW (K : Kz) (H : Hp) : List (Key × W) → List (Key × V) → Prop
  | nil : KW K H [] []
  | cons {k : Key} {w : W} {v : V} {l : List (Key × W)} {m : List (Key × V)} : Vw K H w v [] → KW K H l m → KW K H ((k, w) :: l) ((k, v) :: m)
theorem kw_of : ∀ {ks : List Key} {ws : List W} {vs : List V} {fp : List Addr}, Vws K H ws vs fp → W.pure.all ws = true → ks.length = ws.length → KW K H (ks.zip ws) (ks.zip vs) ∧ fp = []
  | [], [], vs, fp, h, _, _ => by simp only [Vws] at h; rw [h.1, h.2]; exact ⟨.nil, rfl⟩
  | [], _ :: _, _, _, _, _, e => by simp at e
  | _ :: _, [], _, _, _, _, e => by simp at e
  | k :: ks, w :: ws, vs, fp, h, p, e => by
    simp only [Vws] at h
    obtain ⟨v, vs', f1, f2, rfl, rfl, r1, r2⟩ := h
    simp only [W.pure.all, Bool.and_eq_true] at p
    have e1 := Vw.of_pure p.1 r1
    subst e1
    obtain ⟨i1, i2⟩ := kw_of r2 p.2 (by simpa using e)
    subst i2
    exact ⟨.cons r1 i1, rfl⟩
theorem kw_to : ∀ {l : List (Key × W)} {m : List (Key × V)}, KW K H l m → Vws K H (l.map (·.2)) (m.map (·.2)) [] ∧ (l.map (·.1)).zip (m.map (·.2)) = m ∧ (l.map (·.1)).length = (l.map (·.2)).length
  | _, _, .nil => ⟨by simp [Vws], rfl, rfl⟩
  | _, _, .cons r h => by
    obtain ⟨i1, i2, i3⟩ := kw_to h
    refine ⟨by simp only [List.map_cons, Vws]; exact ⟨_, _, [], [], rfl, rfl, r, i1⟩, by simp [i2], by simp⟩
theorem KW.look {l : List (Key × W)} {m : List (Key × V)} (h : KW K H l m) (k : Key) : (lookG l k = none ∧ valV m k = none) ∨ ∃ w v, lookG l k = some w ∧ valV m k = some v ∧ Vw K H w v [] := by
  induction h with
  | nil => exact .inl ⟨rfl, rfl⟩
  | @cons k' w v l m r _ ih =>
    by_cases e : k' = k
    · refine .inr ⟨w, v, by simp [lookG, List.find?_cons, e], valV_pos e, r⟩
    · have h1 : lookG ((k', w) :: l) k = lookG l k := by simp [lookG, List.find?_cons, e]
      rw [h1, valV_neg e]; exact ih
theorem KW.any {l : List (Key × W)} {m : List (Key × V)} (h : KW K H l m) (k : Key) : (l.any fun kv => decide (kv.1 = k)) = (m.any fun kv => decide (kv.1 = k)) := by
  induction h with
  | nil => rfl
  | cons r _ ih => rw [List.any_cons, List.any_cons, ih]
theorem KW.snoc {l : List (Key × W)} {m : List (Key × V)} (h : KW K H l m) {k : Key} {w : W} {v : V} (r : Vw K H w v []) : KW K H (l ++ [(k, w)]) (m ++ [(k, v)]) := by
  induction h with
  | nil => exact .cons r .nil
  | cons q _ ih => exact .cons q ih
theorem KW.repl {l : List (Key × W)} {m : List (Key × V)} (h : KW K H l m) {k : Key} {w : W} {v : V} (r : Vw K H w v []) : KW K H (l.map fun kv => if kv.1 = k then (kv.1, w) else kv) (m.map fun kv => if kv.1 = k then (kv.1, v) else kv) := by
  induction h with
  | nil => exact .nil
  | @cons k' w' v' l m q _ ih =>
    rw [List.map_cons, List.map_cons]
    by_cases e : k' = k
    · rw [if_pos e, if_pos e]; exact .cons r ih
    · rw [if_neg e, if_neg e]; exact .cons q ih
theorem KW.put {l : List (Key × W)} {m : List (Key × V)} (h : KW K H l m) {k : Key} {w : W} {v : V} (r : Vw K H w v []) : KW K H (putD l k w) (putK m k v) := by
  unfold putD putK
  rw [h.any k]
  split
  · exact h.repl r
  · exact h.snoc r
theorem KW.mono {H' : Hp} (t : TupK H H') {l : List (Key × W)} {m : List (Key × V)} (h : KW K H l m) : KW K H' l m := by
  induction h with
  | nil => exact .nil
  | cons r _ ih => exact .cons (r.mono t fun a ha => by cases ha) ih
theorem KW.length {l : List (Key × W)} {m : List (Key × V)} (h : KW K H l m) : l.length = m.length := by
  induction h with
  | nil => rfl
  | cons _ _ ih => rw [List.length_cons, List.length_cons, ih]
theorem KW.keys {l : List (Key × W)} {m : List (Key × V)} (h : KW K H l m) : Vws K H (l.map fun p => kW p.1) (m.map fun p => kV p.1) [] := by
  induction h with
  | nil => simp [Vws]
  | @cons k w v l m _ _ ih =>
    simp only [List.map_cons, Vws]
    refine ⟨_, _, [], [], rfl, rfl, ?_, ih⟩
    cases k with
    | inl i => exact mkInt
    | inr x => exact mkStr'
/-- a dict as a table -/
def dctW (l : List (Key × W)) : W := .dct (l.map (·.1)) (l.map (·.2))
def dct? : W → Option (List (Key × W))
  | .dct ks ws => if W.pure.all ws = true then some (ks.zip ws) else none
  | _ => none
theorem zip_unmap {α β : Type} : ∀ l : List (α × β), (l.map (·.1)).zip (l.map (·.2)) = l
  | [] => rfl
  | _ :: l => by simp [zip_unmap l]
theorem vwDct {w : W} {l : List (Key × W)} {v : V} {fp : List Addr} (hd : dct? w = some l) (h : Vw K H w v fp) : ∃ a m, v = .ref a ∧ H a = some (.dK m) ∧ KW K H l m ∧ fp = [a] := by
  cases w with
  | dct ks ws =>
    have hd : (if W.pure.all ws = true then some (ks.zip ws) else none) = some l := hd
    split at hd
    · rename_i p
      cases hd
      simp only [Vw] at h
      obtain ⟨a, vs, fps, e, r, el, s, rfl⟩ := h
      obtain ⟨k, rfl⟩ := kw_of r p el
      exact ⟨a, _, e, s, k, rfl⟩
    · cases hd
  | _ => cases hd
theorem mkDct {l : List (Key × W)} {m : List (Key × V)} {a : Addr} (h : KW K H l m) (s : H a = some (.dK m)) : Vw K H (dctW l) (.ref a) [a] := by
  obtain ⟨h1, h2, h3⟩ := kw_to h
  simp only [dctW, Vw]
  exact ⟨a, _, [], rfl, h1, h3, by rw [h2]; exact s, rfl⟩
theorem key_vw {w : W} {k : Key} {v : V} {fp : List Addr} (hk : kOf w = some k) (h : Vw K H w v fp) : v = kV k ∧ fp = [] := by
  cases w with
  | int i => cases hk; exact vwInt h
  | str x => cases hk; exact vwStr h
  | _ => cases hk
end
section
variable {K : Kz}
/-- {} -/
def semDnew : List W → Option W
  | [] => some (dctW [])
  | _ => none
theorem loc_dnew : LocF K (fun vs H Q => ∀ p, H p = none → Q (.ref p) (upd H p (.dK []))) semDnew := by
  intro vs ws fps H Q w hv hs k
  intro p hp
  cases ws with
  | nil =>
    cases hs
    exact k _ _ [p] (Same.upd hp) (mkDct .nil upd_same) (by simp) fun a ha => by rw [List.mem_singleton.mp ha]; exact ⟨hp, _, upd_same, rfl⟩
  | cons _ _ => cases hs
/-- k in d, k not in d -/
def semInD (neg : Bool) : List W → Option W
  | [x, d] => (kOf x).bind fun k => (dct? d).map fun l => .bl (if neg then !(lookG l k).isSome else (lookG l k).isSome)
  | _ => none
def rInD (neg : Bool) : R2 := fun y x H Q => ∃ a o, x = .ref a ∧ DGet H a y o ∧ Q (.bl (if neg then !o.isSome else o.isSome)) H
theorem loc_inD {neg : Bool} : LocF K (R2f (rInD neg)) (semInD neg) := by
  intro vs ws fps H Q w hv hs k
  unfold semInD at hs
  split at hs
  · obtain ⟨x, y, f1, f2, rfl, rfl, r1, r2⟩ := vws2 hv
    simp only [Option.bind_eq_some_iff, Option.map_eq_some_iff] at hs
    obtain ⟨kk, h1, l, h2, rfl⟩ := hs
    obtain ⟨rfl, rfl⟩ := key_vw h1 r1
    obtain ⟨a, m, rfl, s, kw, rfl⟩ := vwDct h2 r2
    have e : (valV m kk).isSome = (lookG l kk).isSome := by
      rcases kw.look kk with ⟨e1, e2⟩ | ⟨w', v', e1, e2, _⟩ <;> rw [e1, e2] <;> rfl
    refine ⟨_, _, rfl, a, valV m kk, rfl, .k s, ?_⟩
    rw [e]
    exact k _ H [] (Same.refl H) mkBl List.nodup_nil fun a ha => by cases ha
  · cases hs
/-- d[k] -/
def semDGet : List W → Option W
  | [d, x] => (dct? d).bind fun l => (kOf x).bind fun k => (lookG l k).bind fun w => if w.pure = true then some w else none
  | _ => none
theorem loc_dget : LocF K (R2f fun x y H Q => ∃ a v, x = .ref a ∧ DGet H a y (some v) ∧ Q v H) semDGet := by
  intro vs ws fps H Q w hv hs k
  unfold semDGet at hs
  split at hs
  · obtain ⟨x, y, f1, f2, rfl, rfl, r1, r2⟩ := vws2 hv
    simp only [Option.bind_eq_some_iff] at hs
    obtain ⟨l, h1, kk, h2, w2, h3, h4⟩ := hs
    split at h4
    · cases h4
      obtain ⟨rfl, rfl⟩ := key_vw h2 r2
      obtain ⟨a, m, rfl, s, kw, rfl⟩ := vwDct h1 r1
      rcases kw.look kk with ⟨e1, e2⟩ | ⟨w', v', e1, e2, r⟩
      · rw [h3] at e1; cases e1
      · rw [h3] at e1; cases e1
        exact ⟨_, _, rfl, a, v', rfl, by rw [← e2]; exact .k s, k _ H [] (Same.refl H) r List.nodup_nil fun a ha => by cases ha⟩
    · cases h4
  · cases hs
/-- list(d) -/
def semListD : List W → Option W
  | [d] => (dct? d).map fun l => .lst (l.map fun p => kW p.1)
  | _ => none
theorem loc_listD : LocF K (fun xs H Q => ∃ (a : Addr) (kvs : List (Key × V)), xs = [.ref a] ∧ Rd H a (.dK kvs) ∧ ∀ p, H p = none → Q (.ref p) (upd H p (.lst (kvs.map fun kv => kV kv.1)))) semListD := by
  intro vs ws fps H Q w hv hs k
  unfold semListD at hs
  split at hs
  · obtain ⟨x, rfl, r⟩ := vws1 hv
    simp only [Option.map_eq_some_iff] at hs
    obtain ⟨l, h1, rfl⟩ := hs
    obtain ⟨a, m, rfl, s, kw, rfl⟩ := vwDct h1 r
    refine ⟨a, m, rfl, .inl s, fun p hp => ?_⟩
    exact k _ _ [p] (Same.upd hp) (mkNew hp kw.keys) (by simp) fun b hb => by rw [List.mem_singleton.mp hb]; exact ⟨hp, _, upd_same, rfl⟩
  · cases hs
end
/-! ### d[k] = v -/
def fDPut (k : Nat) (fe fi : Sl → Res W) : Sl → Res Fl := fun S => (fe S).bind fun w S1 => if w.pure = true then (fi S1).bind fun wi S2 => match kOf wi with
    | some kk => match S2[k]? with
      | some (some d) => match dct? d with
        | some l => if l.length < sizeLine then .ok .nx (S2.set k (some (dctW (putD l kk w)))) else .err
        | none => .err
      | _ => .err
    | none => .err
  else .err
section
variable {X : Cx} {C : Ctx} {s : Sx} {G G1 G2 G' : Gam} {pins : List Nat} {e a b c ix : Expr} {st : Stmt} {sts : List Stmt} {mo mi : Mo} {f g : Sl → Res Fl} {fe fi : Sl → Res W} {fb : Sl → Res Bool} {pos tpos npos : Pos} {ms : List Am}
theorem js_dput {k : Nat} {x : Str} (hu : X.A.units + 1 < cLine) (hx : PE X (.Name x npos) (tVar k)) (he : JE X C G pins e mo G1 fe) (hi : JE X C G1 (pins ++ mo.dep) ix mi G2 fi) (hk2 : G2[k]? = some (some .O)) (hp : (pins ++ mo.dep).contains k = false)
    (hk1 : G1[k]? = some (some .O))
    (hs : swapsWith e (some (.Subscript (.Name x npos) ix tpos)) pos.line X.env = pure false) :
    JS X C s G pins (.Assign [.Subscript (.Name x npos) ix tpos] e pos) (killG k G2) (fDPut k fe fi) := PS.imp (ps_dput hu hx hi he hs) fun D σ H ⟨cs0, S0, R0, p0, pp0, o⟩ => by
  have ln := R0.ln
  refine ⟨cs0, S0, R0, p0, pp0, ?_⟩
  unfold fDPut at o
  cases hf : fe S0 with
  | err => rw [hf] at o; exact o
  | exc y S' => rw [hf] at o; exact o σ
  | ok w S1 =>
    rw [hf] at o
    intro v fp H1 cs1 R1 l1 t1 T1 g1
    have o : OutS C cs0.length cs0 s D (killG k G2) (if w.pure = true then (fi S1).bind fun wi S2 => match kOf wi with
        | some kk => match S2[k]? with
          | some (some d) => match dct? d with
            | some l => if l.length < sizeLine then .ok .nx (S2.set k (some (dctW (putD l kk w)))) else .err
            | none => .err
          | _ => .err
        | none => .err
      else .err) := o
    by_cases hw : w.pure = true
    case neg => rw [if_neg hw] at o; exact o.elim
    rw [if_pos hw] at o
    obtain ⟨ck, hck, hcm⟩ := g1.2 k _ hk1
    have kn : k < C.n := Nat.lt_of_lt_of_le (List.getElem?_eq_some_iff.mp hk1).1 g1.1
    obtain ⟨hσ, hS⟩ := R1.slot k ck kn hck
    refine ⟨ck.v, hσ, cs1, S1, R1, g1, pp0.push ln l1 T1 fun d q => by rw [t1] at q; cases q; exact fun x hx => hx, ?_⟩
    cases hg : fi S1 with
    | err => rw [hg] at o; exact o
    | exc y S' => rw [hg] at o; exact OutX.up (L := cs0.length) (o σ) T1 (by omega)
    | ok wi S2 =>
      rw [hg] at o
      intro vi fpi H2 cs2 R2 l2 t2 T2 g2
      have o : OutS C cs0.length cs0 s D (killG k G2) (match kOf wi with
        | some kk => match S2[k]? with
          | some (some d) => match dct? d with
            | some l => if l.length < sizeLine then .ok .nx (S2.set k (some (dctW (putD l kk w)))) else .err
            | none => .err
          | _ => .err
        | none => .err) := o
      cases hkk : kOf wi with
      | none => rw [hkk] at o; exact o.elim
      | some kk =>
        rw [hkk] at o
        obtain ⟨ck2, hck2, hcm2⟩ := g2.2 k _ hk2
        obtain ⟨hσ2, hS2⟩ := R2.slot k ck2 kn hck2
        have ev : ck2.v = ck.v := by rw [hσ] at hσ2; exact (Option.some.inj (Option.some.inj hσ2)).symm
        have o : OutS C cs0.length cs0 s D (killG k G2) (match S2[k]? with
          | some (some d) => match dct? d with
            | some l => if l.length < sizeLine then .ok .nx (S2.set k (some (dctW (putD l kk w)))) else .err
            | none => .err
          | _ => .err) := o
        rw [hS2] at o
        have o : OutS C cs0.length cs0 s D (killG k G2) (match dct? ck2.w with
            | some l => if l.length < sizeLine then .ok .nx (S2.set k (some (dctW (putD l kk w)))) else .err
            | none => .err) := o
        cases hd : dct? ck2.w with
        | none => rw [hd] at o; exact o.elim
        | some l =>
          rw [hd] at o
          have o : OutS C cs0.length cs0 s D (killG k G2) (if l.length < sizeLine then .ok .nx (S2.set k (some (dctW (putD l kk w)))) else .err) := o
          by_cases hl : l.length < sizeLine
          case neg => rw [if_neg hl] at o; exact o.elim
          rw [if_pos hl] at o
          obtain ⟨evi, _⟩ := key_vw hkk (R2.view _ _ t2)
          have evi : vi = kV kk := evi
          obtain ⟨a, m, ea, sa, kw, ef⟩ := vwDct hd (R2.view k ck2 hck2)
          have tt : cs2[cs0.length]? = some (some ⟨v, w, mo, fp⟩) := by rw [T2 cs0.length ln (by omega)]; exact t1
          have rt := R2.view _ _ tt
          have efp : fp = [] := Vw.of_pure hw rt
          subst efp
          refine ⟨a, upd H2 a (.dK (putK m kk v)), by rw [← ev]; exact ea, by rw [evi]; exact .k sa (by rw [← kw.length]; exact hl), ?_⟩
          have tk : TupK H2 (upd H2 a (.dK (putK m kk v))) := fun b ob h hm => by
            rw [upd_ne (fun z => by rw [z, sa] at h; cases h; cases hm)]
            exact h
          obtain ⟨cs3, R3, l3, T3, g3⟩ := slot_set (L := cs0.length) (w' := dctW (putD l kk w)) (fp' := [a]) R2 g2 ln (by omega) kn hck2 hcm2 (H' := upd H2 a (.dK (putK m kk v))) (fun b ob h hn => by
              rw [upd_ne (fun z => hn (by rw [ef, z]; exact List.mem_cons_self))]; exact h)
            (fun b h => by
              by_cases hz : b = a
              · rw [hz, upd_same]; simp
              · rw [upd_ne hz]; exact h)
            (by rw [ea]; exact mkDct ((kw.mono tk).put (rt.mono tk fun a ha => by cases ha)) upd_same) (by simp)
            (fun b hb => by
              rw [List.mem_singleton.mp hb]
              exact ⟨⟨_, upd_same, rfl⟩, .inr (.inl (by rw [ef]; exact List.mem_cons_self))⟩)
            (fun jj d h1 h2 hd hz => by
              rw [T2 jj h1 (by omega), T1 jj h1 h2] at hd
              have := pp0 jj d h1 hd k hz
              simp at hp
              exact hp.1 this)
          exact o σ _ cs3 R3 l3 (fun jj h1 h2 => by rw [T3 jj h1 h2, T2 jj h1 (by omega)]; exact T1 jj h1 h2) g3
end
section
variable {X : Cx} {C : Ctx} {D : Wd} {sc : Scope} {N : List Str} {k : Nat} {Gx : Gam} {ip : Option Nat} {fnp : Str → Bool} {ht : Bool} {s : Sx}
variable {G G1 G2 G3 G' : Gam} {pins : List Nat} {e a b c : Expr} {es rest : List Expr} {mo mo' : Mo} {ms : List Am} {gs : Sl → Res (List W)} {f f2 fe : Sl → Res W} {pos p p2 apos : Pos}
theorem j_dnew : JE X C G pins (.Dict [] [] pos) .O G (fPrim fNil semDnew) :=
  je_fresh (R := fun vs H Q => ∀ p, H p = none → Q (.ref p) (upd H p (.dK []))) pe_dnewK (fun σ H Q q => semA_nil (C := C) (G := G) (pins := pins) σ H _ q) (ms := []) rfl loc_dnew
theorem op_inD {neg : Bool} (hu : X.A.units + 1 < cLine) : OpR X (compareOp (if neg then .NotIn else .In)) (rInD neg) := by
  intro pins s σ H x y v u Q I rx ry h
  obtain ⟨a, o, rfl, hg, q⟩ := h
  cases ry
  cases neg with
  | true => exact d_notIn hu I hg rx fun s3 I3 => ⟨.bl (!o.isSome), H, I3, rfl, q⟩
  | false => exact d_in hu I hg rx fun s3 I3 => ⟨.bl o.isSome, H, I3, rfl, q⟩
theorem Gd.units1 (g : Gd ht X C D sc N k Gx ip fnp) : X.A.units + 1 < cLine := by have := g.room.ult; omega
theorem Gd.inD (g : Gd ht X C D sc N k Gx ip fnp) (ja : JA X C G pins [a, b] ms G' gs) (hm : behindInMarks .In b = false := by rfl) (hp : plain ms = true := by rfl) : JE X C G pins (.Compare a [.In] [b] pos) .O G' (fPrim gs (semInD false)) := je_cmp (op_inD (neg := false) g.units1) hm ja hp loc_inD
theorem Gd.notInD (g : Gd ht X C D sc N k Gx ip fnp) (ja : JA X C G pins [a, b] ms G' gs) (hm : behindInMarks .NotIn b = false := by rfl) (hp : plain ms = true := by rfl) : JE X C G pins (.Compare a [.NotIn] [b] pos) .O G' (fPrim gs (semInD true)) := je_cmp (op_inD (neg := true) g.units1) hm ja hp loc_inD
theorem Gd.inDT (g : Gd ht X C D sc N k Gx ip fnp) (ja : JA X C G pins [a, b] ms G' gs) (hm : behindInMarks .In b = false := by rfl) (hp : plain ms = true := by rfl) : JT X C G pins (.Compare a [.In] [b] pos) G' (fBl (fPrim gs (semInD false))) := jt_cmp (op_inD (neg := false) g.units1) hm ja hp loc_inD
theorem Gd.notInDT (g : Gd ht X C D sc N k Gx ip fnp) (ja : JA X C G pins [a, b] ms G' gs) (hm : behindInMarks .NotIn b = false := by rfl) (hp : plain ms = true := by rfl) : JT X C G pins (.Compare a [.NotIn] [b] pos) G' (fBl (fPrim gs (semInD true))) := jt_cmp (op_inD (neg := true) g.units1) hm ja hp loc_inD
theorem Gd.dget (g : Gd ht X C D sc N k Gx ip fnp) (ja : JA X C G pins [a, b] ms G' gs) (hs : NoSl b := by exact fun _ _ => rfl) (hp : plain ms = true := by rfl) : JE X C G pins (.Subscript a b pos) .O G' (fPrim gs semDGet) := by
  obtain ⟨ta, tb, h1, h2, _, _, h3⟩ := ja2 ja
  exact je_fresh (R := R2f fun x y H Q => ∃ a v, x = .ref a ∧ DGet H a y (some v) ∧ Q v H) (pe_dget g.units1 h1 h2 hs) (fun σ H Q q => h3 σ H _ _ (fun x y H1 ⟨_, _, e, z⟩ => by cases e; exact z) q) hp loc_dget
theorem Gd.listD (g : Gd false X C D sc N k Gx ip fnp) (hm : D.mg "list" = none) (ja : JA X C G pins [a] ms G' gs) (hl : sc.names.lookup ("list" : Str) = some .globalImplicit := by rfl) (hp : plain ms = true := by rfl) : JE X C G pins (.Call (.Name "list" p) [a] [] pos) .O G' (fPrim gs semListD) :=
  je_ty (call_listD (g.calm rfl)) (g.gl hl) (g.mgn hm) (by decide +kernel) (by decide +kernel) (by decide +kernel) ja hp loc_listD
theorem Gd.dput (g : Gd ht X C D sc N k Gx ip fnp) (q : Nat) {x : Str} {np tp : Pos} {ix : Expr} {mi : Mo} {fi : Sl → Res W} (he : JE X C G pins e mo G1 fe) (hi : JE X C G1 (pins ++ mo.dep) ix mi G2 fi) (hk1 : G1[q]? = some (some .O) := by rfl) (hk2 : G2[q]? = some (some .O) := by rfl) (hp : (pins ++ mo.dep).contains q = false := by rfl)
    (hN : N[q]? = some x := by rfl) (hv : Vis sc x := by first | exact Or.inl rfl | exact Or.inr (Or.inl rfl) | exact Or.inr (Or.inr rfl)) (hd : (x == ("__debug__" : Str)) = false := by decide +kernel) (hcd : (x == ("__classdict__" : Str)) = false := by decide +kernel)
    (hs : swapsWith e (some (.Subscript (.Name x np) ix tp)) pos.line X.env = pure false := by rfl) :
    JS X C s G pins (.Assign [.Subscript (.Name x np) ix tp] e pos) (killG q G2) (fDPut q fe fi) := js_dput g.units1 (g.pv hN hv hd hcd) he hi hk2 hp hk1 hs
end
/-! ### what they compute -/
def dputK4 (k : Nat) (w : W) (kk : Key) : Option (List (Key × W)) → Sl → Res Fl
  | some l, S2 => if l.length < sizeLine then .ok .nx (S2.set k (some (dctW (putD l kk w)))) else .err
  | none, _ => .err
def dputK3 (k : Nat) (w : W) (kk : Key) : Option (Option W) → Sl → Res Fl
  | some (some d), S2 => dputK4 k w kk (dct? d) S2
  | _, _ => .err
def dputK2 (k : Nat) (w : W) : W → Sl → Res Fl
  | .int i, S2 => dputK3 k w (.inl i) S2[k]? S2
  | .str x, S2 => dputK3 k w (.inr x) S2[k]? S2
  | _, _ => .err
def dputK1 (k : Nat) (fi : Sl → Res W) : W → Sl → Res Fl := fun w S1 => if w.pure = true then (fi S1).bind (dputK2 k w) else .err
section
variable {k : Nat} {w : W} {S : Sl} {fe fi : Sl → Res W} {i : Int} {kk : Key} {l : List (Key × W)}
@[simp ↓] theorem fDPut_a : fDPut k fe fi S = (fe S).bind (dputK1 k fi) := by
  unfold fDPut
  cases h : fe S with
  | err => rfl
  | exc _ _ => rfl
  | ok w S1 =>
    show (if w.pure = true then _ else _) = dputK1 k fi w S1
    unfold dputK1
    split
    · cases h2 : fi S1 with
      | err => rfl
      | exc _ _ => rfl
      | ok wi S2 =>
        show (match kOf wi with | some kk => _ | none => _) = dputK2 k w wi S2
        cases wi with
        | int i =>
          show (match S2[k]? with | some (some d) => _ | _ => _) = dputK3 k w (.inl i) S2[k]? S2
          unfold dputK3
          cases S2[k]? with
          | none => rfl
          | some x => cases x with
            | none => rfl
            | some d =>
              show (match dct? d with | some l => _ | none => _) = dputK4 k w (.inl i) (dct? d) S2
              unfold dputK4
              cases dct? d <;> rfl
        | str x =>
          show (match S2[k]? with | some (some d) => _ | _ => _) = dputK3 k w (.inr x) S2[k]? S2
          unfold dputK3
          cases S2[k]? with
          | none => rfl
          | some x => cases x with
            | none => rfl
            | some d =>
              show (match dct? d with | some l => _ | none => _) = dputK4 k w (.inr _) (dct? d) S2
              unfold dputK4
              cases dct? d <;> rfl
        | _ => rfl
    · rfl
@[simp] theorem dputK1_a (h : w.pure = true) : dputK1 k fi w S = (fi S).bind (dputK2 k w) := if_pos h
@[simp] theorem dputK1_bl {b : Bool} : dputK1 k fi (.bl b) S = (fi S).bind (dputK2 k (.bl b)) := dputK1_a rfl
@[simp] theorem dputK1_int {j : Int} : dputK1 k fi (.int j) S = (fi S).bind (dputK2 k (.int j)) := dputK1_a rfl
@[simp] theorem dputK2_a : dputK2 k w (.int i) S = dputK3 k w (.inl i) S[k]? S := Eq.trans rfl rfl
end
/-! ### keys that are integers -/
def DW (l : List (Int × W)) : W := dctW (l.map fun p => (.inl p.1, p.2))
/-- a set: a dict whose values are True -/
def DS (l : List Int) : W := DW (l.map fun i => (i, .bl true))
theorem dctW_nil : dctW [] = DS [] := Eq.trans rfl rfl
@[simp] theorem semDnew_a : semDnew [] = some (DS []) := Eq.trans rfl rfl
theorem pure_all {ws : List W} (h : ∀ w ∈ ws, w.pure = true) : W.pure.all ws = true := by
  induction ws with
  | nil => rfl
  | cons w ws ih => simp only [W.pure.all, Bool.and_eq_true]; exact ⟨h w List.mem_cons_self, ih fun x hx => h x (List.mem_cons_of_mem _ hx)⟩
theorem dct_dctW {l : List (Key × W)} (h : W.pure.all (l.map (·.2)) = true) : dct? (dctW l) = some l := by
  show (if W.pure.all (l.map (·.2)) = true then some ((l.map (·.1)).zip (l.map (·.2))) else none) = _
  rw [if_pos h, zip_unmap]
theorem dct_DW {l : List (Int × W)} (h : ∀ p ∈ l, p.2.pure = true) : dct? (DW l) = some (l.map fun p => (.inl p.1, p.2)) := by
  refine dct_dctW (pure_all fun w hw => ?_)
  rw [List.map_map] at hw
  obtain ⟨p, hp, rfl⟩ := List.mem_map.mp hw
  exact h p hp
def lookI {α : Type} (l : List (Int × α)) (k : Int) : Option α := (l.find? fun p => decide (p.1 = k)).map (·.2)
def putI {α : Type} (l : List (Int × α)) (k : Int) (a : α) : List (Int × α) :=
  if (l.any fun kv => decide (kv.1 = k)) = true then l.map (fun kv => if kv.1 = k then (kv.1, a) else kv) else l ++ [(k, a)]
theorem look_DW (l : List (Int × W)) (k : Int) : lookG (l.map fun p => ((.inl p.1 : Key), p.2)) (.inl k) = lookI l k := by
  unfold lookG lookI
  induction l with
  | nil => rfl
  | cons p l ih =>
    by_cases e : p.1 = k
    · simp [List.find?_cons, e]
    · simp only [List.map_cons, List.find?_cons]
      rw [decide_eq_false (show ¬ (Sum.inl p.1 : Key) = Sum.inl k from fun z => e (Sum.inl.inj z)), decide_eq_false e]
      exact ih
theorem put_DW (l : List (Int × W)) (k : Int) (w : W) : putD (l.map fun p => ((.inl p.1 : Key), p.2)) (.inl k) w = (putI l k w).map fun p => ((.inl p.1 : Key), p.2) := by
  have e : ((l.map fun p => ((.inl p.1 : Key), p.2)).any fun kv => decide (kv.1 = .inl k)) = (l.any fun kv => decide (kv.1 = k)) := by
    rw [List.any_map]
    congr 1
    funext p
    by_cases e : p.1 = k
    · simp [e]
    · simp only [Function.comp_apply]
      rw [decide_eq_false (show ¬ (Sum.inl p.1 : Key) = Sum.inl k from fun z => e (Sum.inl.inj z)), decide_eq_false e]
  unfold putD putI
  rw [e]
  split
  · rw [List.map_map, List.map_map]
    refine List.map_congr_left fun p _ => ?_
    by_cases e : p.1 = k
    · simp [e]
    · simp only [Function.comp_apply]
      rw [if_neg (show ¬ (Sum.inl p.1 : Key) = Sum.inl k from fun z => e (Sum.inl.inj z)), if_neg e]
  · simp
theorem dputK3_DW {k : Nat} {w : W} {i : Int} {l : List (Int × W)} {S : Sl} (h : ∀ p ∈ l, p.2.pure = true) (hl : l.length < sizeLine) : dputK3 k w (.inl i) (some (some (DW l))) S = .ok .nx (S.set k (some (DW (putI l i w)))) := by
  show dputK4 k w (.inl i) (dct? (DW l)) S = _
  rw [dct_DW h]
  show (if (l.map fun p => ((.inl p.1 : Key), p.2)).length < sizeLine then _ else _) = _
  rw [if_pos (by rw [List.length_map]; exact hl), put_DW]
  rfl
theorem semInD_DW {neg : Bool} {i : Int} {l : List (Int × W)} (h : ∀ p ∈ l, p.2.pure = true) : semInD neg [.int i, DW l] = some (.bl (if neg then !(lookI l i).isSome else (lookI l i).isSome)) := by
  show ((some (Sum.inl i : Key)).bind fun k => (dct? (DW l)).map fun l => W.bl (if neg then !(lookG l k).isSome else (lookG l k).isSome)) = _
  rw [dct_DW h]
  show some (W.bl (if neg then !(lookG (l.map fun p => ((.inl p.1 : Key), p.2)) (.inl i)).isSome else (lookG (l.map fun p => ((.inl p.1 : Key), p.2)) (.inl i)).isSome)) = _
  rw [look_DW]
theorem semDGet_DW {i : Int} {l : List (Int × W)} {w : W} (h : ∀ p ∈ l, p.2.pure = true) (hw : lookI l i = some w) (hp : w.pure = true) : semDGet [DW l, .int i] = some w := by
  show ((dct? (DW l)).bind fun l => (some (Sum.inl i : Key)).bind fun k => (lookG l k).bind fun w => if w.pure = true then some w else none) = _
  rw [dct_DW h]
  show (lookG (l.map fun p => ((.inl p.1 : Key), p.2)) (.inl i)).bind _ = _
  rw [look_DW, hw]
  exact if_pos hp
theorem semListD_DW {l : List (Int × W)} (h : ∀ p ∈ l, p.2.pure = true) : semListD [DW l] = some (.lst (l.map fun p => .int p.1)) := by
  show ((dct? (DW l)).map fun l => W.lst (l.map fun p => kW p.1)) = _
  rw [dct_DW h]
  show some (W.lst ((l.map fun p => ((.inl p.1 : Key), p.2)).map fun p => kW p.1)) = _
  rw [List.map_map]
  rfl
theorem pureDS (l : List Int) : ∀ p ∈ l.map (fun i => (i, W.bl true)), p.2.pure = true := fun p hp => by
  obtain ⟨i, _, rfl⟩ := List.mem_map.mp hp
  rfl
theorem lookDS (l : List Int) (i : Int) : (lookI (l.map fun i => (i, W.bl true)) i).isSome = decide (i ∈ l) := by
  unfold lookI
  induction l with
  | nil => rfl
  | cons j l ih =>
    by_cases e : j = i
    · simp [List.find?_cons, e]
    · simp only [List.map_cons, List.find?_cons, decide_eq_false e]
      rw [ih]
      simp [show ¬ i = j from fun z => e z.symm]
def insD (l : List Int) (i : Int) : List Int := if i ∈ l then l else l ++ [i]
theorem putDS (l : List Int) (i : Int) : putI (l.map fun i => (i, W.bl true)) i (.bl true) = (insD l i).map fun i => (i, W.bl true) := by
  have e : ((l.map fun i => (i, W.bl true)).any fun kv => decide (kv.1 = i)) = decide (i ∈ l) := by
    rw [List.any_map]
    induction l with
    | nil => rfl
    | cons j l ih =>
      rw [List.any_cons, ih]
      by_cases q : j = i
      · simp [q]
      · simp [q, show ¬ i = j from fun z => q z.symm]
  unfold putI insD
  rw [e]
  by_cases h : i ∈ l
  · rw [if_pos (decide_eq_true h), if_pos h, List.map_map]
    refine List.map_congr_left fun j _ => ?_
    simp only [Function.comp_apply]
    split <;> rfl
  · rw [if_neg (by simpa using h), if_neg h]
    simp
@[simp] theorem dputDS {k : Nat} {i : Int} {l : List Int} {S : Sl} : dputK3 k (.bl true) (.inl i) (some (some (DS l))) S = if l.length < sizeLine then .ok .nx (S.set k (some (DS (insD l i)))) else .err := by
  by_cases h : l.length < sizeLine
  · rw [if_pos h]
    have := dputK3_DW (k := k) (w := .bl true) (i := i) (S := S) (pureDS l) (by rw [List.length_map]; exact h)
    rw [putDS] at this
    exact this
  · rw [if_neg h]
    show dputK4 k (.bl true) (.inl i) (dct? (DS l)) S = _
    rw [show dct? (DS l) = _ from dct_DW (pureDS l)]
    show (if ((l.map fun i => (i, W.bl true)).map fun p => ((.inl p.1 : Key), p.2)).length < sizeLine then _ else _) = _
    rw [if_neg (by rw [List.length_map, List.length_map]; exact h)]
@[simp] theorem inDS {neg : Bool} {i : Int} {l : List Int} : semInD neg [.int i, DS l] = some (.bl (if neg then !decide (i ∈ l) else decide (i ∈ l))) := by
  rw [show DS l = DW (l.map fun i => (i, W.bl true)) from rfl, semInD_DW (pureDS l), lookDS]
@[simp] theorem listDS {l : List Int} : semListD [DS l] = some (.lst (l.map W.int)) := by
  rw [show DS l = DW (l.map fun i => (i, W.bl true)) from rfl, semListD_DW (pureDS l), List.map_map]
  rfl
end Vm

namespace Vm
open PySem PySem.Spec PyProof.Rows L2

/-! ## freezing: a list that is never written again is held as the script is -/
mutual
def W.frz : W → W
  | .lst ws => .scr (frzL ws)
  | .tup ws => .tup (frzL ws)
  | w => w
def frzL : List W → List W
  | [] => []
  | w :: ws => w.frz :: frzL ws
end
mutual
/-- no dict in it -/
def W.canF : W → Bool
  | .lst ws => canFL ws
  | .tup ws => canFL ws
  | .dct _ _ => false
  | _ => true
def canFL : List W → Bool
  | [] => true
  | w :: ws => w.canF && canFL ws
end
/-- the lists in F are locked, all else stands -/
structure Lk (H H' : Hp) (F : List Addr) : Prop where
  lck : ∀ a ∈ F, ∀ o, H a = some o → ∃ od, H' a = some (.frz od o)
  els : ∀ a, a ∉ F → H' a = H a
theorem Lk.tupK {H H' : Hp} {F : List Addr} (h : Lk H H' F) (hF : ∀ a ∈ F, ∀ o, H a = some o → isMut o = true) : TupK H H' := fun a o e i => by
  by_cases c : a ∈ F
  · rw [hF a c o e] at i; cases i
  · rw [h.els a c]; exact e
section
variable {K : Kz} {H H' : Hp} {F : List Addr}
mutual
theorem Vw.frz (L : Lk H H' F) (t : TupK H H') : ∀ {w : W} {v : V} {fp : List Addr}, w.canF = true → Vw K H w v fp → (∀ a ∈ fp, a ∈ F) → Vw K H' w.frz v []
  | .non, v, fp, _, h, _ => by simp only [W.frz, Vw] at h ⊢; exact ⟨h.1, trivial⟩
  | .bl b, v, fp, _, h, _ => by simp only [W.frz, Vw] at h ⊢; exact ⟨h.1, trivial⟩
  | .int i, v, fp, _, h, _ => by simp only [W.frz, Vw] at h ⊢; exact ⟨h.1, trivial⟩
  | .str x, v, fp, _, h, _ => by simp only [W.frz, Vw] at h ⊢; exact ⟨h.1, trivial⟩
  | .tup ws, v, fp, c, h, k => by
    simp only [W.canF] at c
    simp only [W.frz, Vw] at h ⊢
    obtain ⟨a, vs, e, s, r⟩ := h
    exact ⟨a, vs, e, sqt_mono t s, Vws.frz L t c r k⟩
  | .lst ws, v, fp, c, h, k => by
    simp only [W.canF] at c
    simp only [W.frz, Vw] at h ⊢
    obtain ⟨a, vs, fps, e, r, s, rfl⟩ := h
    obtain ⟨od, q⟩ := L.lck a (k a List.mem_cons_self) _ s
    exact ⟨a, vs, e, Vws.frz L t c r fun b hb => k b (List.mem_cons_of_mem _ hb), .inl ⟨od, q⟩, trivial⟩
  | .scr ws, v, fp, _, h, _ => by
    have m := Vw.mono t h (by simp only [Vw] at h; obtain ⟨_, _, _, _, _, rfl⟩ := h; intro a ha; cases ha)
    simp only [W.frz]
    simp only [Vw] at m ⊢
    obtain ⟨a, vs, e, r, s, _⟩ := m
    exact ⟨a, vs, e, r, s, trivial⟩
  | .dct _ _, v, fp, c, h, _ => by simp [W.canF] at c
  | .ins _ _ _, v, fp, _, h, _ => by
    have m := Vw.mono t h (by simp only [Vw] at h; obtain ⟨_, _, _, _, _, rfl⟩ := h; intro a ha; cases ha)
    simp only [W.frz]
    simp only [Vw] at m ⊢
    obtain ⟨a, vs, e, r, s, _⟩ := m
    exact ⟨a, vs, e, r, s, trivial⟩
theorem Vws.frz (L : Lk H H' F) (t : TupK H H') : ∀ {ws : List W} {vs : List V} {fp : List Addr}, canFL ws = true → Vws K H ws vs fp → (∀ a ∈ fp, a ∈ F) → Vws K H' (frzL ws) vs []
  | [], vs, fp, _, h, _ => by simp only [frzL, Vws] at h ⊢; exact ⟨h.1, trivial⟩
  | w :: ws, vs, fp, c, h, k => by
    simp only [canFL, Bool.and_eq_true] at c
    simp only [frzL, Vws] at h ⊢
    obtain ⟨v, vs', f1, f2, e1, rfl, r1, r2⟩ := h
    exact ⟨v, vs', [], [], e1, rfl, Vw.frz L t c.1 r1 fun a ha => k a (List.mem_append_left _ ha), Vws.frz L t c.2 r2 fun a ha => k a (List.mem_append_right _ ha)⟩
end
end
/-- locked one by one -/
def lockQ : List Addr → (Hp → Prop) → Hp → Prop
  | [], Q, H => Q H
  | d :: ds, Q, H => ∃ u, H d = some u ∧ Mut (some u) ∧ ∀ od, lockQ ds Q (upd H d (.frz od u))
theorem Inv.lockQ {X : Cx} {pins : List (Addr × Obj)} {σ : St} {s : Shared} {Q : Hp → Prop} : ∀ {ds : List Addr} {H : Hp}, Inv X pins σ H s → Vm.lockQ ds Q H → ∃ H', Inv X pins σ H' s ∧ Q H'
  | [], H, I, q => ⟨H, I, q⟩
  | d :: ds, H, I, q => by
    obtain ⟨u, h, mu, k⟩ := q
    obtain ⟨od, I2⟩ := I.lock h mu
    exact Inv.lockQ I2 (k od)
theorem lockQ_of {Q : Hp → Prop} : ∀ {ds : List Addr} {H : Hp}, ds.Nodup → (∀ a ∈ ds, ∃ u, H a = some u ∧ Mut (some u)) → (∀ H', Lk H H' ds → Q H') → lockQ ds Q H
  | [], H, _, _, k => k H ⟨fun a ha => (by cases ha), fun _ _ => rfl⟩
  | d :: ds, H, nd, hm, k => by
    obtain ⟨u, h, mu⟩ := hm d List.mem_cons_self
    have nd2 := List.nodup_cons.mp nd
    refine ⟨u, h, mu, fun od => lockQ_of nd2.2 (fun a ha => ?_) fun H' L => k H' ⟨fun a ha o e => ?_, fun a ha => ?_⟩⟩
    · rw [upd_ne fun z => nd2.1 (by rw [← z]; exact ha)]
      exact hm a (List.mem_cons_of_mem _ ha)
    · rcases List.mem_cons.mp ha with rfl | ha
      · rw [L.els _ nd2.1, upd_same]
        rw [h] at e; cases e
        exact ⟨od, rfl⟩
      · exact L.lck a ha o (by rw [upd_ne fun z => nd2.1 (by rw [← z]; exact ha)]; exact e)
    · rw [L.els a fun z => ha (List.mem_cons_of_mem _ z), upd_ne fun z => ha (by rw [z]; exact List.mem_cons_self)]
theorem lockQ_mono {Q Q' : Hp → Prop} (h : ∀ H, Q H → Q' H) : ∀ {ds : List Addr} {H : Hp}, lockQ ds Q H → lockQ ds Q' H
  | [], _, q => h _ q
  | d :: ds, _, ⟨u, a, b, k⟩ => ⟨u, a, b, fun od => lockQ_mono h (k od)⟩
theorem mut_of {u : HO} (h : isMut u = true) : Mut (some u) := by
  cases u <;> first | trivial | simp [isMut] at h
/-- the top temp is frozen -/
theorem Rel.frzT {K : Kz} {fr : Frm} {n L : Nat} {cs : Cells} {S : Sl} {σ : St} {H : Hp} (R : Rel K fr n cs S σ H) (hL : n ≤ L) (hl : cs.length = L + 1) {v : V} {w : W} {fp : List Addr} (ht : cs[L]? = some (some ⟨v, w, .O, fp⟩)) (hc : w.canF = true) :
    lockQ fp (fun H' => Rel K fr n (cs.take L ++ [some ⟨v, w.frz, .O, []⟩]) S σ H') H := by
  obtain ⟨nd, hm⟩ := R.nd L _ ht rfl
  refine lockQ_of nd (fun a ha => let ⟨⟨o, h1, h2⟩, _⟩ := hm a ha; ⟨o, h1, mut_of h2⟩) fun H' LK => ?_
  have hF : ∀ a ∈ fp, ∀ o, H a = some o → isMut o = true := fun a ha o e => by
    obtain ⟨⟨o2, h1, h2⟩, _⟩ := hm a ha
    rw [h1] at e; cases e; exact h2
  have t := LK.tupK hF
  have hv := Vw.frz LK t hc (R.view L _ ht) fun a ha => ha
  have lt : (cs.take L).length = L := by rw [List.length_take]; omega
  have off : ∀ {i : Nat} {d : Cell}, i ≠ L → cs[i]? = some (some d) → ∀ a ∈ d.fp, a ∉ fp := fun {i d} hi q a ha hb => by
    rcases R.dis L i _ d (Ne.symm hi) ht q rfl with z | z
    · have := R.dl i d q L z; omega
    · exact z a hb ha
  have keep : ∀ {i : Nat} {d : Cell}, i ≠ L → cs[i]? = some (some d) → ∀ a ∈ d.fp, H' a = H a := fun {i d} hi q a ha => LK.els a (off hi q a ha)
  refine ⟨R.ls, R.lσ, by rw [List.length_append, lt]; simp; omega, fun i d hi q => ?_, fun i d q => ?_, fun i d q m => ?_, fun i d q a ha => ?_, fun i d q => ?_, fun i j x y ij q1 q2 m => ?_, fun a o h1 h2 => ?_, fun a h => ?_, fun p v e => ⟨(R.iov p v e).1, fun d q => ?_⟩⟩
  · rcases ix_push (by omega) q with ⟨_, q⟩ | ⟨rfl, rfl⟩
    · exact R.slot i d hi q
    · omega
  · rcases ix_push (by omega) q with ⟨h1, q⟩ | ⟨rfl, rfl⟩
    · exact (R.view i d q).mono t (keep (by omega) q)
    · exact hv
  · rcases ix_push (by omega) q with ⟨h1, q⟩ | ⟨rfl, rfl⟩
    · refine ⟨(R.nd i d q m).1, fun a ha => ?_⟩
      obtain ⟨h4, h5⟩ := (R.nd i d q m).2 a ha
      rw [keep (by omega) q a ha]
      exact ⟨h4, h5⟩
    · exact ⟨List.nodup_nil, fun a ha => by cases ha⟩
  · rcases ix_push (by omega) q with ⟨h1, q⟩ | ⟨rfl, rfl⟩
    · exact R.uni i d q a ha
    · cases ha
  · rcases ix_push (by omega) q with ⟨h1, q⟩ | ⟨rfl, rfl⟩
    · exact R.dl i d q
    · exact fun x hx => by cases hx
  · rcases ix_push (by omega) q1 with ⟨h1, p1⟩ | ⟨rfl, rfl⟩
    · rcases ix_push (by omega) q2 with ⟨h2, p2⟩ | ⟨rfl, rfl⟩
      · exact R.dis i j x y ij p1 p2 m
      · exact .inr fun a _ hb => by cases hb
    · exact .inr fun a ha => by cases ha
  · have q := R.frm a o h1 h2
    rw [LK.els a fun z => ?_]
    · exact q
    · rcases (hm a z).2 with y | y
      · rw [h1] at y; cases y
      · exact h2 y
  · have q := R.alive a h
    by_cases c : a ∈ fp
    · cases e : H a with
      | none => exact absurd e q
      | some o =>
        obtain ⟨od, z⟩ := LK.lck a c o e
        rw [z]; intro y; cases y
    · rw [LK.els a c]; exact q
  · have hp := (R.iov p v e).1
    rcases ix_push (by omega) q with ⟨_, q⟩ | ⟨rfl, _⟩
    · exact (R.iov p v e).2 d q
    · omega
def frzK (w : W) (S : Sl) : Res W := if w.canF = true then .ok w.frz S else .err
def fFrz (f : Sl → Res W) : Sl → Res W := fun S => (f S).bind frzK
theorem PE.lock {X : Cx} {e : Expr} {t : TE} (h : PE X e t) : PE X e (fun σ H Q => t σ H fun v H1 => ∃ ds, lockQ ds (Q v) H1) := ⟨fun pins s σ H Q I q => thn (h.run pins s σ H _ I q) fun u s1 ⟨v, H1, I1, r, ds, k⟩ => by
  obtain ⟨H2, I2, q2⟩ := Inv.lockQ I1 k
  exact ⟨v, H2, I2, r, q2⟩⟩
section
variable {X : Cx} {C : Ctx} {G G' : Gam} {pins : List Nat} {e : Expr} {mo : Mo} {f : Sl → Res W}
theorem semE_frz {σ : St} {H : Hp} {Q : VK} (q : semE C G pins .O G' (fFrz f) σ H Q) : semE C G pins .O G' f σ H fun v H1 => ∃ ds, lockQ ds (Q v) H1 := by
  obtain ⟨cs, S, R, p, pp, o⟩ := q
  refine ⟨cs, S, R, p, pp, ?_⟩
  unfold fFrz at o
  cases hf : f S with
  | err => rw [hf] at o; exact o
  | exc x S' => rw [hf] at o; exact o
  | ok w S1 =>
    rw [hf] at o
    have o : Out C cs.length cs σ .O G' Q (if w.canF = true then .ok w.frz S1 else .err) := o
    by_cases hp : w.canF = true
    · rw [if_pos hp] at o
      intro v fp H1 cs1 R1 l1 t1 T1 g1
      have k := R1.frzT R.ln l1 t1 hp
      have lt : (cs1.take cs.length).length = cs.length := by rw [List.length_take]; omega
      refine ⟨fp, lockQ_mono (fun H2 R2 => ?_) k⟩
      refine o v [] H2 _ R2 (by rw [List.length_append, lt]; rfl) (by rw [List.getElem?_append_right (by omega), lt]; simp) (fun i hi hlt => ?_) (g1.take R.ln)
      rw [List.getElem?_append_left (by omega), List.getElem?_take_of_lt hlt]
      exact T1 i hi hlt
    · rw [if_neg hp] at o
      exact o.elim
/-- what is made here is frozen -/
theorem je_frz (h : JE X C G pins e .O G' f) : JE X C G pins e .O G' (fFrz f) := PE.imp (PE.lock h) fun σ H Q q => semE_frz q
/-- nothing in it can be written -/
def W.fz : W → Bool
  | .non | .bl _ | .int _ | .str _ | .scr _ | .ins _ _ _ => true
  | .tup ws => all ws
  | .lst _ | .dct _ _ => false
where all : List W → Bool
  | [] => true
  | w :: ws => w.fz && all ws
mutual
theorem Vw.of_fz {K : Kz} {H : Hp} : ∀ {w : W} {v : V} {fp : List Addr}, w.fz = true → Vw K H w v fp → fp = []
  | .non, v, fp, _, h => by simp only [Vw] at h; exact h.2
  | .bl b, v, fp, _, h => by simp only [Vw] at h; exact h.2
  | .int i, v, fp, _, h => by simp only [Vw] at h; exact h.2
  | .str x, v, fp, _, h => by simp only [Vw] at h; exact h.2
  | .tup ws, v, fp, p, h => by
    simp only [Vw] at h
    obtain ⟨_, vs, e, s, r⟩ := h
    exact Vws.of_fz (by simpa only [W.fz] using p) r
  | .lst ws, v, fp, p, h => by simp [W.fz] at p
  | .scr ws, v, fp, p, h => by
    simp only [Vw] at h
    obtain ⟨_, _, _, _, _, e⟩ := h
    exact e
  | .dct ks ws, v, fp, p, h => by simp [W.fz] at p
  | .ins _ _ _, v, fp, p, h => by
    simp only [Vw] at h
    obtain ⟨_, _, _, _, _, e⟩ := h
    exact e
theorem Vws.of_fz {K : Kz} {H : Hp} : ∀ {ws : List W} {vs : List V} {fp : List Addr}, W.fz.all ws = true → Vws K H ws vs fp → fp = []
  | [], vs, fp, _, h => by simp only [Vws] at h; exact h.2
  | w :: ws, vs, fp, p, h => by
    simp only [Vws] at h
    obtain ⟨v, vs', f1, f2, e1, rfl, r1, r2⟩ := h
    simp only [W.fz.all, Bool.and_eq_true] at p
    rw [Vw.of_fz p.1 r1, Vws.of_fz p.2 r2]
    rfl
end
def fzK (w : W) (S : Sl) : Res W := if w.fz = true then .ok w S else .err
def fFz (f : Sl → Res W) : Sl → Res W := fun S => (f S).bind fzK
theorem semE_fz {σ : St} {H : Hp} {Q : VK} (q : semE C G pins .O G' (fFz f) σ H Q) : semE C G pins mo G' f σ H Q := by
  obtain ⟨cs, S, R, p, pp, o⟩ := q
  refine ⟨cs, S, R, p, pp, ?_⟩
  unfold fFz at o
  cases hf : f S with
  | err => rw [hf] at o; exact o
  | exc x S' => rw [hf] at o; exact o
  | ok w S1 =>
    rw [hf] at o
    have o : Out C cs.length cs σ .O G' Q (if w.fz = true then .ok w S1 else .err) := o
    by_cases hp : w.fz = true
    · rw [if_pos hp] at o
      intro v fp H1 cs1 R1 l1 t1 T1 g1
      have hfp : fp = [] := Vw.of_fz hp (R1.view _ _ t1)
      subst hfp
      have R2 := R1.setTop R.ln l1 t1 (m' := .O) rfl
      have lt : (cs1.take cs.length).length = cs.length := by rw [List.length_take]; omega
      refine o v [] H1 _ R2 (by rw [List.length_append, lt]; rfl) (by rw [List.getElem?_append_right (by omega), lt]; simp) (fun i hi hlt => ?_) (g1.take R.ln)
      rw [List.getElem?_append_left (by omega), List.getElem?_take_of_lt hlt]
      exact T1 i hi hlt
    · rw [if_neg hp] at o
      exact o.elim
/-- what cannot be written is as good as owned -/
theorem je_fz (h : JE X C G pins e mo G' f) : JE X C G pins e .O G' (fFz f) := PE.imp h fun σ H Q q => semE_fz q
end
theorem loc_catZ {K : Kz} : LocF K (R2f rCat) (semCat W.fz.all) := by
  intro vs ws fps H Q w hv hs k
  obtain ⟨l, b, xs, zs, wx, wz, f1, f2, rfl, rfl, h1, h2, hz, hp, q1, q2, rfl⟩ := cat_parts hv hs
  refine ⟨_, _, rfl, l, b, xs, zs, rfl, rfl, h1, h2, hz, fun p hp0 => ?_⟩
  have r := Vws.append q1 q2
  have e := Vws.of_fz hp r
  rw [e] at r
  exact newList (fps0 := []) hp0 r List.nodup_nil (fun a ha => by cases ha) fun v H' fp s hw nd m => k v H' fp s hw nd fun a ha => ⟨(m a ha).1.elim id (fun z => by cases z), (m a ha).2⟩
theorem loc_slZ {K : Kz} : LocSF K (rSlL K) (cutL W.fz.all) := by
  intro x w fps l h H Q r hv hs k
  simp only [cutL, Option.bind_eq_some_iff] at hs
  obtain ⟨its, h1, h2⟩ := hs
  split at h2
  · rename_i hp
    cases h2
    obtain ⟨a, vs, rfl, s, f, q, q2⟩ := sqOf h1 hv
    obtain ⟨f2, c1, c2⟩ := q.cut l h
    have e := Vws.of_fz hp c1
    subst e
    exact ⟨a, vs, rfl, s, fun p hp0 => newList (fps0 := []) hp0 c1 List.nodup_nil (fun a ha => by cases ha) fun v H' fp s hw nd m => k v H' fp s hw nd fun a ha => ⟨(m a ha).1.elim id (fun z => by cases z), (m a ha).2⟩⟩
  · cases h2
theorem loc_listZ {K : Kz} : LocF K (rListOf K) (semListC W.fz.all) := by
  intro vs ws fps H Q w hv hs k
  obtain ⟨a, xs, its, f, rfl, rfl, hp, s, q, _⟩ := listC_parts hv hs
  have e := Vws.of_fz hp q
  subst e
  exact ⟨a, xs, rfl, s, fun p hp0 => newList (fps0 := []) hp0 q List.nodup_nil (fun a ha => by cases ha) fun v H' fp s hw nd m => k v H' fp s hw nd fun a ha => ⟨(m a ha).1.elim id (fun z => by cases z), (m a ha).2⟩⟩
section
variable {X : Cx} {C : Ctx} {D : Wd} {sc : Scope} {N : List Str} {k : Nat} {Gx : Gam} {ip : Option Nat} {fnp : Str → Bool} {ht : Bool}
variable {G G1 G2 G3 G' : Gam} {pins : List Nat} {e a b c : Expr} {es rest : List Expr} {mo mo' : Mo} {ms : List Am} {gs : Sl → Res (List W)} {f f2 : Sl → Res W} {pos p p2 : Pos}
/-- lists whose items cannot be written -/
theorem Gd.catZ (g : Gd ht X C D sc N k Gx ip fnp) (ja : JA X C G pins [a, b] ms G' gs) (hp : plain ms = true := by rfl) : JE X C G pins (.BinOp a .Add b pos) .O G' (fPrim gs (semCat W.fz.all)) := je_bin op_cat ja hp loc_catZ
theorem Gd.slZ (g : Gd ht X C D sc N k Gx ip fnp) {lo hi : Option Expr} {fl fh : Sl → Res (Option Int)} (he : JE X C G pins e mo G1 f) (hl : JP X C G1 (pins ++ mo.dep) lo G2 fl) (hh : JP X C G2 (pins ++ mo.dep) hi G3 fh) : JE X C G pins (.Subscript e (.Slice lo hi none p2) pos) .O G3 (fSlice (cutL W.fz.all) f fl fh) := je_sliceF sl_list he hl hh (by rw [g.hK]; exact loc_slZ)
theorem Gd.listZ (g : Gd ht X C D sc N k Gx ip fnp) (hm : D.mg "list" = none) (ja : JA X C G pins [a] ms G' gs) (hl : sc.names.lookup ("list" : Str) = some .globalImplicit := by rfl) (hp : plain ms = true := by rfl) : JE X C G pins (.Call (.Name "list" p) [a] [] pos) .O G' (fPrim gs (semListC W.fz.all)) :=
  je_ty call_list_of (g.gl hl) (g.mgn hm) (by decide +kernel) (by decide +kernel) (by decide +kernel) ja hp (by rw [g.hK]; exact loc_listZ)
end
/-! ### how they walk -/
@[simp ↓] theorem fFz_a {f : Sl → Res W} {S : Sl} : fFz f S = (f S).bind fzK := Eq.trans rfl rfl
@[simp ↓] theorem fFrz_a {f : Sl → Res W} {S : Sl} : fFrz f S = (f S).bind frzK := Eq.trans rfl rfl
@[simp] theorem fzK_a {w : W} {S : Sl} : fzK w S = if w.fz = true then .ok w S else .err := Eq.trans rfl rfl
@[simp] theorem frzK_a {w : W} {S : Sl} : frzK w S = if w.canF = true then .ok w.frz S else .err := Eq.trans rfl rfl
@[simp] theorem fz_scr {ws : List W} : (W.scr ws).fz = true := rfl
@[simp] theorem fz_int {i : Int} : (W.int i).fz = true := rfl
@[simp] theorem fz_non : W.non.fz = true := rfl
@[simp] theorem fz_bl {b : Bool} : (W.bl b).fz = true := rfl
@[simp] theorem fz_str {x : Str} : (W.str x).fz = true := rfl
end Vm

namespace Vm
open PySem PySem.Spec PyProof.Rows L2

/-! ## a method of a temp list, with one argument -/
def fMeth (ok : W → Bool) (sem : W → W → Option W) (fa fb : Sl → Res W) : Sl → Res W := fun S => (fa S).bind fun w S1 => if ok w = true then (fb S1).bind fun k S2 => match sem w k with
  | some r => .ok r S2
  | none => .err
  else .err
section
variable {X : Cx} {C : Ctx} {G G1 G2 : Gam} {pins : List Nat} {e b : Expr} {mo mb : Mo} {fa fb : Sl → Res W} {ok : W → Bool} {sem : W → W → Option W} {r : V → List V → Hp → VK → Prop} {T : String}
theorem meth_core {mr : Mo} {σ : St} {H : Hp} {Q : VK} (q : semE C G pins mr G2 (fMeth ok sem fa fb) σ H Q)
    (hty : ∀ w v fp H, ok w = true → Vw C.K H w v fp → tyV C.K T v H)
    (fin : ∀ (L : Nat) (cs : Cells) (S : Sl) (H : Hp) (v v2 : V) (w k : W) (fp fp2 : List Addr) (x : W), C.n ≤ L → RelC C cs S σ H → cs.length = L + 2 → cs[L]? = some (some ⟨v, w, mo, fp⟩) → cs[L + 1]? = some (some ⟨v2, k, mb, fp2⟩) → sem w k = some x →
      (∀ (v : V) (fp : List Addr) (H2 : Hp), RelC C (cs.take L ++ [some ⟨v, x, mr, fp⟩]) S σ H2 → Q v H2) → r v [v2] H Q) :
    tBM C.K T r (semE C G pins mo G1 fa) (tCons (semE C G1 (pins ++ mo.dep) mb G2 fb) tNil) σ H Q := by
  obtain ⟨cs, S, R, p, pp, o⟩ := q
  have ln := R.ln
  refine ⟨cs, S, R, p, pp, ?_⟩
  unfold fMeth at o
  cases hf : fa S with
  | err => rw [hf] at o; exact o
  | exc x S' => rw [hf] at o; exact o
  | ok w S1 =>
    rw [hf] at o
    have o : Out C cs.length cs σ mr G2 Q (if ok w = true then (fb S1).bind fun k S2 => match sem w k with | some r => .ok r S2 | none => .err else .err) := o
    by_cases hok : ok w = true
    · rw [if_pos hok] at o
      intro v fp H1 cs1 R1 l1 t1 T1 g1
      have P1 : PinOk C.n (pins ++ mo.dep) cs1 := pp.push ln l1 T1 fun c hc x hx => by
        rw [t1] at hc; cases hc
        exact hx
      refine ⟨hty w v fp H1 hok (R1.view _ _ t1), cs1, S1, R1, g1, P1, ?_⟩
      cases hl : fb S1 with
      | err => rw [hl] at o; exact o
      | exc x S' => rw [hl] at o; exact OutX.up (L := cs.length) o T1 (by omega)
      | ok k S2 =>
        rw [hl] at o
        intro v2 fp2 H2 cs2 R2 l2 t2 T2 g2
        have T12 : Tsame C.n cs.length cs cs2 := T1.trans T2 (by omega)
        have o : Out C cs.length cs σ mr G2 Q (match sem w k with | some r => .ok r S2 | none => .err) := o
        cases hc : sem w k with
        | none => rw [hc] at o; exact o.elim
        | some x =>
          rw [hc] at o
          have t3 : cs2[cs.length]? = some (some ⟨v, w, mo, fp⟩) := by rw [T2 cs.length ln (by omega)]; exact t1
          refine fin cs.length cs2 S2 H2 v v2 w k fp fp2 x ln R2 (by omega) t3 (by rw [← l1]; exact t2) hc fun v3 fp3 H3 R3 => ?_
          have lt : (cs2.take cs.length).length = cs.length := by rw [List.length_take]; omega
          refine o v3 fp3 H3 _ R3 (by rw [List.length_append, lt]; rfl) (by rw [List.getElem?_append_right (by omega), lt]; simp) (fun i hi hlt => ?_) (g2.take ln)
          rw [List.getElem?_append_left (by omega), List.getElem?_take_of_lt hlt]
          exact T12 i hi hlt
    · rw [if_neg hok] at o
      exact o.elim
end
/-! ### list.count -/
def intsW (w : W) : Option (List Int) := (itemsL [w]).bind ints?
def semCnt : W → W → Option W
  | w, .int k => (intsW w).map fun ns => .int (ns.count k : Nat)
  | _, _ => none
theorem intsW_vw {K : Kz} {H : Hp} {w : W} {v : V} {fp : List Addr} {ns : List Int} (h : intsW w = some ns) (hv : Vw K H w v fp) : ∃ p, v = .ref p ∧ SqL K H p (ns.map V.int) := by
  have hs : semInts (fun ns => some (.lst (ns.map W.int))) [w] = some (.lst (ns.map W.int)) := by
    unfold intsW at h
    obtain ⟨its, q, h⟩ := Option.bind_eq_some_iff.mp h
    simp only [semInts, q, Option.bind_some, h]
  have hvs : Vws K H [w] [v] fp := by
    simp only [Vws]
    exact ⟨v, [], fp, [], rfl, by simp, hv, rfl, rfl⟩
  obtain ⟨a, ms, e1, s, e2⟩ := ints_parts hvs hs
  cases e1
  have e3 : ms = ns := by
    have : ms.map W.int = ns.map W.int := by simpa using e2
    exact List.map_inj_right (fun _ _ h => by cases h; rfl) |>.mp this
  subst e3
  exact ⟨a, rfl, s⟩
/-! ### append to a temp -/
def isLst : W → Bool
  | .lst _ => true
  | _ => false
def semAppT : W → W → Option W
  | .lst ws, _ => if ws.length < sizeLine then some .non else none
  | _, _ => none
section
variable {X : Cx} {C : Ctx} {D : Wd} {sc : Scope} {N : List Str} {k : Nat} {Gx : Gam} {ip : Option Nat} {fnp : Str → Bool} {ht : Bool}
variable {G G1 G2 G3 G' : Gam} {pins : List Nat} {e a b c : Expr} {es rest : List Expr} {mo mo' mb : Mo} {ms : List Am} {gs : Sl → Res (List W)} {fa fb f f2 : Sl → Res W} {pos p p2 apos : Pos}
theorem Gd.count (g : Gd ht X C D sc N k Gx ip fnp) (he : JE X C G pins e mo G1 fa) (hb : JE X C G1 (pins ++ mo.dep) b mb G2 fb) (hn : notStar b = true := by rfl)
    (hbase : attributeBase e "count" X.env (eval e X.env) = eval e X.env := by rfl) (hline : (apos.endLine == pos.line) = true := by rfl) :
    JE X C G pins (.Call (.Attribute e "count" apos) [b] [] pos) .O G2 (fMeth (fun w => (intsW w).isSome) semCnt fa fb) := by
  refine PE.imp (pe_bm PySem.F.plainAttrs_list PySem.F.slot_list_count PySem.F.type_list_count mt_lcount he (pa_cons hb pa_nil (star_cons hn)) hbase (by rw [star_cons hn]; rfl) hline (star_cons hn) (by rfl)) fun σ H Q q => ?_
  rw [g.hK]
  refine meth_core (mo := mo) (mb := mb) q (fun w v fp H hok hv => ?_) fun L cs S H v v2 w k fp fp2 x hL R hl t1 t2 hs kk => ?_
  · obtain ⟨ns, hns⟩ := Option.isSome_iff_exists.mp hok
    obtain ⟨a, rfl, s⟩ := intsW_vw hns hv
    exact .inl ⟨rfl, _, s⟩
  · have h1 := R.view L _ t1
    have h2 := R.view (L + 1) _ t2
    cases k <;> simp only [semCnt, reduceCtorEq] at hs
    rename_i i
    rw [Option.map_eq_some_iff] at hs
    obtain ⟨ns, hns, rfl⟩ := hs
    obtain ⟨a, rfl, s⟩ := intsW_vw hns h1
    obtain ⟨rfl, _⟩ := vwInt h2
    exact ⟨a, ns, i, rfl, rfl, s, kk _ [] H (R.repl hL (by omega) (Same.refl H) mkInt (fun x hx => by cases hx) (fun _ => ⟨List.nodup_nil, fun a ha => by cases ha⟩) fun ds z => by cases z)⟩
theorem Gd.appT (g : Gd ht X C D sc N k Gx ip fnp) (he : JE X C G pins e .O G1 fa) (hb : JE X C G1 (pins ++ []) b .O G2 fb) (hn : notStar b = true := by rfl)
    (hbase : attributeBase e "append" X.env (eval e X.env) = eval e X.env := by rfl) (hline : (apos.endLine == pos.line) = true := by rfl) :
    JE X C G pins (.Call (.Attribute e "append" apos) [b] [] pos) .O G2 (fMeth isLst semAppT fa fb) := by
  refine PE.imp (pe_bm PySem.F.plainAttrs_list PySem.F.slot_list_append PySem.F.type_list_append mt_append he (pa_cons hb pa_nil (star_cons hn)) hbase (by rw [star_cons hn]; rfl) hline (star_cons hn) (by rfl)) fun σ H Q q => ?_
  rw [g.hK]
  refine meth_core (mo := .O) (mb := .O) (ok := isLst) (sem := semAppT) q (fun w v fp H hok hv => ?_) fun L cs S H v v2 w k fp fp2 x hL R hl t1 t2 hs kk => ?_
  · cases w <;> simp only [isLst, reduceCtorEq] at hok
    obtain ⟨a, vs, fps, rfl, r, s, _⟩ := vwLst hv
    exact .inl ⟨rfl, _, SqL.of s⟩
  · have h1 := R.view L _ t1
    cases w <;> simp only [semAppT, reduceCtorEq] at hs
    rename_i ws
    split at hs
    case isFalse => cases hs
    rename_i hz
    cases hs
    obtain ⟨l, vs, fps, rfl, r, s, rfl⟩ := vwLst h1
    have nd := R.nd L _ t1 rfl
    have R2 := R.effT (H' := upd H l (.lst (vs ++ [v2]))) hL t1 rfl (c' := ⟨.non, .non, .O, []⟩) (fun a o ha hf => by rw [upd_ne fun z => hf (by rw [z]; exact List.mem_cons_self)]; exact ha)
      (fun a ha => by
        by_cases z : a = l
        · rw [z, upd_same]; intro y; cases y
        · rw [upd_ne z]; exact ha) (mkNon) rfl List.nodup_nil (fun a ha => by cases ha)
    exact ⟨l, vs, v2, rfl, rfl, s, by rw [r.length]; exact hz, kk _ _ _ R2⟩
end
/-! ### how they walk -/
def methK1 (ok : W → Bool) (sem : W → W → Option W) (fb : Sl → Res W) : W → Sl → Res W := fun w S1 => if ok w = true then (fb S1).bind fun k S2 => match sem w k with
  | some r => .ok r S2
  | none => .err
  else .err
def methK2 (sem : W → W → Option W) (w : W) : W → Sl → Res W := fun k S2 => optW (sem w k) S2
@[simp ↓] theorem fMeth_a {ok : W → Bool} {sem : W → W → Option W} {fa fb : Sl → Res W} {S : Sl} : fMeth ok sem fa fb S = (fa S).bind (methK1 ok sem fb) := Eq.trans rfl rfl
@[simp] theorem methK1_a {ok : W → Bool} {sem : W → W → Option W} {fb : Sl → Res W} {w : W} {S : Sl} (h : ok w = true) : methK1 ok sem fb w S = (fb S).bind (methK2 sem w) := by
  unfold methK1
  rw [if_pos h]
  congr 1
  funext k S2
  unfold methK2
  cases sem w k <;> rfl
@[simp] theorem methK2_a {sem : W → W → Option W} {w k : W} {S : Sl} : methK2 sem w k S = optW (sem w k) S := rfl
end Vm

namespace Vm
open PySem PySem.Spec PyProof.Rows L2
theorem sw_subs {a b i j u v : Expr} {p q r r2 : Pos} {m n : Nat} {env : Env} : swappedStores [.Tuple [.Subscript a i p, .Subscript b j q] n r] (.Tuple [u, v] m r2) env = pure none := by
  unfold swappedStores
  simp only [List.length_cons, List.length_nil, List.filterMap_cons, List.filterMap_nil]
  repeat' (first | rfl | split)
def Same' (H H' : Hp) (l : Addr) : Prop := ∀ (a : Addr) (o : HO), H a = some o → a ≠ l → H' a = some o
/-! ## x[i], x[j] = a, b : a list of pure things -/
theorem pureSet {us : List W} {w : W} (h : W.pure.all us = true) (hw : w.pure = true) (i : Nat) : W.pure.all (us.set i w) = true := by
  induction us generalizing i with
  | nil => simpa using h
  | cons x xs ih =>
    simp only [W.pure.all, Bool.and_eq_true] at h
    cases i with
    | zero => simp only [List.set_cons_zero, W.pure.all, Bool.and_eq_true]; exact ⟨hw, h.2⟩
    | succ i => simp only [List.set_cons_succ, W.pure.all, Bool.and_eq_true]; exact ⟨h.1, ih h.2 i⟩
theorem vwsSet {K : Kz} {H : Hp} {v : V} {w : W} (hv : Vw K H w v []) : ∀ {us : List W} {xs : List V} {i : Nat}, Vws K H us xs [] → Vws K H (us.set i w) (xs.set i v) []
  | [], xs, i, h => by simp only [Vws] at h; obtain ⟨rfl, _⟩ := h; simp [Vws]
  | u :: us, xs, i, h => by
    simp only [Vws] at h
    obtain ⟨y, xs', f1, f2, rfl, e, r1, r2⟩ := h
    obtain ⟨rfl, rfl⟩ := List.append_eq_nil_iff.mp e.symm
    cases i with
    | zero =>
      simp only [List.set_cons_zero, Vws]
      exact ⟨v, xs', [], [], rfl, rfl, hv, r2⟩
    | succ i =>
      simp only [List.set_cons_succ, Vws]
      exact ⟨y, xs'.set i v, [], [], rfl, rfl, r1, vwsSet hv r2⟩
def stW (us : List W) (w : W) : Option W → Option (List W)
  | some (.int a) => (ixN us.length a).bind fun i => if W.pure.all us = true ∧ w.pure = true then some (us.set i w) else none
  | _ => none
theorem stW_ok {us r : List W} {w : W} {o : Option W} (h : stW us w o = some r) : ∃ a i, o = some (.int a) ∧ ixN us.length a = some i ∧ W.pure.all us = true ∧ w.pure = true ∧ r = us.set i w := by
  unfold stW at h
  split at h
  · obtain ⟨i, h1, h2⟩ := Option.bind_eq_some_iff.mp h
    split at h2
    · rename_i hp
      cases h2
      exact ⟨_, i, rfl, h1, hp.1, hp.2, rfl⟩
    · cases h2
  · cases h
def parW (k : Nat) (h1 h2 : Sl → Option W) (w1 w2 : W) (S : Sl) : Option (Option W) → Option Sl
  | some (some (.lst us)) => (stW us w1 (h1 S)).bind fun r => (stW r w2 (h2 (S.set k (some (.lst r))))).bind fun r2 => some ((S.set k (some (.lst r))).set k (some (.lst r2)))
  | _ => none
def parF (k : Nat) (h1 h2 : Sl → Option W) : List W → Sl → Res Fl
  | [w1, w2], S => match parW k h1 h2 w1 w2 S S[k]? with
    | some S2 => .ok .nx S2
    | none => .err
  | _, _ => .err
def fParIx (k : Nat) (gs : Sl → Res (List W)) (h1 h2 : Sl → Option W) : Sl → Res Fl := fun S => (gs S).bind (parF k h1 h2)
section
variable {X : Cx} {C : Ctx} {s : Sx} {G G1 G2 G' : Gam} {pins : List Nat} {a b ix ix2 : Expr} {m1 m2 : Mo} {gs : Sl → Res (List W)} {pos t1p t2p np1 np2 pt pt2 : Pos}
/-- one store into the owned list at slot k, all of it pure -/
theorem one_store {cs : Cells} {S : Sl} {σ : St} {H : Hp} {L k : Nat} (R : RelC C cs S σ H) (p : Has C.n G1 cs) (hL : C.n ≤ L) (hl : L ≤ cs.length) (hk1 : G1[k]? = some (some .O)) {us r : List W} {w : W} {o : Option W} {v : V}
    (hS : S[k]? = some (some (.lst us))) (hr : stW us w o = some r) (hv : Vw C.K H w v [])
    (pn : ∀ (j : Nat) (d : Cell), C.n ≤ j → j < L → cs[j]? = some (some d) → k ∉ d.m.dep) :
    ∃ (x : V) (l : Addr) (xs : List V) (i : Int) (j : Nat), σ[k]? = some (some x) ∧ x = .ref l ∧ o = some (.int i) ∧ H l = some (.lst xs) ∧ ixN xs.length i = some j ∧ Same' H (upd H l (.lst (xs.set j v))) l ∧
      ∃ cs', RelC C cs' (S.set k (some (.lst r))) σ (upd H l (.lst (xs.set j v))) ∧ cs'.length = L ∧ Tsame C.n L cs cs' ∧ Has C.n (killG k G1) cs' := by
  obtain ⟨ck, hck, hcm⟩ := p.2 k _ hk1
  have kn : k < C.n := Nat.lt_of_lt_of_le (List.getElem?_eq_some_iff.mp hk1).1 p.1
  obtain ⟨hσ, hS'⟩ := R.slot k ck kn hck
  have hw : ck.w = .lst us := by rw [hS] at hS'; exact (Option.some.inj (Option.some.inj hS')).symm
  have vk := R.view k ck hck
  rw [hw] at vk
  obtain ⟨l, xs, fps, ea, ra, sa, ef⟩ := vwLst vk
  obtain ⟨i, j, ho, hj, hpu, hpw, rfl⟩ := stW_ok hr
  have e0 := Vws.of_pure hpu ra
  subst e0
  have ndk := R.nd k ck hck hcm
  rw [ef] at ndk
  have tk : TupK H (upd H l (.lst (xs.set j v))) := fun b ob h hm => by
    rw [upd_ne (fun z => by rw [z, sa] at h; cases h; cases hm)]
    exact h
  have nv := vwsSet (i := j) (hv.mono tk (fun b hb => by cases hb)) (ra.mono tk (fun b hb => by cases hb))
  refine ⟨ck.v, l, xs, i, j, hσ, ea, ho, sa, by rw [ra.length]; exact hj, fun b ob h hn => by rw [upd_ne hn]; exact h, ?_⟩
  exact slot_set (w' := .lst (us.set j w)) (fp' := [l]) R p hL hl kn hck hcm (fun b' ob h hn => by
      rw [upd_ne (fun z => hn (by rw [ef, z]; exact List.mem_cons_self))]; exact h)
    (fun b' h => by
      by_cases hz : b' = l
      · rw [hz, upd_same]; simp
      · rw [upd_ne hz]; exact h)
    (by rw [ea]; simp only [Vw]; exact ⟨l, _, [], rfl, nv, upd_same, rfl⟩) ndk.1
    (fun b' hb => by
      rw [List.mem_singleton.mp hb]
      exact ⟨⟨_, upd_same, rfl⟩, .inr (.inl (by rw [ef]; exact List.mem_cons_self))⟩) pn
theorem js_parix {k : Nat} {x : Str} {kt k2 : Nat} {h1 h2 : Sl → Option W} (hc : X.calm = true) (hx1 : PE X (.Name x np1) (tVar k)) (hx2 : PE X (.Name x np2) (tVar k)) (ja : JA X C G pins [a, b] [.mo m1, .mo m2] G1 gs)
    (hi : Hand X C G1 ix h1) (hi2 : Hand X C (killG k G1) ix2 h2) (hk1 : G1[k]? = some (some .O)) (hk2 : (killG k G1)[k]? = some (some .O)) (hp : pins.contains k = false)
    (ha1 : ∀ v, assign (.Subscript (.Name x np1) ix t1p) X.env v = (do
      let ov ← holding [v] (eval (.Name x np1) X.env)
      let iv ← holding [v, ov] (eval ix X.env)
      standAt t1p
      holding [v, ov, iv] (setItem ov iv v)
      release [v, ov, iv] []))
    (ha2 : ∀ v, assign (.Subscript (.Name x np2) ix2 t2p) X.env v = (do
      let ov ← holding [v] (eval (.Name x np2) X.env)
      let iv ← holding [v, ov] (eval ix2 X.env)
      standAt t2p
      holding [v, ov, iv] (setItem ov iv v)
      release [v, ov, iv] []))
    (hn : (assignEach [.Subscript (.Name x np1) ix t1p, .Subscript (.Name x np2) ix2 t2p] X.env).length = 2) (hst : (assignEach [.Subscript (.Name x np1) ix t1p, .Subscript (.Name x np2) ix2 t2p] X.env).findIdx? (·.1) = none)
    (hc1 : (assignEach [.Subscript (.Name x np1) ix t1p, .Subscript (.Name x np2) ix2 t2p] X.env).map (·.2) = assign (.Subscript (.Name x np1) ix t1p) X.env :: (assignEach [.Subscript (.Name x np2) ix2 t2p] X.env).map (·.2))
    (hc2 : (assignEach [.Subscript (.Name x np2) ix2 t2p] X.env).map (·.2) = assign (.Subscript (.Name x np2) ix2 t2p) X.env :: (assignEach [] X.env).map (·.2))
    (hs : swapsWithSole [.Tuple [.Subscript (.Name x np1) ix t1p, .Subscript (.Name x np2) ix2 t2p] kt pt] (.Tuple [a, b] k2 pt2) pos.line X.env = pure false)
    (hw : swappedStores [.Tuple [.Subscript (.Name x np1) ix t1p, .Subscript (.Name x np2) ix2 t2p] kt pt] (.Tuple [a, b] k2 pt2) X.env = pure none)
    (h1' : (assignEach [.Tuple [.Subscript (.Name x np1) ix t1p, .Subscript (.Name x np2) ix2 t2p] kt pt] X.env).map (·.2) = [assign (.Tuple [.Subscript (.Name x np1) ix t1p, .Subscript (.Name x np2) ix2 t2p] kt pt) X.env]) :
    JS X C s G pins (.Assign [.Tuple [.Subscript (.Name x np1) ix t1p, .Subscript (.Name x np2) ix2 t2p] kt pt] (.Tuple [a, b] k2 pt2) pos) (killG k (killG k G1)) (fParIx k gs h1 h2) := by
  obtain ⟨te1, pe1, hand1⟩ := hi.ex
  obtain ⟨te2, pe2, hand2⟩ := hi2.ex
  refine PS.imp (ps_asg (pe_tup ja.pa) (pg_tup hc (pgs_cons (pg_sub hx1 pe1 set_list ha1) (pgs_cons (pg_sub hx2 pe2 set_list ha2) pgs_nil hc2) hc1) hn hst) hs hw h1') fun D σ H ⟨cs, S, R, p, pp, o⟩ => ?_
  have ln := R.ln
  refine ⟨cs, S, R, p, pp, ?_⟩
  unfold fParIx at o
  cases hg : gs S with
  | err => rw [hg] at o; exact o
  | exc x S' => rw [hg] at o; exact o σ
  | ok ws S1 =>
    rw [hg] at o
    intro vs H1 cs1 R1 l1 a1 T1 g1
    have o : OutS C cs.length cs s D (killG k (killG k G1)) (parF k h1 h2 ws S1) := o
    match vs, ws, a1 with
    | [v1, v2], [w1, w2], a1 =>
      obtain ⟨⟨fp1, t1⟩, ⟨fp2, t2⟩, _⟩ := a1
      have o : OutS C cs.length cs s D (killG k (killG k G1)) (match parW k h1 h2 w1 w2 S1 S1[k]? with | some S2 => .ok .nx S2 | none => .err) := o
      refine ⟨by rw [sizeLine_eq]; exact Nat.le_of_ble_eq_true rfl, fun q hq => ⟨q, [v1, v2], rfl, SqT.of upd_same, rfl, ?_⟩⟩
      have R1 := R1.same (Same.upd (o := .tup [v1, v2]) hq)
      have pn : ∀ (j : Nat) (d : Cell), C.n ≤ j → j < cs.length → cs1[j]? = some (some d) → k ∉ d.m.dep := fun jj d h1 h2 hd hz => by
        rw [T1 jj h1 h2] at hd
        have := pp jj d h1 hd k hz
        simp at hp
        exact hp this
      cases hq2 : parW k h1 h2 w1 w2 S1 S1[k]? with
      | none => rw [hq2] at o; exact o.elim
      | some S2 =>
        rw [hq2] at o
        have o : OutS C cs.length cs s D (killG k (killG k G1)) (.ok .nx S2) := o
        unfold parW at hq2
        split at hq2
        case h_2 => cases hq2
        rename_i us hS
        obtain ⟨r, hr, hq2⟩ := Option.bind_eq_some_iff.mp hq2
        obtain ⟨r2, hr2, hq2⟩ := Option.bind_eq_some_iff.mp hq2
        cases hq2
        have hv1 := R1.view _ _ t1
        have hv2 := R1.view _ _ t2
        obtain ⟨_, _, _, _, _, pw1, _⟩ := stW_ok hr
        obtain ⟨_, _, _, _, _, pw2, _⟩ := stW_ok hr2
        have e1 : fp1 = [] := Vw.of_pure pw1 hv1
        have e2 : fp2 = [] := Vw.of_pure pw2 hv2
        subst e1
        subst e2
        obtain ⟨x, l, xs, i, j, hσ, hx, ho, hl, hj, sm, cs3, R3, l3, T3, g3⟩ := one_store R1 g1 (L := cs.length) ln (by rw [l1]; exact Nat.le_add_right _ _) hk1 hS hr hv1 pn
        have tk : TupK (upd H1 q (.tup [v1, v2])) (upd (upd H1 q (.tup [v1, v2])) l (.lst (xs.set j v1))) := fun b ob h hm => by
          rw [upd_ne (fun z => by rw [z, hl] at h; cases h; cases hm)]
          exact h
        have hv2' := hv2.mono tk (fun b hb => by cases hb)
        have kn : k < S1.length := by
          rw [R1.ls]
          exact Nat.lt_of_lt_of_le (List.getElem?_eq_some_iff.mp hk1).1 g1.1
        obtain ⟨x', l', xs', i', j', hσ', hx', ho', hl', hj', sm', cs4, R4, l4, T4, g4⟩ := one_store R3 g3 (L := cs.length) ln (by omega) hk2 (by rw [List.getElem?_set_self kn]) hr2 hv2' (fun jj d h1 h2 hd => pn jj d h1 h2 (by rw [← T3 jj h1 h2]; exact hd))
        refine ⟨v1, [v2], rfl, x, hσ, ?_⟩
        obtain ⟨vi, hvi, _, go1⟩ := hand1 cs1 S1 σ _ (fun y H2 => rSetL x y v1 H2 fun H3 => gCons (gSub (tVar k) te2 rSetL) gNil [v2] σ H3 D.nx) (.int i) R1 g1 ho
        refine go1 ?_
        obtain ⟨rfl, _⟩ := vwInt hvi
        refine ⟨l, xs, i, j, hx, rfl, hl, hj, ?_⟩
        refine ⟨v2, [], rfl, x', hσ', ?_⟩
        obtain ⟨vi', hvi', _, go2⟩ := hand2 cs3 _ σ _ (fun y H2 => rSetL x' y v2 H2 fun H3 => gNil [] σ H3 D.nx) (.int i') R3 g3 ho'
        refine go2 ?_
        obtain ⟨rfl, _⟩ := vwInt hvi'
        refine ⟨l', xs', i', j', hx', rfl, hl', hj', rfl, ?_⟩
        exact o σ _ cs4 R4 l4 (fun jj h1 h2 => by rw [T4 jj h1 h2, T3 jj h1 h2]; exact T1 jj h1 h2) g4
    | [], _, a1 => exact a1.elim
    | [_], [], a1 => exact a1.elim
    | [_], _ :: _, a1 => exact a1.2.elim
    | _ :: _ :: _, [], a1 => exact a1.elim
    | _ :: _ :: _, [_], a1 => exact a1.2.elim
    | _ :: _ :: _ :: _, _ :: _ :: _, a1 => exact a1.2.2.elim
    | [_, _], _ :: _ :: _ :: _, a1 => exact a1.2.2.elim
variable {D : Wd} {sc : Scope} {N : List Str} {kk : Nat} {Gx : Gam} {ip : Option Nat} {fnp : Str → Bool} {ht : Bool}
theorem Gd.parix (g : Gd false X C D sc N kk Gx ip fnp) (q : Nat) {x : Str} {kt k2 : Nat} {h1 h2 : Sl → Option W} (ja : JA X C G pins [a, b] [.mo m1, .mo m2] G1 gs) (hi : Hand X C G1 ix h1) (hi2 : Hand X C (killG q G1) ix2 h2)
    (hk1 : G1[q]? = some (some .O) := by rfl) (hk2 : (killG q G1)[q]? = some (some .O) := by rfl) (hp : pins.contains q = false := by rfl)
    (hN : N[q]? = some x := by rfl) (hv : Vis sc x := by first | exact Or.inl rfl | exact Or.inr (Or.inl rfl) | exact Or.inr (Or.inr rfl)) (hd : (x == ("__debug__" : Str)) = false := by decide +kernel) (hcd : (x == ("__classdict__" : Str)) = false := by decide +kernel)
    (ha1 : ∀ v, assign (.Subscript (.Name x np1) ix t1p) X.env v = (do
      let ov ← holding [v] (eval (.Name x np1) X.env)
      let iv ← holding [v, ov] (eval ix X.env)
      standAt t1p
      holding [v, ov, iv] (setItem ov iv v)
      release [v, ov, iv] []) := by exact fun _ => rfl)
    (ha2 : ∀ v, assign (.Subscript (.Name x np2) ix2 t2p) X.env v = (do
      let ov ← holding [v] (eval (.Name x np2) X.env)
      let iv ← holding [v, ov] (eval ix2 X.env)
      standAt t2p
      holding [v, ov, iv] (setItem ov iv v)
      release [v, ov, iv] []) := by exact fun _ => rfl)
    (hn : (assignEach [.Subscript (.Name x np1) ix t1p, .Subscript (.Name x np2) ix2 t2p] X.env).length = 2 := by rfl) (hst : (assignEach [.Subscript (.Name x np1) ix t1p, .Subscript (.Name x np2) ix2 t2p] X.env).findIdx? (·.1) = none := by rfl)
    (hc1 : (assignEach [.Subscript (.Name x np1) ix t1p, .Subscript (.Name x np2) ix2 t2p] X.env).map (·.2) = assign (.Subscript (.Name x np1) ix t1p) X.env :: (assignEach [.Subscript (.Name x np2) ix2 t2p] X.env).map (·.2) := by rfl)
    (hc2 : (assignEach [.Subscript (.Name x np2) ix2 t2p] X.env).map (·.2) = assign (.Subscript (.Name x np2) ix2 t2p) X.env :: (assignEach [] X.env).map (·.2) := by rfl)
    (hs : swapsWithSole [.Tuple [.Subscript (.Name x np1) ix t1p, .Subscript (.Name x np2) ix2 t2p] kt pt] (.Tuple [a, b] k2 pt2) pos.line X.env = pure false := by rfl)
    (hw : swappedStores [.Tuple [.Subscript (.Name x np1) ix t1p, .Subscript (.Name x np2) ix2 t2p] kt pt] (.Tuple [a, b] k2 pt2) X.env = pure none := by exact sw_subs)
    (h1' : (assignEach [.Tuple [.Subscript (.Name x np1) ix t1p, .Subscript (.Name x np2) ix2 t2p] kt pt] X.env).map (·.2) = [assign (.Tuple [.Subscript (.Name x np1) ix t1p, .Subscript (.Name x np2) ix2 t2p] kt pt) X.env] := by rfl) :
    JS X C s G pins (.Assign [.Tuple [.Subscript (.Name x np1) ix t1p, .Subscript (.Name x np2) ix2 t2p] kt pt] (.Tuple [a, b] k2 pt2) pos) (killG q (killG q G1)) (fParIx q gs h1 h2) :=
  js_parix (g.calm rfl) (g.pv hN hv hd hcd) (g.pv hN hv hd hcd) ja hi hi2 hk1 hk2 hp ha1 ha2 hn hst hc1 hc2 hs hw h1'
end
/-! ### how it walks -/
@[simp ↓] theorem fParIx_a {k : Nat} {gs : Sl → Res (List W)} {h1 h2 : Sl → Option W} {S : Sl} : fParIx k gs h1 h2 S = (gs S).bind (parF k h1 h2) := Eq.trans rfl rfl
@[simp] theorem parF_a {k : Nat} {h1 h2 : Sl → Option W} {w1 w2 : W} {S : Sl} : parF k h1 h2 [w1, w2] S = (match parW k h1 h2 w1 w2 S S[k]? with
    | some S2 => .ok .nx S2
    | none => .err) := Eq.trans rfl rfl
end Vm

namespace Vm
open PySem PySem.Spec PyProof.Rows L2
/-! ## a slot that holds nothing writable counts as owned, whatever its mode -/
theorem ix_set {cs : Cells} {i j : Nat} {c d : Cell} (h : (cs.set i (some c))[j]? = some (some d)) : (j = i ∧ d = c) ∨ (j ≠ i ∧ cs[j]? = some (some d)) := by
  by_cases e : j = i
  · subst e
    have hl : j < cs.length := by have := (List.getElem?_eq_some_iff.mp h).1; simpa using this
    rw [List.getElem?_set_self hl] at h
    cases h
    exact .inl ⟨rfl, rfl⟩
  · rw [List.getElem?_set_ne (Ne.symm e)] at h
    exact .inr ⟨e, h⟩
theorem Rel.setSlot {K : Kz} {fr : Frm} {n i : Nat} {cs : Cells} {S : Sl} {σ : St} {H : Hp} (R : Rel K fr n cs S σ H) {v : V} {w : W} {m m' : Mo} (ht : cs[i]? = some (some ⟨v, w, m, []⟩)) (hm : m'.dep = []) :
    Rel K fr n (cs.set i (some ⟨v, w, m', []⟩)) S σ H := by
  refine ⟨R.ls, R.lσ, by rw [List.length_set]; exact R.ln, fun j d hj q => ?_, fun j d q => ?_, fun j d q mo => ?_, fun j d q a ha => ?_, fun j d q => ?_, fun j k x y jk q1 q2 mo => ?_, R.frm, R.alive, fun p u e => ⟨(R.iov p u e).1, fun d q => ?_⟩⟩
  · rcases ix_set q with ⟨rfl, rfl⟩ | ⟨_, q⟩
    · exact R.slot j ⟨v, w, m, []⟩ hj ht
    · exact R.slot j d hj q
  · rcases ix_set q with ⟨rfl, rfl⟩ | ⟨_, q⟩
    · exact R.view j ⟨v, w, m, []⟩ ht
    · exact R.view j d q
  · rcases ix_set q with ⟨rfl, rfl⟩ | ⟨_, q⟩
    · exact ⟨List.nodup_nil, fun a ha => by cases ha⟩
    · exact R.nd j d q mo
  · rcases ix_set q with ⟨rfl, rfl⟩ | ⟨_, q⟩
    · cases ha
    · exact R.uni j d q a ha
  · rcases ix_set q with ⟨rfl, rfl⟩ | ⟨_, q⟩
    · show ∀ x ∈ m'.dep, x < n
      rw [hm]; intro x hx; cases hx
    · exact R.dl j d q
  · rcases ix_set q1 with ⟨rfl, rfl⟩ | ⟨_, p1⟩
    · exact .inr fun a ha => by cases ha
    · rcases ix_set q2 with ⟨rfl, rfl⟩ | ⟨_, p2⟩
      · exact .inr fun a _ hb => by cases hb
      · exact R.dis j k x y jk p1 p2 mo
  · rcases ix_set q with ⟨rfl, rfl⟩ | ⟨_, q⟩
    · exact (R.iov p u e).2 ⟨v, w, m, []⟩ ht
    · exact (R.iov p u e).2 d q
def fOwn (i : Nat) (f : Sl → Res Fl) : Sl → Res Fl := fun S => match S[i]? with
  | some (some w) => if w.fz = true then f S else .err
  | _ => .err
section
variable {X : Cx} {C : Ctx} {s : Sx} {G G' : Gam} {pins : List Nat} {sts : List Stmt} {mo : Mo} {f : Sl → Res Fl}
theorem semS_own {G0 : Gam} {i : Nat} (h0 : G0[i]? = some (some mo)) {D : Ends} {σ : St} {H : Hp} (q : semS C s G0 pins G' (fOwn i f) D σ H) : semS C s (G0.set i (some .O)) pins G' f D σ H := by
  obtain ⟨cs, S, R, p, pp, o⟩ := q
  have hG : i < G0.length := (List.getElem?_eq_some_iff.mp h0).1
  have hi : i < C.n := Nat.lt_of_lt_of_le hG p.1
  obtain ⟨c, hc, hcm⟩ := p.2 i mo h0
  have hs := (R.slot i c hi hc).2
  unfold fOwn at o
  rw [hs] at o
  have o2 : OutS C cs.length cs s D G' (if c.w.fz = true then f S else .err) := o
  clear o
  by_cases hf : c.w.fz = true
  · rw [if_pos hf] at o2
    obtain ⟨v, w, m, fp⟩ := c
    have e : fp = [] := Vw.of_fz hf (R.view i _ hc)
    subst e
    have R2 := R.setSlot hc (m' := .O) rfl
    have T : Tsame C.n cs.length cs (cs.set i (some ⟨v, w, .O, []⟩)) := fun j h1 h2 => List.getElem?_set_ne (by omega)
    have ll : (cs.set i (some ⟨v, w, .O, []⟩)).length = cs.length := List.length_set
    refine ⟨_, S, R2, ⟨by rw [List.length_set]; exact p.1, fun j m1 q => ?_⟩, pp.same ll T, o2.up ll T⟩
    by_cases e : j = i
    · subst e
      rw [List.getElem?_set_self hG] at q
      cases q
      exact ⟨_, List.getElem?_set_self (by have := R.ln; omega), rfl⟩
    · rw [List.getElem?_set_ne (Ne.symm e)] at q
      obtain ⟨c, q1, q2⟩ := p.2 j m1 q
      exact ⟨c, by rw [List.getElem?_set_ne (Ne.symm e)]; exact q1, q2⟩
  · rw [if_neg hf] at o2
    exact o2.elim
/-- slot i holds nothing writable: it is owned from here on -/
theorem jb_own {G0 : Gam} (i : Nat) (h : JB X C s G pins sts G' f) (h0 : G0[i]? = some (some mo)) (hG : G = G0.set i (some .O)) : JB X C s G0 pins sts G' (fOwn i f) := by
  subst hG
  exact PSs.imp h fun D σ H q => semS_own h0 q
end
@[simp ↓] theorem fOwn_a {i : Nat} {f : Sl → Res Fl} {S : Sl} : fOwn i f S = match S[i]? with
  | some (some w) => if w.fz = true then f S else .err
  | _ => .err := Eq.trans rfl rfl
end Vm

namespace Vm
open PySem PySem.Spec PyProof.Rows L2
/-! ## list(range(a, b, c)) -/
def rgC (i k : Int) (n : Nat) : List V := (List.range n).map fun (m : Nat) => V.int (i + (m : Int) * k)
theorem rgC_length (i k : Int) (n : Nat) : (rgC i k n).length = n := by unfold rgC; rw [List.length_map, List.length_range]
theorem vals_rgC {i k : Int} {n : Nat} {acc : Array Value} (h : ItemsOf (fun (m : Nat) v => ∃ t, v = .int (i + (m : Int) * k) t) acc n) : Vals (rgC i k n) acc.toList := by
  have e : acc.toList.length = n := by rw [Array.length_toList]; exact h.1
  unfold rgC
  rw [← e]
  refine vals_of_get acc.toList _ fun j u hj => ?_
  obtain ⟨t, rfl⟩ := h.2 j u (by rw [← hj, Array.getElem?_toList])
  exact ⟨t, rfl⟩
theorem pe_lr3 {X : Cx} {a b c : Expr} {ta tb tc : TE} {p p2 pos pos2 : Pos} (hc : X.calm = true) (hg : Gl X "list") (hm : X.mg "list" = none) (hg2 : Gl X "range") (hm2 : X.mg "range" = none) (ha : PE X a ta) (hb : PE X b tb) (hd : PE X c tc)
    (na : starEach [a, b, c] X.env = (false, eval a X.env) :: starEach [b, c] X.env) (nb : starEach [b, c] X.env = (false, eval b X.env) :: starEach [c] X.env) (nc : starEach [c] X.env = (false, eval c X.env) :: starEach [] X.env)
    (hp : (backTo pos2 (starEach [b, c] X.env)).any (·.1) = false) :
    PE X (.Call (.Name "list" p) [.Call (.Name "range" p2) [a, b, c] [] pos2] [] pos) (fun σ H Q => ta σ H fun x H1 => tb σ H1 fun y H2 => tc σ H2 fun z H3 => ∃ (i j k : Int) (n : Nat), x = .int i ∧ y = .int j ∧ z = .int k ∧ RgC i j k n ∧ n ≤ 2 ^ 24 ∧ ∀ q, H3 q = none → Q (.ref q) (upd H3 q (.lst (rgC i k n)))) := by
  refine ⟨fun pins s σ H Q I h => ?_⟩
  refine Call_ (ld_blt I hg hm boot_list (PyProof.Rows.callWith_type1 (args_cons (thn (Q := fun x s' => ∃ r i j k n t u v H', x = .ref r ∧ IsRange s'.heap r i j k t u v ∧ Inv X pins σ H' s' ∧ RgC i j k n ∧ n ≤ 2 ^ 24 ∧ ∀ q, H' q = none → Q (.ref q) (upd H' q (.lst (rgC i k n)))) ?_ fun x s1 ⟨r, i, j, k, n, t, u, v, H1, ex, hr, I1, ⟨c0, c1, c2, c3⟩, hn, q⟩ => args_nil ?_) rfl) rfl))
  · refine Call_ (ld_blt I hg2 hm2 boot_range (PyProof.Rows.callWith_type1 (args_cons (thn (ha.run pins s σ H _ I h) fun v s1 ⟨x, H1, I1, r1, q1⟩ => args_cons (thn (hb.run pins s1 σ H1 _ I1 q1) fun u s2 ⟨y, H2, I2, r2, q2⟩ => one_arg hd I2 q2 (fun w s3 z H3 I3 r3 q => ?_) nc) nb) na) na hp))
    obtain ⟨i, j, k, n, rfl, rfl, rfl, c, hn, q⟩ := q
    obtain ⟨t, rfl⟩ := r1
    obtain ⟨t', rfl⟩ := r2
    obtain ⟨t'', rfl⟩ := r3
    exact call_range_3 c.1 ⟨_, i, j, k, n, _, _, _, H3, rfl, IsRange.new _ _ _ _ _ _ _, I3.kept fun b u e => Heap.get?_push_of_some _ e, c, hn, q⟩ (.inl (PyProof.noPylong_small c.2.1))
  · subst ex
    refine call_list_range (n := n) (I1.ok.hd hc) hr c2 c3 hn fun h' tk acc c' hk e' hi => ?_
    refine ⟨.ref s1.heap.objs.size, upd H1 s1.heap.objs.size (.lst (rgC i k n)), I1.laid hk (Nat.le_refl _) (show ObjOk X.prog X.w _ _ _ (.lst (rgC i k n)) from ⟨?_, acc.toList, c', vals_rgC hi, ?_⟩), rfl, q _ (I1.hok.fresh (Nat.le_refl _))⟩
    · rw [rgC_length, sizeLine_eq]; omega
    · rw [Array.toArray_toList]; exact e'
def semRg3 : List W → Option W
  | [.int i, .int j, .int c] => if rgOk i j c = true ∧ (Builtin.Range.rangeSize i j c).toNat ≤ 16777216 then some (.lst (stepFrom i c (Builtin.Range.rangeSize i j c).toNat)) else none
  | _ => none
theorem vws_step {K : Kz} {H : Hp} (a c : Int) : ∀ n : Nat, Vws K H (stepFrom a c n) (rgC a c n) [] := fun n => by
  unfold stepFrom rgC
  generalize List.range n = l
  induction l with
  | nil => simp only [List.map_nil, Vws]; exact ⟨trivial, trivial⟩
  | cons x l ih =>
    simp only [List.map_cons, Vws]
    exact ⟨V.int (a + (x : Int) * c), _, [], [], rfl, rfl, by simp [Vw], ih⟩
section
variable {X : Cx} {C : Ctx} {D : Wd} {sc : Scope} {N : List Str} {k : Nat} {Gx : Gam} {ip : Option Nat} {fnp : Str → Bool}
variable {G G' : Gam} {pins : List Nat} {a b c : Expr} {ms : List Am} {gs : Sl → Res (List W)} {pos p p2 : Pos}
theorem Gd.listR3 (g : Gd false X C D sc N k Gx ip fnp) {pos2 : Pos} (hm : D.mg "list" = none) (hm2 : D.mg "range" = none) (ja : JA X C G pins [a, b, c] ms G' gs) (hnb : notStar b = true := by rfl) (hnc : notStar c = true := by rfl) (hl : sc.names.lookup ("list" : Str) = some .globalImplicit := by rfl) (hl2 : sc.names.lookup ("range" : Str) = some .globalImplicit := by rfl) (hp : plain ms = true := by rfl) :
    JE X C G pins (.Call (.Name "list" p) [.Call (.Name "range" p2) [a, b, c] [] pos2] [] pos) .O G' (fPrim gs semRg3) := by
  obtain ⟨ta, tb, tc, h1, h2, h4, h3⟩ := ja3 ja
  have ns := (ja.tail (pos := pos2) (env := X.env)).1
  refine je_fresh (R := fun vs H Q => ∃ (i j k : Int) (n : Nat), vs = [V.int i, V.int j, V.int k] ∧ RgC i j k n ∧ n ≤ 2 ^ 24 ∧ ∀ q, H q = none → Q (.ref q) (upd H q (.lst (rgC i k n)))) (sem := semRg3) (pe_lr3 (g.calm rfl) (g.gl hl) (g.mgn hm) (g.gl hl2) (g.mgn hm2) h1 h2 h4 (star_cons ns) (star_cons hnb) (star_cons hnc) (by rw [star_cons hnb, star_cons hnc]; rfl)) (fun σ H Q q => ?_) hp ?_
  · refine h3 σ H _ _ (fun x0 y0 z0 H1 z => ?_) q
    obtain ⟨i, j, k, n, e, z⟩ := z
    cases e
    exact ⟨i, j, k, n, rfl, rfl, rfl, z⟩
  · intro vs ws fps H Q w hv hs kk
    unfold semRg3 at hs
    split at hs
    · obtain ⟨x, y, z, f1, f2, f3, rfl, rfl, r1, r2, r3⟩ := vws3 hv
      obtain ⟨rfl, _⟩ := vwInt r1
      obtain ⟨rfl, _⟩ := vwInt r2
      obtain ⟨rfl, _⟩ := vwInt r3
      split at hs
      · rename_i h
        cases hs
        obtain ⟨h, hz⟩ := h
        unfold rgOk at h
        simp only [Bool.and_eq_true, decide_eq_true_eq] at h
        refine ⟨_, _, _, _, rfl, ⟨h.1.1.1, h.1.1.2, h.1.2, (Int.toNat_of_nonneg h.2).symm⟩, hz, fun q hq => kk _ _ [q] (Same.upd hq) (mkNew hq (vws_step _ _ _)) (by simp) fun b hb => by rw [List.mem_singleton.mp hb]; exact ⟨hq, _, upd_same, rfl⟩⟩
      · cases hs
    · cases hs
end
end Vm

namespace Vm
open PySem PySem.Spec PyProof.Rows L2
/-! ## a, b, c = a list -/
def gLst (K : PySem.W.Frag) (n : Nat) (t : TGs) : TG := fun v σ H Q => ∃ a xs, v = .ref a ∧ SqL K H a xs ∧ xs.length = n ∧ t xs σ H Q
theorem pg_lst {X : Cx} {pos : Pos} {es : List Expr} {k : Nat} {t : TGs} {n : Nat} (hc : X.calm = true) (h : PGs X es t)
    (hn : (assignEach es X.env).length = n) (hst : (assignEach es X.env).findIdx? (·.1) = none) : PG X (.Tuple es k pos) (gLst X.K n t) := by
  refine ⟨fun pins s σ H v u Q I r hw => ?_⟩
  obtain ⟨a, xs, e1, hq, hl, hw⟩ := hw
  subst e1
  cases r
  obtain ⟨its, rv, hp, hz⟩ := I.list hq
  have hL : s.heap.IsList a its.toArray := by
    obtain ⟨o, n, e, hc, _, hd⟩ := hp
    exact ⟨o, e, hc, n, hd⟩
  rw [assign_Tuple]
  refine wpAny_bind (wpAny_standAt ?_)
  unfold unpack
  rw [hst, show (assignEach es X.env).length = its.toArray.size from by simp [hn, ← hl, rv.length]]
  refine wpAny_bind (wpAny_holding (PySem.W.kun_itemsOf (I.ok.hd hc) hL fun h' hx => ?_))
  have I1 : Inv X pins σ H { s with heap := h' } := I.kept (t' := s.toks) fun b o e => hx b o (Nat.ne_of_lt (Heap.lt_size e)) e
  exact h.run pins _ σ H xs _ Q I1 (by simpa using rv) hw
section
variable {X : Cx} {C : Ctx} {s : Sx} {G G1 G2 G' : Gam} {pins : List Nat} {e : Expr} {mo : Mo} {fe : Sl → Res W} {pos : Pos}
def unlS (is : List Nat) : W → Sl → Option Sl
  | .lst ws, S => setAll is ws S
  | _, _ => none
def semGL (C : Ctx) (G : Gam) (is : List Nat) (m : Mo) (v : V) (σ : St) (H : Hp) (Q : St → Hp → Prop) : Prop :=
  ∃ (cs : Cells) (S : Sl) (L : Nat) (w : W) (fp : List Addr) (S' : Sl), RelC C cs S σ H ∧ Has C.n G cs ∧ C.n ≤ L ∧ cs.length = L + 1 ∧ cs[L]? = some (some ⟨v, w, m, fp⟩) ∧ unlS is w S = some S' ∧
    ∀ (σ' : St) (cs' : Cells), RelC C cs' S' σ' H → cs'.length = L → Tsame C.n L cs cs' → Has C.n ((Tg.tp is).gam m G) cs' → (∀ i, i ∉ is → σ'[i]? = σ[i]?) → Q σ' H
theorem jg_lst {es : List Expr} {is : List Nat} {k : Nat} (hc : X.calm = true) (hK : X.K = C.K) (h : NmsOk X C es is) (hGn : G.length = C.n) : PG X (.Tuple es k pos) (fun v σ H Q => semGL C G is mo v σ H Q) :=
  PG.imp (pg_lst hc h.pgs h.each.1 h.each.2) fun v σ H Q ⟨cs, S, L, w, fp, S', R, p, hL, hl, ht, e, q⟩ => by
    cases w with
    | lst ws =>
      have hs : setAll is ws S = some S' := e
      obtain ⟨a, vs, fps, rfl, r, s, rfl⟩ := vwLst (R.view L _ ht)
      have hlen : vs.length = is.length := by
        rw [r.length]
        have : ∀ (is : List Nat) (ws : List W) (S S' : Sl), setAll is ws S = some S' → ws.length = is.length := by
          intro is
          induction is with
          | nil => intro ws S S' h; cases ws with
            | nil => rfl
            | cons _ _ => simp [setAll] at h
          | cons i is ih => intro ws S S' h; cases ws with
            | nil => simp [setAll] at h
            | cons w ws => simp only [setAll] at h; simp [ih ws _ _ h]
        exact this is ws S S' hs
      refine ⟨a, vs, rfl, by rw [hK]; exact .inl (.inl s), hlen, ?_⟩
      have hdl := R.dl L _ ht
      have R1 : RelC C (cs.set L (some ⟨.ref a, .lst ws, .B mo.dep, a :: fps⟩)) S σ H := R.weak (by simp) (fun i x y q1 q2 => by
        by_cases hi : i = L
        · subst hi
          rw [List.getElem?_set_self (by omega)] at q1
          rw [ht] at q2
          cases q1; cases q2
          exact .soft (fun x hx => hx) hdl
        · rw [List.getElem?_set_ne (Ne.symm hi)] at q1
          rw [q1] at q2; cases q2
          exact .same) R.ls R.lσ fun i c hi q => ⟨rfl, rfl⟩
      have p1 : Has C.n G (cs.set L (some ⟨.ref a, .lst ws, .B mo.dep, a :: fps⟩)) := ⟨p.1, fun i m e => by
        obtain ⟨c, q1, q2⟩ := p.2 i m e
        have hi : i < C.n := Nat.lt_of_lt_of_le (List.getElem?_eq_some_iff.mp e).1 p.1
        exact ⟨c, by rw [List.getElem?_set_ne (by omega)]; exact q1, q2⟩⟩
      refine tup_go is (m := mo) (L := L) (v := .ref a) (w := .lst ws) (fp := a :: fps) h.mem R1 p1 hGn hL (by simp [hl]) (by rw [List.getElem?_set_self (by omega)]) r (fun b hb => List.mem_cons_of_mem _ hb) hs fun σ' cs' R' l' T' g' hd => ?_
      refine q σ' _ (R'.take hL (by omega)) (by rw [List.length_take]; omega) (fun i h1 h2 => ?_) (g'.pop hL (by omega)) hd
      rw [List.getElem?_take_of_lt h2, T' i h1 h2, List.getElem?_set_ne (by omega)]
    | non => simp [unlS] at e
    | bl _ => simp [unlS] at e
    | int _ => simp [unlS] at e
    | str _ => simp [unlS] at e
    | tup _ => simp [unlS] at e
    | scr _ => simp [unlS] at e
    | dct _ _ => simp [unlS] at e
    | ins _ _ _ => simp [unlS] at e
def unlK (is : List Nat) (w : W) (S : Sl) : Res Fl := match unlS is w S with
  | some S2 => .ok .nx S2
  | none => .err
def fUnl (is : List Nat) (fe : Sl → Res W) : Sl → Res Fl := fun S => (fe S).bind (unlK is)
theorem unl_core {te : TE} {g : TG} {is : List Nat} {D : Ends} {σ : St} {H : Hp} (mono : ∀ σ H Q, semE C G pins mo G1 fe σ H Q → te σ H Q) (hg : ∀ v σ H Q, semGL C G1 is mo v σ H Q → g v σ H Q) (q : semS C s G pins ((Tg.tp is).gam mo G1) (fUnl is fe) D σ H) : tAsg te g D σ H := by
  obtain ⟨cs, S, R, p, pp, o⟩ := q
  refine mono σ H _ ⟨cs, S, R, p, pp, ?_⟩
  unfold fUnl at o
  cases hf : fe S with
  | err => rw [hf] at o; exact o
  | exc x S' => rw [hf] at o; exact o σ
  | ok w S1 =>
    rw [hf] at o
    have o : OutS C cs.length cs s D ((Tg.tp is).gam mo G1) (match unlS is w S1 with | some S2 => .ok .nx S2 | none => .err) := o
    cases ht : unlS is w S1 with
    | none => rw [ht] at o; exact o.elim
    | some S2 =>
      rw [ht] at o
      intro v fp H1 cs1 R1 l1 t1 T1 g1
      exact hg v σ H1 _ ⟨cs1, S1, cs.length, w, fp, S2, R1, g1, R.ln, l1, t1, ht, fun σ' cs' R2 l2 T2 g2 _ => o σ' H1 cs' R2 l2 (T1.trans T2 (Nat.le_refl _)) g2⟩
end
section
variable {X : Cx} {C : Ctx} {D : Wd} {sc : Scope} {N : List Str} {k : Nat} {Gx : Gam} {ip : Option Nat} {fnp : Str → Bool} {s : Sx}
variable {G G1 : Gam} {pins : List Nat} {e : Expr} {es : List Expr} {mo : Mo} {fe : Sl → Res W} {pos p : Pos}
theorem Gd.asgU (g : Gd false X C D sc N k Gx ip fnp) (is : List Nat) {j : Nat} (he : JE X C G pins e mo G1 fe) (h : NmsOk X C es is) (hG : G1.length = N.length := by rfl) (hs : swapsWithSole [.Tuple es j p] e pos.line X.env = pure false := by rfl) (hw : swappedStores [.Tuple es j p] e (dumE sc) = pure none := by rfl)
    (h1 : (assignEach [.Tuple es j p] X.env).map (·.2) = [assign (.Tuple es j p) X.env] := by rfl) : JS X C s G pins (.Assign [.Tuple es j p] e pos) ((Tg.tp is).gam mo G1) (fUnl is fe) :=
  PS.imp (ps_asg he (jg_lst (g.calm rfl) g.hK h (by rw [g.en]; exact hG)) hs (by rw [swS g.eS]; exact hw) h1) fun D σ H q => unl_core (is := is) (fun _ _ _ z => z) (fun _ _ _ _ z => z) q
end
@[simp ↓] theorem fUnl_a {is : List Nat} {f : Sl → Res W} {S : Sl} : fUnl is f S = (f S).bind (unlK is) := Eq.trans rfl rfl
@[simp] theorem unlK_a {is : List Nat} {ws : List W} {S : Sl} : unlK is (.lst ws) S = optS (setAll is ws S) := by
  show (match setAll is ws S with | some S2 => Res.ok Fl.nx S2 | none => .err) = _
  cases setAll is ws S <;> rfl
end Vm

namespace Vm
open PySem PySem.Spec PyProof.Rows L2
/-! ## enumerate(zip(a, b)) -/
/-- a zip, whatever it knows of the tuple that it gave last -/
abbrev ZipW (hp : Heap) (zz pp qq : Addr) (f0 f1 : Value) : Prop :=
  hp.get? zz = some { cls := .type "zip", dict := none, slots := #[], data := .fields #[f0, f1, .bool false, .ref pp, .ref qq] }
def Known (f0 : Value) : Prop := f0 = .none ∨ ∃ T : Nat, f0 = rawInt T
section
variable {prog : Program} {w : World} {A : Around} {E : Value → Shared → Prop} {s : Shared}
theorem alive_any {a : Addr} {Q : Option Obj → Shared → Prop} (h : Q (s.heap.get? a) s) : wpAny (model prog w) A (loadIfAlive a) Q E s := fun _ _ _ => h
theorem zw_free {zz pp qq : Addr} {f0 f1 : Value} {Q : Bool → Shared → Prop} (hc : ZipW s.heap zz pp qq f0 f1) (hv : Known f0) (y1 : Q true s) (y2 : ∀ hp, ZipW hp zz pp qq f0 (.bool true) → Heap.SameBut zz s.heap hp → Q false { s with heap := hp }) :
    wpAny (model prog w) A (Builtin.SmallTypes.ownedTupleIsFree (.ref zz)) Q E s := by
  unfold Builtin.SmallTypes.ownedTupleIsFree
  refine wpAny_bind (wpAny_field hc rfl (x := f0) rfl ?_)
  rcases hv with rfl | ⟨T, rfl⟩
  · exact wpAny_pure y1
  · show wpAny _ _ (loadIfAlive (Int.toNat (T : Int)) >>= _) _ _ _
    rw [Int.toNat_natCast]
    refine wpAny_bind (alive_any ?_)
    cases hT : s.heap.get? T with
    | none => exact wpAny_pure y1
    | some o =>
      show wpAny _ _ (field (.ref zz) 1 >>= _) _ _ _
      refine wpAny_bind (wpAny_field hc rfl (x := f1) rfl ?_)
      by_cases hb : (f1 != Value.bool true) = true
      · rw [if_pos hb]
        exact wpAny_bind (wpAny_setField_rec hc (by simp) fun hp c1 sb => wpAny_pure (y2 hp c1 sb))
      · rw [if_neg hb]
        have e : f1 = .bool true := by simpa using hb
        exact wpAny_pure (y2 s.heap (by rw [← e]; exact hc) (Heap.SameBut.refl _ _))
/-- a zip of two lists ahead of its item k -/
structure ZipB (zz pp qq u v a b : Addr) (hp : Heap) (k : Nat) : Prop where
  iz : ∃ f0 f1, ZipW hp zz pp qq f0 f1 ∧ Known f0
  ip : IsPair hp pp (.ref u) (.ref v)
  iq : ∃ x y, IsPair hp qq x y
  iu : hp.IsListIter u a k
  iv : hp.IsListIter v b k
theorem ZipB.up {zz pp qq u v a b : Addr} {hp hp' : Heap} {k : Nat} (z : ZipB zz pp qq u v a b hp k) (m : ∀ c, c = zz ∨ c = pp ∨ c = qq ∨ c = u ∨ c = v → ∀ o, hp.get? c = some o → hp'.get? c = some o) : ZipB zz pp qq u v a b hp' k := by
  obtain ⟨⟨f0, f1, c, kn⟩, ip, ⟨x, y, iq⟩, iu, iv⟩ := z
  exact ⟨⟨f0, f1, m _ (.inl rfl) _ c, kn⟩, m _ (.inr (.inl rfl)) _ ip, ⟨x, y, m _ (.inr (.inr (.inl rfl))) _ iq⟩, iu.at fun o e => m _ (.inr (.inr (.inr (.inl rfl)))) o e, iv.at fun o e => m _ (.inr (.inr (.inr (.inr rfl)))) o e⟩
theorem zw_item {zz pp qq u v a b : Addr} {f0 f1 : Value} {k : Nat} {xs ys : Array Value} {x y : Value} {Q : Value → Shared → Prop} (D : ZipApart zz pp qq u v a b) (hc : ZipW s.heap zz pp qq f0 f1) (hv : Known f0)
    (ip : IsPair s.heap pp (.ref u) (.ref v)) (iq : ∃ x y, IsPair s.heap qq x y) (iu : s.heap.IsListIter u a k) (iv : s.heap.IsListIter v b k) (la : s.heap.IsList a xs) (lb : s.heap.IsList b ys) (gx : xs[k]? = some x) (gy : ys[k]? = some y)
    (hQ : ∀ hp', ZipB zz pp qq u v a b hp' (k + 1) → (∀ c o, c ≠ zz → c ≠ qq → c ≠ u → c ≠ v → s.heap.get? c = some o → hp'.get? c = some o) → IsPair hp' s.heap.objs.size x y → hp'.objs.size = s.heap.objs.size + 1 → Q (.ref s.heap.objs.size) { s with heap := hp' }) :
    wpAny (model prog w) A (Builtin.«zip.__next__» ⟨[.ref zz], []⟩) (fun fin s' => ∃ r, fin = .done (.ret r) ∧ Q r s') E s := by
  show wpAny _ _ (field (.ref zz) 2 >>= _) _ _ _
  refine wpAny_bind (wpAny_field hc rfl (x := .bool false) rfl ?_)
  show wpAny _ _ (field (.ref zz) 3 >>= _) _ _ _
  refine wpAny_bind (wpAny_field hc rfl (x := .ref pp) rfl ?_)
  refine wpAny_bind (wpAny_seqItems ip rfl ?_)
  show wpAny _ _ (Builtin.SmallTypes.ownedTupleIsFree (.ref zz) >>= _) _ _ _
  refine wpAny_bind (zw_free hc hv ?_ fun g1 c1 b1 => ?_)
  · -- the tuple is there to be used again
    obtain ⟨x0, y0, iq⟩ := iq
    simp only [if_true]
    refine wpAny_bind (wpAny_rule (wpAny_bind (wpAny_field hc rfl (x := .ref qq) rfl ?_)))
    refine wpAny_bind (wpAny_setField_rec hc (by simp) fun g1 c1 b1 => ?_)
    have c1 : ZipW g1 zz pp qq .ellipsis f1 := c1
    refine wpAny_bind ?_
    simp only [List.zipIdx_cons, List.zipIdx_nil, List.forIn_cons, List.forIn_nil]
    refine wpAny_bind (wpAny_bind (wpAny_onRaise ?_))
    show wpAny _ _ (Builtin.SmallTypes.nextOf (.ref u) >>= _) _ _ _
    refine wpAny_bind (wpAny_nextOf_list_item (iu.extBut b1.extBut D.i1z) (la.extBut b1.extBut D.l1z) gx fun g2 iu2 b2 => wpAny_pure ?_)
    have iq2 : IsPair g2 qq x0 y0 := b2.extBut _ _ D.TOi1 (b1.extBut _ _ D.TOz iq)
    refine wpAny_bind (wpAny_seqItems iq2 rfl (wpAny_bind (wpAny_updateSeq_pair iq2 fun g3 iq3 b3 => ?_)))
    have iq3 : IsPair g3 qq x y0 := iq3
    refine wpAny_bind (wpAny_letGo (wpAny_pure ?_))
    refine wpAny_bind (wpAny_bind (wpAny_onRaise ?_))
    show wpAny _ _ (Builtin.SmallTypes.nextOf (.ref v) >>= _) _ _ _
    have iv3 : g3.IsListIter v b k := ((iv.extBut b1.extBut D.i2z).extBut b2.extBut D.i12.symm).extBut b3.extBut D.TOi2.symm
    have lb3 : g3.IsList b ys := ((lb.extBut b1.extBut D.l2z).extBut b2.extBut D.l2i1).extBut b3.extBut D.l2TO
    refine wpAny_bind (wpAny_nextOf_list_item iv3 lb3 gy fun g4 iv4 b4 => wpAny_pure ?_)
    have iq4 : IsPair g4 qq x y0 := b4.extBut _ _ D.TOi2 iq3
    refine wpAny_bind (wpAny_seqItems iq4 rfl (wpAny_bind (wpAny_updateSeq_pair iq4 fun g5 iq5 b5 => ?_)))
    have iq5 : IsPair g5 qq x y := iq5
    refine wpAny_bind (wpAny_letGo (wpAny_pure (wpAny_pure ?_)))
    refine wpAny_bind (wpAny_seqItems iq5 rfl (wpAny_bind (wpAny_newTuple ?_)))
    have n5 : g5.objs.size = s.heap.objs.size := by rw [b5.1, b4.1, b3.1, b2.1, b1.1]
    have c5 : ZipW g5 zz pp qq .ellipsis f1 := b5.extBut _ _ D.TOz.symm (b4.extBut _ _ D.i2z.symm (b3.extBut _ _ D.TOz.symm (b2.extBut _ _ D.i1z.symm c1)))
    have k5 : ∀ c o, c ≠ zz → c ≠ qq → c ≠ u → c ≠ v → s.heap.get? c = some o → g5.get? c = some o := fun c o n1 n2 n3 n4 e =>
      b5.extBut _ _ n2 (b4.extBut _ _ n4 (b3.extBut _ _ n2 (b2.extBut _ _ n3 (b1.extBut _ _ n1 e))))
    have iu5 : g5.IsListIter u a (k + 1) := ((iu2.extBut b3.extBut D.TOi1.symm).extBut b4.extBut D.i12).extBut b5.extBut D.TOi1.symm
    have iv5 : g5.IsListIter v b (k + 1) := iv4.extBut b5.extBut D.TOi2.symm
    have zl : zz < g5.objs.size := Heap.lt_size c5
    show wpAny _ _ (Builtin.SmallTypes.ownedTupleHandOut (.ref zz) (.ref g5.objs.size) >>= _) _ _ _
    refine wpAny_bind ?_
    unfold Builtin.SmallTypes.ownedTupleHandOut
    have c6 : ZipW (g5.push { cls := .type "tuple", data := .seq #[x, y] }) zz pp qq .ellipsis f1 := Heap.get?_push_of_some _ c5
    refine wpAny_bind (wpAny_setField_rec c6 (by simp) fun g7 c7 b7 => ?_)
    have c7 : ZipW g7 zz pp qq (rawInt g5.objs.size) f1 := c7
    refine wpAny_setField_rec c7 (by simp) fun g8 c8 b8 => ?_
    have c8 : ZipW g8 zz pp qq (rawInt g5.objs.size) (.bool false) := c8
    have up : ∀ c o, c ≠ zz → g5.get? c = some o → g8.get? c = some o := fun c o n1 e => b8.extBut _ _ n1 (b7.extBut _ _ n1 (Heap.get?_push_of_some _ e))
    have t8 : IsPair g8 g5.objs.size x y := b8.extBut _ _ (Nat.ne_of_gt zl) (b7.extBut _ _ (Nat.ne_of_gt zl) (Heap.get?_push_size _ rfl))
    have n8 : g8.objs.size = g5.objs.size + 1 := by rw [b8.1, b7.1, Heap.size_push]
    rw [n5] at t8 n8
    refine wpAny_pure ⟨_, rfl, ?_⟩
    show Q (.ref g5.objs.size) _
    rw [n5]
    exact hQ g8 ⟨⟨_, _, c8, .inr ⟨_, rfl⟩⟩, up _ _ D.TIz (k5 _ _ D.TIz D.TITO D.TIi1 D.TIi2 ip), ⟨x, y, up _ _ D.TOz iq5⟩, iu5.at fun o e => up _ o D.i1z e, iv5.at fun o e => up _ o D.i2z e⟩ (fun c o n1 n2 n3 n4 e => up c o n1 (k5 c o n1 n2 n3 n4 e)) t8 n8
  · simp only [Bool.false_eq_true, if_false]
    obtain ⟨x0, y0, iq⟩ := iq
    refine wpAny_bind ?_
    rw [← Array.forIn_toList]
    simp only [List.forIn_cons, List.forIn_nil]
    refine wpAny_bind (wpAny_bind (wpAny_holding ?_))
    show wpAny _ _ (Builtin.SmallTypes.nextOf (.ref u) >>= _) _ _ _
    refine wpAny_bind (wpAny_nextOf_list_item (s := { s with heap := g1 }) (iu.extBut b1.extBut D.i1z) (la.extBut b1.extBut D.l1z) gx fun g2 iu2 b2 => wpAny_pure (wpAny_pure ?_))
    refine wpAny_bind (wpAny_bind (wpAny_holding ?_))
    show wpAny _ _ (Builtin.SmallTypes.nextOf (.ref v) >>= _) _ _ _
    have iv2 : g2.IsListIter v b k := (iv.extBut b1.extBut D.i2z).extBut b2.extBut D.i12.symm
    have lb2 : g2.IsList b ys := (lb.extBut b1.extBut D.l2z).extBut b2.extBut D.l2i1
    refine wpAny_bind (wpAny_nextOf_list_item (s := { s with heap := g2 }) iv2 lb2 gy fun g3 iv3 b3 => wpAny_pure (wpAny_pure (wpAny_pure ?_)))
    show wpAny _ _ (newTuple [x, y] >>= _) _ _ _
    refine wpAny_bind (wpAny_newTuple ?_)
    have n3 : g3.objs.size = s.heap.objs.size := by rw [b3.1, b2.1, b1.1]
    have k3 : ∀ c o, c ≠ zz → c ≠ u → c ≠ v → s.heap.get? c = some o → g3.get? c = some o := fun c o n1 n2 n3 e => b3.extBut _ _ n3 (b2.extBut _ _ n2 (b1.extBut _ _ n1 e))
    have c3 : ZipW g3 zz pp qq f0 (.bool true) := b3.extBut _ _ D.i2z.symm (b2.extBut _ _ D.i1z.symm c1)
    have iu3 : g3.IsListIter u a (k + 1) := iu2.extBut b3.extBut D.i12
    refine wpAny_pure ⟨_, rfl, ?_⟩
    show Q (.ref g3.objs.size) _
    have t3 : IsPair (g3.push { cls := .type "tuple", data := .seq #[x, y] }) g3.objs.size x y := Heap.get?_push_size _ rfl
    have m3 : (g3.push { cls := .type "tuple", data := .seq #[x, y] }).objs.size = g3.objs.size + 1 := Heap.size_push ..
    rw [n3] at t3 m3 ⊢
    exact hQ _ ⟨⟨_, _, Heap.get?_push_of_some _ c3, hv⟩, Heap.get?_push_of_some _ (k3 _ _ D.TIz D.TIi1 D.TIi2 ip), ⟨x0, y0, Heap.get?_push_of_some _ (k3 _ _ D.TOz D.TOi1 D.TOi2 iq)⟩, iu3.at fun o e => Heap.get?_push_of_some _ e, iv3.at fun o e => Heap.get?_push_of_some _ e⟩ (fun c o n1 n2 n3 n4 e => Heap.get?_push_of_some _ (k3 c o n1 n3 n4 e)) t3 m3
theorem zw_end {zz pp qq u v a b : Addr} {f0 f1 : Value} {k : Nat} {xs ys : Array Value} {Q : PySem.Fin → Shared → Prop} (hh : A.handled = none) (D : ZipApart zz pp qq u v a b) (hc : ZipW s.heap zz pp qq f0 f1) (hv : Known f0)
    (ip : IsPair s.heap pp (.ref u) (.ref v)) (iq : ∃ x y, IsPair s.heap qq x y) (iu : s.heap.IsListIter u a k) (iv : s.heap.IsListIter v b k) (la : s.heap.IsList a xs) (lb : s.heap.IsList b ys) (he : xs[k]? = none ∨ ys[k]? = none)
    (hE : ∀ hp' e, (∀ c o, c ≠ zz → c ≠ qq → c ≠ u → c ≠ v → s.heap.get? c = some o → hp'.get? c = some o) → (∃ o, hp'.get? e = some o ∧ o.cls = .type "StopIteration") → E (.ref e) { s with heap := hp' }) :
    wpAny (model prog w) A (Builtin.«zip.__next__» ⟨[.ref zz], []⟩) Q E s := by
  show wpAny _ _ (field (.ref zz) 2 >>= _) _ _ _
  refine wpAny_bind (wpAny_field hc rfl (x := .bool false) rfl ?_)
  show wpAny _ _ (field (.ref zz) 3 >>= _) _ _ _
  refine wpAny_bind (wpAny_field hc rfl (x := .ref pp) rfl ?_)
  refine wpAny_bind (wpAny_seqItems ip rfl ?_)
  show wpAny _ _ (Builtin.SmallTypes.ownedTupleIsFree (.ref zz) >>= _) _ _ _
  refine wpAny_bind (zw_free hc hv ?_ fun g1 c1 b1 => ?_)
  · obtain ⟨x0, y0, iq⟩ := iq
    simp only [if_true]
    refine wpAny_bind (wpAny_rule (wpAny_bind (wpAny_field hc rfl (x := .ref qq) rfl ?_)))
    refine wpAny_bind (wpAny_setField_rec hc (by simp) fun g1 c1 b1 => ?_)
    have c1 : ZipW g1 zz pp qq .ellipsis f1 := c1
    refine wpAny_bind ?_
    simp only [List.zipIdx_cons, List.zipIdx_nil, List.forIn_cons, List.forIn_nil]
    refine wpAny_bind (wpAny_bind (wpAny_onRaise ?_))
    show wpAny _ _ (Builtin.SmallTypes.nextOf (.ref u) >>= _) _ _ _
    cases gx : xs[k]? with
    | none =>
      refine wpAny_bind (wpAny_nextOf_list_end hh (iu.extBut b1.extBut D.i1z) (la.extBut b1.extBut D.l1z) gx fun g2 e b2 ⟨oe, ge, ce⟩ => ?_)
      have c2 : ZipW g2 zz pp qq .ellipsis f1 := b2 _ _ D.i1z.symm c1
      have ez : e ≠ zz := fun z => by subst z; rw [c2] at ge; cases ge; simp at ce
      exact wpAny_setField_rec c2 (by simp) fun g3 _ b3 => hE g3 e (fun c o n1 _ n3 _ z => b3.extBut _ _ n1 (b2 _ _ n3 (b1.extBut _ _ n1 z))) ⟨oe, b3.extBut _ _ ez ge, ce⟩
    | some x =>
      have gy : ys[k]? = none := by rcases he with h | h; rw [gx] at h; cases h; exact h
      refine wpAny_bind (wpAny_nextOf_list_item (iu.extBut b1.extBut D.i1z) (la.extBut b1.extBut D.l1z) gx fun g2 iu2 b2 => wpAny_pure ?_)
      have iq2 : IsPair g2 qq x0 y0 := b2.extBut _ _ D.TOi1 (b1.extBut _ _ D.TOz iq)
      refine wpAny_bind (wpAny_seqItems iq2 rfl (wpAny_bind (wpAny_updateSeq_pair iq2 fun g3 iq3 b3 => ?_)))
      refine wpAny_bind (wpAny_letGo (wpAny_pure ?_))
      refine wpAny_bind (wpAny_bind (wpAny_onRaise ?_))
      show wpAny _ _ (Builtin.SmallTypes.nextOf (.ref v) >>= _) _ _ _
      have iv3 : g3.IsListIter v b k := ((iv.extBut b1.extBut D.i2z).extBut b2.extBut D.i12.symm).extBut b3.extBut D.TOi2.symm
      have lb3 : g3.IsList b ys := ((lb.extBut b1.extBut D.l2z).extBut b2.extBut D.l2i1).extBut b3.extBut D.l2TO
      refine wpAny_bind (wpAny_nextOf_list_end hh iv3 lb3 gy fun g4 e b4 ⟨oe, ge, ce⟩ => ?_)
      have c4 : ZipW g4 zz pp qq .ellipsis f1 := b4 _ _ D.i2z.symm (b3.extBut _ _ D.TOz.symm (b2.extBut _ _ D.i1z.symm c1))
      have ez : e ≠ zz := fun z => by subst z; rw [c4] at ge; cases ge; simp at ce
      exact wpAny_setField_rec c4 (by simp) fun g5 _ b5 => hE g5 e (fun c o n1 n2 n3 n4 z => b5.extBut _ _ n1 (b4 _ _ n4 (b3.extBut _ _ n2 (b2.extBut _ _ n3 (b1.extBut _ _ n1 z))))) ⟨oe, b5.extBut _ _ ez ge, ce⟩
  · simp only [Bool.false_eq_true, if_false]
    refine wpAny_bind ?_
    rw [← Array.forIn_toList]
    simp only [List.forIn_cons, List.forIn_nil]
    refine wpAny_bind (wpAny_bind (wpAny_holding ?_))
    show wpAny _ _ (Builtin.SmallTypes.nextOf (.ref u) >>= _) _ _ _
    cases gx : xs[k]? with
    | none =>
      refine wpAny_bind (wpAny_nextOf_list_end (s := { s with heap := g1 }) hh (iu.extBut b1.extBut D.i1z) (la.extBut b1.extBut D.l1z) gx fun g2 e b2 h => ?_)
      exact hE g2 e (fun c o n1 _ n3 _ z => b2 _ _ n3 (b1.extBut _ _ n1 z)) h
    | some x =>
      have gy : ys[k]? = none := by rcases he with h | h; rw [gx] at h; cases h; exact h
      refine wpAny_bind (wpAny_nextOf_list_item (s := { s with heap := g1 }) (iu.extBut b1.extBut D.i1z) (la.extBut b1.extBut D.l1z) gx fun g2 iu2 b2 => wpAny_pure (wpAny_pure ?_))
      refine wpAny_bind (wpAny_bind (wpAny_holding ?_))
      show wpAny _ _ (Builtin.SmallTypes.nextOf (.ref v) >>= _) _ _ _
      have iv2 : g2.IsListIter v b k := (iv.extBut b1.extBut D.i2z).extBut b2.extBut D.i12.symm
      have lb2 : g2.IsList b ys := (lb.extBut b1.extBut D.l2z).extBut b2.extBut D.l2i1
      refine wpAny_bind (wpAny_nextOf_list_end (s := { s with heap := g2 }) hh iv2 lb2 gy fun g3 e b3 h => ?_)
      exact hE g3 e (fun c o n1 _ n3 n4 z => b3 _ _ n4 (b2.extBut _ _ n3 (b1.extBut _ _ n1 z))) h
theorem next_zw {zz pp qq u v a b : Addr} {k : Nat} {xs ys : Array Value} {x y : Value} {Q : Value → Shared → Prop} (D : ZipApart zz pp qq u v a b) (z : ZipB zz pp qq u v a b s.heap k)
    (la : s.heap.IsList a xs) (lb : s.heap.IsList b ys) (gx : xs[k]? = some x) (gy : ys[k]? = some y)
    (hQ : ∀ hp', ZipB zz pp qq u v a b hp' (k + 1) → (∀ c o, c ≠ zz → c ≠ qq → c ≠ u → c ≠ v → s.heap.get? c = some o → hp'.get? c = some o) → IsPair hp' s.heap.objs.size x y → hp'.objs.size = s.heap.objs.size + 1 → Q (.ref s.heap.objs.size) { s with heap := hp' }) :
    wpAny (model prog w) A (Builtin.SmallTypes.nextOf (.ref zz)) Q E s := by
  obtain ⟨⟨f0, f1, c, kn⟩, ip, iq, iu, iv⟩ := z
  have ht : s.TypeIs (.ref zz) "zip" := ⟨_, c, rfl⟩
  unfold Builtin.SmallTypes.nextOf
  exact wpAny_bind (wpAny_callSpecial?_slot (name := Str.ofString "__next__") ht F.slot_zip_next (wpAny_call_entry F.slot_zip_next ht F.entry_zip_next
    (zw_item D c kn ip iq iu iv la lb gx gy fun hp' q1 q2 q3 q4 => wpAny_pure (hQ hp' q1 q2 q3 q4)) (F.args_zip_next_1 _)))
theorem last_zw {zz pp qq u v a b : Addr} {k : Nat} {xs ys : Array Value} {Q : Value → Shared → Prop} (hh : A.handled = none) (D : ZipApart zz pp qq u v a b) (z : ZipB zz pp qq u v a b s.heap k)
    (la : s.heap.IsList a xs) (lb : s.heap.IsList b ys) (he : xs[k]? = none ∨ ys[k]? = none)
    (hE : ∀ hp' e, (∀ c o, c ≠ zz → c ≠ qq → c ≠ u → c ≠ v → s.heap.get? c = some o → hp'.get? c = some o) → (∃ o, hp'.get? e = some o ∧ o.cls = .type "StopIteration") → E (.ref e) { s with heap := hp' }) :
    wpAny (model prog w) A (Builtin.SmallTypes.nextOf (.ref zz)) Q E s := by
  obtain ⟨⟨f0, f1, c, kn⟩, ip, iq, iu, iv⟩ := z
  have ht : s.TypeIs (.ref zz) "zip" := ⟨_, c, rfl⟩
  unfold Builtin.SmallTypes.nextOf
  exact wpAny_bind (wpAny_callSpecial?_slot (name := Str.ofString "__next__") ht F.slot_zip_next (wpAny_call_entry F.slot_zip_next ht F.entry_zip_next
    (zw_end hh D c kn ip iq iu iv la lb he hE) (F.args_zip_next_1 _)))
/-- e is none of a zip's objects -/
structure Off (e zz pp qq u v a b : Addr) : Prop where
  z : e ≠ zz
  p : e ≠ pp
  q : e ≠ qq
  u : e ≠ u
  v : e ≠ v
theorem ez_item {e zz pp qq u v a b : Addr} {k : Nat} {xs ys : Array Value} {x y old : Value} {Q : Option Value → Shared → Prop} (D : ZipApart zz pp qq u v a b) (O : Off e zz pp qq u v a b) (ie : IsEnum s.heap e zz (k : Nat) old) (z : ZipB zz pp qq u v a b s.heap k)
    (la : s.heap.IsList a xs) (lb : s.heap.IsList b ys) (gx : xs[k]? = some x) (gy : ys[k]? = some y)
    (hQ : ∀ hm hp', IsEnumOut hp' e zz ((k : Int) + 1) (.ref s.heap.objs.size) (s.heap.objs.size + 1) → ZipB zz pp qq u v a b hp' (k + 1) → IsPair hm s.heap.objs.size x y → hm.objs.size = s.heap.objs.size + 1 →
      (∀ c o, c ≠ zz → c ≠ qq → c ≠ u → c ≠ v → s.heap.get? c = some o → hm.get? c = some o) → (∀ c o, c ≠ e → hm.get? c = some o → hp'.get? c = some o) →
      hp'.get? (s.heap.objs.size + 1) = some { cls := .type "tuple", data := .seq #[.int k s.toks, .ref s.heap.objs.size] } → hp'.objs.size = s.heap.objs.size + 2 → Q (some (.ref (s.heap.objs.size + 1))) { s with heap := hp', toks := s.toks + 1 }) :
    wpAny (model prog w) A (pyNext (.ref e)) Q E s := by
  obtain ⟨h0, gg, dd, tk, os⟩ := s
  have ht : Shared.TypeIs ⟨h0, gg, dd, tk, os⟩ (.ref e) "enumerate" := ⟨_, ie, rfl⟩
  unfold pyNext
  refine wpAny_bind (wpAny_attempt (wpAny_callSpecial?_slot (name := Str.ofString "__next__") ht F.slot_enumerate_next
    (wpAny_call_entry F.slot_enumerate_next ht F.entry_enumerate_next ?_ (F.args_enumerate_next_1 _))))
  show wpAny _ _ (field (.ref e) 2 >>= _) _ _ _
  refine wpAny_bind (wpAny_field ie rfl (x := .ref zz) rfl (wpAny_bind (next_zw D z la lb gx gy fun g1 z1 k1 t1 n1 => ?_)))
  have el : e < h0.objs.size := Heap.lt_size ie
  have e1 : IsEnum g1 e zz (k : Nat) old := k1 _ _ O.z O.q O.u O.v ie
  show wpAny _ _ (field (.ref e) 3 >>= _) _ _ _
  refine wpAny_bind (wpAny_field e1 rfl (x := rawInt k) rfl ?_)
  show wpAny _ _ (field (.ref e) 4 >>= _) _ _ _
  refine wpAny_bind (wpAny_field e1 rfl (x := .none) rfl ?_)
  show wpAny _ _ (PySem.mkInt k >>= _) _ _ _
  refine wpAny_bind (wpAny_mkInt ?_)
  show wpAny _ _ (setField (.ref e) 3 (rawInt ((k : Int) + 1)) >>= _) _ _ ⟨g1, gg, dd, tk + 1, os⟩
  refine wpAny_bind (wpAny_setField_rec e1 (by simp) fun g2 e2 b2 => ?_)
  have b2 : Heap.SameBut e g1 g2 := b2
  have e2 : IsEnum g2 e zz ((k : Int) + 1) old := e2
  show wpAny _ _ (setField (.ref e) 4 .none >>= _) _ _ ⟨g2, gg, dd, tk + 1, os⟩
  refine wpAny_bind (wpAny_setField_rec e2 (by simp) fun g3 e3 b3 => ?_)
  have b3 : Heap.SameBut e g2 g3 := b3
  have e3 : IsEnum g3 e zz ((k : Int) + 1) old := e3
  show wpAny _ _ (newTuple [.int k tk, .ref h0.objs.size] >>= _) _ _ ⟨g3, gg, dd, tk + 1, os⟩
  refine wpAny_bind (wpAny_newTuple ?_)
  have n3 : g3.objs.size = h0.objs.size + 1 := by rw [b3.1, b2.1]; exact n1
  have e4 : IsEnum (g3.push { cls := .type "tuple", data := .seq #[.int k tk, .ref h0.objs.size] }) e zz ((k : Int) + 1) old := Heap.get?_push_of_some _ e3
  have t4 : (g3.push { cls := .type "tuple", data := .seq #[.int k tk, .ref h0.objs.size] }).get? (h0.objs.size + 1) = some { cls := .type "tuple", data := .seq #[.int k tk, .ref h0.objs.size] } := by rw [← n3]; exact Heap.get?_push_size _ rfl
  have m4 : (g3.push { cls := .type "tuple", data := .seq #[.int k tk, .ref h0.objs.size] }).objs.size = h0.objs.size + 2 := by rw [Heap.size_push, n3]
  have k4 : ∀ c o, c ≠ e → g1.get? c = some o → (g3.push { cls := .type "tuple", data := .seq #[.int k tk, .ref h0.objs.size] }).get? c = some o := fun c o n q => Heap.get?_push_of_some _ (b3.extBut c o n (b2.extBut c o n q))
  show wpAny _ _ (Builtin.SmallTypes.ownedTupleIsFree (.ref e) >>= _) _ _ ⟨g3.push _, gg, dd, tk + 1, os⟩
  rw [n3]
  generalize g3.push { cls := .type "tuple", data := .seq #[.int k tk, .ref h0.objs.size] } = g4 at *
  clear e3 b3 e2 b2 e1
  refine wpAny_bind ?_
  unfold Builtin.SmallTypes.ownedTupleIsFree
  refine wpAny_bind (wpAny_field e4 rfl (x := .none) rfl (wpAny_pure ?_))
  simp only [if_true]
  refine wpAny_bind (wpAny_rule (wpAny_bind (wpAny_field e4 rfl (x := old) rfl ?_)))
  refine wpAny_bind (wpAny_setField_rec e4 (by simp) fun g5 e5 b5 => ?_)
  have b5 : Heap.SameBut e g4 g5 := b5
  have e5 : IsEnum g5 e zz ((k : Int) + 1) (.ref h0.objs.size) := e5
  show wpAny _ _ (Builtin.SmallTypes.ownedTupleHandOut (.ref e) (.ref (h0.objs.size + 1)) >>= _) _ _ ⟨g5, gg, dd, tk + 1, os⟩
  refine wpAny_bind ?_
  unfold Builtin.SmallTypes.ownedTupleHandOut
  refine wpAny_bind (wpAny_setField_rec e5 (by simp) fun g6 e6 b6 => ?_)
  have b6 : Heap.SameBut e g5 g6 := b6
  have e6 : IsEnumOut g6 e zz ((k : Int) + 1) (.ref h0.objs.size) (h0.objs.size + 1) := e6
  refine wpAny_setField_rec e6 (by simp) fun g7 e7 b7 => ?_
  have b7 : Heap.SameBut e g6 g7 := b7
  have e7 : IsEnumOut g7 e zz ((k : Int) + 1) (.ref h0.objs.size) (h0.objs.size + 1) := e7
  have k7 : ∀ c o, c ≠ e → g4.get? c = some o → g7.get? c = some o := fun c o n q => b7.extBut c o n (b6.extBut c o n (b5.extBut c o n q))
  refine wpAny_bind (wpAny_letGo (wpAny_pure ⟨_, rfl, ?_⟩))
  refine wpAny_pure (hQ g1 g7 e7 (z1.up fun c hc o q => k7 c o ?_ (k4 c o ?_ q)) t1 n1 k1 (fun c o n q => k7 c o n (k4 c o n q)) (k7 _ _ (Nat.ne_of_gt (Nat.lt_of_lt_of_le el (Nat.le_add_right _ _))) t4) (by rw [b7.1, b6.1, b5.1, m4]))
  · rcases hc with r | r | r | r | r
    · rw [r]; exact O.z.symm
    · rw [r]; exact O.p.symm
    · rw [r]; exact O.q.symm
    · rw [r]; exact O.u.symm
    · rw [r]; exact O.v.symm
  · rcases hc with r | r | r | r | r
    · rw [r]; exact O.z.symm
    · rw [r]; exact O.p.symm
    · rw [r]; exact O.q.symm
    · rw [r]; exact O.u.symm
    · rw [r]; exact O.v.symm
theorem ez_end {e zz pp qq u v a b : Addr} {k : Nat} {xs ys : Array Value} {old : Value} {Q : Option Value → Shared → Prop} (hh : A.handled = none) (D : ZipApart zz pp qq u v a b) (ie : IsEnum s.heap e zz (k : Nat) old) (z : ZipB zz pp qq u v a b s.heap k)
    (la : s.heap.IsList a xs) (lb : s.heap.IsList b ys) (he : xs[k]? = none ∨ ys[k]? = none)
    (hQ : ∀ hp', (∀ c o, c ≠ zz → c ≠ qq → c ≠ u → c ≠ v → s.heap.get? c = some o → hp'.get? c = some o) → Q none { s with heap := hp' }) : wpAny (model prog w) A (pyNext (.ref e)) Q E s := by
  have ht : s.TypeIs (.ref e) "enumerate" := ⟨_, ie, rfl⟩
  unfold pyNext
  refine wpAny_bind (wpAny_attempt (wpAny_callSpecial?_slot (name := Str.ofString "__next__") ht F.slot_enumerate_next
    (wpAny_call_entry F.slot_enumerate_next ht F.entry_enumerate_next ?_ (F.args_enumerate_next_1 _))))
  show wpAny _ _ (field (.ref e) 2 >>= _) _ _ _
  refine wpAny_bind (wpAny_field ie rfl (x := .ref zz) rfl (wpAny_bind (last_zw hh D z la lb he fun hp' r kk ⟨o, go, co⟩ => ?_)))
  exact wpAny_bind (wpAny_isInstance (T := "StopIteration") (b := true) ⟨o, go, co⟩ isSubtype_stop (wpAny_pure (hQ _ kk)))
end
end Vm

namespace Vm
open PySem PySem.Spec PyProof.Rows L2
theorem meets_ez (zz pp qq : Addr) :
    Meets (Builtin.«enumerate.__new__» ⟨[.type "enumerate", .ref zz], []⟩) (fun _ R s => IsZip s.heap zz pp qq .none ∧
      R (.ok (.ret (.ref s.heap.objs.size))) { s with heap := s.heap.push { cls := .type "enumerate", data := .fields #[.none, .bool false, .ref zz, rawInt 0, .none, .none] } }) :=
  .of_wp fun prog w A R s h => by
    obtain ⟨h0, gg, dd, tk, os⟩ := s
    obtain ⟨hc, h⟩ := h
    have sub := sub_enumerate
    have hz : IsZip (Shared.heap ⟨h0, gg, dd, tk, os⟩) zz pp qq .none := hc
    wp_walk using wpAny_pyIter_zip hz
    refine wpAny_stack_any fun st => wpAny_pure ?_
    split
    · rename_i c _ _ _ _ _
      cases (c == Value.type "enumerate")
      · wp_walk using wpAny_pyIter_zip hz
        exact ⟨_, rfl, h⟩
      · wp_walk using wpAny_pyIter_zip hz
        exact ⟨_, rfl, h⟩
    · wp_walk using wpAny_pyIter_zip hz
      exact ⟨_, rfl, h⟩
theorem call_ez {prog : Program} {w : World} {A : Around} {E : Value → Shared → Prop} {s : Shared} {zz pp qq : Addr} {Q : Value → Shared → Prop} (hc : IsZip s.heap zz pp qq .none)
    (h : ∀ hp', IsEnum hp' s.heap.objs.size zz 0 .none → (∀ c o, s.heap.get? c = some o → hp'.get? c = some o) → Q (.ref s.heap.objs.size) { s with heap := hp' }) : wpAny (model prog w) A (call (.type "enumerate") [.ref zz]) Q E s := by
  refine callType_new F.called_enumerate (by decide) (F.typeCall_enumerate_1 _) (F.newCall_enumerate_1 _) (fun obj => F.args_object_init_2 obj _) F.entry_enumerate_new (meets_ez zz pp qq) ⟨hc, ?_⟩
  have ie : IsEnum (s.heap.push { cls := .type "enumerate", data := .fields #[.none, .bool false, .ref zz, rawInt 0, .none, .none] }) s.heap.objs.size zz 0 .none := Heap.get?_push_size _ rfl
  exact ⟨⟨_, ie, rfl⟩, h _ ie fun c o q => Heap.get?_push_of_some _ q⟩
/-- the lists at a and b as they stand at each turn: the number and a new pair of the items, in a new pair -/
def Itez (K : PySem.W.Frag) (a b : Addr) : It where
  go := fun i H => ∃ (xs ys : List V) (x y : V), SqL K H a xs ∧ SqL K H b ys ∧ xs[i]? = some x ∧ ys[i]? = some y
  yld := fun i H v H' => ∃ T U x y, v = .ref U ∧ H T = none ∧ H U = none ∧ T ≠ U ∧ H' = upd (upd H T (.tup [x, y])) U (.tup [.int (i : Nat), .ref T]) ∧ (∀ xs, SqL K H a xs → xs[i]? = some x) ∧ ∀ ys, SqL K H b ys → ys[i]? = some y
  stop := fun i H => ∃ xs ys : List V, SqL K H a xs ∧ SqL K H b ys ∧ (xs.length ≤ i ∨ ys.length ≤ i)
theorem six {e zz pp qq u v c : Addr} (h : c ∈ [e, zz, pp, qq, u, v]) : c = e ∨ c = zz ∨ c = pp ∨ c = qq ∨ c = u ∨ c = v := by simpa using h
theorem turn_ez {P : Program} {w : World} {K : PySem.W.Frag} {elts : List Expr} {kk : Nat} {tpos : Pos} {a b e zz pp qq u v : Addr} (D : ZipApart zz pp qq u v a b) (O : Off e zz pp qq u v a b) :
    Turn P w K (.Tuple elts kk tpos) (Itez K a b) [e, zz, pp, qq, u, v] e (fun i h => (∃ old, IsEnum h e zz (i : Nat) old) ∧ ZipB zz pp qq u v a b h i) where
  mem := by simp
  obj := fun i h st c hc => by
    obtain ⟨⟨old, ie⟩, ⟨f0, f1, iz, _⟩, ip, ⟨x, y, iq⟩, ⟨o1, g1, _, d1⟩, ⟨o2, g2, _, d2⟩⟩ := st
    rcases six hc with r | r | r | r | r | r
    · rw [r]; exact ⟨_, ie, fun _ q => nomatch q⟩
    · rw [r]; exact ⟨_, iz, fun _ q => nomatch q⟩
    · rw [r]; exact ⟨_, ip, fun _ q => nomatch q⟩
    · rw [r]; exact ⟨_, iq, fun _ q => nomatch q⟩
    · rw [r]; exact ⟨o1, g1, fun _ q => by rw [d1] at q; cases q⟩
    · rw [r]; exact ⟨o2, g2, fun _ q => by rw [d2] at q; cases q⟩
  keep := fun i h h' st k => by
    obtain ⟨⟨old, ie⟩, z⟩ := st
    refine ⟨⟨old, k e (by simp) _ ie⟩, z.up fun c hc o q => k c ?_ o q⟩
    rcases hc with r | r | r | r | r <;> simp [r]
  item := by
    intro X hP hw hK hc i pins s σ H E I hf st hg
    subst hP hw hK
    obtain ⟨⟨old, ie⟩, z⟩ := st
    obtain ⟨xs, ys, x, y, sx, sy, gx, gy⟩ := hg
    obtain ⟨us, rv, p1, _⟩ := I.list sx
    obtain ⟨ws, rw_, p2, _⟩ := I.list sy
    obtain ⟨m1, h1, r1⟩ := rv.get gx
    obtain ⟨m2, h2, r2⟩ := rw_.get gy
    have el : e < s.heap.objs.size := Heap.lt_size ie
    have lt6 : ∀ c ∈ [e, zz, pp, qq, u, v], c < s.heap.objs.size := fun c hcm => by
      obtain ⟨⟨f0, f1, iz, _⟩, ip, ⟨x, y, iq⟩, ⟨o1, g1, _, d1⟩, ⟨o2, g2, _, d2⟩⟩ := z
      rcases six hcm with r | r | r | r | r | r
      · rw [r]; exact el
      · rw [r]; exact Heap.lt_size iz
      · rw [r]; exact Heap.lt_size ip
      · rw [r]; exact Heap.lt_size iq
      · rw [r]; exact Heap.lt_size g1
      · rw [r]; exact Heap.lt_size g2
    refine ez_item D O ie z p1.isList p2.isList (x := m1) (y := m2) (by simpa using h1) (by simpa using h2) fun hm hp' ie' z' t1 n1 k1 k2 t2 n2 => ?_
    refine ⟨_, rfl, wpAny_letOwnedTupleGo_enum (s := { s with heap := hp', toks := s.toks + 1 }) ie' fun hq ie2 sb => ?_⟩
    have newT : ObjOk X.prog X.w (upd H s.heap.objs.size (.tup [x, y])) hm s.heap.objs.size (.tup [x, y]) :=
      ⟨by show 2 ≤ sizeLine; decide, [m1, m2], .cons r1 (.cons r2 .nil), ⟨_, t1, rfl, _, rfl⟩⟩
    have I1 : Inv X pins σ (upd H s.heap.objs.size (.tup [x, y])) { s with heap := hm, toks := s.toks } :=
      I.turnedNew (t' := s.toks) (ch := [e, zz, pp, qq, u, v]) (fun c o hb q => k1 c o (fun r => hb (by simp [r])) (fun r => hb (by simp [r])) (fun r => hb (by simp [r])) (fun r => hb (by simp [r])) q) hf (Nat.le_refl _) newT
    have hf2 : ∀ c ∈ [e], FpOk X pins (upd H s.heap.objs.size (.tup [x, y])) c := fun c hcm => by
      have ce : c = e := by simpa using hcm
      have q := hf e (by simp)
      rw [ce]
      exact ⟨by rw [upd_ne (Nat.ne_of_lt el)]; exact q.1, q.2⟩
    have t3 : hq.get? (s.heap.objs.size + 1) = some { cls := .type "tuple", data := .seq #[.int i s.toks, .ref s.heap.objs.size] } := (sb.2 _ (Nat.ne_of_gt (Nat.lt_of_lt_of_le el (Nat.le_add_right _ _)))).trans t2
    have newU : ObjOk X.prog X.w (upd (upd H s.heap.objs.size (.tup [x, y])) (s.heap.objs.size + 1) (.tup [.int (i : Nat), .ref s.heap.objs.size])) hq (s.heap.objs.size + 1) (.tup [.int (i : Nat), .ref s.heap.objs.size]) :=
      ⟨by show 2 ≤ sizeLine; decide, [.int i s.toks, .ref s.heap.objs.size], .cons ⟨_, rfl⟩ (.cons rfl .nil), ⟨_, t3, rfl, _, rfl⟩⟩
    have I2 : Inv X pins σ (upd (upd H s.heap.objs.size (.tup [x, y])) (s.heap.objs.size + 1) (.tup [.int (i : Nat), .ref s.heap.objs.size])) { s with heap := hq, toks := s.toks + 1 } :=
      I1.turnedNew (t' := s.toks + 1) (ch := [e]) (fun c o hb q => (sb.2 c (fun r => hb (by simp [r]))).trans (k2 c o (fun r => hb (by simp [r])) q)) hf2 (by show hm.objs.size ≤ _; rw [n1]; exact Nat.le_refl _) newU
    refine ⟨.ref (s.heap.objs.size + 1), _, I2, rfl, ⟨_, _, x, y, rfl, I.hok.fresh (Nat.le_refl _), I.hok.fresh (Nat.le_add_right _ _), Nat.ne_of_lt (Nat.lt_succ_self _), rfl, fun l hl => by rw [I.list_inj hl sx]; exact gx, fun l hl => by rw [I.list_inj hl sy]; exact gy⟩, ⟨⟨.ref s.heap.objs.size, ?_⟩, z'.up fun c hc o q => (sb.2 c ?_).trans q⟩, fun c hcm => ?_⟩
    · have e1 : ((i + 1 : Nat) : Int) = (i : Int) + 1 := by omega
      rw [e1]; exact ie2
    · rcases hc with r | r | r | r | r
      · rw [r]; exact O.z.symm
      · rw [r]; exact O.p.symm
      · rw [r]; exact O.q.symm
      · rw [r]; exact O.u.symm
      · rw [r]; exact O.v.symm
    · have hlt := lt6 c hcm
      rw [upd_ne (Nat.ne_of_lt (Nat.lt_of_lt_of_le hlt (Nat.le_add_right _ _))), upd_ne (Nat.ne_of_lt hlt)]
      exact (hf c hcm).1
  done := by
    intro X hP hw hK hc i pins s σ H E I hf st hg
    subst hP hw hK
    obtain ⟨⟨old, ie⟩, z⟩ := st
    obtain ⟨xs, ys, sx, sy, hend⟩ := hg
    obtain ⟨us, rv, p1, _⟩ := I.list sx
    obtain ⟨ws, rw_, p2, _⟩ := I.list sy
    have l1 := rv.length
    have l2 := rw_.length
    have he : us.toArray[i]? = none ∨ ws.toArray[i]? = none := by
      rcases hend with q | q
      · exact .inl (by simp; omega)
      · exact .inr (by simp; omega)
    exact ez_end (I.ok.hd hc) D ie z p1.isList p2.isList he fun hp' k1 => ⟨rfl, I.turnedL (t' := s.toks) (ch := [e, zz, pp, qq, u, v]) (fun c o hb q =>
      k1 c o (fun r => hb (by simp [r])) (fun r => hb (by simp [r])) (fun r => hb (by simp [r])) (fun r => hb (by simp [r])) q) hf⟩
  self := fun A i s Q E st h => let ⟨⟨_, ie⟩, _⟩ := st; wpAny_pyIter_enum ie h
theorem ne_of (m n : Nat) (h : m < n ∨ n < m) : m ≠ n := fun r => by rw [r] at h; omega
theorem off_n (n a b : Nat) : Off (n + 5) (n + 4) (n + 2) (n + 3) n (n + 1) a b := ⟨ne_of (n + 5) (n + 4) (by omega), ne_of (n + 5) (n + 2) (by omega), ne_of (n + 5) (n + 3) (by omega), ne_of (n + 5) n (by omega), ne_of (n + 5) (n + 1) (by omega)⟩
def iEz (K : PySem.W.Frag) (ta : TA) : TI := fun σ H R => ta σ H fun vs H1 => ∃ a b xs ys, vs = [.ref a, .ref b] ∧ SqL K H1 a xs ∧ SqL K H1 b ys ∧ R (Itez K a b) H1
theorem pi_ez {X : Cx} {e1 e2 : Expr} {ta : TA} {p p2 pos pos2 tpos : Pos} {elts : List Expr} {kk : Nat} (hg : Gl X "enumerate") (hm : X.mg "enumerate" = none) (hg2 : Gl X "zip") (hm2 : X.mg "zip" = none) (ha : PA X [e1, e2] ta)
    (hs : starEach [e1, e2] X.env = (false, eval e1 X.env) :: starEach [e2] X.env) (hpl : (backTo pos2 (starEach [e2] X.env)).any (·.1) = false) :
    PI X (.Tuple elts kk tpos) (.Call (.Name "enumerate" p) [.Call (.Name "zip" p2) [e1, e2] [] pos2] [] pos) (iEz X.K ta) := by
  refine ⟨fun pins s σ H R I h => ?_⟩
  refine Call_ (ld_blt I hg hm boot_enumerate (PyProof.Rows.callWith_type1 (args_cons (thn (Q := fun x s' => ∃ n a b xs ys H1 h', x = .ref (n + 4) ∧ s'.heap = h' ∧ Inv X pins σ H1 s' ∧ IsZip h' (n + 4) (n + 2) (n + 3) .none ∧ IsPair h' (n + 2) (.ref n) (.ref (n + 1)) ∧ IsPair h' (n + 3) .none .none ∧ h'.IsListIter n a 0 ∧ h'.IsListIter (n + 1) b 0 ∧ h'.objs.size = n + 5 ∧ a < n ∧ b < n ∧
      (∀ c, n ≤ c → FpOk X pins H1 c) ∧ SqL X.K H1 a xs ∧ SqL X.K H1 b ys ∧ R (Itez X.K a b) H1) ?_ fun x s2 ⟨n, a, b, xs, ys, H1, h', ex, eh, I2, iz, ip, iq, iu, iv, n5, an, bn, fp, sx, sy, q⟩ => args_nil ?_) rfl) rfl))
  · refine Call_ (ld_blt I hg2 hm2 PyProof.Rows.boot_zip (PyProof.Rows.callWith_type1 (thn (ha.run pos2 pins s σ H _ I h) fun us s1 ⟨vs, H1, I1, r1, q1⟩ => ?_) hs hpl))
    obtain ⟨a, b, xs, ys, ex, sx, sy, q⟩ := q1
    subst ex
    obtain ⟨w1, w2, rfl, k1, k2⟩ : ∃ w1 w2, us = [w1, w2] ∧ RelV (.ref a) w1 ∧ RelV (.ref b) w2 := by
      cases r1 with
      | cons m1 m2 =>
        cases m2 with
        | cons m3 m4 =>
          cases m4
          exact ⟨_, _, rfl, m1, m3⟩
    cases k1
    cases k2
    obtain ⟨us, _, p1, _⟩ := I1.list sx
    obtain ⟨ws, _, p2, _⟩ := I1.list sy
    refine call_zip_2 p1.isList p2.isList fun h' iz ip iq iu iv n5 kp => ?_
    exact ⟨s1.heap.objs.size, a, b, xs, ys, H1, h', rfl, rfl, I1.kept (t' := s1.toks) kp, iz, ip, iq, iu, iv, n5, p1.lt, p2.lt, fun c hc => I1.fpOk hc (I1.hok.fresh hc), sx, sy, q⟩
  · subst ex
    subst eh
    refine call_ez iz fun hp' ie kp => wpAny_pyIter_enum ie ?_
    have I3 : Inv X pins σ H1 { s2 with heap := hp' } := I2.kept (t' := s2.toks) kp
    have D := PySem.W.ktu_apart n a b an bn
    have zb : ZipB (n + 4) (n + 2) (n + 3) n (n + 1) a b s2.heap 0 := ⟨⟨_, _, iz, .inl rfl⟩, ip, ⟨_, _, iq⟩, iu, iv⟩
    have off : Off s2.heap.objs.size (n + 4) (n + 2) (n + 3) n (n + 1) a b := by
      rw [n5]
      exact off_n n a b
    refine ⟨s2.heap.objs.size, [s2.heap.objs.size, n + 4, n + 2, n + 3, n, n + 1], _, _, H1, rfl, I3, turn_ez D off, ⟨⟨.none, ie⟩, zb.up fun c _ o q => kp c o q⟩, fun c hcm => fp c ?_, q⟩
    rcases six hcm with r | r | r | r | r | r
    · rw [r, n5]; exact Nat.le_add_right _ _
    · rw [r]; exact Nat.le_add_right _ _
    · rw [r]; exact Nat.le_add_right _ _
    · rw [r]; exact Nat.le_add_right _ _
    · rw [r]; exact Nat.le_refl _
    · rw [r]; exact Nat.le_add_right _ _
def itemsEZ (ws : List W) : Option (List W) := (itemsZ ws).map pairUp
theorem loci_ez {K : Kz} : LocI K (fun vs H R => ∃ a b xs ys, vs = [.ref a, .ref b] ∧ SqL K H a xs ∧ SqL K H b ys ∧ R (Itez K a b) H) itemsEZ := by
  intro vs ws fps H Rr its hv hi k
  unfold itemsEZ at hi
  rw [Option.map_eq_some_iff] at hi
  obtain ⟨its, hi, rfl⟩ := hi
  unfold itemsZ at hi
  split at hi
  · rename_i wa wb
    simp only [Option.bind_eq_some_iff, Option.map_eq_some_iff] at hi
    obtain ⟨xs, hx, ys, hy, rfl⟩ := hi
    obtain ⟨x, y, f1, f2, rfl, rfl, r1, r2⟩ := vws2 hv
    obtain ⟨a, va, rfl, sa, _⟩ := sqOf hx r1
    obtain ⟨b, vb, rfl, sb, _⟩ := sqOf hy r2
    refine ⟨a, b, va, vb, rfl, sa, sb, k _ fun H2 fp2 hv2 => ?_⟩
    obtain ⟨x2, y2, g1, g2, e2, rfl, p1, p2⟩ := vws2 hv2
    cases e2
    obtain ⟨a2, va2, e3, sa2, fa, qa, qa3⟩ := sqOf hx p1
    cases e3
    obtain ⟨b2, vb2, e3, sb2, fb, qb, qb3⟩ := sqOf hy p2
    cases e3
    refine ⟨fun i x hx => ?_, ⟨va2, vb2, sa2, sb2, ?_⟩⟩
    · unfold pairUp at hx
      rw [List.getElem?_mapIdx, Option.map_eq_some_iff] at hx
      obtain ⟨pr, hx, rfl⟩ := hx
      unfold zipUp at hx
      rw [List.getElem?_zipWith] at hx
      cases h1 : xs[i]? with
      | none => rw [h1] at hx; cases hx
      | some wx =>
        cases h2 : ys[i]? with
        | none => rw [h1, h2] at hx; cases hx
        | some wy =>
          rw [h1, h2] at hx
          cases hx
          obtain ⟨v1, u1, z1, z2, z3⟩ := qa.get h1
          obtain ⟨v2, u2, y1, y2, y3⟩ := qb.get h2
          refine ⟨⟨va2, vb2, v1, v2, sa2, sb2, z1, y1⟩, fun u H' hyl => ?_⟩
          obtain ⟨T, U, x, y, rfl, hT, hU, nTU, rfl, hx, hy⟩ := hyl
          have e1 := hx va2 sa2
          rw [z1] at e1; cases e1
          have e2 := hy vb2 sb2
          rw [y1] at e2; cases e2
          have sm : Same H2 (upd H2 T (.tup [v1, v2])) := Same.upd hT
          have sm2 : Same (upd H2 T (.tup [v1, v2])) (upd (upd H2 T (.tup [v1, v2])) U (.tup [.int (i : Nat), .ref T])) := Same.upd (by rw [upd_ne (Ne.symm nTU)]; exact hU)
          have vw1 : Vw K (upd H2 T (.tup [v1, v2])) (.tup [wx, wy]) (.ref T) (u1 ++ u2) := by
            simp only [Vw]
            refine ⟨T, _, rfl, SqT.of upd_same, ?_⟩
            simp only [Vws]
            exact ⟨_, _, u1, u2, rfl, rfl, z2.same sm, v2, [], u2, [], rfl, by simp, y2.same sm, rfl, rfl⟩
          refine ⟨sm.trans sm2, u1 ++ u2, ?_, fun a ha => ?_⟩
          · simp only [Vw]
            refine ⟨U, _, rfl, SqT.of upd_same, ?_⟩
            simp only [Vws]
            have vw2 := vw1.same sm2
            simp only [Vw] at vw2
            exact ⟨_, _, [], u1 ++ u2, rfl, rfl, mkInt, .ref T, [], u1 ++ u2, [], rfl, by simp, vw2, rfl, rfl⟩
          · rcases List.mem_append.mp ha with ha | ha
            · exact List.mem_append_left _ (qa3 a (z3 a ha))
            · exact List.mem_append_right _ (qb3 a (y3 a ha))
    · have l1 := qa.length
      have l2 := qb.length
      simp only [pairUp, List.length_mapIdx, zipUp, List.length_zipWith]
      omega
  · cases hi
section
variable {X : Cx} {C : Ctx} {D : Wd} {sc : Scope} {N : List Str} {k : Nat} {Gx : Gam} {ip : Option Nat} {fnp : Str → Bool} {ht : Bool}
variable {G G' : Gam} {pins : List Nat} {a b : Expr} {ms : List Am} {gs : Sl → Res (List W)} {p p2 pos pos2 pt : Pos}
theorem Gd.itEZ (g : Gd ht X C D sc N k Gx ip fnp) {elts : List Expr} {j : Nat} (hm : D.mg "enumerate" = none) (hm2 : D.mg "zip" = none) (ja : JA X C G pins [a, b] ms G' gs) (hl : sc.names.lookup ("enumerate" : Str) = some .globalImplicit := by rfl) (hl2 : sc.names.lookup ("zip" : Str) = some .globalImplicit := by rfl) (hp : plain ms = true := by rfl) :
    JI X C G pins (.Tuple elts j pt) (.Call (.Name "enumerate" p) [.Call (.Name "zip" p2) [a, b] [] pos2] [] pos) ms G' (fItems gs itemsEZ) :=
  ji_of (pi_ez (g.gl hl) (g.mgn hm) (g.gl hl2) (g.mgn hm2) ja.pa (star_cons (ja.tail (pos := pos2) (env := X.env)).1) (ja.tail (pos := pos2) (env := X.env)).2) (fun σ H R q => by unfold iEz; rw [g.hK]; exact q) hp loci_ez
end
end Vm

namespace Vm
open PySem PySem.Spec PyProof.Rows L2
/-! ## a logic of what readings compute -/
def WpD {α : Type} (Q : α → Sl → Prop) (E : XV → Sl → Prop) : Res α → Prop
  | .ok a S => Q a S
  | .exc x S => E x S
  | .err => False
/-- shut: no one looks into it by computing -/
structure Wp {α : Type} (Q : α → Sl → Prop) (E : XV → Sl → Prop) (r : Res α) : Prop where
  d : WpD Q E r
abbrev noE : XV → Sl → Prop := fun _ _ => False
def bindQ {α β : Type} (k : α → Sl → Res β) (Q : β → Sl → Prop) (E : XV → Sl → Prop) : α → Sl → Prop := fun a S => Wp Q E (k a S)
section
variable {α β : Type} {Q : α → Sl → Prop} {E : XV → Sl → Prop}
@[simp] theorem wp_ok {a : α} {S : Sl} : Wp Q E (.ok a S) = Q a S := propext ⟨fun h => h.d, fun h => ⟨h⟩⟩
@[simp] theorem wp_exc {x : XV} {S : Sl} : Wp Q E (.exc x S : Res α) = E x S := propext ⟨fun h => h.d, fun h => ⟨h⟩⟩
theorem wp_err (h : Wp Q E (.err : Res α)) : False := h.d
@[simp] theorem wp_errF : Wp Q E (.err : Res α) = False := propext ⟨wp_err, fun h => h.elim⟩
@[simp] theorem bindQ_a {k : α → Sl → Res β} {Q : β → Sl → Prop} {a : α} {S : Sl} : bindQ k Q E a S = Wp Q E (k a S) := Eq.trans rfl rfl
@[simp] theorem wp_bind {k : α → Sl → Res β} {Q : β → Sl → Prop} {r : Res α} : Wp Q E (r.bind k) = Wp (bindQ k Q E) E r := by
  cases r with
  | ok a S => rw [bind_ok, wp_ok]; rfl
  | exc x S => rw [bind_exc, wp_exc, wp_exc]
  | err => rw [bind_err]; simp only [wp_errF]
theorem Wp.mono {Q' : α → Sl → Prop} {E' : XV → Sl → Prop} {r : Res α} (h : Wp Q E r) (hq : ∀ a S, Q a S → Q' a S) (he : ∀ x S, E x S → E' x S) : Wp Q' E' r := by
  cases r with
  | ok a S => exact ⟨hq a S h.d⟩
  | exc x S => exact ⟨he x S h.d⟩
  | err => exact (wp_err h).elim
theorem wp_if {f g : Sl → Res α} {b : Bool} {S : Sl} (h1 : b = true → Wp Q E (f S)) (h2 : b = false → Wp Q E (g S)) : Wp Q E (ifK f g b S) := by
  cases b
  · exact h2 rfl
  · exact h1 rfl
theorem wp_ite {c : Prop} [Decidable c] {r1 r2 : Res α} (h1 : c → Wp Q E r1) (h2 : ¬ c → Wp Q E r2) : Wp Q E (if c then r1 else r2) := by
  split
  · exact h1 (by assumption)
  · exact h2 (by assumption)
theorem wp_eq {r : Res α} {a : α} {S : Sl} (h : Wp (fun b T => b = a ∧ T = S) noE r) : r = .ok a S := by
  cases r with
  | ok b T => obtain ⟨rfl, rfl⟩ := h.d; rfl
  | exc x S => exact absurd h.d (fun z => z)
  | err => exact (wp_err h).elim
theorem wp_mid {M : α → Sl → Prop} {r : Res α} (h : Wp M E r) (hk : ∀ a S, M a S → Q a S) : Wp Q E r := h.mono hk fun _ _ h => h
theorem wp_res {r : Res α} {a : α} {S : Sl} (h : r = .ok a S) (hq : Q a S) : Wp Q E r := by rw [h]; exact ⟨hq⟩
theorem wp_ex {r : Res α} (h : Wp Q noE r) : ∃ a S, r = .ok a S ∧ Q a S := by
  cases r with
  | ok b T => exact ⟨b, T, rfl, h.d⟩
  | exc x S => exact absurd h.d (fun z => z)
  | err => exact (wp_err h).elim
end
/-- the end of a def -/
def RetQ (io : Option Nat) (P : W → W → Prop) : Fl → Sl → Prop
  | .rt w, S => P w (ioOut io S)
  | .nx, S => P .non (ioOut io S)
  | _, _ => False
@[simp] theorem RetQ_rt {io : Option Nat} {P : W → W → Prop} {w : W} {S : Sl} : RetQ io P (.rt w) S = P w (ioOut io S) := Eq.trans rfl rfl
@[simp] theorem RetQ_nx {io : Option Nat} {P : W → W → Prop} {S : Sl} : RetQ io P .nx S = P .non (ioOut io S) := Eq.trans rfl rfl
@[simp] theorem ioOut_none {S : Sl} : ioOut none S = .non := Eq.trans rfl rfl
def ioR2 : Option (Option W) → W
  | some (some w) => w
  | _ => .non
@[simp] theorem ioR2_a {w : W} : ioR2 (some (some w)) = w := Eq.trans rfl rfl
@[simp] theorem ioOut_some {p : Nat} {S : Sl} : ioOut (some p) S = ioR2 S[p]? := by
  show (match S[p]? with | some (some w) => w | _ => W.non) = _
  unfold ioR2
  cases S[p]? with
  | none => rfl
  | some x => cases x <;> rfl
theorem vc_ex {n : Nat} {io : Option Nat} {f : Sl → Res Fl} {ws : List W} {P : W → W → Prop} (h : Wp (RetQ io P) noE (f (enter n ws))) : ∃ w o, vcOf n io f ws = .ok w o ∧ P w o := by
  unfold vcOf
  cases hr : f (enter n ws) with
  | ok fl S =>
    rw [hr] at h
    cases fl with
    | nx => exact ⟨_, _, rfl, h.d⟩
    | rt w => exact ⟨_, _, rfl, h.d⟩
    | bk => exact absurd h.d (fun z => z)
    | ct => exact absurd h.d (fun z => z)
  | exc x S => rw [hr] at h; exact absurd h.d (fun z => z)
  | err => rw [hr] at h; exact (wp_err h).elim
theorem vc_eq {n : Nat} {io : Option Nat} {f : Sl → Res Fl} {ws : List W} {w o : W} (h : Wp (RetQ io (fun a b => a = w ∧ b = o)) noE (f (enter n ws))) : vcOf n io f ws = .ok w o := by
  obtain ⟨a, b, e, rfl, rfl⟩ := vc_ex h
  exact e
/-- an exception out of a def -/
theorem vc_exc {n : Nat} {io : Option Nat} {f : Sl → Res Fl} {ws : List W} {P : XV → W → Prop} (h : Wp (fun _ _ => False) (fun x S => P x (ioOut io S)) (f (enter n ws))) : ∃ x o, vcOf n io f ws = .exc x o ∧ P x o := by
  unfold vcOf
  cases hr : f (enter n ws) with
  | ok fl S => rw [hr] at h; exact absurd h.d (fun z => z)
  | exc x S => rw [hr] at h; exact ⟨_, _, rfl, h.d⟩
  | err => rw [hr] at h; exact (wp_err h).elim
/-! ### loops -/
def LoopQ (is : List Nat) (I : Sl → Prop) (Q : Fl → Sl → Prop) : Fl → Sl → Prop
  | .nx, S => I (forget is S)
  | .ct, S => I (forget is S)
  | .bk, S => Q .nx (forget is S)
  | .rt w, S => Q (.rt w) S
section
variable {is : List Nat} {I : Sl → Prop} {Q : Fl → Sl → Prop} {E : XV → Sl → Prop} {S : Sl}
@[simp] theorem LoopQ_nx : LoopQ is I Q .nx S = I (forget is S) := Eq.trans rfl rfl
@[simp] theorem LoopQ_ct : LoopQ is I Q .ct S = I (forget is S) := Eq.trans rfl rfl
@[simp] theorem LoopQ_bk : LoopQ is I Q .bk S = Q .nx (forget is S) := Eq.trans rfl rfl
@[simp] theorem LoopQ_rt {w : W} : LoopQ is I Q (.rt w) S = Q (.rt w) S := Eq.trans rfl rfl
end
def bodyK {α : Type} (body : Sl → Res α) : Fl → Sl → Res α := fun _ S => body S
@[simp ↓] theorem bodyK_a {α : Type} {body : Sl → Res α} {fl : Fl} {S : Sl} : bodyK body fl S = body S := Eq.trans rfl rfl
theorem wp_for0 {α : Type} {t : Tg} {is : List Nat} {body : Sl → Res Fl} {Q : Fl → Sl → Prop} {E : XV → Sl → Prop} (emb : α → W) (I : List α → Sl → Prop) : ∀ (post pre : List α) (S : Sl), I pre (forget is S) →
    (∀ p a q, pre ++ post = p ++ a :: q → ∀ S, I p S → Wp (LoopQ is (I (p ++ [a])) Q) E ((optS (t.sem (emb a) S)).bind (bodyK body))) →
    (∀ S, I (pre ++ post) S → Q .nx S) → (∀ p S, I p S → forget is S = S) → Wp Q E (fLoop t is body (post.map emb) S)
  | [], pre, S, h0, _, he, _ => by
    simp only [List.map_nil, fLoop, wp_ok]
    rw [List.append_nil] at he
    exact he _ h0
  | a :: post, pre, S, h0, hs, he, hf => by
    have st := hs pre a post rfl _ h0
    rw [List.map_cons]
    unfold fLoop
    cases h1 : t.sem (emb a) (forget is S) with
    | none => rw [h1] at st; exact (wp_err st).elim
    | some S1 =>
      rw [h1] at st
      simp only [optS_some, bind_ok, bodyK_a] at st
      simp only [h1]
      cases h2 : body S1 with
      | err => rw [h2] at st; exact (wp_err st).elim
      | exc x S2 => rw [h2] at st; exact ⟨st.d⟩
      | ok fl S2 =>
        rw [h2] at st
        have st := st.d
        have ih : ∀ S2, I (pre ++ [a]) (forget is S2) → Wp Q E (fLoop t is body (post.map emb) S2) := fun S2 hi => wp_for0 emb I post (pre ++ [a]) S2 hi (by rw [List.append_assoc]; exact hs) (by rw [List.append_assoc]; exact he) hf
        cases fl with
        | nx => exact ih S2 st
        | ct => exact ih S2 st
        | bk => exact ⟨st⟩
        | rt w => exact ⟨st⟩
/-- for: the invariant speaks of what has been done -/
theorem wp_for {α : Type} {t : Tg} {is : List Nat} {body : Sl → Res Fl} {Q : Fl → Sl → Prop} {E : XV → Sl → Prop} {its : List W} {S : Sl} (emb : α → W) (as : List α) (hi : its = as.map emb) (I : List α → Sl → Prop) (h0 : I [] (forget is S))
    (hs : ∀ p a q, as = p ++ a :: q → ∀ S, I p S → Wp (LoopQ is (I (p ++ [a])) Q) E ((optS (t.sem (emb a) S)).bind (bodyK body)))
    (he : ∀ S, I as S → Q .nx S) (hf : ∀ p S, I p S → forget is S = S) : Wp Q E (fLoop t is body its S) := by
  subst hi
  exact wp_for0 emb I as [] S h0 hs he hf
theorem wp_nat0 {t : Tg} {is : List Nat} {body : Sl → Res Fl} {Q : Fl → Sl → Prop} {E : XV → Sl → Prop} (n : Nat) (I : Nat → Sl → Prop) : ∀ (its : List W) (k : Nat) (S : Sl), k + its.length = n → I k (forget is S) →
    (∀ i a, k ≤ i → i < n → its[i - k]? = some a → ∀ S, I i S → Wp (LoopQ is (I (i + 1)) Q) E ((optS (t.sem a S)).bind (bodyK body))) →
    (∀ S, I n S → Q .nx S) → Wp Q E (fLoop t is body its S)
  | [], k, S, hk, h0, _, he => by
    simp only [fLoop, wp_ok]
    rw [List.length_nil, Nat.add_zero] at hk
    exact he _ (hk ▸ h0)
  | a :: its, k, S, hk, h0, hs, he => by
    rw [List.length_cons] at hk
    have st := hs k a (Nat.le_refl _) (by omega) (by simp) _ h0
    unfold fLoop
    cases h1 : t.sem a (forget is S) with
    | none => rw [h1] at st; exact (wp_err st).elim
    | some S1 =>
      rw [h1] at st
      simp only [optS_some, bind_ok, bodyK_a] at st
      simp only [h1]
      cases h2 : body S1 with
      | err => rw [h2] at st; exact (wp_err st).elim
      | exc x S2 => rw [h2] at st; exact ⟨st.d⟩
      | ok fl S2 =>
        rw [h2] at st
        have st := st.d
        have ih : ∀ S2, I (k + 1) (forget is S2) → Wp Q E (fLoop t is body its S2) := fun S2 hi => wp_nat0 n I its (k + 1) S2 (by omega) hi (fun i b h1 h2 h3 => hs i b (by omega) h2 (by
          rw [show i - k = (i - (k + 1)) + 1 from by omega]; simpa using h3)) he
        cases fl with
        | nx => exact ih S2 st
        | ct => exact ih S2 st
        | bk => exact ⟨st⟩
        | rt w => exact ⟨st⟩
/-- for i in range: the invariant speaks of the number -/
theorem wp_range {t : Tg} {is : List Nat} {body : Sl → Res Fl} {Q : Fl → Sl → Prop} {E : XV → Sl → Prop} {lo : Int} {n : Nat} {S : Sl} (I : Nat → Sl → Prop) (h0 : I 0 (forget is S))
    (hs : ∀ i, i < n → ∀ S, I i S → Wp (LoopQ is (I (i + 1)) Q) E ((optS (t.sem (.int (lo + (i : Nat))) S)).bind (bodyK body)))
    (he : ∀ S, I n S → Q .nx S) : Wp Q E (fLoop t is body (upFrom lo n) S) := by
  refine wp_nat0 n I _ 0 S (by simp) h0 (fun i a _ hi ha S hI => ?_) he
  obtain ⟨rfl, _⟩ := upFrom_get ha
  exact hs _ hi S hI
/-- a comprehension, element by element -/
theorem comp_fm {α : Type} {t : Tg} {own : List Nat} {cond : Sl → Res Bool} {elt : Sl → Res W} {its acc : List W} {S : Sl} (emb : α → W) (as : List α) (hi : its = as.map emb) (p : α → Bool) (g : α → W) (T : Sl) (hS : forget own S = T)
    (h : ∀ a ∈ as, Wp (fun b S2 => b = p a ∧ (b = false → forget own S2 = T) ∧ (b = true → Wp (fun w S3 => w = g a ∧ forget own S3 = T) noE (elt S2))) noE ((optS (t.sem (emb a) T)).bind (bodyK cond))) :
    cLoop t own cond elt its acc S = .ok (.lst (acc ++ (as.filter p).map g)) T := by
  subst hi
  induction as generalizing acc S with
  | nil => simp [cLoop, hS]
  | cons a as ih =>
    have st := h a List.mem_cons_self
    rw [List.map_cons]
    unfold cLoop
    rw [hS]
    cases h1 : t.sem (emb a) T with
    | none => rw [h1] at st; exact (wp_err st).elim
    | some S1 =>
      rw [h1] at st
      simp only [optS_some, bind_ok, bodyK_a] at st
      obtain ⟨b, S2, e, rfl, h3, h4⟩ := wp_ex st
      simp only [h1, e]
      simp only [noX_ok, bind_ok]
      cases hb : p a with
      | false =>
        rw [if_neg (by decide), ih (h3 hb) (fun x hx => h x (List.mem_cons_of_mem _ hx))]
        simp [hb]
      | true =>
        obtain ⟨w, S3, e5, rfl, e6⟩ := wp_ex (h4 hb)
        rw [if_pos rfl, e5]
        simp only [noX_ok, bind_ok]
        rw [ih e6 (fun x hx => h x (List.mem_cons_of_mem _ hx))]
        simp [hb]
theorem comp_map {α : Type} {t : Tg} {own : List Nat} {elt : Sl → Res W} {its acc : List W} {S : Sl} (emb : α → W) (as : List α) (hi : its = as.map emb) (g : α → W) (T : Sl) (hS : forget own S = T)
    (h : ∀ a ∈ as, Wp (fun w S3 => w = g a ∧ forget own S3 = T) noE ((optS (t.sem (emb a) T)).bind (bodyK elt))) :
    cLoop t own (fun S => .ok true S) elt its acc S = .ok (.lst (acc ++ as.map g)) T := by
  rw [comp_fm emb as hi (fun _ => true) g T hS fun a ha => ?_]
  · rw [List.filter_eq_self.mpr fun _ _ => rfl]
  · have st := h a ha
    cases h1 : t.sem (emb a) T with
    | none => rw [h1] at st; exact (wp_err st).elim
    | some S1 =>
      rw [h1] at st
      simp only [optS_some, bind_ok, bodyK_a] at st ⊢
      exact ⟨⟨rfl, (fun z => by cases z), fun _ => st⟩⟩
/-- a comprehension that changes what is known: elements one after the other -/
theorem wp_comp {α : Type} {t : Tg} {own : List Nat} {elt : Sl → Res W} {its : List W} {S : Sl} {Q : W → Sl → Prop} (emb : α → W) (as : List α) (hi : its = as.map emb) (I : List α → List W → Sl → Prop) (h0 : I [] [] (forget own S))
    (hs : ∀ p a q, as = p ++ a :: q → ∀ acc S, I p acc S → Wp (fun w S3 => I (p ++ [a]) (acc ++ [w]) (forget own S3)) noE ((optS (t.sem (emb a) S)).bind (bodyK elt)))
    (he : ∀ acc S, I as acc S → Q (.lst acc) S) {E : XV → Sl → Prop} : Wp Q E (cLoop t own (fun S => .ok true S) elt its [] S) := by
  subst hi
  have key : ∀ (post pre : List α) (acc : List W) (S : Sl), as = pre ++ post → I pre acc (forget own S) → Wp Q E (cLoop t own (fun S => .ok true S) elt (post.map emb) acc S) := by
    intro post
    induction post with
    | nil =>
      intro pre acc S e hI
      rw [List.append_nil] at e
      subst e
      simp only [List.map_nil, cLoop, wp_ok]
      exact he _ _ hI
    | cons a post ih =>
      intro pre acc S e hI
      have st := hs pre a post e acc _ hI
      rw [List.map_cons]
      unfold cLoop
      cases h1 : t.sem (emb a) (forget own S) with
      | none => rw [h1] at st; exact (wp_err st).elim
      | some S1 =>
        rw [h1] at st
        simp only [optS_some, bind_ok, bodyK_a] at st
        obtain ⟨w, S3, e5, e6⟩ := wp_ex st
        simp only [noX_ok, bind_ok, if_true, e5]
        exact ih (pre ++ [a]) _ S3 (by rw [e, List.append_assoc]; rfl) e6
  exact key as [] [] S rfl h0
/-! ### while -/
def WhQ (is : List Nat) (body : Sl → Res Fl) (I : Nat → Sl → Prop) (n : Nat) (Q : Fl → Sl → Prop) (E : XV → Sl → Prop) : Bool → Sl → Prop
  | true, S => Wp (LoopQ is (fun S' => ∃ m, m < n ∧ I m S') Q) E (body S)
  | false, S => Q .nx (forget is S)
@[simp] theorem WhQ_t {is : List Nat} {body : Sl → Res Fl} {I : Nat → Sl → Prop} {n : Nat} {Q : Fl → Sl → Prop} {E : XV → Sl → Prop} {S : Sl} : WhQ is body I n Q E true S = Wp (LoopQ is (fun S' => ∃ m, m < n ∧ I m S') Q) E (body S) := Eq.trans rfl rfl
@[simp] theorem WhQ_f {is : List Nat} {body : Sl → Res Fl} {I : Nat → Sl → Prop} {n : Nat} {Q : Fl → Sl → Prop} {E : XV → Sl → Prop} {S : Sl} : WhQ is body I n Q E false S = Q .nx (forget is S) := Eq.trans rfl rfl
theorem wLoop_mono {c : Sl → Res Bool} {is : List Nat} {body : Sl → Res Fl} : ∀ (n m : Nat) (S : Sl), n ≤ m → wLoop c is body n S ≠ .err → wLoop c is body m S = wLoop c is body n S
  | 0, m, S, _, h => absurd rfl h
  | n + 1, 0, S, hm, h => absurd hm (by omega)
  | n + 1, m + 1, S, hm, h => by
    unfold wLoop at h ⊢
    cases hc : c (forget is S) with
    | err => rw [hc] at h; exact absurd rfl h
    | exc x S1 => rfl
    | ok b S1 =>
      rw [hc] at h
      simp only [bind_ok] at h ⊢
      cases b with
      | false => rfl
      | true =>
        simp only [if_true] at h ⊢
        cases hb : body S1 with
        | err => rfl
        | exc x S2 => rfl
        | ok fl S2 =>
          rw [hb] at h
          cases fl with
          | nx => exact wLoop_mono n m S2 (by omega) h
          | ct => exact wLoop_mono n m S2 (by omega) h
          | bk => rfl
          | rt w => rfl
theorem fWhile_of {c : Sl → Res Bool} {is : List Nat} {body : Sl → Res Fl} {n : Nat} {S : Sl} (h : wLoop c is body n S ≠ .err) : fWhile c is body S = wLoop c is body n S := by
  have hx : ∃ n, wLoop c is body n S ≠ .err := ⟨n, h⟩
  have e : fWhile c is body S = wLoop c is body (Classical.choose hx) S := by
    unfold fWhile lim
    rw [dif_pos hx]
  rw [e]
  have h2 := Classical.choose_spec hx
  rcases Nat.le_total n (Classical.choose hx) with g | g
  · exact wLoop_mono _ _ _ g h
  · exact (wLoop_mono _ _ _ g h2).symm
theorem wp_while {c : Sl → Res Bool} {is : List Nat} {body : Sl → Res Fl} {Q : Fl → Sl → Prop} {E : XV → Sl → Prop} {S : Sl} (n : Nat) (I : Nat → Sl → Prop) (h0 : I n (forget is S))
    (hs : ∀ n S, I n S → Wp (WhQ is body I n Q E) E (c S)) : Wp Q E (fWhile c is body S) := by
  have key : ∀ (n : Nat) (S : Sl), I n (forget is S) → Wp Q E (wLoop c is body (n + 1) S) := by
    intro n
    induction n using Nat.strongRecOn with
    | ind n ih =>
      intro S hI
      have st := hs n _ hI
      unfold wLoop
      cases hc : c (forget is S) with
      | err => rw [hc] at st; exact (wp_err st).elim
      | exc x S1 => rw [hc] at st; exact ⟨st.d⟩
      | ok b S1 =>
        rw [hc] at st
        simp only [bind_ok]
        cases b with
        | false => exact ⟨st.d⟩
        | true =>
          simp only [if_true]
          simp only [wp_ok, WhQ_t] at st
          cases hb : body S1 with
          | err => rw [hb] at st; exact (wp_err st).elim
          | exc x S2 => rw [hb] at st; exact ⟨st.d⟩
          | ok fl S2 =>
            rw [hb] at st
            have st := st.d
            have go : (∃ m, m < n ∧ I m (forget is S2)) → Wp Q E (wLoop c is body n S2) := by
              rintro ⟨m, hm, hI⟩
              have h1 := ih m hm S2 hI
              have h2 : wLoop c is body (m + 1) S2 ≠ .err := fun z => by rw [z] at h1; exact wp_err h1
              rw [wLoop_mono (m + 1) n S2 (by omega) h2]
              exact h1
            cases fl with
            | nx => exact go st
            | ct => exact go st
            | bk => exact ⟨st⟩
            | rt w => exact ⟨st⟩
  have h := key n S h0
  have h2 : wLoop c is body (n + 1) S ≠ .err := fun z => by rw [z] at h; exact wp_err h
  rw [fWhile_of h2]
  exact h
end Vm

namespace Vm
open PySem PySem.Spec PyProof.Rows L2
/-! ## raise and try in the logic -/
@[simp] theorem ofC_x {x : XV} {io : W} {S : Sl} : ofC (.exc x io) S = .exc x S := Eq.trans rfl rfl
@[simp] theorem ofIo_x {k : Nat} {x : XV} {io : W} {S : Sl} : ofIo k (.exc x io) S = .exc x (S.set k (some io)) := Eq.trans rfl rfl
def hndK (t : SubT) (h : Cl) (r : List Cl) (x : XV) (S : Sl) : Option Bool → Res Fl
  | none => .err
  | some false => fHnd t r x S
  | some true => match h.f (h.put x S) with
    | .ok fl S2 => .ok fl (h.off S2)
    | .exc _ _ => .err
    | .err => .err
def offQ (h : Cl) (Q : Fl → Sl → Prop) : Fl → Sl → Prop := fun fl S => Q fl (h.off S)
def raiseK (c : Str) (ns : List Str) : List W → Sl → Res Fl := fun ws S1 => if W.pure.all ws = true ∧ ws.length = ns.length then .exc ⟨c, ns, ws⟩ S1 else .err
section
variable {t : SubT} {h : Cl} {r hs : List Cl} {x : XV} {S : Sl} {Q : Fl → Sl → Prop} {E : XV → Sl → Prop} {c : Str} {ns : List Str} {f fb : Sl → Res Fl} {i : Nat}
@[simp ↓] theorem fRaise_a {g : Sl → Res (List W)} : fRaise c ns g S = (g S).bind (raiseK c ns) := Eq.trans rfl rfl
@[simp] theorem raiseK_a {ws : List W} (h : W.pure.all ws = true ∧ ws.length = ns.length) : raiseK c ns ws S = .exc ⟨c, ns, ws⟩ S := if_pos h
@[simp] theorem fHnd_nil : fHnd t [] x S = .exc x S := Eq.trans rfl rfl
@[simp ↓] theorem fHnd_cons : fHnd t (h :: r) x S = hndK t h r x S (subL t x.c h.c) := by
  unfold fHnd hndK
  cases subL t x.c h.c with
  | none => rfl
  | some b => cases b <;> rfl
@[simp] theorem hndK_f : hndK t h r x S (some false) = fHnd t r x S := Eq.trans rfl rfl
@[simp] theorem hndK_t : Wp Q E (hndK t h r x S (some true)) = Wp (offQ h Q) noE (h.f (h.put x S)) := by
  show Wp Q E (match h.f (h.put x S) with | .ok fl S2 => .ok fl (h.off S2) | .exc _ _ => .err | .err => .err) = _
  cases h.f (h.put x S) with
  | ok fl S2 => simp only [wp_ok]; rfl
  | exc y S2 => simp only [wp_exc, wp_errF]
  | err => simp only [wp_errF]
@[simp] theorem offQ_0 {fl : Fl} : offQ ⟨c, none, f⟩ Q fl S = Q fl S := Eq.trans rfl rfl
@[simp] theorem offQ_1 {fl : Fl} : offQ ⟨c, some i, f⟩ Q fl S = Q fl (S.set i none) := Eq.trans rfl rfl
@[simp] theorem put_0 : Cl.put ⟨c, none, f⟩ x S = S := Eq.trans rfl rfl
@[simp] theorem put_1 : Cl.put ⟨c, some i, f⟩ x S = S.set i (some (.ins x.c x.ns x.as)) := Eq.trans rfl rfl
@[simp ↓] theorem wp_fTry : Wp Q E (fTry t fb hs S) = Wp Q (fun x S' => Wp Q E (fHnd t hs x S')) (fb S) := by
  unfold fTry
  cases hb : fb S with
  | ok fl S' => simp only [wp_ok]
  | exc y S' => simp only [wp_exc]
  | err => simp only [wp_errF]
end
theorem semFld_a {t : FldT} {n c : Str} {ns : List Str} {ws : List W} {u : W} (h : t.contains (c, n) = true) (h2 : (ns.zip ws).lookup n = some u) (h3 : u.pure = true) : semFld t n [.ins c ns ws] = some u := by
  show (if t.contains (c, n) = true then match (ns.zip ws).lookup n with | some u => if u.pure = true then some u else none | none => none else none) = some u
  rw [if_pos h, h2]
  exact if_pos h3
/-- a def that raises x -/
theorem vc_raise {n : Nat} {io : Option Nat} {f : Sl → Res Fl} {ws : List W} {x : XV} {o : W} (h : Wp (fun _ _ => False) (fun y S => y = x ∧ ioOut io S = o) (f (enter n ws))) : vcOf n io f ws = .exc x o := by
  obtain ⟨y, o', e, rfl, rfl⟩ := vc_exc (P := fun y o' => y = x ∧ o' = o) h
  exact e
end Vm

namespace Vm
open PySem PySem.Spec PyProof.Rows L2
def top (i : Nat) : Stmt := PySem.Challenge.pw_frameseams_k43_sums_folded.main.body.getD i (.Pass ⟨0, 0, 0, 0⟩)
abbrev s__law_bag : Stmt := top 19
abbrev s__law_stirred : Stmt := top 20
abbrev s__law_draw : Stmt := top 21
abbrev s__law_divisor : Stmt := top 24
abbrev s__law_numbers : Stmt := top 25
abbrev s__law_sums : Stmt := top 23
abbrev s_is_integer : Stmt := top 5
abbrev s_are_integers : Stmt := top 6
abbrev s_need_sums : Stmt := top 13
abbrev s_sums_at : Stmt := top 8
abbrev s_folded : Stmt := top 14
abbrev s__law_alike : Stmt := top 22
abbrev s_common_divisor : Stmt := top 10
abbrev s_first_difference : Stmt := top 15
abbrev s_agree : Stmt := top 16
abbrev s_first_clash : Stmt := top 17
abbrev s__law_right : Stmt := top 28
abbrev s_law : Stmt := top 29
/-- what the top has written -/
structure Txt (D : Wd) : Prop where
  d__law_bag : Dfn D "_law_bag" s__law_bag
  d__law_stirred : Dfn D "_law_stirred" s__law_stirred
  d__law_draw : Dfn D "_law_draw" s__law_draw
  d__law_divisor : Dfn D "_law_divisor" s__law_divisor
  d__law_numbers : Dfn D "_law_numbers" s__law_numbers
  d__law_sums : Dfn D "_law_sums" s__law_sums
  d_is_integer : Dfn D "is_integer" s_is_integer
  d_are_integers : Dfn D "are_integers" s_are_integers
  d_need_sums : Dfn D "need_sums" s_need_sums
  d_sums_at : Dfn D "sums_at" s_sums_at
  d_folded : Dfn D "folded" s_folded
  d__law_alike : Dfn D "_law_alike" s__law_alike
  d_common_divisor : Dfn D "common_divisor" s_common_divisor
  d_first_difference : Dfn D "first_difference" s_first_difference
  d_agree : Dfn D "agree" s_agree
  d_first_clash : Dfn D "first_clash" s_first_clash
  d__law_right : Dfn D "_law_right" s__law_right
  d_law : Dfn D "law" s_law
  b_int : D.mg "int" = none
  b_abs : D.mg "abs" = none
  b_range : D.mg "range" = none
  b_len : D.mg "len" = none
  b_isinstance : D.mg "isinstance" = none
  b_list : D.mg "list" = none
  b_all : D.mg "all" = none
  b_bool : D.mg "bool" = none
  b_sum : D.mg "sum" = none
  b_tuple : D.mg "tuple" = none
  b_str : D.mg "str" = none
  b_enumerate : D.mg "enumerate" = none
  b_zip : D.mg "zip" = none
  c_MOST_SUMS : ∃ t, D.mg "MOST_SUMS" = some (.int 200 t)
theorem sc__law_bag : FnScope ["script", "stir", "cell"] ["script"] (defScope s__law_bag) := ⟨rfl, rfl, rfl, by decide +kernel, rfl, by decide +kernel, by decide +kernel⟩
noncomputable def f__law_bag : Sl → Res Fl := (fSeq (fAsg (.nm 1) (fInt1 143)) (fSeq (fFor (fItems (fCons (fSlice (cutL W.pure.all) (fName 0) (fun S => .ok none S) (fPart (fInt1 63))) fNil) itemsL) (.nm 2) [2] (fSeq (fAsg (.nm 1) (fPrim (fCons (fPrim (fCons (fPrim (fCons (fPrim (fCons (fPrim (fCons (fInt (fName 1)) (fCons (fInt1 48271) fNil)) semMul) (fCons (fPrim (fCons (fPrim (fCons (fInt (fName 2)) fNil) semIntC) (fCons (fInt1 2147483629) fNil)) semMod) fNil)) semAdd) (fCons (fInt1 1) fNil)) semAdd) fNil) semIntC) (fCons (fInt1 2147483647) fNil)) semMod)) fSkip)) (fSeq (fRet (fPrim (fCons (fComp (fItems (fCons (fSlice (cutL W.pure.all) (fName 0) (fun S => .ok none S) (fPart (fInt1 63))) fNil) itemsL) (.nm 2) [2] (fun S => .ok true S) (fPrim (fCons (fPrim (fCons (fPrim (fCons (fInt (fName 2)) fNil) semAbs) fNil) semIntC) (fCons (fPrim (fCons (fPrim (fCons (fInt1 10) (fCons (fInt1 60) fNil)) semPow) (fCons (fInt1 10) fNil)) semPow) fNil)) semMod)) (fCons (fInt1 0) (fCons (fInt1 0) (fCons (fInt (fName 1)) (fCons (fInt1 0) fNil))))) (semLst anyW))) fSkip)))
noncomputable def v__law_bag : List W → CRes := vcOf 3 none f__law_bag
theorem ok__law_bag {D : Wd} (T : Txt D) : Cal false D 1 "_law_bag" s__law_bag ["script"] none true 1 v__law_bag :=
  cal_of T.d__law_bag sc__law_bag (fun _ _ _ _ _ _ us h => match us, h with | [_], _ => rfl) (fun g po tt => by
    show JB _ _ _ _ _ _ _ f__law_bag
    exact (jbc [some (.B []), some .O, none] (g.asg 1 j_int) (jbc [some (.B []), some .O, none] (g.for po [2] [some (.B []), some .O, none] (g.itL (jc (g.slF (g.nm (m := (.B [])) 0) jp_none (jp_some j_int)) jn)) (g.tgN 2) (jbc [some (.B []), some .O, some (.B [])] (g.asg 1 (g.mod (jc (g.int T.b_int (jc (g.add (jc (g.add (jc (g.mul (jc (g.ni 1) (jc j_int jn))) (jc (g.mod (jc (g.int T.b_int (jc (g.ni 2) jn)) (jc j_int jn))) jn))) (jc j_int jn))) jn)) (jc j_int jn)))) jb_nil)) (jbc [some (.B []), none, none] (j_ret (j_lstO (jc (je_comp (g.comp (Ga := []) [("cell", 2)] [some (.B []), some .O, none] (g.itL (jc (g.slF (g.nm (m := (.B [])) 0) jp_none (jp_some j_int)) jn)) (fun g' => (g'.tgN 2)) (fun g' => jts_nil) (fun g' => (g'.mod (jc (g'.int T.b_int (jc (g'.abs T.b_abs (jc (g'.ni 2) jn)) jn)) (jc (g'.pow (jc (g'.pow (jc j_int (jc j_int jn))) (jc j_int jn))) jn)))))) (jc j_int (jc j_int (jc (g.ni 1) (jc j_int jn))))))) jb_nil))))
theorem sc__law_stirred : FnScope ["bag", "wide", "found", "k", "mixed"] ["bag", "wide"] (defScope s__law_stirred) := ⟨rfl, rfl, rfl, by decide +kernel, rfl, by decide +kernel, by decide +kernel⟩
noncomputable def f__law_stirred : Sl → Res Fl := (fSeq (fAsg (.nm 2) (fInt1 0)) (fSeq (fFor (fItems (fCons (fPrim (fCons (fInt1 1) (fCons (fPrim (fCons (fPrim (fCons (fInt (fName 1)) fNil) semBits) (fCons (fInt1 27) fNil)) semFdv) fNil)) semAdd) fNil) itemsR1) (.nm 3) [3, 4] (fSeq (fSetIx 0 (fPrim (fCons (fInt (fPrim (fCons (fName 0) (fCons (fInt1 4) fNil)) semIx)) (fCons (fInt1 1) fNil)) semAdd) (fInt1 4)) (fSeq (fAsg (.nm 4) (fPrim (fCons (fPrim (fCons (fPrim (fCons (fPrim (fCons (fInt (fPrim (fCons (fName 0) (fCons (fInt1 3) fNil)) semIx)) (fCons (fInt1 3) fNil)) semPow) (fCons (fPrim (fCons (fInt1 69621) (fCons (fInt (fPrim (fCons (fName 0) (fCons (fInt1 3) fNil)) semIx)) fNil)) semMul) fNil)) semAdd) (fCons (fPrim (fCons (fInt1 1031) (fCons (fInt (fPrim (fCons (fName 0) (fCons (fInt1 4) fNil)) semIx)) fNil)) semMul) fNil)) semAdd) (fCons (fInt1 1) fNil)) semAdd)) (fSeq (fSetIx 0 (fPrim (fCons (fPrim (fCons (fInt (fName 4)) fNil) semIntC) (fCons (fInt1 2147483647) fNil)) semMod) (fInt1 3)) (fSeq (fAsg (.nm 2) (fPrim (fCons (fPrim (fCons (fInt (fName 2)) (fCons (fInt1 134217728) fNil)) semMul) (fCons (fPrim (fCons (fInt (fPrim (fCons (fName 0) (fCons (fInt1 3) fNil)) semIx)) (fCons (fInt1 16) fNil)) semFdv) fNil)) semAdd)) fSkip))))) (fSeq (fRet (fPrim (fCons (fPrim (fCons (fInt (fName 2)) fNil) semIntC) (fCons (fInt (fName 1)) fNil)) semMod)) fSkip)))
noncomputable def v__law_stirred : List W → CRes := vcOf 5 (some 0) f__law_stirred
theorem ok__law_stirred {D : Wd} (T : Txt D) : Cal false D 1 "_law_stirred" s__law_stirred ["bag", "wide"] (some 0) true 2 v__law_stirred :=
  cal_of T.d__law_stirred sc__law_stirred (fun _ _ _ _ _ _ us h => match us, h with | [_, _], _ => rfl) (fun g po tt => by
    show JB _ _ _ _ _ _ _ f__law_stirred
    exact (jbc [some .O, some (.B []), some .O, none, none] (g.asg 2 j_int) (jbc [some .O, some (.B []), some .O, none, none] (g.for po [3, 4] [some .O, some (.B []), some .O, none, none] (g.it1 T.b_range (jc (g.add (jc j_int (jc (g.fdv (jc (g.bits (jc (g.ni 1) jn)) (jc j_int jn))) jn))) jn)) (g.tgN 3) (jbc [some .O, some (.B []), some .O, some (.B []), none] (g.setix 0 (g.add (jc (je_int (g.ix (jc (g.nm (m := .O) 0) (jc j_int jn)))) (jc j_int jn))) j_int) (jbc [some .O, some (.B []), some .O, some (.B []), some .O] (g.asg 4 (g.add (jc (g.add (jc (g.add (jc (g.pow (jc (je_int (g.ix (jc (g.nm (m := .O) 0) (jc j_int jn)))) (jc j_int jn))) (jc (g.mul (jc j_int (jc (je_int (g.ix (jc (g.nm (m := .O) 0) (jc j_int jn)))) jn))) jn))) (jc (g.mul (jc j_int (jc (je_int (g.ix (jc (g.nm (m := .O) 0) (jc j_int jn)))) jn))) jn))) (jc j_int jn)))) (jbc [some .O, some (.B []), some .O, some (.B []), some .O] (g.setix 0 (g.mod (jc (g.int T.b_int (jc (g.ni 4) jn)) (jc j_int jn))) j_int) (jbc [some .O, some (.B []), some .O, some (.B []), some .O] (g.asg 2 (g.add (jc (g.mul (jc (g.ni 2) (jc j_int jn))) (jc (g.fdv (jc (je_int (g.ix (jc (g.nm (m := .O) 0) (jc j_int jn)))) (jc j_int jn))) jn)))) jb_nil))))) (jbc [some .O, some (.B []), none, none, none] (j_ret (g.mod (jc (g.int T.b_int (jc (g.ni 2) jn)) (jc (g.ni 1) jn)))) jb_nil))))
theorem sc__law_draw : FnScope ["bag", "wide", "found"] ["bag", "wide"] (defScope s__law_draw) := ⟨rfl, rfl, rfl, by decide +kernel, rfl, by decide +kernel, by decide +kernel⟩
noncomputable def f__law_draw : Sl → Res Fl := (fSeq (fIf (fAnd (fBl (fPrim (fCons (fInt (fPrim (fCons (fName 0) (fCons (fInt1 2) fNil)) semIx)) (fCons (fInt1 0) fNil)) (semEq false))) (fBl (fPrim (fCons (fInt (fPrim (fCons (fName 0) (fCons (fInt1 1) fNil)) semIx)) (fCons (fPrim (fCons (fPrim (fCons (fName 0) (fCons (fInt1 0) fNil)) semIx) fNil) semLen) fNil)) semLt))) (fSeq (fSetIx 0 (fInt (fPrim (fCons (fPrim (fCons (fName 0) (fCons (fInt1 0) fNil)) semIx) (fCons (fInt (fPrim (fCons (fName 0) (fCons (fInt1 1) fNil)) semIx)) fNil)) semIx)) (fInt1 2)) (fSeq (fSetIx 0 (fPrim (fCons (fInt (fPrim (fCons (fName 0) (fCons (fInt1 1) fNil)) semIx)) (fCons (fInt1 1) fNil)) semAdd) (fInt1 1)) fSkip)) (fSeq (fIf (fBl (fPrim (fCons (fInt (fPrim (fCons (fName 0) (fCons (fInt1 2) fNil)) semIx)) (fCons (fInt1 0) fNil)) (semEq false))) (fSeq (fRet (fCall v__law_stirred (some (0, 0)) (fConsIo (fCons (fInt (fName 1)) fNil)))) fSkip) fSkip) fSkip)) (fSeq (fAsg (.nm 2) (fPrim (fCons (fPrim (fCons (fInt (fPrim (fCons (fName 0) (fCons (fInt1 2) fNil)) semIx)) fNil) semIntC) (fCons (fInt (fName 1)) fNil)) semMod)) (fSeq (fSetIx 0 (fPrim (fCons (fInt (fPrim (fCons (fName 0) (fCons (fInt1 2) fNil)) semIx)) (fCons (fInt (fName 1)) fNil)) semFdv) (fInt1 2)) (fSeq (fRet (fInt (fName 2))) fSkip))))
noncomputable def v__law_draw : List W → CRes := vcOf 3 (some 0) f__law_draw
theorem ok__law_draw {D : Wd} (T : Txt D) : Cal false D 2 "_law_draw" s__law_draw ["bag", "wide"] (some 0) true 2 v__law_draw :=
  cal_of T.d__law_draw sc__law_draw (fun _ _ _ _ _ _ us h => match us, h with | [_, _], _ => rfl) (fun g po tt => by
    show JB _ _ _ _ _ _ _ f__law_draw
    exact (jbc [some .O, some (.B []), none] (js_if (G' := [some .O, some (.B []), none]) (JW.jt (jw_and (g.eqT (jc (je_int (g.ix (jc (g.nm (m := .O) 0) (jc j_int jn)))) (jc j_int jn))) (jw_and1 (g.ltT (jc (je_int (g.ix (jc (g.nm (m := .O) 0) (jc j_int jn)))) (jc (g.len T.b_len (jc (g.ix (jc (g.nm (m := .O) 0) (jc j_int jn))) jn)) jn)))) rfl)) (jbc [some .O, some (.B []), none] (g.setix 0 (je_int (g.ix (jc (g.ix (jc (g.nm (m := .O) 0) (jc j_int jn))) (jc (je_int (g.ix (jc (g.nm (m := .O) 0) (jc j_int jn)))) jn)))) j_int) (jbc [some .O, some (.B []), none] (g.setix 0 (g.add (jc (je_int (g.ix (jc (g.nm (m := .O) 0) (jc j_int jn)))) (jc j_int jn))) j_int) jb_nil)) (jbc [some .O, some (.B []), none] (js_if (G' := [some .O, some (.B []), none]) (g.eqT (jc (je_int (g.ix (jc (g.nm (m := .O) 0) (jc j_int jn)))) (jc j_int jn))) (jbc [some .O, some (.B []), none] (j_ret (g.cl (some (0, 0)) (ok__law_stirred T) (g.io 0 (jc (g.ni 1) jn)))) jb_nil) jb_nil) jb_nil)) (jbc [some .O, some (.B []), some .O] (g.asg 2 (g.mod (jc (g.int T.b_int (jc (je_int (g.ix (jc (g.nm (m := .O) 0) (jc j_int jn)))) jn)) (jc (g.ni 1) jn)))) (jbc [some .O, some (.B []), some .O] (g.setix 0 (g.fdv (jc (je_int (g.ix (jc (g.nm (m := .O) 0) (jc j_int jn)))) (jc (g.ni 1) jn))) j_int) (jbc [some .O, some (.B []), none] (j_ret (g.ni 2)) jb_nil)))))
theorem sc__law_divisor : FnScope ["one", "two"] ["one", "two"] (defScope s__law_divisor) := ⟨rfl, rfl, rfl, by decide +kernel, rfl, by decide +kernel, by decide +kernel⟩
noncomputable def f__law_divisor : Sl → Res Fl := (fSeq (fWhile (fBl (fPrim (fCons (fInt (fName 1)) (fCons (fInt1 0) fNil)) (semEq true))) [] (fSeq (fPar [0, 1] (fCons (fInt (fName 1)) (fCons (fPrim (fCons (fPrim (fCons (fInt (fName 0)) fNil) semIntC) (fCons (fInt (fName 1)) fNil)) semMod) fNil))) fSkip)) (fSeq (fRet (fInt (fName 0))) fSkip))
noncomputable def v__law_divisor : List W → CRes := vcOf 2 none f__law_divisor
theorem ok__law_divisor {D : Wd} (T : Txt D) : Cal false D 1 "_law_divisor" s__law_divisor ["one", "two"] none true 2 v__law_divisor :=
  cal_of T.d__law_divisor sc__law_divisor (fun _ _ _ _ _ _ us h => match us, h with | [_, _], _ => rfl) (fun g po tt => by
    show JB _ _ _ _ _ _ _ f__law_divisor
    exact (jbc [some (.B []), some (.B [])] (g.whl po [] [some (.B []), some (.B [])] (g.neT (jc (g.ni 1) (jc j_int jn))) (g.soft 1 [] (g.soft 0 [] (jbc [some .O, some .O] (g.par2 0 1 (jc (g.ni 1) (jc (g.mod (jc (g.int T.b_int (jc (g.ni 0) jn)) (jc (g.ni 1) jn))) jn))) jb_nil)))) (jbc [some (.B []), some (.B [])] (j_ret (g.ni 0)) jb_nil)))
theorem sc__law_numbers : FnScope ["bag", "many", "far", "found", "k", "one"] ["bag", "many", "far"] (defScope s__law_numbers) := ⟨rfl, rfl, rfl, by decide +kernel, rfl, by decide +kernel, by decide +kernel⟩
noncomputable def f__law_numbers : Sl → Res Fl := (fSeq (fAsg (.nm 3) (fPrim fNil (semLst W.pure.all))) (fSeq (fFor (fItems (fCons (fInt (fName 1)) fNil) itemsR1) (.nm 4) [4, 5] (fSeq (fAsg (.nm 5) (fCall v__law_draw (some (0, 0)) (fConsIo (fCons (fInt (fPrim (fCons (fPrim (fCons (fInt1 2) (fCons (fInt1 9) (fCons (fInt (fName 2)) fNil))) (semLst W.pure.all)) (fCons (fCall v__law_draw (some (0, 0)) (fConsIo (fCons (fInt1 3) fNil))) fNil)) semIx)) fNil)))) (fSeq (fApp 3 (fInt (fPrim (fCons (fPrim (fCons (fInt (fName 5)) (fCons (fPrim (fCons (fInt1 0) (fCons (fInt (fName 5)) fNil)) semSub) fNil)) (semLst W.pure.all)) (fCons (fCall v__law_draw (some (0, 0)) (fConsIo (fCons (fInt1 2) fNil))) fNil)) semIx))) fSkip))) (fSeq (fRet (fMov 3)) fSkip)))
noncomputable def v__law_numbers : List W → CRes := vcOf 6 (some 0) f__law_numbers
theorem ok__law_numbers {D : Wd} (T : Txt D) : Cal false D 3 "_law_numbers" s__law_numbers ["bag", "many", "far"] (some 0) true 3 v__law_numbers :=
  cal_of T.d__law_numbers sc__law_numbers (fun _ _ _ _ _ _ us h => match us, h with | [_, _, _], _ => rfl) (fun g po tt => by
    show JB _ _ _ _ _ _ _ f__law_numbers
    exact (jbc [some .O, some (.B []), some (.B []), some .O, none, none] (g.asg 3 (j_lstF jn)) (jbc [some .O, some (.B []), some (.B []), some .O, none, none] (g.for po [4, 5] [some .O, some (.B []), some (.B []), some .O, none, none] (g.it1 T.b_range (jc (g.ni 1) jn)) (g.tgN 4) (jbc [some .O, some (.B []), some (.B []), some .O, some (.B []), some .O] (g.asg 5 (g.cl (some (0, 0)) (ok__law_draw T) (g.io 0 (jc (je_int (g.ix (jc (j_lstF (jc j_int (jc j_int (jc (g.ni 2) jn)))) (jc (g.cl (some (0, 0)) (ok__law_draw T) (g.io 0 (jc j_int jn))) jn)))) jn)))) (jbc [some .O, some (.B []), some (.B []), some .O, some (.B []), some .O] (g.app 3 (je_int (g.ix (jc (j_lstF (jc (g.ni 5) (jc (g.sub (jc j_int (jc (g.ni 5) jn))) jn))) (jc (g.cl (some (0, 0)) (ok__law_draw T) (g.io 0 (jc j_int jn))) jn))))) jb_nil))) (jbc [some .O, some (.B []), some (.B []), none, none, none] (j_ret (g.mv 3)) jb_nil))))
theorem sc__law_sums : FnScope ["numbers", "unit", "found", "k"] ["numbers", "unit"] (defScope s__law_sums) := ⟨rfl, rfl, rfl, by decide +kernel, rfl, by decide +kernel, by decide +kernel⟩
noncomputable def f__law_sums : Sl → Res Fl := (fSeq (fAsg (.nm 2) (fPrim (fCons (fPrim (fCons (fInt1 0) fNil) (semLst W.pure.all)) (fCons (fInt (fName 1)) fNil)) semRep)) (fSeq (fFor (fItems (fCons (fPrim (fCons (fName 0) fNil) semLen) fNil) itemsR1) (.nm 3) [3] (fSeq (fSetIx 2 (fPrim (fCons (fInt (fPrim (fCons (fName 2) (fCons (fPrim (fCons (fPrim (fCons (fInt (fName 3)) fNil) semIntC) (fCons (fInt (fName 1)) fNil)) semMod) fNil)) semIx)) (fCons (fInt (fPrim (fCons (fName 0) (fCons (fInt (fName 3)) fNil)) semIx)) fNil)) semAdd) (fPrim (fCons (fPrim (fCons (fInt (fName 3)) fNil) semIntC) (fCons (fInt (fName 1)) fNil)) semMod)) fSkip)) (fSeq (fRet (fMov 2)) fSkip)))
noncomputable def v__law_sums : List W → CRes := vcOf 4 none f__law_sums
theorem ok__law_sums {D : Wd} (T : Txt D) : Cal false D 1 "_law_sums" s__law_sums ["numbers", "unit"] none true 2 v__law_sums :=
  cal_of T.d__law_sums sc__law_sums (fun _ _ _ _ _ _ us h => match us, h with | [_, _], _ => rfl) (fun g po tt => by
    show JB _ _ _ _ _ _ _ f__law_sums
    exact (jbc [some (.B []), some (.B []), some .O, none] (g.asg 2 (g.rep (jc (j_lstF (jc j_int jn)) (jc (g.ni 1) jn)))) (jbc [some (.B []), some (.B []), some .O, none] (g.for po [3] [some (.B []), some (.B []), some .O, none] (g.it1 T.b_range (jc (g.len T.b_len (jc (g.nm (m := (.B [])) 0) jn)) jn)) (g.tgN 3) (jbc [some (.B []), some (.B []), some .O, some (.B [])] (g.setix 2 (g.add (jc (je_int (g.ix (jc (g.nm (m := .O) 2) (jc (g.mod (jc (g.int T.b_int (jc (g.ni 3) jn)) (jc (g.ni 1) jn))) jn)))) (jc (je_int (g.ix (jc (g.nm (m := (.B [])) 0) (jc (g.ni 3) jn)))) jn))) (g.mod (jc (g.int T.b_int (jc (g.ni 3) jn)) (jc (g.ni 1) jn)))) jb_nil)) (jbc [some (.B []), some (.B []), none, none] (j_ret (g.mv 2)) jb_nil))))
theorem sc_is_integer : FnScope ["thing"] ["thing"] (defScope s_is_integer) := ⟨rfl, rfl, rfl, by decide +kernel, rfl, by decide +kernel, by decide +kernel⟩
noncomputable def f_is_integer : Sl → Res Fl := (fSeq (fRet (fBv (fAnd (fBl (fPrim (fCons (fInt (fName 0)) fNil) (semIsi "int"))) (fBl (fBv (fNot (fBl (fPrim (fCons (fInt (fName 0)) fNil) (semIsi "bool"))))))))) fSkip)
noncomputable def v_is_integer : List W → CRes := vcOf 1 none f_is_integer
theorem ok_is_integer {D : Wd} (T : Txt D) : Cal false D 1 "is_integer" s_is_integer ["thing"] none true 1 v_is_integer :=
  cal_of T.d_is_integer sc_is_integer (fun _ _ _ _ _ _ us h => match us, h with | [_], _ => rfl) (fun g po tt => by
    show JB _ _ _ _ _ _ _ f_is_integer
    exact (jbc [some (.B [])] (j_ret (je_and (g.isi "int" T.b_isinstance T.b_int (jc (g.ni 0) jn)) (je_and1 (je_not (g.isi "bool" T.b_isinstance T.b_bool (jc (g.ni 0) jn)))) rfl)) jb_nil))
theorem sc_are_integers : FnScope ["thing", "most", "number"] ["thing", "most"] (defScope s_are_integers) := ⟨rfl, rfl, rfl, by decide +kernel, rfl, by decide +kernel, by decide +kernel⟩
noncomputable def f_are_integers : Sl → Res Fl := (fSeq (fIf (fOr (fNot (fBl (fPrim (fCons (fName 0) fNil) (semIsi "list")))) (fNot (fBl (fChain (fun i j => decide (i ≤ j)) (fun i j => decide (i ≤ j)) (fInt1 1) (fPrim (fCons (fName 0) fNil) semLen) (fInt (fName 1)))))) (fSeq (fRet (fBl1 false)) fSkip) fSkip) (fSeq (fRet (fPrim (fCons (fComp (fItems (fCons (fName 0) fNil) itemsL) (.nm 2) [2] (fun S => .ok true S) (fCall v_is_integer none (fCons (fInt (fName 2)) fNil))) fNil) (semBls fun bs => .bl (bs.all id)))) fSkip))
noncomputable def v_are_integers : List W → CRes := vcOf 3 none f_are_integers
theorem ok_are_integers {D : Wd} (T : Txt D) : Cal false D 2 "are_integers" s_are_integers ["thing", "most"] none true 2 v_are_integers :=
  cal_of T.d_are_integers sc_are_integers (fun _ _ _ _ _ _ us h => match us, h with | [_, _], _ => rfl) (fun g po tt => by
    show JB _ _ _ _ _ _ _ f_are_integers
    exact (jbc [some (.B []), some (.B []), none] (js_if (G' := [some (.B []), some (.B []), none]) (JW.jt (jw_or (jt_not (j_val (g.isi "list" T.b_isinstance T.b_list (jc (g.nm (m := (.B [])) 0) jn)))) (jw_or1 (jt_not (j_chainT (c1 := fun i j => decide (i ≤ j)) (c2 := fun i j => decide (i ≤ j)) op_le op_le j_int (g.len T.b_len (jc (g.nm (m := (.B [])) 0) jn)) (g.ni 1) (lm2 ⟨nofun, nofun⟩)))) rfl)) (jbc [some (.B []), some (.B []), none] (j_ret j_bl) jb_nil) jb_nil) (jbc [some (.B []), some (.B []), none] (j_ret (g.all T.b_all (jc (je_comp (g.comp (Ga := []) [("number", 2)] [some (.B []), some (.B []), none] (g.itL (jc (g.nm (m := (.B [])) 0) jn)) (fun g' => (g'.tgN 2)) (fun g' => jts_nil) (fun g' => (g'.cl none (ok_is_integer T) (jc (g'.ni 2) jn))))) jn))) jb_nil)))
theorem sc_need_sums : FnScope ["thing"] ["thing"] (defScope s_need_sums) := ⟨rfl, rfl, rfl, by decide +kernel, rfl, by decide +kernel, by decide +kernel⟩
noncomputable def f_need_sums : Sl → Res Fl := (fSeq (fIf (fNot (fBl (fCall v_are_integers none (fCons (fName 0) (fCons (fInt1 200) fNil))))) (fSeq fErr fSkip) fSkip) fSkip)
noncomputable def v_need_sums : List W → CRes := vcOf 1 none f_need_sums
theorem ok_need_sums {D : Wd} (T : Txt D) : Cal false D 3 "need_sums" s_need_sums ["thing"] none true 1 v_need_sums :=
  cal_of T.d_need_sums sc_need_sums (fun _ _ _ _ _ _ us h => match us, h with | [_], _ => rfl) (fun g po tt => by
    show JB _ _ _ _ _ _ _ f_need_sums
    exact (jbc [some (.B [])] (js_if (G' := [some (.B [])]) (jt_not (j_val (g.cl none (ok_are_integers T) (jc (g.nm (m := (.B [])) 0) (jc (g.cst T.c_MOST_SUMS.choose_spec) jn))))) jb_err jb_nil) jb_nil))
theorem sc_sums_at : FnScope ["window", "hop", "rest"] ["window", "hop"] (defScope s_sums_at) := ⟨rfl, rfl, rfl, by decide +kernel, rfl, by decide +kernel, by decide +kernel⟩
noncomputable def f_sums_at : Sl → Res Fl := (fSeq (fRet (fComp (fItems (fCons (fInt (fName 1)) fNil) itemsR1) (.nm 2) [2] (fun S => .ok true S) (fPrim (fCons (fSliceS (fName 0) (fPart (fInt (fName 2))) (fun S => .ok none S) (fPart (fInt (fName 1)))) fNil) semSum))) fSkip)
noncomputable def v_sums_at : List W → CRes := vcOf 3 none f_sums_at
theorem ok_sums_at {D : Wd} (T : Txt D) : Cal false D 1 "sums_at" s_sums_at ["window", "hop"] none true 2 v_sums_at :=
  cal_of T.d_sums_at sc_sums_at (fun _ _ _ _ _ _ us h => match us, h with | [_, _], _ => rfl) (fun g po tt => by
    show JB _ _ _ _ _ _ _ f_sums_at
    exact (jbc [some (.B []), some (.B []), none] (j_ret (je_comp (g.comp (Ga := []) [("rest", 2)] [some (.B []), some (.B []), none] (g.it1 T.b_range (jc (g.ni 1) jn)) (fun g' => (g'.tgN 2)) (fun g' => jts_nil) (fun g' => (g'.sum T.b_sum (jc (je_slS g'.hK (g'.nm (m := (.B [])) 0) (jp_some (g'.ni 2)) jp_none (jp_some (g'.ni 1))) jn)))))) jb_nil))
theorem sc_folded : FnScope ["sums", "by"] ["sums", "by"] (defScope s_folded) := ⟨rfl, rfl, rfl, by decide +kernel, rfl, by decide +kernel, by decide +kernel⟩
noncomputable def f_folded : Sl → Res Fl := (fSeq (fExpr (fCall v_need_sums none (fCons (fName 0) fNil))) (fSeq (fIf (fOr (fBl (fPrim (fCons (fInt (fName 1)) (fCons (fInt1 1) fNil)) semLt)) (fBl (fPrim (fCons (fPrim (fCons (fPrim (fCons (fName 0) fNil) semLen) (fCons (fInt (fName 1)) fNil)) semMod) (fCons (fInt1 0) fNil)) (semEq true)))) (fSeq fErr fSkip) fSkip) (fSeq (fRet (fCall v_sums_at none (fCons (fName 0) (fCons (fInt (fName 1)) fNil)))) fSkip)))
noncomputable def v_folded : List W → CRes := vcOf 2 none f_folded
theorem ok_folded {D : Wd} (T : Txt D) : Cal false D 4 "folded" s_folded ["sums", "by"] none true 2 v_folded :=
  cal_of T.d_folded sc_folded (fun _ _ _ _ _ _ us h => match us, h with | [_, _], _ => rfl) (fun g po tt => by
    show JB _ _ _ _ _ _ _ f_folded
    exact (jbc [some (.B []), some (.B [])] (j_expr (g.cl none (ok_need_sums T) (jc (g.nm (m := (.B [])) 0) jn))) (jbc [some (.B []), some (.B [])] (js_if (G' := [some (.B []), some (.B [])]) (JW.jt (jw_or (g.ltT (jc (g.ni 1) (jc j_int jn))) (jw_or1 (g.neT (jc (g.mod (jc (g.len T.b_len (jc (g.nm (m := (.B [])) 0) jn)) (jc (g.ni 1) jn))) (jc j_int jn)))) rfl)) jb_err jb_nil) (jbc [some (.B []), some (.B [])] (j_ret (g.cl none (ok_sums_at T) (jc (g.nm (m := (.B [])) 0) (jc (g.ni 1) jn)))) jb_nil))))
theorem sc__law_alike : FnScope ["found", "due", "k"] ["found", "due"] (defScope s__law_alike) := ⟨rfl, rfl, rfl, by decide +kernel, rfl, by decide +kernel, by decide +kernel⟩
noncomputable def v__law_alike_0 : List W → CRes := vcOf 3 none fErr
theorem ok__law_alike_0 {D : Wd} (T : Txt D) : Cal false D 1 "_law_alike" s__law_alike ["found", "due"] none true 2 v__law_alike_0 :=
  cal_of (G' := []) T.d__law_alike sc__law_alike (fun _ _ _ _ _ _ us h => match us, h with | [_, _], _ => rfl) (fun g po tt => by
    show JB _ _ _ _ _ _ _ fErr
    exact jb_err)
noncomputable def f__law_alike_1 : Sl → Res Fl := (fSeq (fIf (fBl (fPrim (fCons (fName 1) fNil) (semIsi2 "list" "tuple"))) (fSeq (fIf (fOr (fNot (fBl (fPrim (fCons (fName 0) fNil) (semIsi2 "list" "tuple")))) (fBl (fPrim (fCons (fPrim (fCons (fName 0) fNil) (semIsi "list")) (fCons (fPrim (fCons (fName 1) fNil) (semIsi "list")) fNil)) (semEq true)))) (fSeq (fRet (fBl1 false)) fSkip) fSkip) (fSeq (fIf (fBl (fPrim (fCons (fPrim (fCons (fName 0) fNil) semLen) (fCons (fPrim (fCons (fName 1) fNil) semLen) fNil)) (semEq true))) (fSeq (fRet (fBl1 false)) fSkip) fSkip) (fSeq (fRet (fPrim (fCons (fComp (fItems (fCons (fPrim (fCons (fName 1) fNil) semLen) fNil) itemsR1) (.nm 2) [2] (fun S => .ok true S) (fCall v__law_alike_0 none (fCons (fPrim (fCons (fName 0) (fCons (fInt (fName 2)) fNil)) semIx) (fCons (fPrim (fCons (fName 1) (fCons (fInt (fName 2)) fNil)) semIx) fNil)))) fNil) (semBls fun bs => .bl (bs.all id)))) fSkip))) fSkip) (fSeq (fIf (fOr (fBl (fPrim (fCons (fPrim (fCons (fName 0) fNil) (semIsi "bool")) (fCons (fPrim (fCons (fName 1) fNil) (semIsi "bool")) fNil)) (semEq true))) (fBl (fPrim (fCons (fPrim (fCons (fName 0) fNil) (semIsi "int")) (fCons (fPrim (fCons (fName 1) fNil) (semIsi "int")) fNil)) (semEq true)))) (fSeq (fRet (fBl1 false)) fSkip) fSkip) (fSeq (fRet (fBv (fAnd (fBl (fPrim (fCons (fPrim (fCons (fName 0) fNil) (semIsi "str")) (fCons (fPrim (fCons (fName 1) fNil) (semIsi "str")) fNil)) (semEq false))) (fBl (fPrim (fCons (fName 0) (fCons (fName 1) fNil)) (semEq false)))))) fSkip)))
noncomputable def v__law_alike_1 : List W → CRes := vcOf 3 none f__law_alike_1
theorem ok__law_alike_1 {D : Wd} (T : Txt D) : Cal false D 2 "_law_alike" s__law_alike ["found", "due"] none true 2 v__law_alike_1 :=
  cal_of T.d__law_alike sc__law_alike (fun _ _ _ _ _ _ us h => match us, h with | [_, _], _ => rfl) (fun g po tt => by
    show JB _ _ _ _ _ _ _ f__law_alike_1
    exact (jbc [some (.B []), some (.B []), none] (js_if (G' := [some (.B []), some (.B []), none]) (j_val (g.isi2 "list" "tuple" T.b_isinstance T.b_list T.b_tuple (jc (g.nm (m := (.B [])) 1) jn))) (jbc [some (.B []), some (.B []), none] (js_if (G' := [some (.B []), some (.B []), none]) (JW.jt (jw_or (jt_not (j_val (g.isi2 "list" "tuple" T.b_isinstance T.b_list T.b_tuple (jc (g.nm (m := (.B [])) 0) jn)))) (jw_or1 (g.neT (jc (g.isi "list" T.b_isinstance T.b_list (jc (g.nm (m := (.B [])) 0) jn)) (jc (g.isi "list" T.b_isinstance T.b_list (jc (g.nm (m := (.B [])) 1) jn)) jn)))) rfl)) (jbc [some (.B []), some (.B []), none] (j_ret j_bl) jb_nil) jb_nil) (jbc [some (.B []), some (.B []), none] (js_if (G' := [some (.B []), some (.B []), none]) (g.neT (jc (g.len T.b_len (jc (g.nm (m := (.B [])) 0) jn)) (jc (g.len T.b_len (jc (g.nm (m := (.B [])) 1) jn)) jn))) (jbc [some (.B []), some (.B []), none] (j_ret j_bl) jb_nil) jb_nil) (jbc [some (.B []), some (.B []), none] (j_ret (g.all T.b_all (jc (je_comp (g.comp (Ga := []) [("k", 2)] [some (.B []), some (.B []), none] (g.it1 T.b_range (jc (g.len T.b_len (jc (g.nm (m := (.B [])) 1) jn)) jn)) (fun g' => (g'.tgN 2)) (fun g' => jts_nil) (fun g' => (g'.cl none (ok__law_alike_0 T) (jc (g'.ix (jc (g'.nm (m := (.B [])) 0) (jc (g'.ni 2) jn))) (jc (g'.ix (jc (g'.nm (m := (.B [])) 1) (jc (g'.ni 2) jn))) jn)))))) jn))) jb_nil))) jb_nil) (jbc [some (.B []), some (.B []), none] (js_if (G' := [some (.B []), some (.B []), none]) (JW.jt (jw_or (g.neT (jc (g.isi "bool" T.b_isinstance T.b_bool (jc (g.nm (m := (.B [])) 0) jn)) (jc (g.isi "bool" T.b_isinstance T.b_bool (jc (g.nm (m := (.B [])) 1) jn)) jn))) (jw_or1 (g.neT (jc (g.isi "int" T.b_isinstance T.b_int (jc (g.nm (m := (.B [])) 0) jn)) (jc (g.isi "int" T.b_isinstance T.b_int (jc (g.nm (m := (.B [])) 1) jn)) jn)))) rfl)) (jbc [some (.B []), some (.B []), none] (j_ret j_bl) jb_nil) jb_nil) (jbc [some (.B []), some (.B []), none] (j_ret (je_and (g.eq (jc (g.isi "str" T.b_isinstance T.b_str (jc (g.nm (m := (.B [])) 0) jn)) (jc (g.isi "str" T.b_isinstance T.b_str (jc (g.nm (m := (.B [])) 1) jn)) jn))) (je_and1 (g.eq (jc (g.nm (m := (.B [])) 0) (jc (g.nm (m := (.B [])) 1) jn)))) rfl)) jb_nil))))
noncomputable def f__law_alike_2 : Sl → Res Fl := (fSeq (fIf (fBl (fPrim (fCons (fName 1) fNil) (semIsi2 "list" "tuple"))) (fSeq (fIf (fOr (fNot (fBl (fPrim (fCons (fName 0) fNil) (semIsi2 "list" "tuple")))) (fBl (fPrim (fCons (fPrim (fCons (fName 0) fNil) (semIsi "list")) (fCons (fPrim (fCons (fName 1) fNil) (semIsi "list")) fNil)) (semEq true)))) (fSeq (fRet (fBl1 false)) fSkip) fSkip) (fSeq (fIf (fBl (fPrim (fCons (fPrim (fCons (fName 0) fNil) semLen) (fCons (fPrim (fCons (fName 1) fNil) semLen) fNil)) (semEq true))) (fSeq (fRet (fBl1 false)) fSkip) fSkip) (fSeq (fRet (fPrim (fCons (fComp (fItems (fCons (fPrim (fCons (fName 1) fNil) semLen) fNil) itemsR1) (.nm 2) [2] (fun S => .ok true S) (fCall v__law_alike_1 none (fCons (fPrim (fCons (fName 0) (fCons (fInt (fName 2)) fNil)) semIx) (fCons (fPrim (fCons (fName 1) (fCons (fInt (fName 2)) fNil)) semIx) fNil)))) fNil) (semBls fun bs => .bl (bs.all id)))) fSkip))) fSkip) (fSeq (fIf (fOr (fBl (fPrim (fCons (fPrim (fCons (fName 0) fNil) (semIsi "bool")) (fCons (fPrim (fCons (fName 1) fNil) (semIsi "bool")) fNil)) (semEq true))) (fBl (fPrim (fCons (fPrim (fCons (fName 0) fNil) (semIsi "int")) (fCons (fPrim (fCons (fName 1) fNil) (semIsi "int")) fNil)) (semEq true)))) (fSeq (fRet (fBl1 false)) fSkip) fSkip) (fSeq (fRet (fBv (fAnd (fBl (fPrim (fCons (fPrim (fCons (fName 0) fNil) (semIsi "str")) (fCons (fPrim (fCons (fName 1) fNil) (semIsi "str")) fNil)) (semEq false))) (fBl (fPrim (fCons (fName 0) (fCons (fName 1) fNil)) (semEq false)))))) fSkip)))
noncomputable def v__law_alike_2 : List W → CRes := vcOf 3 none f__law_alike_2
theorem ok__law_alike_2 {D : Wd} (T : Txt D) : Cal false D 3 "_law_alike" s__law_alike ["found", "due"] none true 2 v__law_alike_2 :=
  cal_of T.d__law_alike sc__law_alike (fun _ _ _ _ _ _ us h => match us, h with | [_, _], _ => rfl) (fun g po tt => by
    show JB _ _ _ _ _ _ _ f__law_alike_2
    exact (jbc [some (.B []), some (.B []), none] (js_if (G' := [some (.B []), some (.B []), none]) (j_val (g.isi2 "list" "tuple" T.b_isinstance T.b_list T.b_tuple (jc (g.nm (m := (.B [])) 1) jn))) (jbc [some (.B []), some (.B []), none] (js_if (G' := [some (.B []), some (.B []), none]) (JW.jt (jw_or (jt_not (j_val (g.isi2 "list" "tuple" T.b_isinstance T.b_list T.b_tuple (jc (g.nm (m := (.B [])) 0) jn)))) (jw_or1 (g.neT (jc (g.isi "list" T.b_isinstance T.b_list (jc (g.nm (m := (.B [])) 0) jn)) (jc (g.isi "list" T.b_isinstance T.b_list (jc (g.nm (m := (.B [])) 1) jn)) jn)))) rfl)) (jbc [some (.B []), some (.B []), none] (j_ret j_bl) jb_nil) jb_nil) (jbc [some (.B []), some (.B []), none] (js_if (G' := [some (.B []), some (.B []), none]) (g.neT (jc (g.len T.b_len (jc (g.nm (m := (.B [])) 0) jn)) (jc (g.len T.b_len (jc (g.nm (m := (.B [])) 1) jn)) jn))) (jbc [some (.B []), some (.B []), none] (j_ret j_bl) jb_nil) jb_nil) (jbc [some (.B []), some (.B []), none] (j_ret (g.all T.b_all (jc (je_comp (g.comp (Ga := []) [("k", 2)] [some (.B []), some (.B []), none] (g.it1 T.b_range (jc (g.len T.b_len (jc (g.nm (m := (.B [])) 1) jn)) jn)) (fun g' => (g'.tgN 2)) (fun g' => jts_nil) (fun g' => (g'.cl none (ok__law_alike_1 T) (jc (g'.ix (jc (g'.nm (m := (.B [])) 0) (jc (g'.ni 2) jn))) (jc (g'.ix (jc (g'.nm (m := (.B [])) 1) (jc (g'.ni 2) jn))) jn)))))) jn))) jb_nil))) jb_nil) (jbc [some (.B []), some (.B []), none] (js_if (G' := [some (.B []), some (.B []), none]) (JW.jt (jw_or (g.neT (jc (g.isi "bool" T.b_isinstance T.b_bool (jc (g.nm (m := (.B [])) 0) jn)) (jc (g.isi "bool" T.b_isinstance T.b_bool (jc (g.nm (m := (.B [])) 1) jn)) jn))) (jw_or1 (g.neT (jc (g.isi "int" T.b_isinstance T.b_int (jc (g.nm (m := (.B [])) 0) jn)) (jc (g.isi "int" T.b_isinstance T.b_int (jc (g.nm (m := (.B [])) 1) jn)) jn)))) rfl)) (jbc [some (.B []), some (.B []), none] (j_ret j_bl) jb_nil) jb_nil) (jbc [some (.B []), some (.B []), none] (j_ret (je_and (g.eq (jc (g.isi "str" T.b_isinstance T.b_str (jc (g.nm (m := (.B [])) 0) jn)) (jc (g.isi "str" T.b_isinstance T.b_str (jc (g.nm (m := (.B [])) 1) jn)) jn))) (je_and1 (g.eq (jc (g.nm (m := (.B [])) 0) (jc (g.nm (m := (.B [])) 1) jn)))) rfl)) jb_nil))))
noncomputable def f__law_alike_3 : Sl → Res Fl := (fSeq (fIf (fBl (fPrim (fCons (fName 1) fNil) (semIsi2 "list" "tuple"))) (fSeq (fIf (fOr (fNot (fBl (fPrim (fCons (fName 0) fNil) (semIsi2 "list" "tuple")))) (fBl (fPrim (fCons (fPrim (fCons (fName 0) fNil) (semIsi "list")) (fCons (fPrim (fCons (fName 1) fNil) (semIsi "list")) fNil)) (semEq true)))) (fSeq (fRet (fBl1 false)) fSkip) fSkip) (fSeq (fIf (fBl (fPrim (fCons (fPrim (fCons (fName 0) fNil) semLen) (fCons (fPrim (fCons (fName 1) fNil) semLen) fNil)) (semEq true))) (fSeq (fRet (fBl1 false)) fSkip) fSkip) (fSeq (fRet (fPrim (fCons (fComp (fItems (fCons (fPrim (fCons (fName 1) fNil) semLen) fNil) itemsR1) (.nm 2) [2] (fun S => .ok true S) (fCall v__law_alike_2 none (fCons (fPrim (fCons (fName 0) (fCons (fInt (fName 2)) fNil)) semIx) (fCons (fPrim (fCons (fName 1) (fCons (fInt (fName 2)) fNil)) semIx) fNil)))) fNil) (semBls fun bs => .bl (bs.all id)))) fSkip))) fSkip) (fSeq (fIf (fOr (fBl (fPrim (fCons (fPrim (fCons (fName 0) fNil) (semIsi "bool")) (fCons (fPrim (fCons (fName 1) fNil) (semIsi "bool")) fNil)) (semEq true))) (fBl (fPrim (fCons (fPrim (fCons (fName 0) fNil) (semIsi "int")) (fCons (fPrim (fCons (fName 1) fNil) (semIsi "int")) fNil)) (semEq true)))) (fSeq (fRet (fBl1 false)) fSkip) fSkip) (fSeq (fRet (fBv (fAnd (fBl (fPrim (fCons (fPrim (fCons (fName 0) fNil) (semIsi "str")) (fCons (fPrim (fCons (fName 1) fNil) (semIsi "str")) fNil)) (semEq false))) (fBl (fPrim (fCons (fName 0) (fCons (fName 1) fNil)) (semEq false)))))) fSkip)))
noncomputable def v__law_alike_3 : List W → CRes := vcOf 3 none f__law_alike_3
theorem ok__law_alike_3 {D : Wd} (T : Txt D) : Cal false D 4 "_law_alike" s__law_alike ["found", "due"] none true 2 v__law_alike_3 :=
  cal_of T.d__law_alike sc__law_alike (fun _ _ _ _ _ _ us h => match us, h with | [_, _], _ => rfl) (fun g po tt => by
    show JB _ _ _ _ _ _ _ f__law_alike_3
    exact (jbc [some (.B []), some (.B []), none] (js_if (G' := [some (.B []), some (.B []), none]) (j_val (g.isi2 "list" "tuple" T.b_isinstance T.b_list T.b_tuple (jc (g.nm (m := (.B [])) 1) jn))) (jbc [some (.B []), some (.B []), none] (js_if (G' := [some (.B []), some (.B []), none]) (JW.jt (jw_or (jt_not (j_val (g.isi2 "list" "tuple" T.b_isinstance T.b_list T.b_tuple (jc (g.nm (m := (.B [])) 0) jn)))) (jw_or1 (g.neT (jc (g.isi "list" T.b_isinstance T.b_list (jc (g.nm (m := (.B [])) 0) jn)) (jc (g.isi "list" T.b_isinstance T.b_list (jc (g.nm (m := (.B [])) 1) jn)) jn)))) rfl)) (jbc [some (.B []), some (.B []), none] (j_ret j_bl) jb_nil) jb_nil) (jbc [some (.B []), some (.B []), none] (js_if (G' := [some (.B []), some (.B []), none]) (g.neT (jc (g.len T.b_len (jc (g.nm (m := (.B [])) 0) jn)) (jc (g.len T.b_len (jc (g.nm (m := (.B [])) 1) jn)) jn))) (jbc [some (.B []), some (.B []), none] (j_ret j_bl) jb_nil) jb_nil) (jbc [some (.B []), some (.B []), none] (j_ret (g.all T.b_all (jc (je_comp (g.comp (Ga := []) [("k", 2)] [some (.B []), some (.B []), none] (g.it1 T.b_range (jc (g.len T.b_len (jc (g.nm (m := (.B [])) 1) jn)) jn)) (fun g' => (g'.tgN 2)) (fun g' => jts_nil) (fun g' => (g'.cl none (ok__law_alike_2 T) (jc (g'.ix (jc (g'.nm (m := (.B [])) 0) (jc (g'.ni 2) jn))) (jc (g'.ix (jc (g'.nm (m := (.B [])) 1) (jc (g'.ni 2) jn))) jn)))))) jn))) jb_nil))) jb_nil) (jbc [some (.B []), some (.B []), none] (js_if (G' := [some (.B []), some (.B []), none]) (JW.jt (jw_or (g.neT (jc (g.isi "bool" T.b_isinstance T.b_bool (jc (g.nm (m := (.B [])) 0) jn)) (jc (g.isi "bool" T.b_isinstance T.b_bool (jc (g.nm (m := (.B [])) 1) jn)) jn))) (jw_or1 (g.neT (jc (g.isi "int" T.b_isinstance T.b_int (jc (g.nm (m := (.B [])) 0) jn)) (jc (g.isi "int" T.b_isinstance T.b_int (jc (g.nm (m := (.B [])) 1) jn)) jn)))) rfl)) (jbc [some (.B []), some (.B []), none] (j_ret j_bl) jb_nil) jb_nil) (jbc [some (.B []), some (.B []), none] (j_ret (je_and (g.eq (jc (g.isi "str" T.b_isinstance T.b_str (jc (g.nm (m := (.B [])) 0) jn)) (jc (g.isi "str" T.b_isinstance T.b_str (jc (g.nm (m := (.B [])) 1) jn)) jn))) (je_and1 (g.eq (jc (g.nm (m := (.B [])) 0) (jc (g.nm (m := (.B [])) 1) jn)))) rfl)) jb_nil))))
noncomputable def f__law_alike_4 : Sl → Res Fl := (fSeq (fIf (fBl (fPrim (fCons (fName 1) fNil) (semIsi2 "list" "tuple"))) (fSeq (fIf (fOr (fNot (fBl (fPrim (fCons (fName 0) fNil) (semIsi2 "list" "tuple")))) (fBl (fPrim (fCons (fPrim (fCons (fName 0) fNil) (semIsi "list")) (fCons (fPrim (fCons (fName 1) fNil) (semIsi "list")) fNil)) (semEq true)))) (fSeq (fRet (fBl1 false)) fSkip) fSkip) (fSeq (fIf (fBl (fPrim (fCons (fPrim (fCons (fName 0) fNil) semLen) (fCons (fPrim (fCons (fName 1) fNil) semLen) fNil)) (semEq true))) (fSeq (fRet (fBl1 false)) fSkip) fSkip) (fSeq (fRet (fPrim (fCons (fComp (fItems (fCons (fPrim (fCons (fName 1) fNil) semLen) fNil) itemsR1) (.nm 2) [2] (fun S => .ok true S) (fCall v__law_alike_3 none (fCons (fPrim (fCons (fName 0) (fCons (fInt (fName 2)) fNil)) semIx) (fCons (fPrim (fCons (fName 1) (fCons (fInt (fName 2)) fNil)) semIx) fNil)))) fNil) (semBls fun bs => .bl (bs.all id)))) fSkip))) fSkip) (fSeq (fIf (fOr (fBl (fPrim (fCons (fPrim (fCons (fName 0) fNil) (semIsi "bool")) (fCons (fPrim (fCons (fName 1) fNil) (semIsi "bool")) fNil)) (semEq true))) (fBl (fPrim (fCons (fPrim (fCons (fName 0) fNil) (semIsi "int")) (fCons (fPrim (fCons (fName 1) fNil) (semIsi "int")) fNil)) (semEq true)))) (fSeq (fRet (fBl1 false)) fSkip) fSkip) (fSeq (fRet (fBv (fAnd (fBl (fPrim (fCons (fPrim (fCons (fName 0) fNil) (semIsi "str")) (fCons (fPrim (fCons (fName 1) fNil) (semIsi "str")) fNil)) (semEq false))) (fBl (fPrim (fCons (fName 0) (fCons (fName 1) fNil)) (semEq false)))))) fSkip)))
noncomputable def v__law_alike_4 : List W → CRes := vcOf 3 none f__law_alike_4
theorem ok__law_alike_4 {D : Wd} (T : Txt D) : Cal false D 5 "_law_alike" s__law_alike ["found", "due"] none true 2 v__law_alike_4 :=
  cal_of T.d__law_alike sc__law_alike (fun _ _ _ _ _ _ us h => match us, h with | [_, _], _ => rfl) (fun g po tt => by
    show JB _ _ _ _ _ _ _ f__law_alike_4
    exact (jbc [some (.B []), some (.B []), none] (js_if (G' := [some (.B []), some (.B []), none]) (j_val (g.isi2 "list" "tuple" T.b_isinstance T.b_list T.b_tuple (jc (g.nm (m := (.B [])) 1) jn))) (jbc [some (.B []), some (.B []), none] (js_if (G' := [some (.B []), some (.B []), none]) (JW.jt (jw_or (jt_not (j_val (g.isi2 "list" "tuple" T.b_isinstance T.b_list T.b_tuple (jc (g.nm (m := (.B [])) 0) jn)))) (jw_or1 (g.neT (jc (g.isi "list" T.b_isinstance T.b_list (jc (g.nm (m := (.B [])) 0) jn)) (jc (g.isi "list" T.b_isinstance T.b_list (jc (g.nm (m := (.B [])) 1) jn)) jn)))) rfl)) (jbc [some (.B []), some (.B []), none] (j_ret j_bl) jb_nil) jb_nil) (jbc [some (.B []), some (.B []), none] (js_if (G' := [some (.B []), some (.B []), none]) (g.neT (jc (g.len T.b_len (jc (g.nm (m := (.B [])) 0) jn)) (jc (g.len T.b_len (jc (g.nm (m := (.B [])) 1) jn)) jn))) (jbc [some (.B []), some (.B []), none] (j_ret j_bl) jb_nil) jb_nil) (jbc [some (.B []), some (.B []), none] (j_ret (g.all T.b_all (jc (je_comp (g.comp (Ga := []) [("k", 2)] [some (.B []), some (.B []), none] (g.it1 T.b_range (jc (g.len T.b_len (jc (g.nm (m := (.B [])) 1) jn)) jn)) (fun g' => (g'.tgN 2)) (fun g' => jts_nil) (fun g' => (g'.cl none (ok__law_alike_3 T) (jc (g'.ix (jc (g'.nm (m := (.B [])) 0) (jc (g'.ni 2) jn))) (jc (g'.ix (jc (g'.nm (m := (.B [])) 1) (jc (g'.ni 2) jn))) jn)))))) jn))) jb_nil))) jb_nil) (jbc [some (.B []), some (.B []), none] (js_if (G' := [some (.B []), some (.B []), none]) (JW.jt (jw_or (g.neT (jc (g.isi "bool" T.b_isinstance T.b_bool (jc (g.nm (m := (.B [])) 0) jn)) (jc (g.isi "bool" T.b_isinstance T.b_bool (jc (g.nm (m := (.B [])) 1) jn)) jn))) (jw_or1 (g.neT (jc (g.isi "int" T.b_isinstance T.b_int (jc (g.nm (m := (.B [])) 0) jn)) (jc (g.isi "int" T.b_isinstance T.b_int (jc (g.nm (m := (.B [])) 1) jn)) jn)))) rfl)) (jbc [some (.B []), some (.B []), none] (j_ret j_bl) jb_nil) jb_nil) (jbc [some (.B []), some (.B []), none] (j_ret (je_and (g.eq (jc (g.isi "str" T.b_isinstance T.b_str (jc (g.nm (m := (.B [])) 0) jn)) (jc (g.isi "str" T.b_isinstance T.b_str (jc (g.nm (m := (.B [])) 1) jn)) jn))) (je_and1 (g.eq (jc (g.nm (m := (.B [])) 0) (jc (g.nm (m := (.B [])) 1) jn)))) rfl)) jb_nil))))
noncomputable def f__law_alike_5 : Sl → Res Fl := (fSeq (fIf (fBl (fPrim (fCons (fName 1) fNil) (semIsi2 "list" "tuple"))) (fSeq (fIf (fOr (fNot (fBl (fPrim (fCons (fName 0) fNil) (semIsi2 "list" "tuple")))) (fBl (fPrim (fCons (fPrim (fCons (fName 0) fNil) (semIsi "list")) (fCons (fPrim (fCons (fName 1) fNil) (semIsi "list")) fNil)) (semEq true)))) (fSeq (fRet (fBl1 false)) fSkip) fSkip) (fSeq (fIf (fBl (fPrim (fCons (fPrim (fCons (fName 0) fNil) semLen) (fCons (fPrim (fCons (fName 1) fNil) semLen) fNil)) (semEq true))) (fSeq (fRet (fBl1 false)) fSkip) fSkip) (fSeq (fRet (fPrim (fCons (fComp (fItems (fCons (fPrim (fCons (fName 1) fNil) semLen) fNil) itemsR1) (.nm 2) [2] (fun S => .ok true S) (fCall v__law_alike_4 none (fCons (fPrim (fCons (fName 0) (fCons (fInt (fName 2)) fNil)) semIx) (fCons (fPrim (fCons (fName 1) (fCons (fInt (fName 2)) fNil)) semIx) fNil)))) fNil) (semBls fun bs => .bl (bs.all id)))) fSkip))) fSkip) (fSeq (fIf (fOr (fBl (fPrim (fCons (fPrim (fCons (fName 0) fNil) (semIsi "bool")) (fCons (fPrim (fCons (fName 1) fNil) (semIsi "bool")) fNil)) (semEq true))) (fBl (fPrim (fCons (fPrim (fCons (fName 0) fNil) (semIsi "int")) (fCons (fPrim (fCons (fName 1) fNil) (semIsi "int")) fNil)) (semEq true)))) (fSeq (fRet (fBl1 false)) fSkip) fSkip) (fSeq (fRet (fBv (fAnd (fBl (fPrim (fCons (fPrim (fCons (fName 0) fNil) (semIsi "str")) (fCons (fPrim (fCons (fName 1) fNil) (semIsi "str")) fNil)) (semEq false))) (fBl (fPrim (fCons (fName 0) (fCons (fName 1) fNil)) (semEq false)))))) fSkip)))
noncomputable def v__law_alike_5 : List W → CRes := vcOf 3 none f__law_alike_5
theorem ok__law_alike_5 {D : Wd} (T : Txt D) : Cal false D 6 "_law_alike" s__law_alike ["found", "due"] none true 2 v__law_alike_5 :=
  cal_of T.d__law_alike sc__law_alike (fun _ _ _ _ _ _ us h => match us, h with | [_, _], _ => rfl) (fun g po tt => by
    show JB _ _ _ _ _ _ _ f__law_alike_5
    exact (jbc [some (.B []), some (.B []), none] (js_if (G' := [some (.B []), some (.B []), none]) (j_val (g.isi2 "list" "tuple" T.b_isinstance T.b_list T.b_tuple (jc (g.nm (m := (.B [])) 1) jn))) (jbc [some (.B []), some (.B []), none] (js_if (G' := [some (.B []), some (.B []), none]) (JW.jt (jw_or (jt_not (j_val (g.isi2 "list" "tuple" T.b_isinstance T.b_list T.b_tuple (jc (g.nm (m := (.B [])) 0) jn)))) (jw_or1 (g.neT (jc (g.isi "list" T.b_isinstance T.b_list (jc (g.nm (m := (.B [])) 0) jn)) (jc (g.isi "list" T.b_isinstance T.b_list (jc (g.nm (m := (.B [])) 1) jn)) jn)))) rfl)) (jbc [some (.B []), some (.B []), none] (j_ret j_bl) jb_nil) jb_nil) (jbc [some (.B []), some (.B []), none] (js_if (G' := [some (.B []), some (.B []), none]) (g.neT (jc (g.len T.b_len (jc (g.nm (m := (.B [])) 0) jn)) (jc (g.len T.b_len (jc (g.nm (m := (.B [])) 1) jn)) jn))) (jbc [some (.B []), some (.B []), none] (j_ret j_bl) jb_nil) jb_nil) (jbc [some (.B []), some (.B []), none] (j_ret (g.all T.b_all (jc (je_comp (g.comp (Ga := []) [("k", 2)] [some (.B []), some (.B []), none] (g.it1 T.b_range (jc (g.len T.b_len (jc (g.nm (m := (.B [])) 1) jn)) jn)) (fun g' => (g'.tgN 2)) (fun g' => jts_nil) (fun g' => (g'.cl none (ok__law_alike_4 T) (jc (g'.ix (jc (g'.nm (m := (.B [])) 0) (jc (g'.ni 2) jn))) (jc (g'.ix (jc (g'.nm (m := (.B [])) 1) (jc (g'.ni 2) jn))) jn)))))) jn))) jb_nil))) jb_nil) (jbc [some (.B []), some (.B []), none] (js_if (G' := [some (.B []), some (.B []), none]) (JW.jt (jw_or (g.neT (jc (g.isi "bool" T.b_isinstance T.b_bool (jc (g.nm (m := (.B [])) 0) jn)) (jc (g.isi "bool" T.b_isinstance T.b_bool (jc (g.nm (m := (.B [])) 1) jn)) jn))) (jw_or1 (g.neT (jc (g.isi "int" T.b_isinstance T.b_int (jc (g.nm (m := (.B [])) 0) jn)) (jc (g.isi "int" T.b_isinstance T.b_int (jc (g.nm (m := (.B [])) 1) jn)) jn)))) rfl)) (jbc [some (.B []), some (.B []), none] (j_ret j_bl) jb_nil) jb_nil) (jbc [some (.B []), some (.B []), none] (j_ret (je_and (g.eq (jc (g.isi "str" T.b_isinstance T.b_str (jc (g.nm (m := (.B [])) 0) jn)) (jc (g.isi "str" T.b_isinstance T.b_str (jc (g.nm (m := (.B [])) 1) jn)) jn))) (je_and1 (g.eq (jc (g.nm (m := (.B [])) 0) (jc (g.nm (m := (.B [])) 1) jn)))) rfl)) jb_nil))))
theorem sc_common_divisor : FnScope ["one", "other"] ["one", "other"] (defScope s_common_divisor) := ⟨rfl, rfl, rfl, by decide +kernel, rfl, by decide +kernel, by decide +kernel⟩
noncomputable def f_common_divisor : Sl → Res Fl := (fSeq (fPar [0, 1] (fCons (fPrim (fCons (fInt (fName 0)) fNil) semAbs) (fCons (fPrim (fCons (fInt (fName 1)) fNil) semAbs) fNil))) (fSeq (fWhile (fBl (fPrim (fCons (fInt (fName 1)) (fCons (fInt1 0) fNil)) semGt)) [] (fSeq (fPar [0, 1] (fCons (fInt (fName 1)) (fCons (fPrim (fCons (fInt (fName 0)) (fCons (fInt (fName 1)) fNil)) semMod) fNil))) fSkip)) (fSeq (fRet (fInt (fName 0))) fSkip)))
noncomputable def v_common_divisor : List W → CRes := vcOf 2 none f_common_divisor
theorem ok_common_divisor {D : Wd} (T : Txt D) : Cal false D 1 "common_divisor" s_common_divisor ["one", "other"] none true 2 v_common_divisor :=
  cal_of T.d_common_divisor sc_common_divisor (fun _ _ _ _ _ _ us h => match us, h with | [_, _], _ => rfl) (fun g po tt => by
    show JB _ _ _ _ _ _ _ f_common_divisor
    exact (jbc [some .O, some .O] (g.par2 0 1 (jc (g.abs T.b_abs (jc (g.ni 0) jn)) (jc (g.abs T.b_abs (jc (g.ni 1) jn)) jn))) (jbc [some .O, some .O] (g.whl po [] [some .O, some .O] (g.gtT (jc (g.ni 1) (jc j_int jn))) (jbc [some .O, some .O] (g.par2 0 1 (jc (g.ni 1) (jc (g.mod (jc (g.ni 0) (jc (g.ni 1) jn))) jn))) jb_nil)) (jbc [some (.B []), some (.B [])] (j_ret (g.ni 0)) jb_nil))))
theorem sc_first_difference : FnScope ["sums", "other", "by", "rest", "pair"] ["sums", "other"] (defScope s_first_difference) := ⟨rfl, rfl, rfl, by decide +kernel, rfl, by decide +kernel, by decide +kernel⟩
noncomputable def f_first_difference : Sl → Res Fl := (fSeq (fAsg (.nm 2) (fCall v_common_divisor none (fCons (fPrim (fCons (fName 0) fNil) semLen) (fCons (fPrim (fCons (fName 1) fNil) semLen) fNil)))) (fSeq (fFor (fItems (fCons (fCall v_sums_at none (fCons (fName 0) (fCons (fInt (fName 2)) fNil))) (fCons (fCall v_sums_at none (fCons (fName 1) (fCons (fInt (fName 2)) fNil))) fNil)) itemsEZ) (.tp [3, 4]) [3, 4] (fSeq (fIf (fBl (fPrim (fCons (fInt (fPrim (fCons (fPure (fName 4)) (fCons (fInt1 0) fNil)) semIx)) (fCons (fInt (fPrim (fCons (fPure (fName 4)) (fCons (fInt1 1) fNil)) semIx)) fNil)) (semEq true))) (fSeq (fRet (fInt (fName 3))) fSkip) fSkip) fSkip)) (fSeq (fRet fNon) fSkip)))
noncomputable def v_first_difference : List W → CRes := vcOf 5 none f_first_difference
theorem ok_first_difference {D : Wd} (T : Txt D) : Cal false D 2 "first_difference" s_first_difference ["sums", "other"] none true 2 v_first_difference :=
  cal_of T.d_first_difference sc_first_difference (fun _ _ _ _ _ _ us h => match us, h with | [_, _], _ => rfl) (fun g po tt => by
    show JB _ _ _ _ _ _ _ f_first_difference
    exact (jbc [some (.B []), some (.B []), some .O, none, none] (g.asg 2 (g.cl none (ok_common_divisor T) (jc (g.len T.b_len (jc (g.nm (m := (.B [])) 0) jn)) (jc (g.len T.b_len (jc (g.nm (m := (.B [])) 1) jn)) jn)))) (jbc [some (.B []), some (.B []), some .O, none, none] (g.for po [3, 4] [some (.B []), some (.B []), some .O, none, none] (g.itEZ T.b_enumerate T.b_zip (jc (g.cl none (ok_sums_at T) (jc (g.nm (m := (.B [])) 0) (jc (g.ni 2) jn))) (jc (g.cl none (ok_sums_at T) (jc (g.nm (m := (.B [])) 1) (jc (g.ni 2) jn))) jn))) (g.tgT [3, 4] (g.n1 3 [4] (g.n1 4 [] .nil))) (jbc [some (.B []), some (.B []), some .O, some (.B []), some (.B [])] (js_if (G' := [some (.B []), some (.B []), some .O, some (.B []), some (.B [])]) (g.neT (jc (je_int (g.ix (jc (g.np 4) (jc j_int jn)))) (jc (je_int (g.ix (jc (g.np 4) (jc j_int jn)))) jn))) (jbc [some (.B []), some (.B []), some .O, some (.B []), some (.B [])] (j_ret (g.ni 3)) jb_nil) jb_nil) jb_nil)) (jbc [some (.B []), some (.B []), none, none, none] (j_ret j_non) jb_nil))))
theorem sc_agree : FnScope ["sums", "other"] ["sums", "other"] (defScope s_agree) := ⟨rfl, rfl, rfl, by decide +kernel, rfl, by decide +kernel, by decide +kernel⟩
noncomputable def f_agree : Sl → Res Fl := (fSeq (fExpr (fCall v_need_sums none (fCons (fName 0) fNil))) (fSeq (fExpr (fCall v_need_sums none (fCons (fName 1) fNil))) (fSeq (fRet (fPrim (fCons (fCall v_first_difference none (fCons (fName 0) (fCons (fName 1) fNil))) (fCons fNon fNil)) (semIsN false))) fSkip)))
noncomputable def v_agree : List W → CRes := vcOf 2 none f_agree
theorem ok_agree {D : Wd} (T : Txt D) : Cal false D 4 "agree" s_agree ["sums", "other"] none true 2 v_agree :=
  cal_of T.d_agree sc_agree (fun _ _ _ _ _ _ us h => match us, h with | [_, _], _ => rfl) (fun g po tt => by
    show JB _ _ _ _ _ _ _ f_agree
    exact (jbc [some (.B []), some (.B [])] (j_expr (g.cl none (ok_need_sums T) (jc (g.nm (m := (.B [])) 0) jn))) (jbc [some (.B []), some (.B [])] (j_expr (g.cl none (ok_need_sums T) (jc (g.nm (m := (.B [])) 1) jn))) (jbc [some (.B []), some (.B [])] (j_ret (g.isN (jc (g.cl none (ok_first_difference T) (jc (g.nm (m := (.B [])) 0) (jc (g.nm (m := (.B [])) 1) jn))) (jc j_non jn)))) jb_nil))))
theorem sc_first_clash : FnScope ["sums", "other"] ["sums", "other"] (defScope s_first_clash) := ⟨rfl, rfl, rfl, by decide +kernel, rfl, by decide +kernel, by decide +kernel⟩
noncomputable def f_first_clash : Sl → Res Fl := (fSeq (fExpr (fCall v_need_sums none (fCons (fName 0) fNil))) (fSeq (fExpr (fCall v_need_sums none (fCons (fName 1) fNil))) (fSeq (fRet (fCall v_first_difference none (fCons (fName 0) (fCons (fName 1) fNil)))) fSkip)))
noncomputable def v_first_clash : List W → CRes := vcOf 2 none f_first_clash
theorem ok_first_clash {D : Wd} (T : Txt D) : Cal false D 4 "first_clash" s_first_clash ["sums", "other"] none true 2 v_first_clash :=
  cal_of T.d_first_clash sc_first_clash (fun _ _ _ _ _ _ us h => match us, h with | [_, _], _ => rfl) (fun g po tt => by
    show JB _ _ _ _ _ _ _ f_first_clash
    exact (jbc [some (.B []), some (.B [])] (j_expr (g.cl none (ok_need_sums T) (jc (g.nm (m := (.B [])) 0) jn))) (jbc [some (.B []), some (.B [])] (j_expr (g.cl none (ok_need_sums T) (jc (g.nm (m := (.B [])) 1) jn))) (jbc [some (.B []), some (.B [])] (j_ret (g.cl none (ok_first_difference T) (jc (g.nm (m := (.B [])) 0) (jc (g.nm (m := (.B [])) 1) jn)))) jb_nil))))
theorem sc__law_right : FnScope ["bag", "wide", "far", "first", "second", "unit", "numbers", "one", "two", "k", "told", "spot", "more", "later", "bad"] ["bag", "wide", "far"] (defScope s__law_right) := ⟨rfl, rfl, rfl, by decide +kernel, rfl, by decide +kernel, by decide +kernel⟩
noncomputable def f__law_right : Sl → Res Fl := (fSeq (fPar [3, 4] (fCons (fPrim (fCons (fInt1 1) (fCons (fCall v__law_draw (some (0, 0)) (fConsIo (fCons (fInt (fName 1)) fNil))) fNil)) semAdd) (fCons (fPrim (fCons (fInt1 1) (fCons (fCall v__law_draw (some (0, 0)) (fConsIo (fCons (fInt (fName 1)) fNil))) fNil)) semAdd) fNil))) (fSeq (fAsg (.nm 5) (fCall v__law_divisor none (fCons (fInt (fName 3)) (fCons (fInt (fName 4)) fNil)))) (fSeq (fAsg (.nm 6) (fCall v__law_numbers (some (0, 0)) (fConsIo (fCons (fPrim (fCons (fInt1 1) (fCons (fCall v__law_draw (some (0, 0)) (fConsIo (fCons (fPrim (fCons (fInt1 2) (fCons (fInt (fName 1)) fNil)) semMul) fNil))) fNil)) semAdd) (fCons (fInt (fName 2)) fNil))))) (fSeq (fPar [7, 8] (fCons (fCall v__law_sums none (fCons (fName 6) (fCons (fInt (fName 3)) fNil))) (fCons (fCall v__law_sums none (fCons (fName 6) (fCons (fInt (fName 4)) fNil))) fNil))) (fSeq (fFor (fItems (fCons (fComp (fItems (fCons (fInt1 1) (fCons (fPrim (fCons (fInt (fName 3)) (fCons (fInt1 1) fNil)) semAdd) fNil)) itemsR2) (.nm 9) [9] (fBl (fPrim (fCons (fPrim (fCons (fPrim (fCons (fInt (fName 3)) fNil) semIntC) (fCons (fInt (fName 9)) fNil)) semMod) (fCons (fInt1 0) fNil)) (semEq false))) (fInt (fName 9))) fNil) itemsL) (.nm 9) [9, 10] (fSeq (fAsg (.nm 10) (fCall (fun ws => v_folded (perm .non [1, 0] ws)) none (fCons (fInt (fName 9)) (fCons (fName 7) fNil)))) (fSeq (fIf (fNot (fBl (fCall v__law_alike_5 none (fCons (fName 10) (fCons (fCall v__law_sums none (fCons (fName 7) (fCons (fInt (fName 9)) fNil))) fNil))))) (fSeq (fRet (fBl1 false)) fSkip) fSkip) (fSeq (fApp 10 (fInt1 1)) (fSeq (fIf (fNot (fBl (fCall v__law_alike_5 none (fCons (fCall v_folded none (fCons (fName 7) (fCons (fInt (fName 9)) fNil))) (fCons (fCall v__law_sums none (fCons (fName 6) (fCons (fInt (fName 9)) fNil))) fNil))))) (fSeq (fRet (fBl1 false)) fSkip) fSkip) fSkip))))) (fSeq (fIf (fNot (fBl (fCall v__law_alike_5 none (fCons (fPrim (fCons (fCall v_agree none (fCons (fName 7) (fCons (fName 8) fNil))) (fCons (fCall v_first_clash none (fCons (fName 7) (fCons (fName 8) fNil))) fNil)) (semLst W.pure.all)) (fCons (fPrim (fCons (fBl1 true) (fCons fNon fNil)) (semLst W.pure.all)) fNil))))) (fSeq (fRet (fBl1 false)) fSkip) fSkip) (fSeq (fPar [11, 12] (fCons (fCall v__law_draw (some (0, 0)) (fConsIo (fCons (fInt (fName 4)) fNil))) (fCons (fInt (fPrim (fCons (fPrim (fCons (fInt1 1) (fCons (fPrim (fCons (fInt1 0) (fCons (fInt (fName 2)) fNil)) semSub) fNil)) (semLst W.pure.all)) (fCons (fCall v__law_draw (some (0, 0)) (fConsIo (fCons (fInt1 2) fNil))) fNil)) semIx)) fNil))) (fSeq (fSetIx 8 (fPrim (fCons (fInt (fPrim (fCons (fName 8) (fCons (fInt (fName 11)) fNil)) semIx)) (fCons (fInt (fName 12)) fNil)) semAdd) (fInt (fName 11))) (fSeq (fIf (fNot (fBl (fCall v__law_alike_5 none (fCons (fPrim (fCons (fCall (fun ws => v_agree (perm .non [1, 0] ws)) none (fCons (fName 8) (fCons (fName 7) fNil))) (fCons (fCall (fun ws => v_first_clash (perm .non [1, 0] ws)) none (fCons (fName 8) (fCons (fName 7) fNil))) fNil)) (semLst W.pure.all)) (fCons (fPrim (fCons (fBl1 false) (fCons (fPrim (fCons (fPrim (fCons (fInt (fName 11)) fNil) semIntC) (fCons (fInt (fName 5)) fNil)) semMod) fNil)) (semLst W.pure.all)) fNil))))) (fSeq (fRet (fBl1 false)) fSkip) fSkip) (fSeq (fAsg (.nm 13) (fCall v__law_draw (some (0, 0)) (fConsIo (fCons (fInt (fName 3)) fNil)))) (fSeq (fSetIx 7 (fPrim (fCons (fInt (fPrim (fCons (fName 7) (fCons (fInt (fName 13)) fNil)) semIx)) (fCons (fInt (fName 12)) fNil)) semAdd) (fInt (fName 13))) (fSeq (fAsg (.nm 14) (fComp (fItems (fCons (fInt (fName 5)) fNil) itemsR1) (.nm 9) [9] (fBl (fPrim (fCons (fInt (fPrim (fCons (fCall v__law_sums none (fCons (fName 7) (fCons (fInt (fName 5)) fNil))) (fCons (fInt (fName 9)) fNil)) semIx)) (fCons (fInt (fPrim (fCons (fCall v__law_sums none (fCons (fName 8) (fCons (fInt (fName 5)) fNil))) (fCons (fInt (fName 9)) fNil)) semIx)) fNil)) (semEq true))) (fInt (fName 9)))) (fSeq (fRet (fCall v__law_alike_5 none (fCons (fPrim (fCons (fCall v_agree none (fCons (fName 7) (fCons (fName 8) fNil))) (fCons (fCall v_first_clash none (fCons (fName 7) (fCons (fName 8) fNil))) fNil)) (semLst W.pure.all)) (fCons (fPrim (fCons (fPrim (fCons (fName 14) (fCons (fPrim fNil (semLst W.pure.all)) fNil)) (semEq false)) (fCons (fIf (fBl (fPrim (fCons (fName 14) (fCons (fPrim fNil (semLst W.pure.all)) fNil)) (semEq true))) (fInt (fPrim (fCons (fName 14) (fCons (fInt1 0) fNil)) semIx)) fNon) fNil)) (semLst W.pure.all)) fNil)))) fSkip)))))))))))))
noncomputable def v__law_right : List W → CRes := vcOf 15 (some 0) f__law_right
theorem ok__law_right {D : Wd} (T : Txt D) : Cal false D 7 "_law_right" s__law_right ["bag", "wide", "far"] (some 0) true 3 v__law_right :=
  cal_of T.d__law_right sc__law_right (fun _ _ _ _ _ _ us h => match us, h with | [_, _, _], _ => rfl) (fun g po tt => by
    show JB _ _ _ _ _ _ _ f__law_right
    exact (jbc [some .O, some (.B []), some (.B []), some .O, some .O, none, none, none, none, none, none, none, none, none, none] (g.parT 3 4 (jc (g.add (jc j_int (jc (g.cl (some (0, 0)) (ok__law_draw T) (g.io 0 (jc (g.ni 1) jn))) jn))) (jc (g.add (jc j_int (jc (g.cl (some (0, 0)) (ok__law_draw T) (g.io 0 (jc (g.ni 1) jn))) jn))) jn))) (jbc [some .O, some (.B []), some (.B []), some .O, some .O, some .O, none, none, none, none, none, none, none, none, none] (g.asg 5 (g.cl none (ok__law_divisor T) (jc (g.ni 3) (jc (g.ni 4) jn)))) (jbc [some .O, some (.B []), some (.B []), some .O, some .O, some .O, some .O, none, none, none, none, none, none, none, none] (g.asg 6 (g.cl (some (0, 0)) (ok__law_numbers T) (g.io 0 (jc (g.add (jc j_int (jc (g.cl (some (0, 0)) (ok__law_draw T) (g.io 0 (jc (g.mul (jc j_int (jc (g.ni 1) jn))) jn))) jn))) (jc (g.ni 2) jn))))) (jbc [some .O, some (.B []), some (.B []), some .O, some .O, some .O, some .O, some .O, some .O, none, none, none, none, none, none] (g.parT 7 8 (jc (g.cl none (ok__law_sums T) (jc (g.nm (m := .O) 6) (jc (g.ni 3) jn))) (jc (g.cl none (ok__law_sums T) (jc (g.nm (m := .O) 6) (jc (g.ni 4) jn))) jn))) (jbc [some .O, some (.B []), some (.B []), some .O, some .O, some .O, some .O, some .O, some .O, none, none, none, none, none, none] (g.for po [9, 10] [some .O, some (.B []), some (.B []), some .O, some .O, some .O, some .O, some .O, some .O, none, none, none, none, none, none] (g.itL (jc (je_comp (g.comp (Ga := []) [("k", 9)] [some .O, some (.B []), some (.B []), some .O, some .O, some .O, some .O, some .O, some .O, none, none, none, none, none, none] (g.it2 T.b_range (jc j_int (jc (g.add (jc (g.ni 3) (jc j_int jn))) jn))) (fun g' => (g'.tgN 9)) (fun g' => (jts_one (g'.eqT (jc (g'.mod (jc (g'.int T.b_int (jc (g'.ni 3) jn)) (jc (g'.ni 9) jn))) (jc j_int jn))))) (fun g' => (g'.ni 9)))) jn)) (g.tgN 9) (jbc [some .O, some (.B []), some (.B []), some .O, some .O, some .O, some .O, some .O, some .O, some (.B []), some .O, none, none, none, none] (g.asg 10 (g.clK (ks := ["by", "sums"]) [1, 0] none (ok_folded T) (fun _ _ _ _ _ _ us ws h1 h2 => match us, ws, h1, h2 with | [], [_, _], _, _ => rfl) rfl (jc (g.ni 9) (jc (g.nm (m := .O) 7) jn)))) (jbc [some .O, some (.B []), some (.B []), some .O, some .O, some .O, some .O, some .O, some .O, some (.B []), some .O, none, none, none, none] (js_if (G' := [some .O, some (.B []), some (.B []), some .O, some .O, some .O, some .O, some .O, some .O, some (.B []), some .O, none, none, none, none]) (jt_not (j_val (g.cl none (ok__law_alike_5 T) (jc (g.nm (m := .O) 10) (jc (g.cl none (ok__law_sums T) (jc (g.nm (m := .O) 7) (jc (g.ni 9) jn))) jn))))) (jbc [some .O, some (.B []), some (.B []), some .O, some .O, some .O, some .O, some .O, some .O, some (.B []), some .O, none, none, none, none] (j_ret j_bl) jb_nil) jb_nil) (jbc [some .O, some (.B []), some (.B []), some .O, some .O, some .O, some .O, some .O, some .O, some (.B []), some .O, none, none, none, none] (g.app 10 j_int) (jbc [some .O, some (.B []), some (.B []), some .O, some .O, some .O, some .O, some .O, some .O, some (.B []), some .O, none, none, none, none] (js_if (G' := [some .O, some (.B []), some (.B []), some .O, some .O, some .O, some .O, some .O, some .O, some (.B []), some .O, none, none, none, none]) (jt_not (j_val (g.cl none (ok__law_alike_5 T) (jc (g.cl none (ok_folded T) (jc (g.nm (m := .O) 7) (jc (g.ni 9) jn))) (jc (g.cl none (ok__law_sums T) (jc (g.nm (m := .O) 6) (jc (g.ni 9) jn))) jn))))) (jbc [some .O, some (.B []), some (.B []), some .O, some .O, some .O, some .O, some .O, some .O, some (.B []), some .O, none, none, none, none] (j_ret j_bl) jb_nil) jb_nil) jb_nil))))) (jbc [some .O, some (.B []), some (.B []), some .O, some .O, some .O, some .O, some .O, some .O, none, none, none, none, none, none] (js_if (G' := [some .O, some (.B []), some (.B []), some .O, some .O, some .O, some .O, some .O, some .O, none, none, none, none, none, none]) (jt_not (j_val (g.cl none (ok__law_alike_5 T) (jc (j_lstF (jc (g.cl none (ok_agree T) (jc (g.nm (m := .O) 7) (jc (g.nm (m := .O) 8) jn))) (jc (g.cl none (ok_first_clash T) (jc (g.nm (m := .O) 7) (jc (g.nm (m := .O) 8) jn))) jn))) (jc (j_lstF (jc j_bl (jc j_non jn))) jn))))) (jbc [some .O, some (.B []), some (.B []), some .O, some .O, some .O, some .O, some .O, some .O, none, none, none, none, none, none] (j_ret j_bl) jb_nil) jb_nil) (jbc [some .O, some (.B []), some (.B []), some .O, some .O, some .O, some .O, some .O, some .O, none, none, some .O, some .O, none, none] (g.par2 11 12 (jc (g.cl (some (0, 0)) (ok__law_draw T) (g.io 0 (jc (g.ni 4) jn))) (jc (je_int (g.ix (jc (j_lstF (jc j_int (jc (g.sub (jc j_int (jc (g.ni 2) jn))) jn))) (jc (g.cl (some (0, 0)) (ok__law_draw T) (g.io 0 (jc j_int jn))) jn)))) jn))) (jbc [some .O, some (.B []), some (.B []), some .O, some .O, some .O, some .O, some .O, some .O, none, none, some .O, some .O, none, none] (g.setix 8 (g.add (jc (je_int (g.ix (jc (g.nm (m := .O) 8) (jc (g.ni 11) jn)))) (jc (g.ni 12) jn))) (g.ni 11)) (jbc [some .O, some (.B []), some (.B []), some .O, some .O, some .O, some .O, some .O, some .O, none, none, some .O, some .O, none, none] (js_if (G' := [some .O, some (.B []), some (.B []), some .O, some .O, some .O, some .O, some .O, some .O, none, none, some .O, some .O, none, none]) (jt_not (j_val (g.cl none (ok__law_alike_5 T) (jc (j_lstF (jc (g.clK (ks := ["other", "sums"]) [1, 0] none (ok_agree T) (fun _ _ _ _ _ _ us ws h1 h2 => match us, ws, h1, h2 with | [], [_, _], _, _ => rfl) rfl (jc (g.nm (m := .O) 8) (jc (g.nm (m := .O) 7) jn))) (jc (g.clK (ks := ["other", "sums"]) [1, 0] none (ok_first_clash T) (fun _ _ _ _ _ _ us ws h1 h2 => match us, ws, h1, h2 with | [], [_, _], _, _ => rfl) rfl (jc (g.nm (m := .O) 8) (jc (g.nm (m := .O) 7) jn))) jn))) (jc (j_lstF (jc j_bl (jc (g.mod (jc (g.int T.b_int (jc (g.ni 11) jn)) (jc (g.ni 5) jn))) jn))) jn))))) (jbc [some .O, some (.B []), some (.B []), some .O, some .O, some .O, some .O, some .O, some .O, none, none, some .O, some .O, none, none] (j_ret j_bl) jb_nil) jb_nil) (jbc [some .O, some (.B []), some (.B []), some .O, some .O, some .O, some .O, some .O, some .O, none, none, some .O, some .O, some .O, none] (g.asg 13 (g.cl (some (0, 0)) (ok__law_draw T) (g.io 0 (jc (g.ni 3) jn)))) (jbc [some .O, some (.B []), some (.B []), some .O, some .O, some .O, some .O, some .O, some .O, none, none, some .O, some .O, some .O, none] (g.setix 7 (g.add (jc (je_int (g.ix (jc (g.nm (m := .O) 7) (jc (g.ni 13) jn)))) (jc (g.ni 12) jn))) (g.ni 13)) (jbc [some .O, some (.B []), some (.B []), some .O, some .O, some .O, some .O, some .O, some .O, none, none, some .O, some .O, some .O, some .O] (g.asgC 14 (g.comp (Ga := []) [("k", 9)] [some .O, some (.B []), some (.B []), some .O, some .O, some .O, some .O, some .O, some .O, none, none, some .O, some .O, some .O, none] (g.it1 T.b_range (jc (g.ni 5) jn)) (fun g' => (g'.tgN 9)) (fun g' => (jts_one (g'.neT (jc (je_int (g'.ix (jc (g'.cl none (ok__law_sums T) (jc (g'.nm (m := .O) 7) (jc (g'.ni 5) jn))) (jc (g'.ni 9) jn)))) (jc (je_int (g'.ix (jc (g'.cl none (ok__law_sums T) (jc (g'.nm (m := .O) 8) (jc (g'.ni 5) jn))) (jc (g'.ni 9) jn)))) jn))))) (fun g' => (g'.ni 9)))) (jbc [some .O, some (.B []), some (.B []), none, none, none, none, none, none, none, none, none, none, none, none] (j_ret (g.cl none (ok__law_alike_5 T) (jc (j_lstF (jc (g.cl none (ok_agree T) (jc (g.nm (m := .O) 7) (jc (g.nm (m := .O) 8) jn))) (jc (g.cl none (ok_first_clash T) (jc (g.nm (m := .O) 7) (jc (g.nm (m := .O) 8) jn))) jn))) (jc (j_lstF (jc (g.eq (jc (g.nm (m := .O) 14) (jc (j_lstF jn) jn))) (jc (je_ife (mo := .O) (g.neT (jc (g.nm (m := .O) 14) (jc (j_lstF jn) jn))) (je_int (g.ix (jc (g.nm (m := .O) 14) (jc j_int jn)))) j_non) jn))) jn)))) jb_nil))))))))))))))
theorem sc_law : FnScope ["script", "bag", "turn"] ["script"] (defScope s_law) := ⟨rfl, rfl, rfl, by decide +kernel, rfl, by decide +kernel, by decide +kernel⟩
noncomputable def f_law : Sl → Res Fl := (fSeq (fAsg (.nm 1) (fCall v__law_bag none (fCons (fName 0) fNil))) (fSeq (fFor (fItems (fCons (fInt1 8) fNil) itemsR1) (.nm 2) [2] (fSeq (fIf (fNot (fBl (fCall v__law_right (some (0, 1)) (fConsIo (fCons (fInt (fPrim (fCons (fPrim (fCons (fInt1 12) (fCons (fInt1 12) (fCons (fInt1 60) (fCons (fInt1 200) fNil)))) (semLst W.pure.all)) (fCons (fCall v__law_draw (some (0, 1)) (fConsIo (fCons (fInt1 4) fNil))) fNil)) semIx)) (fCons (fInt (fPrim (fCons (fPrim (fCons (fInt1 9) (fCons (fPrim (fCons (fInt1 10) (fCons (fInt1 27) fNil)) semPow) fNil)) (semLst W.pure.all)) (fCons (fCall v__law_draw (some (0, 1)) (fConsIo (fCons (fInt1 2) fNil))) fNil)) semIx)) fNil)))))) (fSeq (fRet (fBl1 false)) fSkip) fSkip) fSkip)) (fSeq (fRet (fCall v__law_alike_5 none (fCons (fPrim (fCons (fCall v_first_clash none (fCons (fPrim (fCons (fInt1 4) (fCons (fInt1 6) fNil)) (semLst W.pure.all)) (fCons (fPrim (fCons (fInt1 3) (fCons (fInt1 4) (fCons (fInt1 4) fNil))) (semLst W.pure.all)) fNil))) (fCons (fCall v_folded none (fCons (fPrim (fCons (fInt1 1) (fCons (fInt1 2) (fCons (fInt1 3) (fCons (fInt1 4) (fCons (fInt1 5) (fCons (fInt1 6) fNil)))))) (semLst W.pure.all)) (fCons (fInt1 3) fNil))) fNil)) (semLst anyW)) (fCons (fPrim (fCons (fInt1 0) (fCons (fPrim (fCons (fInt1 5) (fCons (fInt1 7) (fCons (fInt1 9) fNil))) (semLst W.pure.all)) fNil)) (semLst anyW)) fNil)))) fSkip)))
noncomputable def v_law : List W → CRes := vcOf 3 none f_law
theorem ok_law {D : Wd} (T : Txt D) : Cal false D 8 "law" s_law ["script"] none true 1 v_law :=
  cal_of T.d_law sc_law (fun _ _ _ _ _ _ us h => match us, h with | [_], _ => rfl) (fun g po tt => by
    show JB _ _ _ _ _ _ _ f_law
    exact (jbc [some (.B []), some .O, none] (g.asg 1 (g.cl none (ok__law_bag T) (jc (g.nm (m := (.B [])) 0) jn))) (jbc [some (.B []), some .O, none] (g.for po [2] [some (.B []), some .O, none] (g.it1 T.b_range (jc j_int jn)) (g.tgN 2) (jbc [some (.B []), some .O, some (.B [])] (js_if (G' := [some (.B []), some .O, some (.B [])]) (jt_not (j_val (g.cl (some (0, 1)) (ok__law_right T) (g.io 1 (jc (je_int (g.ix (jc (j_lstF (jc j_int (jc j_int (jc j_int (jc j_int jn))))) (jc (g.cl (some (0, 1)) (ok__law_draw T) (g.io 1 (jc j_int jn))) jn)))) (jc (je_int (g.ix (jc (j_lstF (jc j_int (jc (g.pow (jc j_int (jc j_int jn))) jn))) (jc (g.cl (some (0, 1)) (ok__law_draw T) (g.io 1 (jc j_int jn))) jn)))) jn)))))) (jbc [some (.B []), some .O, some (.B [])] (j_ret j_bl) jb_nil) jb_nil) jb_nil)) (jbc [some (.B []), none, none] (j_ret (g.cl none (ok__law_alike_5 T) (jc (j_lstO (jc (g.cl none (ok_first_clash T) (jc (j_lstF (jc j_int (jc j_int jn))) (jc (j_lstF (jc j_int (jc j_int (jc j_int jn)))) jn))) (jc (g.cl none (ok_folded T) (jc (j_lstF (jc j_int (jc j_int (jc j_int (jc j_int (jc j_int (jc j_int jn))))))) (jc j_int jn))) jn))) (jc (j_lstO (jc j_int (jc (j_lstF (jc j_int (jc j_int (jc j_int jn)))) jn))) jn)))) jb_nil))))

theorem p_is_integer (i : Int) : v_is_integer [.int i] = .ok (.bl true) .non := by
  have e1 : semIsi "int" [.int i] = some (.bl true) := by show (kitB "int" "int").map W.bl = _; rw [show kitB "int" "int" = some true by decide +kernel]; rfl
  have e2 : semIsi "bool" [.int i] = some (.bl false) := by show (kitB "int" "bool").map W.bl = _; rw [show kitB "int" "bool" = some false by decide +kernel]; rfl
  simp [v_is_integer, vcOf, f_is_integer, enter, ioOut, e1, e2, W.pure]
theorem p_are_integers (ns : List Int) (m : Int) (h1 : 1 ≤ ns.length) (h2 : (ns.length : Int) ≤ m) (h3 : m ≤ 1000) : v_are_integers [.lst (ns.map W.int), .int m] = .ok (.bl true) .non := by
  have e1 : semIsi "list" [.lst (ns.map W.int)] = some (.bl true) := by show (kitB "list" "list").map W.bl = _; rw [show kitB "list" "list" = some true by decide +kernel]; rfl
  have hz : sizeLine = 2 ^ 24 := sizeLine_eq
  have hl : ns.length ≤ sizeLine := by omega
  have hc : cLoop (.nm 2) [2] (fun S => .ok true S) (fCall v_is_integer none (fCons (fInt (fName 2)) fNil)) (ns.map W.int) [] [some (.lst (ns.map W.int)), some (.int m), none] = .ok (.lst (ns.map fun _ => W.bl true)) [some (.lst (ns.map W.int)), some (.int m), none] := by
    rw [cLoop_map (T := [some (.lst (ns.map W.int)), some (.int m), none]) (g := fun _ => .bl true) _ _ _ (by simp) fun w hw => ?_]
    · simp
    · obtain ⟨i, _, rfl⟩ := List.mem_map.mp hw
      exact ⟨_, _, rfl, by simp [p_is_integer]; rfl, by simp⟩
  have h4 : (1 : Int) ≤ ns.length := by omega
  have hs : semBls (fun bs => .bl (bs.all id)) [.lst (ns.map fun _ => W.bl true)] = some (.bl true) := by
    rw [semBls_map (p := fun _ => true)]
    simp
  rw [List.map_const'] at hs hc
  simp [v_are_integers, vcOf, f_are_integers, enter, ioOut, e1, h4, h2, hl, hc, hs]
end Vm
namespace Vm
open PySem PySem.Spec PyProof.Rows L2
/-! ## lists of integers as values -/
@[simp] theorem szL1 : 1 ≤ sizeLine := by rw [sizeLine_eq]; decide
@[simp] theorem szT1 : 1 < sizeLine := by rw [sizeLine_eq]; decide
@[simp] theorem szL2 : 2 ≤ sizeLine := by rw [sizeLine_eq]; decide
@[simp] theorem szT2 : 2 < sizeLine := by rw [sizeLine_eq]; decide
@[simp] theorem szL3 : 3 ≤ sizeLine := by rw [sizeLine_eq]; decide
@[simp] theorem szT3 : 3 < sizeLine := by rw [sizeLine_eq]; decide
@[simp] theorem szL4 : 4 ≤ sizeLine := by rw [sizeLine_eq]; decide
@[simp] theorem szT4 : 4 < sizeLine := by rw [sizeLine_eq]; decide
@[simp] theorem szL5 : 5 ≤ sizeLine := by rw [sizeLine_eq]; decide
@[simp] theorem szT5 : 5 < sizeLine := by rw [sizeLine_eq]; decide
@[simp] theorem szL6 : 6 ≤ sizeLine := by rw [sizeLine_eq]; decide
@[simp] theorem szT6 : 6 < sizeLine := by rw [sizeLine_eq]; decide
@[simp] theorem szL7 : 7 ≤ sizeLine := by rw [sizeLine_eq]; decide
@[simp] theorem szT7 : 7 < sizeLine := by rw [sizeLine_eq]; decide
@[simp] theorem szL8 : 8 ≤ sizeLine := by rw [sizeLine_eq]; decide
@[simp] theorem szT8 : 8 < sizeLine := by rw [sizeLine_eq]; decide
@[simp] theorem szL9 : 9 ≤ sizeLine := by rw [sizeLine_eq]; decide
@[simp] theorem szT9 : 9 < sizeLine := by rw [sizeLine_eq]; decide
@[simp] theorem szL10 : 10 ≤ sizeLine := by rw [sizeLine_eq]; decide
@[simp] theorem szT10 : 10 < sizeLine := by rw [sizeLine_eq]; decide
@[simp] theorem szL11 : 11 ≤ sizeLine := by rw [sizeLine_eq]; decide
@[simp] theorem szT11 : 11 < sizeLine := by rw [sizeLine_eq]; decide
@[simp] theorem szL12 : 12 ≤ sizeLine := by rw [sizeLine_eq]; decide
@[simp] theorem szT12 : 12 < sizeLine := by rw [sizeLine_eq]; decide
@[simp] theorem szL13 : 13 ≤ sizeLine := by rw [sizeLine_eq]; decide
@[simp] theorem szT13 : 13 < sizeLine := by rw [sizeLine_eq]; decide
@[simp] theorem szL14 : 14 ≤ sizeLine := by rw [sizeLine_eq]; decide
@[simp] theorem szT14 : 14 < sizeLine := by rw [sizeLine_eq]; decide
@[simp] theorem szL15 : 15 ≤ sizeLine := by rw [sizeLine_eq]; decide
@[simp] theorem szT15 : 15 < sizeLine := by rw [sizeLine_eq]; decide
@[simp] theorem szL16 : 16 ≤ sizeLine := by rw [sizeLine_eq]; decide
@[simp] theorem szT16 : 16 < sizeLine := by rw [sizeLine_eq]; decide
@[simp] theorem szL20 : 20 ≤ sizeLine := by rw [sizeLine_eq]; decide
@[simp] theorem szT20 : 20 < sizeLine := by rw [sizeLine_eq]; decide
@[simp] theorem szL24 : 24 ≤ sizeLine := by rw [sizeLine_eq]; decide
@[simp] theorem szT24 : 24 < sizeLine := by rw [sizeLine_eq]; decide
@[simp] theorem szL30 : 30 ≤ sizeLine := by rw [sizeLine_eq]; decide
@[simp] theorem szT30 : 30 < sizeLine := by rw [sizeLine_eq]; decide
@[simp] theorem szL40 : 40 ≤ sizeLine := by rw [sizeLine_eq]; decide
@[simp] theorem szT40 : 40 < sizeLine := by rw [sizeLine_eq]; decide
@[simp] theorem szT0 : 0 < sizeLine := by rw [sizeLine_eq]; decide
def LI (l : List Int) : W := .lst (l.map W.int)
theorem LI_d (l : List Int) : LI l = .lst (l.map W.int) := rfl
def LB (l : List Bool) : W := .lst (l.map W.bl)
/-- the co-efficients of a list -/
def cf (l : List Int) (i : Nat) : Int := l.getD i 0
theorem intInj : Function.Injective W.int := fun _ _ h => W.int.inj h
@[simp] theorem LI_inj {a b : List Int} : LI a = LI b ↔ a = b := by
  constructor
  · intro h
    have h2 : a.map W.int = b.map W.int := W.lst.inj h
    exact (List.map_inj_right fun _ _ h => intInj h).mp h2
  · intro h; rw [h]
theorem ixN_lt {n k : Nat} {i : Int} (h : ixN n i = some k) : k < n := by
  unfold ixN at h
  split at h
  · split at h
    · cases h; omega
    · cases h
  · split at h
    · cases h; omega
    · cases h
section
variable {a b : List Int} {i v : Int} {k : Nat} {S : Sl} {neg : Bool} {lo hi : Option Int}
@[simp] theorem LI_nil : LI [] = .lst [] := Eq.trans rfl rfl
@[simp] theorem LB_nil : LB [] = .lst [] := Eq.trans rfl rfl
@[simp] theorem mapInt (l : List Int) : W.lst (l.map W.int) = LI l := Eq.trans rfl rfl
@[simp] theorem mapBl (l : List Bool) : W.lst (l.map W.bl) = LB l := Eq.trans rfl rfl
@[simp] theorem lenLI : semLen [LI a] = some (.int a.length) := by simp only [LI_d, semLen_l, List.length_map]
@[simp] theorem ixLI : semIx [LI a, .int i] = (ixN a.length i).map (fun k => .int (cf a k)) := by
  simp only [LI_d, semIx_l, List.length_map]
  cases h : ixN a.length i with
  | none => rfl
  | some k =>
    have := ixN_lt h
    simp [cf, List.getD, this]
@[simp] theorem setLI {i : Int} : setR2 k (.int v) i (some (some (LI a))) S = optS ((ixN a.length i).map fun j => S.set k (some (LI (a.set j v)))) := by
  simp only [LI_d, setR2_a, List.length_map, set_ints]
@[simp] theorem setLI1 {fi : Sl → Res W} {w : W} : setR1 k fi w (some (some (LI a))) S = (fi S).bind (setK2 k w) := by
  simp only [LI_d, setR1_a]
@[simp] theorem appLI : appR k (.int v) (some (some (LI a))) S = if a.length < sizeLine then .ok .nx (S.set k (some (LI (a ++ [v])))) else .err := by
  simp only [LI_d, appR_a, List.length_map, List.map_append, List.map_cons, List.map_nil]
def appR1 (k : Nat) (f : Sl → Res W) : Option (Option W) → Sl → Res Fl
  | some (some (.lst _)), S => (f S).bind (appK2 k)
  | _, _ => .err
@[simp] theorem appR1_a {f : Sl → Res W} {ws : List W} : appR1 k f (some (some (.lst ws))) S = (f S).bind (appK2 k) := Eq.trans rfl rfl
@[simp] theorem appR1_LI {f : Sl → Res W} : appR1 k f (some (some (LI a))) S = (f S).bind (appK2 k) := Eq.trans rfl rfl
@[simp ↓] theorem fApp_b {f : Sl → Res W} : fApp k f S = appR1 k f S[k]? S := by
  cases h : S[k]? with
  | none => unfold fApp; rw [h]; rfl
  | some x => cases x with
    | none => unfold fApp; rw [h]; rfl
    | some y => cases y with
      | lst ws => rw [fApp_a h]; rfl
      | _ => unfold fApp; rw [h]; rfl
@[simp] theorem pureLI (l : List W) (h : W.pure.all l = true) (ns : List Int) : W.pure.all (l ++ ns.map W.int) = true := by
  induction l with
  | nil => simp
  | cons x l ih => simp only [W.pure.all, Bool.and_eq_true] at h; simp [W.pure.all, h.1, ih h.2]
@[simp] theorem catLI : semCat W.pure.all [LI a, LI b] = if a.length + b.length ≤ sizeLine then some (LI (a ++ b)) else none := by
  simp only [LI_d, semCat_a, List.length_map, pureLI _ (pureInts a), and_true, List.map_append]
@[simp] theorem catLIy : semCat anyW [LI a, LI b] = if a.length + b.length ≤ sizeLine then some (LI (a ++ b)) else none := by
  simp only [LI_d, semCat_a, List.length_map, anyW_a, and_true, List.map_append]
@[simp] theorem sumLI : semSum [LI a] = some (.int a.sum) := semSum_li a
theorem maxLI (h : a ≠ []) : semMax [LI a] = some (.int (lMax a)) := by simp [LI, -mapInt, semMax, semInts, h]
theorem minLI (h : a ≠ []) : semMin [LI a] = some (.int (lMin a)) := by simp [LI, -mapInt, semMin, semInts, h]
@[simp] theorem itLI : itemsL [LI a] = some (a.map W.int) := Eq.trans rfl rfl
@[simp] theorem itELI : itemsE [LI a] = some (a.zipIdx.map fun p => W.tup [.int (p.2 : Nat), .int p.1]) := by
  show some (pairUp (a.map W.int)) = _
  rw [pairUp_ints]
@[simp] theorem eqLI : semEq neg [LI a, LI b] = some (.bl (if neg then !decide (a = b) else decide (a = b))) := semEq_li a b
@[simp] theorem eqII {i j : Int} : semEq neg [.int i, .int j] = some (.bl (if neg then !decide (i = j) else decide (i = j))) := semEq_ii i j
@[simp] theorem listLI : semListC W.pure.all [LI a] = some (LI a) := by
  show (if W.pure.all (a.map W.int) = true then some (W.lst (a.map W.int)) else none) = _
  rw [if_pos (pureInts a)]
  rfl
@[simp] theorem toDLI : toD (LI a) = some (.list (a.map PyData.int)) := by simp only [LI_d, toD, toDs_ints, Option.map_some]
@[simp] theorem allLB {l : List Bool} {f : List Bool → W} : semBls f [LB l] = some (f l) := by
  have h := semBls_map (f := f) (p := id) l
  simpa using h
@[simp] theorem appLIn : appR k .non (some (some (LI a))) S = if a.length < sizeLine then .ok .nx (S.set k (some (.lst (a.map W.int ++ [.non])))) else .err := by
  simp only [LI_d, appR_a, List.length_map]
theorem repI (n : Nat) (h : n ≤ 10000000) : semRep [.lst [.int v], .int (n : Nat)] = some (LI (List.replicate n v)) := by
  have r := semRep_ints [v] (n : Nat) (by omega) (by simp; omega) (by omega)
  have e : ∀ n, (List.replicate n [v]).flatten = List.replicate n v := by
    intro n
    induction n with
    | zero => rfl
    | succ n ih => simp [List.replicate_succ, ih]
  rw [Int.toNat_natCast, e] at r
  exact r
theorem repZ {n : Int} (h0 : 0 ≤ n) (h : n ≤ 10000000) : semRep [.lst [.int v], .int n] = some (LI (List.replicate n.toNat v)) := by
  have := repI (v := v) n.toNat (by omega)
  rwa [Int.toNat_of_nonneg h0] at this
theorem repNeg {n : Int} (h0 : n ≤ 0) (h : -10000000 ≤ n) : semRep [.lst [.int v], .int n] = some (.lst []) := by
  show (if -(2 ^ 63) ≤ n ∧ n < 2 ^ 63 ∧ [W.int v].length * n.toNat ≤ sizeLine ∧ W.pure.all [W.int v] = true then some (W.lst (List.replicate n.toNat [W.int v]).flatten) else none) = _
  have : n.toNat = 0 := by omega
  rw [this, if_pos ⟨by omega, by omega, by simp, rfl⟩]
  rfl
theorem ixz {n : Nat} {i : Int} (h0 : 0 ≤ i) (h : i < n) : ixN n i = some i.toNat := by
  have := ixN_nat (n := n) (k := i.toNat) (by omega)
  rwa [Int.toNat_of_nonneg h0] at this
/-- a part of a list -/
def cutN {α : Type} (l : List α) (lo hi : Option Int) : List α := (l.drop (HT.sIx l.length 0 lo)).take (HT.sIx l.length l.length hi - HT.sIx l.length 0 lo)
theorem cutW_map {α : Type} (f : α → W) (l : List α) : cutW (l.map f) lo hi = (cutN l lo hi).map f := by
  unfold cutW cutN
  rw [List.length_map, List.map_take, List.map_drop]
@[simp] theorem cutLI : cutL W.pure.all (LI a) lo hi = some (LI (cutN a lo hi)) := by
  show (if W.pure.all (cutW (a.map W.int) lo hi) = true then some (W.lst (cutW (a.map W.int) lo hi)) else none) = _
  rw [cutW_map, if_pos (pureInts _)]
  rfl
theorem pick_map {α β : Type} (f : α → β) (l : List α) (c : Int) : pickL (l.map f) lo hi c = (pickL l lo hi c).map f := by
  unfold pickL
  rw [List.length_map, List.map_filterMap]
  congr 1
  funext x
  rw [List.getElem?_map]
theorem filterMap_len {α β : Type} (f : α → Option β) : ∀ l : List α, (l.filterMap f).length ≤ l.length
  | [] => Nat.le_refl _
  | x :: l => by
    rw [List.filterMap_cons]
    have := filterMap_len f l
    cases f x <;> simp <;> omega
def sliS3 (w : W) (l h : Option Int) : Option Int → Sl → Res W := fun c S => optW (cutS w l h c) S
@[simp] theorem sliS3_a {w : W} {l h c : Option Int} : sliS3 w l h c S = optW (cutS w l h c) S := Eq.trans rfl rfl
def sliS2 (fs : Sl → Res (Option Int)) (w : W) (l : Option Int) : Option Int → Sl → Res W := fun h S => (fs S).bind (sliS3 w l h)
@[simp ↓] theorem sliS2_a {fs : Sl → Res (Option Int)} {w : W} {l h : Option Int} : sliS2 fs w l h S = (fs S).bind (sliS3 w l h) := Eq.trans rfl rfl
def sliS1 (fh fs : Sl → Res (Option Int)) (w : W) : Option Int → Sl → Res W := fun l S => (fh S).bind (sliS2 fs w l)
@[simp ↓] theorem sliS1_a {fh fs : Sl → Res (Option Int)} {w : W} {l : Option Int} : sliS1 fh fs w l S = (fh S).bind (sliS2 fs w l) := Eq.trans rfl rfl
def sliS0 (fl fh fs : Sl → Res (Option Int)) : W → Sl → Res W := fun w S => (fl S).bind (sliS1 fh fs w)
@[simp ↓] theorem sliS0_a {fl fh fs : Sl → Res (Option Int)} {w : W} : sliS0 fl fh fs w S = (fl S).bind (sliS1 fh fs w) := Eq.trans rfl rfl
@[simp ↓] theorem fSliceS_a {fe : Sl → Res W} {fl fh fs : Sl → Res (Option Int)} : fSliceS fe fl fh fs S = (fe S).bind (sliS0 fl fh fs) := by
  unfold fSliceS
  cases fe S with
  | err => rfl
  | exc x S1 => rfl
  | ok w S1 =>
    show (fl S1).bind _ = (fl S1).bind _
    cases fl S1 with
    | err => rfl
    | exc x S1 => rfl
    | ok l S2 =>
      show (fh S2).bind _ = (fh S2).bind _
      cases fh S2 with
      | err => rfl
      | exc x S1 => rfl
      | ok h S3 =>
        show (fs S3).bind _ = (fs S3).bind _
        cases fs S3 with
        | err => rfl
        | exc x S1 => rfl
        | ok c S4 =>
          show (match cutS w l h c with | some r => _ | none => _) = optW (cutS w l h c) S4
          cases cutS w l h c <;> rfl
end
/-! ### repr -/
/-- a value that repr tells: its depth, its length -/
def Rp (k n : Nat) (w : W) : Prop := ∃ d, toD w = some d ∧ d.showable = true ∧ d.hasDict = false ∧ d.depth ≤ k ∧ d.shown.length ≤ n ∧ SeqAt.shaped d = true
theorem Rp.repr {k n : Nat} {w : W} (h : Rp k n w) (hk : k ≤ 100) (hn : n ≤ 16777216) : ∃ z, semRepr [w] = some (.str z) := by
  obtain ⟨d, e, h1, h2, h3, h4, _⟩ := h
  have hz : sizeLine = 16777216 := sizeLine_eq
  refine ⟨d.shown, ?_⟩
  unfold semRepr
  simp only [e, Option.bind_some]
  rw [if_pos ⟨h1, h2, by omega, by omega⟩]
theorem Rp.eq {k n : Nat} {w : W} (h : Rp k n w) {neg : Bool} : semEq neg [w, w] = some (.bl (if neg then false else true)) := by
  obtain ⟨d, e, h1, h2, h3, h4, h5⟩ := h
  exact semEq_self e h5
@[simp] theorem eqSS (neg : Bool) (x y : Str) : semEqS neg [.str x, .str y] = some (.bl (if neg then !decide (x = y) else decide (x = y))) := Eq.trans rfl rfl
theorem eq_nil {k n : Nat} {ws : List W} (h : Rp k n (.lst ws)) {neg : Bool} : semEq neg [.lst ws, .lst []] = some (.bl (if neg then !ws.isEmpty else ws.isEmpty)) := by
  obtain ⟨d, e, h1, h2, h3, h4, h5⟩ := h
  simp only [toD, Option.map_eq_some_iff] at e
  obtain ⟨ds, e, rfl⟩ := e
  have es : SeqAt.shaped (.list []) = true := by decide
  have hlen : ds.isEmpty = ws.isEmpty := by
    cases ws with
    | nil => simp [toDs] at e; subst e; rfl
    | cons w ws =>
      simp only [toDs, Option.bind_eq_some_iff] at e
      obtain ⟨d, _, e⟩ := e
      rw [Option.map_eq_some_iff] at e
      obtain ⟨ds', _, rfl⟩ := e
      rfl
  have he : PyData.eqv (.list ds) (.list []) = ds.isEmpty := by
    cases ds <;> simp [PyData.eqv, PyData.eqvAll]
  simp only [semEq, toD, e, Option.map_some, Option.bind_some, toDs, h5, es, Bool.and_self, if_true, he, hlen]
@[simp] theorem eqBB {neg : Bool} (a b : Bool) : semEq neg [.bl a, .bl b] = some (.bl (if neg then !decide (a = b) else decide (a = b))) := by
  have h : ∀ a, SeqAt.shaped (.bool a) = true := fun a => by simp [SeqAt.shaped, PyData.canLay0, PyData.depth]
  simp only [semEq, toD, Option.bind_some, h, Bool.and_self, if_true, PyData.eqv]
  cases a <;> cases b <;> cases neg <;> rfl
theorem Rp.mono {k n k' n' : Nat} {w : W} (h : Rp k n w) (hk : k ≤ k') (hn : n ≤ n') : Rp k' n' w := by
  obtain ⟨d, e, h1, h2, h3, h4, h5⟩ := h
  exact ⟨d, e, h1, h2, by omega, by omega, h5⟩
theorem rp_int0 {i : Int} (h : i.natAbs < 2 ^ 1900) : Rp 0 1901 (.int i) := by
  have hn : i.natAbs.log2 < 1900 := by
    by_cases z : i.natAbs = 0
    · rw [z]; decide
    · exact (Nat.log2_lt z).mpr h
  have hl : (Str.ofString (toString i)).length ≤ 1901 := by
    rw [PySem.ofString_length]
    exact int_text_length_le (k := 1900) (by decide) hn
  have h2 : i.natAbs.log2 < 1920 := by omega
  exact ⟨.int i, rfl, by simp [PyData.showable, h2], by simp [PyData.hasDict], by simp [PyData.depth], hl, by simp [SeqAt.shaped, PyData.canLay0, PyData.depth]⟩
theorem rp_bool {b : Bool} : Rp 0 5 (.bl b) := ⟨.bool b, rfl, by simp [PyData.showable], by simp [PyData.hasDict], by simp [PyData.depth], by cases b <;> exact (by decide), by simp [SeqAt.shaped, PyData.canLay0, PyData.depth]⟩
theorem rp_none : Rp 0 4 .non := ⟨.none, rfl, by simp [PyData.showable], by simp [PyData.hasDict], by simp [PyData.depth], by decide, by simp [SeqAt.shaped, PyData.canLay0, PyData.depth]⟩
@[simp] theorem eqNN {neg : Bool} : semEq neg [.non, .non] = some (.bl (if neg then false else true)) := rp_none.eq
theorem rp_all {k n : Nat} (hk : k < 64) : ∀ ws : List W, (∀ w ∈ ws, Rp k n w) → ∃ ds, toDs ws = some ds ∧ PyData.showableAll ds = true ∧ PyData.hasDictAll ds = false ∧ PyData.depthAll ds ≤ k ∧ piled (PyData.shownAll ds) ≤ (n + 2) * ws.length ∧ PyData.canLayAll0 ds = true ∧ ds.length = ws.length
  | [], _ => ⟨[], rfl, rfl, rfl, Nat.zero_le _, Nat.le_refl _, by simp [PyData.canLayAll0], rfl⟩
  | w :: ws, h => by
    obtain ⟨d, e, h1, h2, h3, h4, h5⟩ := h w List.mem_cons_self
    obtain ⟨ds, f, g1, g2, g3, g4, g5, g6⟩ := rp_all hk ws fun x hx => h x (List.mem_cons_of_mem _ hx)
    have h6 : d.canLay0 = true := (Bool.and_eq_true_iff.mp h5).1
    refine ⟨d :: ds, by simp [toDs, e, f], by simp [PyData.showableAll, h1, g1], by simp [PyData.hasDictAll, h2, g2], by simp only [PyData.depthAll]; omega, ?_, by simp [PyData.canLayAll0, h6, g5], by simp [g6]⟩
    show piled (d.shown :: PyData.shownAll ds) ≤ _
    rw [piled_cons, List.length_cons, Nat.mul_add]
    omega
theorem shownAll_len : ∀ ds : List PyData, (PyData.shownAll ds).length = ds.length
  | [] => rfl
  | d :: ds => by simp [PyData.shownAll, shownAll_len ds]
theorem rp_lst {k n m : Nat} {ws : List W} (hk : k < 63) (h : ∀ w ∈ ws, Rp k n w) (hm : ws.length ≤ m) : Rp (k + 1) ((n + 2) * m + 2) (.lst ws) := by
  obtain ⟨ds, f, g1, g2, g3, g4, g5, g6⟩ := rp_all (by omega) ws h
  refine ⟨.list ds, by simp [toD, f], by simpa [PyData.showable] using g1, by simpa [PyData.hasDict] using g2, by simp only [PyData.depth]; omega, ?_, ?_⟩
  · have h1 := listText_le (PyData.shownAll ds)
    have h2 : (n + 2) * ws.length ≤ (n + 2) * m := Nat.mul_le_mul_left _ hm
    show (listText (PyData.shownAll ds)).length ≤ _
    omega
  · have : PyData.depthAll ds + 1 ≤ 64 := by omega
    simp [SeqAt.shaped, PyData.canLay0, PyData.depth, g5, this]
theorem rp_tup {k n m : Nat} {ws : List W} (hk : k < 63) (h : ∀ w ∈ ws, Rp k n w) (hm : ws.length ≤ m) : Rp (k + 1) ((n + 2) * m + 3) (.tup ws) := by
  obtain ⟨ds, f, g1, g2, g3, g4, g5, g6⟩ := rp_all (by omega) ws h
  refine ⟨.tuple ds, by simp [toD, f], by simpa [PyData.showable] using g1, by simpa [PyData.hasDict] using g2, by simp only [PyData.depth]; omega, ?_, ?_⟩
  · have h2 : (n + 2) * ws.length ≤ (n + 2) * m := Nat.mul_le_mul_left _ hm
    have h1 : (Str.join ", " (PyData.shownAll ds)).length ≤ piled (PyData.shownAll ds) := by
      by_cases z : PyData.shownAll ds = []
      · rw [z]; exact Nat.zero_le _
      · have := join_length_add _ z
        omega
    show (tupleText (PyData.shownAll ds)).length ≤ _
    unfold tupleText
    rw [strLen_append, strLen_append]
    have e1 : (("(" : String) : Str).length = 1 := rfl
    have e2 : ((",)" : String) : Str).length = 2 := rfl
    have e3 : ((")" : String) : Str).length = 1 := rfl
    rw [e1]
    split
    · rw [e2]; omega
    · rw [e3]; omega
  · have : PyData.depthAll ds + 1 ≤ 64 := by omega
    simp [SeqAt.shaped, PyData.canLay0, PyData.depth, g5, this]
/-- entries are small enough to be told -/
def BIG : Nat := 2 ^ 1900
theorem big_of {n : Nat} (h : n < 2 ^ 250) : n < BIG := Nat.lt_of_lt_of_le h (Nat.pow_le_pow_right (by decide) (by decide))
def Tn (l : List Int) : Prop := ∀ n ∈ l, n.natAbs < BIG
theorem rp_LI {l : List Int} {m : Nat} (h : Tn l) (hm : l.length ≤ m) : Rp 1 (1903 * m + 2) (LI l) := by
  have := rp_lst (k := 0) (n := 1901) (m := m) (ws := l.map W.int) (by decide) (fun w hw => by
    obtain ⟨i, hi, rfl⟩ := List.mem_map.mp hw
    exact rp_int0 (h i hi)) (by simpa using hm)
  exact this
theorem rp_int {i : Int} (h : i.natAbs < BIG) : Rp 0 1901 (.int i) := rp_int0 h
theorem rep_LI {l : List Int} (h : Tn l) (hm : l.length ≤ 4000) : ∃ z, semRepr [LI l] = some (.str z) := (rp_LI h hm).repr (by omega) (by omega)
end Vm

namespace Vm
open PySem PySem.Spec PyProof.Rows L2
/-! ## loops by places -/
theorem wp_ix {t : Tg} {is : List Nat} {body : Sl → Res Fl} {Q : Fl → Sl → Prop} {E : XV → Sl → Prop} {its : List W} {S : Sl} (n : Nat) (g : Nat → W) (hn : its.length = n) (hg : ∀ i, i < n → its[i]? = some (g i)) (I : Nat → Sl → Prop) (h0 : I 0 (forget is S))
    (hs : ∀ i, i < n → ∀ S, I i S → Wp (LoopQ is (I (i + 1)) Q) E ((optS (t.sem (g i) S)).bind (bodyK body)))
    (he : ∀ S, I n S → Q .nx S) : Wp Q E (fLoop t is body its S) := by
  refine wp_nat0 n I its 0 S (by omega) h0 (fun i a _ hi ha S hI => ?_) he
  rw [Nat.sub_zero, hg i hi] at ha
  cases ha
  exact hs i hi S hI
theorem list_ix {its : List W} (n : Nat) (g : Nat → W) (hn : its.length = n) (hg : ∀ i, i < n → its[i]? = some (g i)) : its = (List.range n).map g := by
  refine List.ext_getElem? fun i => ?_
  by_cases h : i < n
  · rw [hg i h, List.getElem?_map, List.getElem?_range h]; rfl
  · rw [List.getElem?_eq_none (by omega), List.getElem?_eq_none (by simp; omega)]
theorem comp_ix {t : Tg} {own : List Nat} {elt : Sl → Res W} {its : List W} {S : Sl} (n : Nat) (g : Nat → W) (hn : its.length = n) (hg : ∀ i, i < n → its[i]? = some (g i)) (v : Nat → W) (T : Sl) (hS : forget own S = T)
    (h : ∀ i, i < n → Wp (fun w S3 => w = v i ∧ forget own S3 = T) noE ((optS (t.sem (g i) T)).bind (bodyK elt))) :
    cLoop t own (fun S => .ok true S) elt its [] S = .ok (.lst ((List.range n).map v)) T := by
  have := comp_map (acc := []) g (List.range n) (list_ix n g hn hg) v T hS (fun i hi => h i (by simpa using hi))
  rw [this]
  rfl
theorem comp_ixI {t : Tg} {own : List Nat} {elt : Sl → Res W} {its : List W} {S : Sl} (n : Nat) (g : Nat → W) (hn : its.length = n) (hg : ∀ i, i < n → its[i]? = some (g i)) (v : Nat → Int) (T : Sl) (hS : forget own S = T)
    (h : ∀ i, i < n → Wp (fun w S3 => w = .int (v i) ∧ forget own S3 = T) noE ((optS (t.sem (g i) T)).bind (bodyK elt))) :
    cLoop t own (fun S => .ok true S) elt its [] S = .ok (LI ((List.range n).map v)) T := by
  rw [comp_ix n g hn hg (fun i => .int (v i)) T hS h, LI_d, List.map_map]
  rfl
theorem comp_ixB {t : Tg} {own : List Nat} {elt : Sl → Res W} {its : List W} {S : Sl} (n : Nat) (g : Nat → W) (hn : its.length = n) (hg : ∀ i, i < n → its[i]? = some (g i)) (v : Nat → Bool) (T : Sl) (hS : forget own S = T)
    (h : ∀ i, i < n → Wp (fun w S3 => w = .bl (v i) ∧ forget own S3 = T) noE ((optS (t.sem (g i) T)).bind (bodyK elt))) :
    cLoop t own (fun S => .ok true S) elt its [] S = .ok (LB ((List.range n).map v)) T := by
  rw [comp_ix n g hn hg (fun i => .bl (v i)) T hS h]
  show _ = Res.ok (W.lst (((List.range n).map v).map W.bl)) T
  rw [List.map_map]
  rfl
theorem comp_ixF {t : Tg} {own : List Nat} {cond : Sl → Res Bool} {elt : Sl → Res W} {its : List W} {S : Sl} (n : Nat) (g : Nat → W) (hn : its.length = n) (hg : ∀ i, i < n → its[i]? = some (g i)) (p : Nat → Bool) (v : Nat → W) (T : Sl) (hS : forget own S = T)
    (h : ∀ i, i < n → Wp (fun b S2 => b = p i ∧ (b = false → forget own S2 = T) ∧ (b = true → Wp (fun w S3 => w = v i ∧ forget own S3 = T) noE (elt S2))) noE ((optS (t.sem (g i) T)).bind (bodyK cond))) :
    cLoop t own cond elt its [] S = .ok (.lst (((List.range n).filter p).map v)) T := by
  have := comp_fm (acc := []) g (List.range n) (list_ix n g hn hg) p v T hS (fun i hi => h i (by simpa using hi))
  rw [this]
  rfl
section
variable {l : List Int} {i n : Nat} {lo : Int}
theorem get_ints (h : i < l.length) : (l.map W.int)[i]? = some (.int (cf l i)) := getD_map_int h
theorem get_pairs (h : i < l.length) : (l.zipIdx.map fun p => W.tup [.int (p.2 : Nat), .int p.1])[i]? = some (.tup [.int (i : Nat), .int (cf l i)]) := by
  rw [List.getElem?_map, List.getElem?_zipIdx, List.getElem?_eq_getElem h]
  simp [cf, List.getD, h]
theorem get_up (h : i < n) : (upFrom lo n)[i]? = some (.int (lo + (i : Nat))) := by
  unfold upFrom
  rw [List.getElem?_map, List.getElem?_range h]
  rfl
theorem get_up0 (h : i < n) : (upFrom 0 n)[i]? = some (.int (i : Nat)) := by
  rw [get_up h, Int.zero_add]
end
/-! ## sums -/
def Sg : Nat → (Nat → Int) → Int
  | 0, _ => 0
  | n + 1, f => Sg n f + f n
@[simp] theorem Sg_z {f : Nat → Int} : Sg 0 f = 0 := rfl
theorem Sg_s {n : Nat} {f : Nat → Int} : Sg (n + 1) f = Sg n f + f n := rfl
theorem Sg_congr {f g : Nat → Int} : ∀ {n : Nat}, (∀ i, i < n → f i = g i) → Sg n f = Sg n g
  | 0, _ => rfl
  | n + 1, h => by rw [Sg_s, Sg_s, Sg_congr fun i hi => h i (by omega), h n (by omega)]
theorem Sg_zero {f : Nat → Int} : ∀ {n : Nat}, (∀ i, i < n → f i = 0) → Sg n f = 0
  | 0, _ => rfl
  | n + 1, h => by rw [Sg_s, Sg_zero fun i hi => h i (by omega), h n (by omega)]; rfl
theorem Sg_add {f g : Nat → Int} : ∀ {n : Nat}, Sg n (fun i => f i + g i) = Sg n f + Sg n g
  | 0 => rfl
  | n + 1 => by rw [Sg_s, Sg_s, Sg_s, Sg_add]; omega
theorem Sg_mul {f : Nat → Int} {c : Int} : ∀ {n : Nat}, Sg n (fun i => c * f i) = c * Sg n f
  | 0 => by simp
  | n + 1 => by rw [Sg_s, Sg_s, Sg_mul, Int.mul_add]
theorem Sg_neg {f : Nat → Int} : ∀ {n : Nat}, Sg n (fun i => - f i) = - Sg n f
  | 0 => rfl
  | n + 1 => by rw [Sg_s, Sg_s, Sg_neg]; omega
theorem Sg_split {f : Nat → Int} {n : Nat} : ∀ {m : Nat}, Sg (n + m) f = Sg n f + Sg m (fun i => f (n + i))
  | 0 => by simp
  | m + 1 => by rw [← Nat.add_assoc, Sg_s, Sg_s, Sg_split]; omega
theorem Sg_one {f : Nat → Int} {k : Nat} : ∀ {n : Nat}, Sg n (fun i => if i = k then f i else 0) = if k < n then f k else 0
  | 0 => by simp
  | n + 1 => by
    rw [Sg_s, Sg_one]
    by_cases h : k < n
    · rw [if_pos h, if_neg (by omega), if_pos (by omega)]; omega
    · by_cases h2 : n = k
      · subst h2; rw [if_neg h, if_pos rfl, if_pos (by omega)]; omega
      · rw [if_neg h, if_neg h2, if_neg (by omega)]; rfl
theorem Sg_swap {f : Nat → Nat → Int} {m : Nat} : ∀ {n : Nat}, Sg n (fun i => Sg m (fun j => f i j)) = Sg m (fun j => Sg n (fun i => f i j))
  | 0 => by rw [Sg_z]; exact (Sg_zero fun _ _ => rfl).symm
  | n + 1 => by
    rw [Sg_s, Sg_swap, ← Sg_add]
    rfl
theorem Sg_ext {f : Nat → Int} {n m : Nat} (h : n ≤ m) (hz : ∀ i, n ≤ i → i < m → f i = 0) : Sg m f = Sg n f := by
  obtain ⟨d, rfl⟩ := Nat.exists_eq_add_of_le h
  rw [Sg_split, Sg_zero (n := d) fun i hi => hz _ (by omega) (by omega)]
  omega
theorem Sg_rev {f : Nat → Int} : ∀ {n : Nat}, Sg n f = Sg n (fun i => f (n - 1 - i))
  | 0 => rfl
  | n + 1 => by
    have e : Sg (n + 1) (fun i => f (n + 1 - 1 - i)) = Sg (1 + n) (fun i => f (n - i)) := by rw [Nat.add_comm 1 n]; rfl
    rw [e, Sg_s, Sg_rev (n := n), Sg_split (n := 1) (m := n)]
    simp only [Sg_s, Sg_z, Nat.sub_zero]
    have : Sg n (fun i => f (n - 1 - i)) = Sg n (fun i => f (n - (1 + i))) := Sg_congr fun i hi => by rw [show n - 1 - i = n - (1 + i) from by omega]
    omega
theorem sum_Sg (l : List Int) : l.sum = Sg l.length (fun i => l.getD i 0) := by
  induction l with
  | nil => rfl
  | cons x l ih =>
    rw [List.sum_cons, ih, List.length_cons, Nat.add_comm l.length 1, Sg_split]
    simp only [Sg_s, Sg_z, Int.zero_add]
    have : Sg l.length (fun i => l.getD i 0) = Sg l.length (fun i => (x :: l).getD (1 + i) 0) := Sg_congr fun i _ => by rw [Nat.add_comm 1 i]; rfl
    rw [this]
    rfl
theorem sum_map_range (f : Nat → Int) : ∀ n, ((List.range n).map f).sum = Sg n f
  | 0 => rfl
  | n + 1 => by rw [List.range_succ, List.map_append, List.sum_append, sum_map_range f n, Sg_s]; simp
theorem getD_map_range {f : Nat → Int} {n i : Nat} (h : i < n) : ((List.range n).map f).getD i 0 = f i := by
  simp [List.getD, h]
theorem getD_ge {l : List Int} {i : Nat} (h : l.length ≤ i) : l.getD i 0 = 0 := by
  simp [List.getD, h]
theorem list_eq {a b : List Int} (h : a.length = b.length) (hg : ∀ i, i < a.length → a.getD i 0 = b.getD i 0) : a = b := by
  refine List.ext_getElem h fun i h1 h2 => ?_
  have := hg i h1
  rwa [List.getD_eq_getElem?_getD, List.getD_eq_getElem?_getD, List.getElem?_eq_getElem h1, List.getElem?_eq_getElem h2] at this
theorem getD_setI {f : List Int} {j k : Nat} {v : Int} (h : j < f.length) : (f.set j v).getD k 0 = if j = k then v else f.getD k 0 := by
  rw [List.getD_eq_getElem?_getD, List.getD_eq_getElem?_getD, List.getElem?_set]
  by_cases e : j = k
  · subst e; simp [h]
  · simp [e]
theorem getD_rep {n i : Nat} {v : Int} (h : i < n) : (List.replicate n v).getD i 0 = v := by simp [List.getD, h]
theorem getD_rep0 {n i : Nat} : (List.replicate n (0 : Int)).getD i 0 = 0 := by
  by_cases h : i < n
  · exact getD_rep h
  · exact getD_ge (by simp; omega)
theorem getD_app {a b : List Int} {i : Nat} : (a ++ b).getD i 0 = if i < a.length then a.getD i 0 else b.getD (i - a.length) 0 := by
  rw [List.getD_eq_getElem?_getD, List.getD_eq_getElem?_getD, List.getD_eq_getElem?_getD]
  by_cases h : i < a.length
  · rw [List.getElem?_append_left h, if_pos h]
  · rw [List.getElem?_append_right (by omega), if_neg h]
theorem cf_set {f : List Int} {j k : Nat} {v : Int} (h : j < f.length) : cf (f.set j v) k = if j = k then v else cf f k := getD_setI h
theorem cf_rep {n i : Nat} {v : Int} (h : i < n) : cf (List.replicate n v) i = v := getD_rep h
@[simp] theorem cf_rep0 {n i : Nat} : cf (List.replicate n 0) i = 0 := getD_rep0
theorem cf_app {a b : List Int} {i : Nat} : cf (a ++ b) i = if i < a.length then cf a i else cf b (i - a.length) := getD_app
theorem cf_range {f : Nat → Int} {n i : Nat} (h : i < n) : cf ((List.range n).map f) i = f i := getD_map_range h
theorem cf_eq {a b : List Int} (h : a.length = b.length) (hg : ∀ i, i < a.length → cf a i = cf b i) : a = b := list_eq h hg
theorem sum_cf (l : List Int) : l.sum = Sg l.length (cf l) := sum_Sg l
theorem cf_d {l : List Int} {i : Nat} : l.getD i 0 = cf l i := rfl
theorem cf_ge {l : List Int} {i : Nat} (h : l.length ≤ i) : cf l i = 0 := getD_ge h
/-- the sum of the first n numbers whose places leave a rest -/
def Rs (f : Nat → Int) (n h r : Nat) : Int := Sg n (fun i => if i % h = r then f i else 0)
def restL (f : Nat → Int) (n h : Nat) : List Int := (List.range h).map (Rs f n h)
theorem restL_len {f : Nat → Int} {n h : Nat} : (restL f n h).length = h := by simp [restL]
theorem restL_get {f : Nat → Int} {n h r : Nat} (hr : r < h) : (restL f n h).getD r 0 = Rs f n h r := getD_map_range hr
def cnt (r h n : Nat) : Nat := if r < n then (n - r + h - 1) / h else 0
/-- the sum by rests, either way -/
theorem rest_Sg (g : Nat → Int) (r h : Nat) (hr : r < h) : ∀ n, Rs g n h r = Sg (cnt r h n) (fun k => g (r + h * k))
  | 0 => by simp [cnt, Rs]
  | n + 1 => by
    have hh : 0 < h := by omega
    have q0 : (h - 1) / h = 0 := Nat.div_eq_of_lt (by omega)
    have ih := rest_Sg g r h hr n
    unfold Rs at ih ⊢
    rw [Sg_s, ih]
    by_cases e : n % h = r
    · have hd := Nat.div_add_mod n h
      rw [e] at hd
      generalize n / h = q at *
      have hc : cnt r h n = q := by
        unfold cnt
        by_cases z : r < n
        · rw [if_pos z]
          have : n - r + h - 1 = h * q + (h - 1) := by omega
          rw [this, Nat.mul_add_div hh, q0]
          rfl
        · rw [if_neg z]
          by_cases z2 : q = 0
          · exact z2.symm
          · have : h * 1 ≤ h * q := Nat.mul_le_mul_left h (by omega)
            omega
      have hc1 : cnt r h (n + 1) = q + 1 := by
        unfold cnt
        rw [if_pos (by omega)]
        have : n + 1 - r + h - 1 = h * (q + 1) := by rw [Nat.mul_add]; omega
        rw [this, Nat.mul_div_cancel_left _ hh]
      rw [hc1, hc, Sg_s, if_pos e]
      have : r + h * q = n := by omega
      rw [this]
    · rw [if_neg e]
      have hc : cnt r h (n + 1) = cnt r h n := by
        unfold cnt
        by_cases z : r < n
        · rw [if_pos z, if_pos (by omega)]
          have hd := Nat.div_add_mod (n - r + h - 1) h
          have hm := Nat.mod_lt (n - r + h - 1) hh
          have hne : (n - r + h - 1) % h ≠ h - 1 := by
            intro q
            apply e
            have : n = r + h * ((n - r + h - 1) / h) := by omega
            rw [this, Nat.add_mul_mod_self_left, Nat.mod_eq_of_lt hr]
          generalize (n - r + h - 1) / h = q at *
          generalize (n - r + h - 1) % h = m at *
          have h2 : (m + 1) / h = 0 := Nat.div_eq_of_lt (by omega)
          have : n + 1 - r + h - 1 = h * q + (m + 1) := by omega
          rw [this, Nat.mul_add_div hh, h2]
          rfl
        · rw [if_neg z]
          by_cases q : r < n + 1
          · have : n = r := by omega
            rw [this, Nat.mod_eq_of_lt hr] at e
            exact absurd rfl e
          · rw [if_neg q]
      rw [hc]
      omega
end Vm

namespace Vm
open PySem PySem.Spec PyProof.Rows L2
/-- whatever is gathered by rests, either way -/
def Fd {α : Type} (F : α → Nat → α) (a : α) : Nat → α
  | 0 => a
  | n + 1 => F (Fd F a n) n
theorem Fd_s {α : Type} {F : α → Nat → α} {a : α} {n : Nat} : Fd F a (n + 1) = F (Fd F a n) n := rfl
theorem rest_Fd {α : Type} (F : α → Nat → α) (a : α) (r h : Nat) (hr : r < h) : ∀ n, Fd (fun x i => if i % h = r then F x i else x) a n = Fd (fun x k => F x (r + h * k)) a (cnt r h n)
  | 0 => by simp [cnt, Fd]
  | n + 1 => by
    have hh : 0 < h := by omega
    have q0 : (h - 1) / h = 0 := Nat.div_eq_of_lt (by omega)
    have ih := rest_Fd F a r h hr n
    rw [Fd_s, ih]
    by_cases e : n % h = r
    · have hd := Nat.div_add_mod n h
      rw [e] at hd
      generalize n / h = q at *
      have hc : cnt r h n = q := by
        unfold cnt
        by_cases z : r < n
        · rw [if_pos z]
          have : n - r + h - 1 = h * q + (h - 1) := by omega
          rw [this, Nat.mul_add_div hh, q0]
          rfl
        · rw [if_neg z]
          by_cases z2 : q = 0
          · exact z2.symm
          · have : h * 1 ≤ h * q := Nat.mul_le_mul_left h (by omega)
            omega
      have hc1 : cnt r h (n + 1) = q + 1 := by
        unfold cnt
        rw [if_pos (by omega)]
        have : n + 1 - r + h - 1 = h * (q + 1) := by rw [Nat.mul_add]; omega
        rw [this, Nat.mul_div_cancel_left _ hh]
      rw [hc1, hc, Fd_s, if_pos e]
      have : r + h * q = n := by omega
      rw [this]
    · rw [if_neg e]
      have hc : cnt r h (n + 1) = cnt r h n := by
        unfold cnt
        by_cases z : r < n
        · rw [if_pos z, if_pos (by omega)]
          have hd := Nat.div_add_mod (n - r + h - 1) h
          have hm := Nat.mod_lt (n - r + h - 1) hh
          have hne : (n - r + h - 1) % h ≠ h - 1 := by
            intro q
            apply e
            have : n = r + h * ((n - r + h - 1) / h) := by omega
            rw [this, Nat.add_mul_mod_self_left, Nat.mod_eq_of_lt hr]
          generalize (n - r + h - 1) / h = q at *
          generalize (n - r + h - 1) % h = m at *
          have h2 : (m + 1) / h = 0 := Nat.div_eq_of_lt (by omega)
          have : n + 1 - r + h - 1 = h * q + (m + 1) := by omega
          rw [this, Nat.mul_add_div hh, h2]
          rfl
        · rw [if_neg z]
          by_cases q : r < n + 1
          · have : n = r := by omega
            rw [this, Nat.mod_eq_of_lt hr] at e
            exact absurd rfl e
          · rw [if_neg q]
      rw [hc]
/-! ## products -/
def Cv (f g : Nat → Int) (n k : Nat) : Int := Sg n (fun i => if i ≤ k then f i * g (k - i) else 0)
def prodL (a b : List Int) : List Int := (List.range (a.length + b.length - 1)).map (Cv (cf a) (cf b) a.length)
theorem prodL_len {a b : List Int} : (prodL a b).length = a.length + b.length - 1 := by simp [prodL]
theorem Cv_ext {f g : Nat → Int} {n m k : Nat} (h : n ≤ m) (hf : ∀ i, n ≤ i → f i = 0) : Cv f g m k = Cv f g n k := by
  unfold Cv
  refine Sg_ext h fun i h1 h2 => ?_
  rw [hf i h1]
  split
  · exact Int.zero_mul _
  · rfl
theorem Cv_trunc {f g : Nat → Int} {n k : Nat} (h : k + 1 ≤ n) : Cv f g n k = Sg (k + 1) (fun i => f i * g (k - i)) := by
  unfold Cv
  rw [Sg_ext h fun i h1 h2 => by rw [if_neg (by omega)]]
  exact Sg_congr fun i hi => by rw [if_pos (by omega)]
theorem cf_prod {a b : List Int} (ha : 1 ≤ a.length) (hb : 1 ≤ b.length) (k : Nat) : cf (prodL a b) k = Sg (k + 1) (fun i => cf a i * cf b (k - i)) := by
  by_cases h : k < a.length + b.length - 1
  · have : cf (prodL a b) k = Cv (cf a) (cf b) a.length k := getD_map_range h
    rw [this, ← Cv_ext (m := a.length + (k + 1)) (by omega) fun i hi => cf_ge hi, Cv_trunc (by omega)]
  · rw [cf_ge (by rw [prodL_len]; omega)]
    refine (Sg_zero fun i hi => ?_).symm
    by_cases h2 : a.length ≤ i
    · rw [cf_ge h2, Int.zero_mul]
    · rw [cf_ge (l := b) (by omega), Int.mul_zero]
theorem Sg_abs {f : Nat → Int} {c : Nat} : ∀ {n : Nat}, (∀ i, i < n → (f i).natAbs ≤ c) → (Sg n f).natAbs ≤ n * c
  | 0, _ => by simp
  | n + 1, h => by
    have h1 := Sg_abs fun i (hi : i < n) => h i (by omega)
    have h2 := h n (by omega)
    rw [Sg_s, Nat.add_mul]
    have := Int.natAbs_add_le (Sg n f) (f n)
    omega
/-- entries at most so great -/
def Ab (c : Nat) (l : List Int) : Prop := ∀ n ∈ l, n.natAbs ≤ c
theorem Ab.cf {c : Nat} {l : List Int} (h : Ab c l) (i : Nat) : (cf l i).natAbs ≤ c := by
  by_cases hi : i < l.length
  · have e : Vm.cf l i = l[i] := by simp [Vm.cf, List.getD, hi]
    rw [e]
    exact h _ (List.getElem_mem _)
  · rw [cf_ge (by omega)]; simp
theorem Ab.mono {c d : Nat} {l : List Int} (h : Ab c l) (hd : c ≤ d) : Ab d l := fun n hn => Nat.le_trans (h n hn) hd
theorem ab_of {c : Nat} {l : List Int} (h : ∀ i, i < l.length → (cf l i).natAbs ≤ c) : Ab c l := fun n hn => by
  obtain ⟨i, hi, rfl⟩ := List.mem_iff_getElem.mp hn
  have := h i hi
  have e : cf l i = l[i] := by simp [cf, List.getD, hi]
  rwa [e] at this
theorem ab_prod {a b : List Int} {c d n : Nat} (ha : Ab c a) (hb : Ab d b) (hn : a.length ≤ n) : Ab (n * (c * d)) (prodL a b) := by
  refine ab_of fun k hk => ?_
  rw [prodL_len] at hk
  have e : cf (prodL a b) k = Cv (cf a) (cf b) a.length k := getD_map_range hk
  rw [e]
  have := Sg_abs (n := a.length) (c := c * d) (f := fun i => if i ≤ k then cf a i * cf b (k - i) else 0) fun i _ => by
    split
    · rw [Int.natAbs_mul]
      exact Nat.mul_le_mul (ha.cf i) (hb.cf _)
    · simp
  exact Nat.le_trans this (Nat.mul_le_mul_right _ hn)
theorem ab_dec {c : Nat} {l : List Int} (h : (l.all fun n => decide (n.natAbs ≤ c)) = true) : Ab c l := fun n hn => by
  have := List.all_eq_true.mp h n hn
  simpa using this
/-- a list that is not of zeros alone has a first entry that is not 0 -/
theorem first_nz {f : Nat → Int} : ∀ {n : Nat}, (∃ i, i < n ∧ f i ≠ 0) → ∃ i, i < n ∧ f i ≠ 0 ∧ ∀ j, j < i → f j = 0
  | 0, ⟨i, hi, _⟩ => absurd hi (by omega)
  | n + 1, ⟨i, hi, hf⟩ => by
    by_cases h : ∃ i, i < n ∧ f i ≠ 0
    · obtain ⟨j, h1, h2, h3⟩ := first_nz h
      exact ⟨j, by omega, h2, h3⟩
    · have hz : ∀ j, j < n → f j = 0 := fun j hj => Classical.byContradiction fun z => h ⟨j, hj, z⟩
      have : i = n := by
        by_cases q : i < n
        · exact absurd (hz i q) hf
        · omega
      subst this
      exact ⟨i, by omega, hf, hz⟩
theorem nz_cf {l : List Int} (h : ∃ x ∈ l, x ≠ 0) : ∃ i, i < l.length ∧ cf l i ≠ 0 := by
  obtain ⟨x, hx, hz⟩ := h
  obtain ⟨i, hi, rfl⟩ := List.mem_iff_getElem.mp hx
  refine ⟨i, hi, ?_⟩
  have e : cf l i = l[i] := by simp [cf, List.getD, hi]
  rwa [e]
theorem cf_nz {l : List Int} {i : Nat} (h : cf l i ≠ 0) : ∃ x ∈ l, x ≠ 0 := by
  have hi : i < l.length := Classical.byContradiction fun z => h (cf_ge (by omega))
  have e : cf l i = l[i] := by simp [cf, List.getD, hi]
  exact ⟨l[i], List.getElem_mem _, by rwa [e] at h⟩
theorem prod_nz {a b : List Int} (ha : ∃ x ∈ a, x ≠ 0) (hb : ∃ x ∈ b, x ≠ 0) : ∃ x ∈ prodL a b, x ≠ 0 := by
  obtain ⟨i, hi, h1, h2⟩ := first_nz (nz_cf ha)
  obtain ⟨j, hj, h3, h4⟩ := first_nz (nz_cf hb)
  refine cf_nz (i := i + j) ?_
  rw [cf_prod (by omega) (by omega)]
  have e : Sg (i + j + 1) (fun k => cf a k * cf b (i + j - k)) = Sg (i + j + 1) (fun k => if k = i then cf a k * cf b (i + j - k) else 0) := Sg_congr fun k hk => by
    by_cases q : k = i
    · rw [if_pos q]
    · rw [if_neg q]
      by_cases q2 : k < i
      · rw [h2 k q2, Int.zero_mul]
      · rw [h4 _ (by omega), Int.mul_zero]
  rw [e, Sg_one (f := fun k => cf a k * cf b (i + j - k)), if_pos (by omega), Nat.add_sub_cancel_left]
  exact Int.mul_ne_zero h1 h3
theorem mulOk_t {i j : Int} (h1 : i.natAbs < BIG) (h2 : j.natAbs < BIG) : mulOk i j = true := mulOk_b (Nat.lt_of_lt_of_le h1 (Nat.pow_le_pow_right (by decide) (by decide))) (Nat.lt_of_lt_of_le h2 (Nat.pow_le_pow_right (by decide) (by decide)))
theorem Tn.cf {l : List Int} (h : Tn l) (i : Nat) : (cf l i).natAbs < BIG := by
  by_cases hi : i < l.length
  · have e : Vm.cf l i = l[i] := by simp [Vm.cf, List.getD, hi]
    rw [e]
    exact h _ (List.getElem_mem _)
  · rw [cf_ge (by omega)]; exact Nat.two_pow_pos _
theorem Ab.tn {c : Nat} {l : List Int} (h : Ab c l) (hc : c < BIG) : Tn l := fun n hn => Nat.lt_of_le_of_lt (h n hn) hc
end Vm

namespace Vm
open PySem PySem.Spec PyProof.Rows L2
theorem flat1 (n : Nat) (i : Int) : (List.replicate n [i]).flatten = List.replicate n i := by
  induction n with
  | zero => rfl
  | succ n ih => simp [List.replicate_succ, ih]
/-! ## the drawer -/
/-- a jar, after at most n draws -/
def Jar (n : Nat) (w : W) : Prop := ∃ a b c : Int, w = .lst [.int a, .int b, .int c] ∧ 0 ≤ a ∧ 0 ≤ b ∧ b < 2 ^ 200 ∧ 0 ≤ c ∧ c ≤ n
theorem Jar.mono {n m : Nat} {w : W} (h : Jar n w) (hl : n ≤ m) : Jar m w := by
  obtain ⟨a, b, c, e, h1, h2, h3, h4, h5⟩ := h
  exact ⟨a, b, c, e, h1, h2, h3, h4, by omega⟩
theorem fdivOk_s {j : Int} (h0 : 0 < j) (h : j < 2 ^ 200) : fdivOk j = true := by
  unfold fdivOk
  have h1 : j ≠ 0 := by omega
  have h2 : j.natAbs.log2 < 200 := (Nat.log2_lt (by omega)).mpr (by omega)
  have h3 : j.natAbs.log2 < 9000 := by omega
  simp [h1, h3]
theorem pow3 {i : Int} (h0 : 0 ≤ i) (h : i < 2 ^ 250) : powOk i 3 = true := by
  unfold powOk
  have := bitsOf (i := i) (n := 250) (by omega)
  have e : (Builtin.Int.intBits i : Int) * 3 ≤ 134217728 := by omega
  simp [e]
theorem c47 : semPow [.int 10, .int 47] = some (.int (10 ^ 47)) := by rw [semPow_a (by decide +kernel)]; rfl
theorem c46 : semPow [.int 10, .int 46] = some (.int (10 ^ 46)) := by rw [semPow_a (by decide +kernel)]; rfl
theorem c43 : semPow [.int 10, .int 43] = some (.int (10 ^ 43)) := by rw [semPow_a (by decide +kernel)]; rfl
theorem c18 : semPow [.int 10, .int 18] = some (.int (10 ^ 18)) := by rw [semPow_a (by decide +kernel)]; rfl
theorem c14 : semPow [.int 10, .int 14] = some (.int (10 ^ 14)) := by rw [semPow_a (by decide +kernel)]; rfl
theorem c28 : semPow [.int 10, .int 28] = some (.int (10 ^ 28)) := by rw [semPow_a (by decide +kernel)]; rfl
theorem c29 : semPow [.int 10, .int 29] = some (.int (10 ^ 29)) := by rw [semPow_a (by decide +kernel)]; rfl
theorem ixN3 : ixN 3 0 = some 0 ∧ ixN 3 1 = some 1 ∧ ixN 3 2 = some 2 := by decide
/-- a drawn list -/
def Ent (s : Int) (ns : List Int) : Prop := ∀ n ∈ ns, -s ≤ n ∧ n ≤ s
/-! ### what is drawn -/
theorem fdv_nat (a b : Nat) (h0 : 0 < b) (h : b < 2 ^ 200) : semFdv [.int (a : Nat), .int (b : Nat)] = some (.int ((a / b : Nat) : Int)) := by
  rw [semFdv_a (fdivOk_s (by omega) (by omega))]
  rw [Int.fdiv_eq_ediv_of_nonneg _ (by omega)]
  rfl
theorem mod_nat (a b : Nat) (h0 : 0 < b) : semMod [.int (a : Nat), .int (b : Nat)] = some (.int ((a % b : Nat) : Int)) := by
  rw [semMod_a (by omega), Int.fmod_eq_emod_of_nonneg _ (by omega)]
  rfl
theorem pick2 {d : Nat} (h : d < 2) (a b : Int) : ixN 2 (d : Int) = some d ∧ ∃ s, [W.int a, W.int b][d]? = some (.int s) ∧ (s = a ∨ s = b) := by
  refine ⟨ixN_nat h, ?_⟩
  have : d = 0 ∨ d = 1 := by omega
  rcases this with rfl | rfl
  · exact ⟨a, rfl, .inl rfl⟩
  · exact ⟨b, rfl, .inr rfl⟩
theorem pick3 {d : Nat} (h : d < 3) (a b c : Int) : ixN 3 (d : Int) = some d ∧ ∃ s, [W.int a, W.int b, W.int c][d]? = some (.int s) ∧ (s = a ∨ s = b ∨ s = c) := by
  refine ⟨ixN_nat h, ?_⟩
  have : d = 0 ∨ d = 1 ∨ d = 2 := by omega
  rcases this with rfl | rfl | rfl
  · exact ⟨a, rfl, .inl rfl⟩
  · exact ⟨b, rfl, .inr (.inl rfl)⟩
  · exact ⟨c, rfl, .inr (.inr rfl)⟩
theorem szl {n : Nat} (h : n ≤ 10000000 := by omega) : n ≤ sizeLine := by rw [sizeLine_eq]; omega
theorem szt {n : Nat} (h : n ≤ 10000000 := by omega) : n < sizeLine := by rw [sizeLine_eq]; omega
theorem min2_nat (a b : Nat) : semMin2 [.int (a : Nat), .int (b : Nat)] = some (.int ((min a b : Nat) : Int)) := by
  rw [semMin2_a]; split <;> congr 2 <;> omega
theorem max2_nat (a b : Nat) : semMax2 [.int (a : Nat), .int (b : Nat)] = some (.int ((max a b : Nat) : Int)) := by
  rw [semMax2_a]; split <;> congr 2 <;> omega
/-- a slice with a step -/
theorem ixs_step (n r h : Nat) (h1 : 1 ≤ h) : ixsS n (some (r : Nat)) none (h : Nat) = (List.range (cnt r h n)).map fun k => r + h * k := by
  have hp : (h : Int) > 0 := by omega
  have e0 : ¬ ((r : Int) < 0) := by omega
  have hb : sliceBounds (some ((r : Nat) : Int)) none (some ((h : Nat) : Int)) n = (((min r n : Nat) : Int), (n : Int), (h : Int)) := by
    simp only [sliceBounds, Option.getD_some, if_pos hp, if_neg e0]
    congr 1
    omega
  unfold ixsS
  rw [hb]
  simp only [sliceRange, if_pos hp]
  by_cases z : r < n
  · have e1 : ((min r n : Nat) : Int) < (n : Int) := by omega
    rw [if_pos e1]
    have e2 : (((n : Int) - ((min r n : Nat) : Int) + (h : Int) - 1) / (h : Int)).toNat = cnt r h n := by
      unfold cnt
      rw [if_pos z]
      have : (n : Int) - ((min r n : Nat) : Int) + (h : Int) - 1 = ((n - r + h - 1 : Nat) : Int) := by omega
      rw [this, ← Int.natCast_ediv, Int.toNat_natCast]
    rw [e2]
    refine List.map_congr_left fun k _ => ?_
    have e3 : min r n = r := by omega
    rw [e3, ← Int.natCast_mul, ← Int.natCast_add, Int.toNat_natCast]
  · have e1 : ¬ ((min r n : Nat) : Int) < (n : Int) := by omega
    rw [if_neg e1]
    unfold cnt
    rw [if_neg z]
    rfl
theorem cnt_lt {r h n k : Nat} (h1 : 1 ≤ h) (hk : k < cnt r h n) : r + h * k < n := by
  unfold cnt at hk
  by_cases z : r < n
  · rw [if_pos z] at hk
    have h2 : h * ((n - r + h - 1) / h) ≤ n - r + h - 1 := Nat.mul_div_le _ _
    have h3 : h * (k + 1) ≤ h * ((n - r + h - 1) / h) := Nat.mul_le_mul_left _ hk
    rw [Nat.mul_add] at h3
    omega
  · rw [if_neg z] at hk
    omega
theorem fm_some {α β : Type} {f : α → Option β} {g : α → β} : ∀ {l : List α}, (∀ k ∈ l, f k = some (g k)) → l.filterMap f = l.map g
  | [], _ => rfl
  | a :: l, h => by
    rw [List.filterMap_cons, h a List.mem_cons_self, List.map_cons]
    show g a :: _ = _
    rw [fm_some fun k hk => h k (List.mem_cons_of_mem _ hk)]
theorem pick_step (l : List Int) (r h : Nat) (h1 : 1 ≤ h) : pickL l (some (r : Nat)) none (h : Nat) = (List.range (cnt r h l.length)).map fun k => cf l (r + h * k) := by
  unfold pickL
  rw [ixs_step _ _ _ h1, List.filterMap_map]
  have : ∀ k ∈ List.range (cnt r h l.length), ((fun x => l[x]?) ∘ fun k => r + h * k) k = some (cf l (r + h * k)) := fun k hk => by
    have hlt := cnt_lt h1 (List.mem_range.mp hk)
    simp [cf, List.getD, hlt]
  exact fm_some this
theorem cnt_le {r h n : Nat} (h1 : 1 ≤ h) : cnt r h n ≤ n := by
  by_cases z : cnt r h n = 0
  · omega
  · have := cnt_lt (r := r) (k := cnt r h n - 1) (n := n) h1 (by omega)
    have h2 : 1 * (cnt r h n - 1) ≤ h * (cnt r h n - 1) := Nat.mul_le_mul_right _ h1
    omega
theorem pick_sum (l : List Int) (r h : Nat) (hr : r < h) : (pickL l (some (r : Nat)) none (h : Nat)).sum = Rs (cf l) l.length h r := by
  rw [pick_step l r h (by omega), sum_map_range, rest_Sg _ _ _ hr]
theorem pick_sum0 (l : List Int) (h : Nat) (hr : 0 < h) : (pickL l (some 0) none (h : Nat)).sum = Rs (cf l) l.length h 0 := pick_sum l 0 h hr
theorem itemsR2_a {a b : Int} (h1 : -(2 ^ 62) ≤ a) (h2 : a < 2 ^ 62) (h3 : -(2 ^ 62) ≤ b) (h4 : b < 2 ^ 62) : itemsR2 [.int a, .int b] = some (upFrom a (b - a).toNat) := by
  show (if -(2 ^ 62) ≤ a ∧ a < 2 ^ 62 ∧ -(2 ^ 62) ≤ b ∧ b < 2 ^ 62 then some (upFrom a (b - a).toNat) else none) = _
  rw [if_pos ⟨h1, h2, h3, h4⟩]
theorem cutS_step (l : List Int) (r h : Nat) (h1 : 1 ≤ h) (hl : l.length ≤ 10000000) : cutS (LI l) (some (r : Nat)) none (some (h : Nat)) = some (LI (pickL l (some (r : Nat)) none (h : Nat))) := by
  have hz : (h : Int) ≠ 0 := by omega
  have hlen : (pickL (l.map W.int) (some ((r : Nat) : Int)) none ((h : Nat) : Int)).length ≤ sizeLine := by
    rw [pick_map, pick_step l r h h1]
    have := cnt_le (r := r) (h := h) (n := l.length) h1
    simp
    exact szl
  show (if (h : Int) ≠ 0 ∧ (pickL (l.map W.int) (some ((r : Nat) : Int)) none ((h : Nat) : Int)).length ≤ sizeLine ∧ W.pure.all (pickL (l.map W.int) (some ((r : Nat) : Int)) none ((h : Nat) : Int)) = true then some (W.lst (pickL (l.map W.int) (some ((r : Nat) : Int)) none ((h : Nat) : Int))) else none) = _
  rw [if_pos ⟨hz, hlen, by rw [pick_map]; exact pureInts _⟩, pick_map]
  rfl
theorem pick_none (l : List Int) (h : Nat) (h1 : 1 ≤ h) : pickL l none none (h : Nat) = pickL l (some (0 : Nat)) none (h : Nat) := by
  have hp : (h : Int) > 0 := by omega
  unfold pickL ixsS
  simp only [sliceBounds, Option.getD_some, if_pos hp]
  have : (max 0 (min (if ((0 : Nat) : Int) < 0 then ((0 : Nat) : Int) + (l.length : Int) else ((0 : Nat) : Int)) (l.length : Int))) = 0 := by omega
  rw [this]
theorem cutS_none (l : List Int) (h : Nat) (h1 : 1 ≤ h) (hl : l.length ≤ 10000000) : cutS (LI l) none none (some (h : Nat)) = some (LI (pickL l (some (0 : Nat)) none (h : Nat))) := by
  have e := cutS_step l 0 h h1 hl
  have : cutS (LI l) none none (some (h : Nat)) = cutS (LI l) (some ((0 : Nat) : Int)) none (some (h : Nat)) := by
    show (if (h : Int) ≠ 0 ∧ (pickL (l.map W.int) none none ((h : Nat) : Int)).length ≤ sizeLine ∧ W.pure.all (pickL (l.map W.int) none none ((h : Nat) : Int)) = true then some (W.lst (pickL (l.map W.int) none none ((h : Nat) : Int))) else none) = (if (h : Int) ≠ 0 ∧ (pickL (l.map W.int) (some ((0 : Nat) : Int)) none ((h : Nat) : Int)).length ≤ sizeLine ∧ W.pure.all (pickL (l.map W.int) (some ((0 : Nat) : Int)) none ((h : Nat) : Int)) = true then some (W.lst (pickL (l.map W.int) (some ((0 : Nat) : Int)) none ((h : Nat) : Int))) else none)
    have : pickL (l.map W.int) none none ((h : Nat) : Int) = pickL (l.map W.int) (some ((0 : Nat) : Int)) none ((h : Nat) : Int) := by
      rw [pick_map, pick_map, pick_none l h h1]
    rw [this]
  rw [this, e]
theorem p_sums_at (l : List Int) (h : Nat) (h1 : 1 ≤ h) (h2 : h ≤ 100000) (hl : l.length ≤ 1000000) : v_sums_at [LI l, .int (h : Nat)] = .ok (LI (restL (cf l) l.length h)) .non := by
  have hr : itemsR1 [.int (h : Nat)] = some (upFrom 0 h) := by
    have := itemsR1_a (n := (h : Nat)) (by omega) (by omega)
    rwa [Int.toNat_natCast] at this
  have hz : h ≤ sizeLine := szl
  have hc := comp_ixI (t := .nm 2) (own := [2]) (elt := fPrim (fCons (fSliceS (fName 0) (fPart (fInt (fName 2))) (fun S => .ok none S) (fPart (fInt (fName 1)))) fNil) semSum) (its := upFrom 0 h) (S := [some (LI l), some (.int (h : Nat)), none]) h _ (by simp) (fun i hi => get_up0 hi) (Rs (cf l) l.length h) [some (LI l), some (.int (h : Nat)), none] (by simp) (fun i hi => by
    simp [cutS_step l i h h1 (by omega), pick_sum l i h hi])
  refine vc_eq ?_
  simp [f_sums_at, enter, hr, hz, hc]
  rfl
/-! ### greatest common divisors -/
def Gc (f : Nat → Int) (n : Nat) : Nat := Fd (fun g i => Nat.gcd (f i).natAbs g) 0 n
theorem absN (i : Int) : semAbs [.int i] = some (.int (i.natAbs : Nat)) := by
  rw [semAbs_a]
  split <;> congr 2 <;> omega
theorem p_common_divisor (a b : Int) : v_common_divisor [.int a, .int b] = .ok (.int (Nat.gcd a.natAbs b.natAbs : Nat)) .non := by
  refine vc_eq ?_
  simp [f_common_divisor, enter, absN, -semAbs_a]
  refine wp_while b.natAbs (fun n S => ∃ x y : Nat, S = [some (.int (x : Nat)), some (.int (y : Nat))] ∧ n = y ∧ Nat.gcd x y = Nat.gcd a.natAbs b.natAbs) ⟨a.natAbs, b.natAbs, by simp, rfl, rfl⟩ ?_
  rintro n S ⟨a, b, rfl, rfl, hg⟩
  by_cases hb : n = 0
  · subst hb
    rw [Nat.gcd_zero_right] at hg
    subst hg
    simp
  · have hm := mod_nat a n (by omega)
    have hlt : a % n < n := Nat.mod_lt _ (by omega)
    have hr : Nat.gcd n (a % n) = Nat.gcd a n := by rw [Nat.gcd_comm n, ← Nat.gcd_rec, Nat.gcd_comm]
    have hp : 0 < n := by omega
    rw [hg] at hr
    generalize a % n = c at *
    simp [hp, hm]
    exact ⟨c, hlt, n, c, ⟨rfl, rfl⟩, rfl, hr⟩
/-- the divisor of a rest -/
def Dv (f : Nat → Int) (n h r : Nat) : Nat := Fd (fun g i => if i % h = r then Nat.gcd (f i).natAbs g else g) 0 n
def dvL (f : Nat → Int) (n h : Nat) : List Int := (List.range h).map fun r => (Dv f n h r : Int)
theorem dvL_len {f : Nat → Int} {n h : Nat} : (dvL f n h).length = h := by simp [dvL]
theorem dvL_cf {f : Nat → Int} {n h r : Nat} (hr : r < h) : cf (dvL f n h) r = (Dv f n h r : Int) := cf_range hr
theorem dv_pick (l : List Int) (r h : Nat) (hr : r < h) : Gc (cf (pickL l (some (r : Nat)) none (h : Nat))) (pickL l (some (r : Nat)) none (h : Nat)).length = Dv (cf l) l.length h r := by
  rw [pick_step l r h (by omega), List.length_map, List.length_range]
  unfold Dv Gc
  rw [rest_Fd (fun g i => Nat.gcd (cf l i).natAbs g) 0 r h hr]
  have : ∀ n, n ≤ cnt r h l.length → Fd (fun g i => Nat.gcd (cf ((List.range (cnt r h l.length)).map fun k => cf l (r + h * k)) i).natAbs g) 0 n = Fd (fun g k => Nat.gcd (cf l (r + h * k)).natAbs g) 0 n := by
    intro n hn
    induction n with
    | zero => rfl
    | succ n ih => rw [Fd_s, Fd_s, ih (by omega), cf_range (by omega)]
  exact this _ (Nat.le_refl _)
theorem Dv_le {l : List Int} {c : Nat} (ha : Ab c l) (h r : Nat) : ∀ n, Dv (cf l) n h r ≤ c
  | 0 => Nat.zero_le _
  | n + 1 => by
    have ih := Dv_le ha h r n
    unfold Dv at ih ⊢
    rw [Fd_s]
    split
    · by_cases z : (cf l n).natAbs = 0
      · rw [z, Nat.gcd_zero_left]; exact ih
      · exact Nat.le_trans (Nat.gcd_le_left _ (by omega)) (ha.cf n)
    · exact ih
/-! ### least common multiples -/
def Lcm (d : Nat → Nat) (n : Nat) : Nat := Fd (fun m i => Nat.lcm m (d i)) 1 n
theorem Lcm_s {d : Nat → Nat} {n : Nat} : Lcm d (n + 1) = Nat.lcm (Lcm d n) (d n) := rfl
theorem Lcm_zero {d : Nat → Nat} {r : Nat} (hz : d r = 0) : ∀ {n : Nat}, r < n → Lcm d n = 0
  | 0, h => absurd h (by omega)
  | n + 1, h => by
    rw [Lcm_s]
    by_cases e : r = n
    · rw [← e, hz, Nat.lcm_zero_right]
    · rw [Lcm_zero hz (n := n) (by omega), Nat.lcm_zero_left]
theorem Lcm_dvd {d : Nat → Nat} {m : Nat} : ∀ {n : Nat}, (∀ r, r < n → d r ∣ m) → Lcm d n ∣ m
  | 0, _ => Nat.one_dvd m
  | n + 1, h => by
    rw [Lcm_s]
    exact Nat.lcm_dvd (Lcm_dvd fun r hr => h r (by omega)) (h n (by omega))
theorem dvd_Lcm {d : Nat → Nat} {r : Nat} : ∀ {n : Nat}, r < n → d r ∣ Lcm d n
  | 0, h => absurd h (by omega)
  | n + 1, h => by
    rw [Lcm_s]
    by_cases e : r = n
    · rw [e]; exact Nat.dvd_lcm_right _ _
    · exact Nat.dvd_trans (dvd_Lcm (n := n) (by omega)) (Nat.dvd_lcm_left _ _)
theorem Lcm_pos {d : Nat → Nat} : ∀ {n : Nat}, (∀ r, r < n → d r ≠ 0) → 0 < Lcm d n
  | 0, _ => Nat.one_pos
  | n + 1, h => by
    rw [Lcm_s]
    have h1 := Lcm_pos (n := n) fun r hr => h r (by omega)
    have h2 := h n (by omega)
    exact Nat.lcm_pos h1 (by omega)
theorem Lcm_le {d : Nat → Nat} {c : Nat} (hc : ∀ r, d r ≤ 2 ^ c) : ∀ n : Nat, Lcm d n ≤ 2 ^ (c * n)
  | 0 => Nat.le_refl _
  | n + 1 => by
    rw [Lcm_s]
    have h1 := Lcm_le hc n
    have h2 := hc n
    have h3 : Nat.lcm (Lcm d n) (d n) ≤ Lcm d n * d n := Nat.div_le_self _ _
    refine Nat.le_trans h3 ?_
    rw [Nat.mul_add, Nat.pow_add, Nat.mul_one]
    exact Nat.mul_le_mul h1 h2
theorem lcm_step (m d : Nat) : m / Nat.gcd m d * d = Nat.lcm m d := by
  unfold Nat.lcm
  obtain ⟨q, hq⟩ := Nat.gcd_dvd_left m d
  by_cases z : Nat.gcd m d = 0
  · rw [z]; simp [Nat.eq_zero_of_gcd_eq_zero_right z]
  · have e : m = Nat.gcd m d * q := hq
    generalize Nat.gcd m d = g at *
    subst e
    rw [Nat.mul_div_cancel_left _ (by omega), Nat.mul_assoc, Nat.mul_div_cancel_left _ (by omega)]
/-! ### the least place -/
def least (p : Nat → Bool) : Nat → Option Nat
  | 0 => none
  | n + 1 => (least p n).or (if p n then some n else none)
theorem least_s {p : Nat → Bool} {n : Nat} : least p (n + 1) = (least p n).or (if p n then some n else none) := rfl
theorem least_none {p : Nat → Bool} : ∀ {n : Nat}, (∀ r, r < n → p r = false) → least p n = none
  | 0, _ => rfl
  | n + 1, h => by
    have ih := least_none (n := n) fun r hr => h r (by omega)
    simp [least_s, ih, h n (by omega)]
theorem least_some {p : Nat → Bool} {m : Nat} (h : ∀ r, r < m → p r = false) (hp : p m = true) : ∀ {n : Nat}, m < n → least p n = some m
  | 0, hn => absurd hn (by omega)
  | n + 1, hn => by
    by_cases e : m < n
    · simp [least_s, least_some h hp e]
    · have : m = n := by omega
      subst this
      simp [least_s, least_none h, hp]
theorem least_head (p : Nat → Bool) : ∀ n : Nat, ((List.range n).filter p).head? = least p n
  | 0 => rfl
  | n + 1 => by
    rw [List.range_succ, List.filter_append, List.head?_append, least_head p n, least_s]
    by_cases hp : p n <;> simp [hp]
theorem least_cases (p : Nat → Bool) (n : Nat) : (least p n = none ∧ ∀ r, r < n → p r = false) ∨ ∃ m, least p n = some m ∧ m < n ∧ p m = true ∧ ∀ r, r < m → p r = false := by
  induction n with
  | zero => exact .inl ⟨rfl, fun r hr => absurd hr (by omega)⟩
  | succ n ih =>
    rcases ih with ⟨h1, h2⟩ | ⟨m, h1, h2, h3, h4⟩
    · by_cases hp : p n
      · exact .inr ⟨n, by simp [least_s, h1, hp], by omega, hp, h2⟩
      · refine .inl ⟨by simp [least_s, h1, hp], fun r hr => ?_⟩
        by_cases e : r = n
        · subst e; simpa using hp
        · exact h2 r (by omega)
    · exact .inr ⟨m, by simp [least_s, h1], by omega, h3, h4⟩
theorem least_prop {p : Nat → Bool} {m n : Nat} (h : least p n = some m) : m < n ∧ p m = true ∧ ∀ r, r < m → p r = false := by
  rcases least_cases p n with ⟨h1, _⟩ | ⟨k, h1, h2⟩
  · rw [h1] at h; cases h
  · rw [h1] at h; cases h; exact h2
theorem least_none' {p : Nat → Bool} {n : Nat} (h : least p n = none) : ∀ r, r < n → p r = false := by
  rcases least_cases p n with ⟨_, h2⟩ | ⟨k, h1, _⟩
  · exact h2
  · rw [h1] at h; cases h
/-- the least rest with another sum -/
def fu (l : List Int) (h : Nat) : Option Nat := least (fun r => decide (Rs (cf l) l.length h r ≠ Rs (cf l) l.length h 0)) h
def fuW : Option Nat → W
  | some r => .tup [.int 0, .int (r : Nat)]
  | none => .non
theorem fuW_pure (o : Option Nat) : (fuW o).pure = true := by cases o <;> rfl
theorem fuW_non (o : Option Nat) : isNonB (fuW o) = o.isNone := by cases o <;> rfl
theorem rp_fuW {o : Option Nat} (h : ∀ r, o = some r → r < 2 ^ 60) : Rp 1 4000 (fuW o) := by
  cases o with
  | none => exact rp_none.mono (by omega) (by omega)
  | some r =>
    have hr := h r rfl
    exact (rp_tup (k := 0) (n := 1901) (m := 2) (by decide) (fun w hw => by
      rcases List.mem_cons.mp hw with rfl | hw
      · exact rp_int (big_of (by decide))
      · rw [List.mem_singleton.mp hw]; exact rp_int (big_of (by omega))) (Nat.le_refl _)).mono (by omega) (by omega)
theorem ixLI_nat {l : List Int} {i : Nat} (h : i < l.length) : semIx [LI l, .int (i : Nat)] = some (.int (cf l i)) := by
  rw [ixLI, ixN_nat h]; rfl
theorem pow_100k (n : Nat) (h : n ≤ 1000) : 2 ^ (100 * n) < 2 ^ 1000000 := Nat.pow_lt_pow_right (by decide) (by omega)
theorem lcm_ops {m d n : Nat} (hm : m ≤ 2 ^ (100 * n)) (hn : n ≤ 1000) (hd : d ≤ 2 ^ 100) (hd0 : d ≠ 0) :
    semFdv [.int (m : Nat), .int (Nat.gcd m d : Nat)] = some (.int ((m / Nat.gcd m d : Nat) : Int)) ∧ semMul [.int ((m / Nat.gcd m d : Nat) : Int), .int (d : Nat)] = some (.int (Nat.lcm m d : Nat)) := by
  have hg : 0 < Nat.gcd m d := Nat.gcd_pos_of_pos_right _ (by omega)
  have hg2 : Nat.gcd m d ≤ d := Nat.gcd_le_right _ (by omega)
  refine ⟨fdv_nat _ _ hg (by omega), ?_⟩
  rw [semMul_a (mulOk_b ?_ ?_)]
  · rw [← Int.natCast_mul, lcm_step]
  · rw [Int.natAbs_natCast]
    exact Nat.lt_of_le_of_lt (Nat.le_trans (Nat.div_le_self _ _) hm) (pow_100k n hn)
  · rw [Int.natAbs_natCast]
    exact Nat.lt_of_le_of_lt hd (Nat.pow_lt_pow_right (by decide) (by decide))
theorem c0 : W.int 0 = W.int ((0 : Nat) : Int) := rfl
/-- the least rest that bars a level -/
def blk (D : Nat → Nat) (h v : Nat) : Option Nat := least (fun r => !decide (D r ∣ v)) h
def natW : Option Nat → W
  | some r => .int (r : Nat)
  | none => .non
theorem natW_non (o : Option Nat) : isNonB (natW o) = o.isNone := by cases o <;> rfl
theorem blk_none {D : Nat → Nat} {h v : Nat} : (blk D h v).isNone = true ↔ ∀ r, r < h → D r ∣ v := by
  unfold blk
  constructor
  · intro e r hr
    have := least_none' (Option.isNone_iff_eq_none.mp e) r hr
    simpa using this
  · intro e
    rw [least_none fun r hr => by simp [e r hr]]
    rfl
theorem cells (ns : List Int) (c : Nat) (hc : c ≤ 10) (h1 : 1 ≤ c) : ∃ m v : Nat, semMin2 [.int (c : Nat), .int (ns.length : Nat)] = some (.int (m : Nat)) ∧ semMax2 [.int 1, .int (m : Nat)] = some (.int (v : Nat)) ∧ itemsR1 [.int (v : Nat)] = some (upFrom 0 v) ∧ v ≤ c ∧ 1 ≤ v := by
  refine ⟨min c ns.length, max 1 (min c ns.length), ?_, ?_, ?_, by omega, by omega⟩
  · rw [semMin2_a]; split <;> congr 2 <;> omega
  · rw [semMax2_a]; split <;> congr 2 <;> omega
  · have := itemsR1_a (n := ((max 1 (min c ns.length) : Nat) : Int)) (by omega) (by omega)
    rwa [Int.toNat_natCast] at this
theorem lenScr (ns : List Int) : semLen [.scr (ns.map W.int)] = some (.int (ns.length : Nat)) := by simp
theorem itemsR1_n (n : Nat) (h : n ≤ 10000000) : itemsR1 [.int (n : Nat)] = some (upFrom 0 n) := by
  have := itemsR1_a (n := (n : Nat)) (by omega) (by omega)
  rwa [Int.toNat_natCast] at this
theorem slI (l : List Int) (h : l.length ≤ 1000) : semLst W.pure.all (l.map W.int) = some (LI l) := by
  unfold semLst
  rw [if_pos ⟨by rw [List.length_map]; exact szl, pureInts l⟩]
  rfl
@[simp] theorem itemsZT_a {xs ys : List W} : itemsZT [.tup xs, .tup ys] = some (zipUp xs ys) := Eq.trans rfl rfl
theorem zipUp_c {x y : W} {xs ys : List W} : zipUp (x :: xs) (y :: ys) = .tup [x, y] :: zipUp xs ys := rfl
theorem zipUp_n {ys : List W} : zipUp [] ys = [] := rfl
theorem semTupC_LI {l : List Int} : semTupC [LI l] = some (.tup (l.map W.int)) := by
  show (if W.pure.all (l.map W.int) = true then some (W.tup (l.map W.int)) else none) = _
  rw [if_pos (pureInts l)]
theorem mod_int (v : Int) (d : Nat) (hd : d ≠ 0) : semMod [.int v, .int (d : Nat)] = some (.int (v % (d : Int))) := by
  rw [semMod_a (by omega), Int.fmod_eq_emod_of_nonneg _ (by omega)]
theorem fdv_int (v : Int) (d : Nat) (h0 : 0 < d) (h : d < 2 ^ 200) : semFdv [.int v, .int (d : Nat)] = some (.int (v / (d : Int))) := by
  rw [semFdv_a (fdivOk_s (by omega) (by omega)), Int.fdiv_eq_ediv_of_nonneg _ (by omega)]
@[simp] theorem itemsT_a {ws : List W} : itemsT [.tup ws] = some ws := Eq.trans rfl rfl
theorem absI (i : Int) : semAbs [.int i] = some (.int (i.natAbs : Nat)) := by
  rw [semAbs_a]
  split <;> congr 2 <;> omega
/-! ### the level of a pair -/
theorem get_zip {a b : List Int} {i : Nat} (h1 : i < a.length) (h2 : i < b.length) : (zipUp (a.map W.int) (b.map W.int))[i]? = some (.tup [.int (cf a i), .int (cf b i)]) := by
  unfold zipUp
  rw [List.getElem?_zipWith, get_ints h1, get_ints h2]
theorem zipUp_len {a b : List W} : (zipUp a b).length = min a.length b.length := by unfold zipUp; exact List.length_zipWith
theorem itemsZ_LI {a b : List Int} : itemsZ [LI a, LI b] = some (zipUp (a.map W.int) (b.map W.int)) := rfl
/-! ### the bag -/
def Bag (w : W) : Prop := ∃ (cs : List Int) (i c s k : Nat), w = .lst [LI cs, .int (i : Nat), .int (c : Nat), .int (s : Nat), .int (k : Nat)] ∧ i ≤ cs.length ∧ s < 2147483647 ∧ ∀ x ∈ cs, 0 ≤ x
theorem ixN5 : ixN 5 0 = some 0 ∧ ixN 5 1 = some 1 ∧ ixN 5 2 = some 2 ∧ ixN 5 3 = some 3 ∧ ixN 5 4 = some 4 := by decide
theorem mod_nn (v : Int) (d : Nat) (hd : 0 < d) : ∃ r : Nat, semMod [.int v, .int (d : Nat)] = some (.int (r : Nat)) ∧ r < d := by
  refine ⟨(v % (d : Int)).toNat, ?_, ?_⟩
  · rw [mod_int v d (by omega), Int.toNat_of_nonneg (Int.emod_nonneg _ (by omega))]
  · have := Int.emod_lt_of_pos v (show (0 : Int) < (d : Int) by omega)
    have := Int.emod_nonneg v (show (d : Int) ≠ 0 by omega)
    omega
theorem p_stirred {b : W} (hb : Bag b) (m : Nat) (hm : 0 < m) (hm2 : m < 2 ^ 200) : ∃ (d : Nat) (b' : W), v__law_stirred [b, .int (m : Nat)] = .ok (.int (d : Nat)) b' ∧ d < m ∧ Bag b' := by
  obtain ⟨cs, i, c, s, k, rfl, hi, hs, hcs⟩ := hb
  suffices ∃ w o, v__law_stirred [.lst [LI cs, .int (i : Nat), .int (c : Nat), .int (s : Nat), .int (k : Nat)], .int (m : Nat)] = .ok w o ∧ ((∃ d : Nat, w = .int (d : Nat) ∧ d < m) ∧ Bag o) by
    obtain ⟨w, o, e, ⟨d, rfl, hd⟩, ho⟩ := this
    exact ⟨d, o, e, hd, ho⟩
  refine vc_ex ?_
  obtain ⟨B, hB⟩ : ∃ B, B = Builtin.Int.intBits (m : Int) := ⟨_, rfl⟩
  have hB2 : B ≤ 200 := by rw [hB]; exact bitsOf (by omega)
  have sb : semBits [.int (m : Nat)] = some (.int (B : Nat)) := by rw [hB]; rfl
  have fb : semFdv [.int (B : Nat), .int 27] = some (.int ((B / 27 : Nat) : Int)) := fdv_nat B 27 (by omega) (by omega)
  obtain ⟨q, hq⟩ : ∃ q, q = B / 27 := ⟨_, rfl⟩
  have hq2 : q ≤ 200 := by rw [hq]; exact Nat.le_trans (Nat.div_le_self _ _) hB2
  rw [← hq] at fb
  have r1 : itemsR1 [.int (1 + (q : Int))] = some (upFrom 0 (1 + q)) := by
    have := itemsR1_n (1 + q) (by omega)
    rwa [show ((1 + q : Nat) : Int) = 1 + (q : Int) from by omega] at this
  simp [f__law_stirred, enter, sb, fb, r1]
  refine wp_ix (1 + q) _ (by simp) (fun i hi => get_up0 hi) (fun t S => ∃ s k f : Nat, S = [some (.lst [LI cs, .int (i : Nat), .int (c : Nat), .int (s : Nat), .int (k : Nat)]), some (.int (m : Nat)), some (.int (f : Nat)), none, none] ∧ s < 2147483647) ⟨s, k, 0, by simp, hs⟩ ?_ ?_
  · rintro t ht S ⟨s, k, f, rfl, hs⟩
    have p3 := semPow_a (i := (s : Int)) (j := 3) (pow3 (by omega) (by omega))
    have m1 : semMul [.int 69621, .int (s : Nat)] = some (.int (69621 * (s : Int))) := semMul_a (mulOk_l (by decide))
    have m2 : semMul [.int 1031, .int ((k : Int) + 1)] = some (.int (1031 * ((k : Int) + 1))) := semMul_a (mulOk_l (by decide))
    have m3 : semMul [.int (f : Nat), .int 134217728] = some (.int ((f : Int) * 134217728)) := semMul_a (mulOk_r (by decide))
    generalize hp : (s : Int) ^ (3 : Int).toNat = P at *
    generalize 69621 * (s : Int) = Q at *
    generalize 1031 * ((k : Int) + 1) = R at *
    obtain ⟨s', e1, hs'⟩ := mod_nn (P + Q + R + 1) 2147483647 (by decide)
    have e1 : semMod [.int (P + Q + R + 1), .int 2147483647] = some (.int (s' : Nat)) := e1
    have d1 : semFdv [.int (s' : Nat), .int 16] = some (.int ((s' / 16 : Nat) : Int)) := fdv_nat s' 16 (by omega) (by omega)
    obtain ⟨z, hz⟩ : ∃ z, z = s' / 16 := ⟨_, rfl⟩
    rw [← hz] at d1
    simp [ixN5, p3, m1, m2, m3, e1, d1]
    exact ⟨s', ⟨⟨rfl, k + 1, by simp⟩, f * 134217728 + z, by simp⟩, hs'⟩
  · rintro S ⟨s, k, f, rfl, hs⟩
    obtain ⟨r, e, hr⟩ := mod_nn (f : Int) m hm
    simp [e]
    exact ⟨⟨r, rfl, hr⟩, cs, i, c, s, k, rfl, hi, hs, hcs⟩
theorem nneg {cs : List Int} (h : ∀ x ∈ cs, 0 ≤ x) (i : Nat) : 0 ≤ cf cs i := by
  by_cases hi : i < cs.length
  · have : cf cs i = cs[i] := by simp [cf, List.getD, hi]
    rw [this]; exact h _ (List.getElem_mem hi)
  · rw [cf_ge (by omega)]; exact Int.le_refl _
theorem p_draw {b : W} (hb : Bag b) (m : Nat) (hm : 0 < m := by omega) (hm2 : m < 2 ^ 200 := by omega) : ∃ (d : Nat) (b' : W), v__law_draw [b, .int (m : Nat)] = .ok (.int (d : Nat)) b' ∧ d < m ∧ Bag b' := by
  have st := fun b hb => p_stirred (b := b) hb m hm hm2
  obtain ⟨cs, i, c, s, k, rfl, hi, hs, hcs⟩ := hb
  suffices ∃ w o, v__law_draw [.lst [LI cs, .int (i : Nat), .int (c : Nat), .int (s : Nat), .int (k : Nat)], .int (m : Nat)] = .ok w o ∧ ((∃ d : Nat, w = .int (d : Nat) ∧ d < m) ∧ Bag o) by
    obtain ⟨w, o, e, ⟨d, rfl, hd⟩, ho⟩ := this
    exact ⟨d, o, e, hd, ho⟩
  refine vc_ex ?_
  have take : ∀ c : Nat, ∃ d c' : Nat, semMod [.int (c : Nat), .int (m : Nat)] = some (.int (d : Nat)) ∧ semFdv [.int (c : Nat), .int (m : Nat)] = some (.int (c' : Nat)) ∧ d < m := fun c => ⟨c % m, c / m, mod_nat c m hm, fdv_nat c m hm hm2, Nat.mod_lt _ hm⟩
  by_cases hc : c = 0
  · subst hc
    by_cases hi2 : i < cs.length
    · have hx : ixN cs.length (i : Int) = some i := ixN_nat hi2
      have hn := nneg hcs i
      obtain ⟨z, hz⟩ : ∃ z : Nat, cf cs i = (z : Nat) := ⟨(cf cs i).toNat, by rw [Int.toNat_of_nonneg hn]⟩
      obtain ⟨d, c', t1, t2, hd⟩ := take z
      simp [f__law_draw, enter, ixN5, hi2, hx, hz, t1, t2]
      exact ⟨⟨d, rfl, hd⟩, cs, i + 1, c', s, k, by simp, by omega, hs, hcs⟩
    · obtain ⟨d, b', e, hd, hb'⟩ := st _ ⟨cs, i, 0, s, k, rfl, hi, hs, hcs⟩
      have e : v__law_stirred [.lst [LI cs, .int (i : Nat), .int 0, .int (s : Nat), .int (k : Nat)], .int (m : Nat)] = .ok (.int (d : Nat)) b' := e
      simp [f__law_draw, enter, ixN5, hi2, e]
      exact ⟨⟨d, rfl, hd⟩, hb'⟩
  · obtain ⟨d, c', t1, t2, hd⟩ := take c
    simp [f__law_draw, enter, ixN5, hc, t1, t2]
    exact ⟨⟨d, rfl, hd⟩, cs, i, c', s, k, rfl, hi, hs, hcs⟩
theorem c60 : semPow [.int 10, .int 60] = some (.int (10 ^ 60)) := by rw [semPow_a (by decide +kernel)]; rfl
theorem c600 : semPow [.int (10 ^ 60), .int 10] = some (.int (10 ^ 600)) := by rw [semPow_a (by decide +kernel)]; rfl
theorem cut63 (ns : List Int) : cutL W.pure.all (.scr (ns.map W.int)) none (some 63) = some (LI (cutN ns none (some 63))) := by
  have := cutLI (a := ns) (lo := none) (hi := some 63)
  exact this
theorem p_bag (ns : List Int) (hns : ns.length ≤ 63) : ∃ b, v__law_bag [.scr (ns.map W.int)] = .ok b .non ∧ Bag b := by
  have hc := cut63 ns
  generalize W.scr (ns.map W.int) = sc at *
  have hl : (cutN ns none (some 63)).length ≤ sizeLine := by
    refine Nat.le_trans (m := 63) ?_ (szl (n := 63))
    unfold cutN
    simp
    omega
  generalize cutN ns none (some 63) = cs at *
  suffices ∃ w o, v__law_bag [sc] = .ok w o ∧ (Bag w ∧ o = .non) by
    obtain ⟨w, o, e, hd, rfl⟩ := this
    exact ⟨w, e, hd⟩
  refine vc_ex ?_
  simp [f__law_bag, enter, hc]
  refine wp_ix cs.length _ (by simp) (fun i hi => get_ints hi) (fun t S => ∃ s : Nat, S = [some sc, some (.int (s : Nat)), none] ∧ s < 2147483647) ⟨143, by simp, by decide⟩ ?_ ?_
  · rintro t ht S ⟨s, rfl, hs⟩
    have m1 : semMul [.int (s : Nat), .int 48271] = some (.int ((s : Int) * 48271)) := semMul_a (mulOk_r (by decide))
    obtain ⟨r, e, hr⟩ := mod_nn (cf cs t) 2147483629 (by decide)
    have e : semMod [.int (cf cs t), .int 2147483629] = some (.int (r : Nat)) := e
    obtain ⟨s', e2, hs'⟩ := mod_nn ((s : Int) * 48271 + r + 1) 2147483647 (by decide)
    have e2 : semMod [.int ((s : Int) * 48271 + r + 1), .int 2147483647] = some (.int (s' : Nat)) := e2
    generalize (s : Int) * 48271 = Q at *
    simp [m1, e, e2]
    exact ⟨s', rfl, hs'⟩
  · rintro S ⟨s, rfl, hs⟩
    have c60 := c60
    have c600 := c600
    obtain ⟨k60, h60⟩ : ∃ k : Int, k = 10 ^ 60 := ⟨_, rfl⟩
    obtain ⟨k600, h600⟩ : ∃ k : Nat, k = 10 ^ 600 := ⟨_, rfl⟩
    have kp : 0 < k600 := by rw [h600]; exact Nat.pos_of_ne_zero (by decide +kernel)
    have c600 : semPow [.int k60, .int 10] = some (.int (k600 : Nat)) := by rw [h60, c600, h600]; rfl
    rw [← h60] at c60
    clear h60 h600
    have ab : ∀ t, ∃ r : Nat, semMod [.int ((cf cs t).natAbs : Nat), .int (k600 : Nat)] = some (.int (r : Nat)) := fun t => by
      obtain ⟨r, e, _⟩ := mod_nn ((cf cs t).natAbs : Int) k600 kp
      exact ⟨r, e⟩
    simp [hc, hl]
    refine wp_res (comp_ixI cs.length _ (by simp) (fun i hi => get_ints hi) (fun i => ((cf cs i).natAbs : Int) % (k600 : Int)) [some sc, some (.int (s : Nat)), none] (by simp) (fun i hi => ?_)) ?_
    · have := mod_int ((cf cs i).natAbs : Int) k600 (by omega)
      simp [absI, -semAbs_a, c60, c600, this]
    · simp [semLst, anyW]
      refine ⟨_, 0, 0, s, 0, by simp; rfl, by simp, hs, fun x hx => ?_⟩
      obtain ⟨i, _, rfl⟩ := List.mem_map.mp hx
      exact Int.emod_nonneg _ (by omega)
/-! ### alike -/
theorem isl_l {ws : List W} : semIsi2 "list" "tuple" [.lst ws] = some (.bl true) := rfl
theorem isl_i {i : Int} : semIsi2 "list" "tuple" [.int i] = some (.bl false) := rfl
theorem isb_i {i : Int} : semIsi "bool" [.int i] = some (.bl false) := rfl
theorem isn_i {i : Int} : semIsi "int" [.int i] = some (.bl true) := rfl
theorem iss_i {i : Int} : semIsi "str" [.int i] = some (.bl false) := rfl
theorem isL_l {ws : List W} : semIsi "list" [.lst ws] = some (.bl true) := rfl
theorem all_tt (n : Nat) : ((List.range n).map fun _ => true).all id = true := by simp
theorem al_int_1 (i : Int) : v__law_alike_1 [.int i, .int i] = .ok (.bl true) .non := by
  refine vc_eq ?_
  simp [f__law_alike_1, enter, isl_i, isb_i, isn_i, iss_i]
theorem al_int_2 (i : Int) : v__law_alike_2 [.int i, .int i] = .ok (.bl true) .non := by
  refine vc_eq ?_
  simp [f__law_alike_2, enter, isl_i, isb_i, isn_i, iss_i]
theorem al_lst_2 (ws : List W) (hl : ws.length ≤ 10000000) (h : ∀ w ∈ ws, v__law_alike_1 [w, w] = .ok (.bl true) .non) : v__law_alike_2 [.lst ws, .lst ws] = .ok (.bl true) .non := by
  have r1 := itemsR1_n ws.length hl
  have hz : ws.length ≤ sizeLine := szl
  refine vc_eq ?_
  simp [f__law_alike_2, enter, isl_l, isL_l, r1, hz]
  refine wp_res (comp_ixB ws.length _ (by simp) (fun i hi => get_up0 hi) (fun _ => true) [some (.lst ws), some (.lst ws), none] (by simp) (fun i hi => ?_)) ?_
  · have hx : ixN ws.length (i : Int) = some i := ixN_nat hi
    have hg : ws[i]? = some ws[i] := List.getElem?_eq_getElem hi
    have hc := h ws[i] (List.getElem_mem hi)
    generalize ws[i] = w at *
    simp [hx, hg, hc]
  · have ht := all_tt ws.length
    generalize (List.range ws.length).map (fun _ => true) = bs at *
    simp [ht]
theorem al_LI_2 (l : List Int) (hl : l.length ≤ 10000000) : v__law_alike_2 [LI l, LI l] = .ok (.bl true) .non :=
  al_lst_2 (l.map W.int) (by simpa using hl) fun w hw => by
    obtain ⟨i, _, rfl⟩ := List.mem_map.mp hw
    exact al_int_1 i
theorem al_int_3 (i : Int) : v__law_alike_3 [.int i, .int i] = .ok (.bl true) .non := by
  refine vc_eq ?_
  simp [f__law_alike_3, enter, isl_i, isb_i, isn_i, iss_i]
theorem al_lst_3 (ws : List W) (hl : ws.length ≤ 10000000) (h : ∀ w ∈ ws, v__law_alike_2 [w, w] = .ok (.bl true) .non) : v__law_alike_3 [.lst ws, .lst ws] = .ok (.bl true) .non := by
  have r1 := itemsR1_n ws.length hl
  have hz : ws.length ≤ sizeLine := szl
  refine vc_eq ?_
  simp [f__law_alike_3, enter, isl_l, isL_l, r1, hz]
  refine wp_res (comp_ixB ws.length _ (by simp) (fun i hi => get_up0 hi) (fun _ => true) [some (.lst ws), some (.lst ws), none] (by simp) (fun i hi => ?_)) ?_
  · have hx : ixN ws.length (i : Int) = some i := ixN_nat hi
    have hg : ws[i]? = some ws[i] := List.getElem?_eq_getElem hi
    have hc := h ws[i] (List.getElem_mem hi)
    generalize ws[i] = w at *
    simp [hx, hg, hc]
  · have ht := all_tt ws.length
    generalize (List.range ws.length).map (fun _ => true) = bs at *
    simp [ht]
theorem al_LI_3 (l : List Int) (hl : l.length ≤ 10000000) : v__law_alike_3 [LI l, LI l] = .ok (.bl true) .non :=
  al_lst_3 (l.map W.int) (by simpa using hl) fun w hw => by
    obtain ⟨i, _, rfl⟩ := List.mem_map.mp hw
    exact al_int_2 i
theorem al_int_4 (i : Int) : v__law_alike_4 [.int i, .int i] = .ok (.bl true) .non := by
  refine vc_eq ?_
  simp [f__law_alike_4, enter, isl_i, isb_i, isn_i, iss_i]
theorem al_lst_4 (ws : List W) (hl : ws.length ≤ 10000000) (h : ∀ w ∈ ws, v__law_alike_3 [w, w] = .ok (.bl true) .non) : v__law_alike_4 [.lst ws, .lst ws] = .ok (.bl true) .non := by
  have r1 := itemsR1_n ws.length hl
  have hz : ws.length ≤ sizeLine := szl
  refine vc_eq ?_
  simp [f__law_alike_4, enter, isl_l, isL_l, r1, hz]
  refine wp_res (comp_ixB ws.length _ (by simp) (fun i hi => get_up0 hi) (fun _ => true) [some (.lst ws), some (.lst ws), none] (by simp) (fun i hi => ?_)) ?_
  · have hx : ixN ws.length (i : Int) = some i := ixN_nat hi
    have hg : ws[i]? = some ws[i] := List.getElem?_eq_getElem hi
    have hc := h ws[i] (List.getElem_mem hi)
    generalize ws[i] = w at *
    simp [hx, hg, hc]
  · have ht := all_tt ws.length
    generalize (List.range ws.length).map (fun _ => true) = bs at *
    simp [ht]
theorem al_LI_4 (l : List Int) (hl : l.length ≤ 10000000) : v__law_alike_4 [LI l, LI l] = .ok (.bl true) .non :=
  al_lst_4 (l.map W.int) (by simpa using hl) fun w hw => by
    obtain ⟨i, _, rfl⟩ := List.mem_map.mp hw
    exact al_int_3 i
theorem al_int_5 (i : Int) : v__law_alike_5 [.int i, .int i] = .ok (.bl true) .non := by
  refine vc_eq ?_
  simp [f__law_alike_5, enter, isl_i, isb_i, isn_i, iss_i]
theorem al_lst_5 (ws : List W) (hl : ws.length ≤ 10000000) (h : ∀ w ∈ ws, v__law_alike_4 [w, w] = .ok (.bl true) .non) : v__law_alike_5 [.lst ws, .lst ws] = .ok (.bl true) .non := by
  have r1 := itemsR1_n ws.length hl
  have hz : ws.length ≤ sizeLine := szl
  refine vc_eq ?_
  simp [f__law_alike_5, enter, isl_l, isL_l, r1, hz]
  refine wp_res (comp_ixB ws.length _ (by simp) (fun i hi => get_up0 hi) (fun _ => true) [some (.lst ws), some (.lst ws), none] (by simp) (fun i hi => ?_)) ?_
  · have hx : ixN ws.length (i : Int) = some i := ixN_nat hi
    have hg : ws[i]? = some ws[i] := List.getElem?_eq_getElem hi
    have hc := h ws[i] (List.getElem_mem hi)
    generalize ws[i] = w at *
    simp [hx, hg, hc]
  · have ht := all_tt ws.length
    generalize (List.range ws.length).map (fun _ => true) = bs at *
    simp [ht]
theorem al_LI_5 (l : List Int) (hl : l.length ≤ 10000000) : v__law_alike_5 [LI l, LI l] = .ok (.bl true) .non :=
  al_lst_5 (l.map W.int) (by simpa using hl) fun w hw => by
    obtain ⟨i, _, rfl⟩ := List.mem_map.mp hw
    exact al_int_4 i
/-! ### sums folded -/
theorem get_ez {a b : List Int} {i : Nat} (h1 : i < a.length) (h2 : i < b.length) : (pairUp (zipUp (a.map W.int) (b.map W.int)))[i]? = some (.tup [.int (i : Nat), .tup [.int (cf a i), .int (cf b i)]]) := by
  unfold pairUp
  rw [List.getElem?_mapIdx, get_zip h1 h2]
  rfl
theorem itemsEZ_LI {a b : List Int} : itemsEZ [LI a, LI b] = some (pairUp (zipUp (a.map W.int) (b.map W.int))) := rfl
theorem pairUp_len {a : List W} : (pairUp a).length = a.length := by unfold pairUp; exact List.length_mapIdx
def dfP (a b : List Int) (g r : Nat) : Bool := decide (Rs (cf a) a.length g r ≠ Rs (cf b) b.length g r)
def fdN (a b : List Int) : Option Nat := least (dfP a b (Nat.gcd a.length b.length)) (Nat.gcd a.length b.length)
theorem p_first_difference (a b : List Int) (a1 : 1 ≤ a.length) (a2 : a.length ≤ 1000) (b1 : 1 ≤ b.length) (b2 : b.length ≤ 1000) : v_first_difference [LI a, LI b] = .ok (natW (fdN a b)) .non := by
  have pc := p_common_divisor (a.length : Int) (b.length : Int)
  rw [Int.natAbs_natCast, Int.natAbs_natCast] at pc
  have g0 : 0 < Nat.gcd a.length b.length := Nat.gcd_pos_of_pos_left _ a1
  have gl : Nat.gcd a.length b.length ≤ a.length := Nat.gcd_le_left _ a1
  unfold fdN
  generalize Nat.gcd a.length b.length = g at *
  have pa := p_sums_at a g g0 (by omega) (by omega)
  have pb := p_sums_at b g g0 (by omega) (by omega)
  have la : (restL (cf a) a.length g).length = g := restL_len
  have lb : (restL (cf b) b.length g).length = g := restL_len
  have ga : ∀ r, r < g → cf (restL (cf a) a.length g) r = Rs (cf a) a.length g r := fun r hr => restL_get hr
  have gb : ∀ r, r < g → cf (restL (cf b) b.length g) r = Rs (cf b) b.length g r := fun r hr => restL_get hr
  have x0 : ixN 2 0 = some 0 := by decide
  have x1 : ixN 2 1 = some 1 := by decide
  refine vc_eq ?_
  simp [f_first_difference, enter, pc, pa, pb, itemsEZ_LI]
  refine wp_ix g _ (by rw [pairUp_len, zipUp_len, List.length_map, List.length_map, la, lb, Nat.min_self]) (fun i hi => get_ez (by omega) (by omega)) (fun i S => S = [some (LI a), some (LI b), some (.int (g : Nat)), none, none] ∧ ∀ r, r < i → dfP a b g r = false) (by simp) ?_ ?_
  · rintro i hi S ⟨rfl, hz⟩
    rw [ga i hi, gb i hi]
    have hp : dfP a b g i = decide (Rs (cf a) a.length g i ≠ Rs (cf b) b.length g i) := rfl
    generalize Rs (cf a) a.length g i = x at *
    generalize Rs (cf b) b.length g i = y at *
    have pu : ∀ x y : Int, (W.tup [.int x, .int y]).pure = true := fun _ _ => rfl
    by_cases e : x = y
    · simp [pu, x0, x1, e]
      intro r hr
      by_cases e2 : r = i
      · rw [e2, hp]; simp [e]
      · exact hz r (by omega)
    · have hl : least (dfP a b g) g = some i := least_some hz (by rw [hp]; simp [e]) hi
      simp [pu, x0, x1, e, hl, natW]
  · rintro S ⟨rfl, hz⟩
    simp [least_none hz, natW]
theorem p_need_sums (l : List Int) (l1 : 1 ≤ l.length) (l2 : l.length ≤ 200) : v_need_sums [LI l] = .ok .non .non := by
  have pi : v_are_integers [LI l, .int 200] = .ok (.bl true) .non := p_are_integers l 200 (by omega) (by omega) (by omega)
  refine vc_eq ?_
  simp [f_need_sums, enter, pi]
theorem natW_pure (o : Option Nat) : (natW o).pure = true := by cases o <;> rfl
theorem p_first_clash (a b : List Int) (a1 : 1 ≤ a.length) (a2 : a.length ≤ 200) (b1 : 1 ≤ b.length) (b2 : b.length ≤ 200) : v_first_clash [LI a, LI b] = .ok (natW (fdN a b)) .non := by
  have pd := p_first_difference a b a1 (by omega) b1 (by omega)
  refine vc_eq ?_
  simp [f_first_clash, enter, p_need_sums a a1 a2, p_need_sums b b1 b2, pd]
theorem p_agree (a b : List Int) (a1 : 1 ≤ a.length) (a2 : a.length ≤ 200) (b1 : 1 ≤ b.length) (b2 : b.length ≤ 200) : v_agree [LI a, LI b] = .ok (.bl (fdN a b).isNone) .non := by
  have pd := p_first_difference a b a1 (by omega) b1 (by omega)
  have hn := natW_non (fdN a b)
  generalize fdN a b = o at *
  refine vc_eq ?_
  simp [f_agree, enter, p_need_sums a a1 a2, p_need_sums b b1 b2, pd, hn]
theorem p_folded (l : List Int) (k : Nat) (l1 : 1 ≤ l.length) (l2 : l.length ≤ 200) (k1 : 1 ≤ k) (kd : k ∣ l.length) : v_folded [LI l, .int (k : Nat)] = .ok (LI (restL (cf l) l.length k)) .non := by
  have kl : k ≤ l.length := Nat.le_of_dvd l1 kd
  have ps := p_sums_at l k k1 (by omega) (by omega)
  have hm := mod_nat l.length k k1
  rw [Nat.mod_eq_zero_of_dvd kd] at hm
  have k0 : ¬ ((k : Int) < 1) := by omega
  have hm : semMod [.int (l.length : Nat), .int (k : Nat)] = some (.int 0) := hm
  refine vc_eq ?_
  simp [f_folded, enter, p_need_sums l l1 l2, ps, hm, k0]
theorem p__law_sums (l : List Int) (h : Nat) (l2 : l.length ≤ 100000) (h1 : 1 ≤ h) (h2 : h ≤ 100000) : v__law_sums [LI l, .int (h : Nat)] = .ok (LI (restL (cf l) l.length h)) .non := by
  have hr := repI (v := 0) h (by omega)
  have r1 := itemsR1_n l.length (by omega)
  refine vc_eq ?_
  simp [f__law_sums, enter, semLst, W.pure.all, W.pure, hr, r1]
  refine wp_ix l.length _ (by simp) (fun i hi => get_up0 hi) (fun i S => ∃ f : List Int, S = [some (LI l), some (.int (h : Nat)), some (LI f), none] ∧ f.length = h ∧ ∀ r, r < h → cf f r = Rs (cf l) i h r) ⟨_, by simp; rfl, by simp, fun r hr => by simp [Rs]⟩ ?_ ?_
  · rintro i hi S ⟨f, rfl, hl, hf⟩
    have hm := mod_nat i h h1
    have hlt : i % h < h := Nat.mod_lt _ h1
    have hx : ixN f.length ((i % h : Nat) : Int) = some (i % h) := ixN_nat (by rw [hl]; exact hlt)
    have hi2 : ixN l.length (i : Int) = some i := ixN_nat hi
    generalize hq : i % h = q at *
    simp [hm, hx, hi2]
    refine ⟨hl, fun r hr => ?_⟩
    rw [cf_set (by omega)]
    unfold Rs
    rw [Sg_s, hq]
    have := hf r hr
    unfold Rs at this
    by_cases e : q = r
    · rw [if_pos e, if_pos e, ← this, ← e]
    · rw [if_neg e, if_neg e, this]; omega
  · rintro S ⟨f, rfl, hl, hf⟩
    have : f = restL (cf l) l.length h := cf_eq (by rw [restL_len, hl]) fun k hk => by
      rw [hf k (by omega)]
      exact (restL_get (by omega)).symm
    simp [this]
theorem p__law_divisor (a b : Nat) : v__law_divisor [.int (a : Nat), .int (b : Nat)] = .ok (.int (Nat.gcd a b : Nat)) .non := by
  refine vc_eq ?_
  simp [f__law_divisor, enter]
  refine wp_while b (fun m S => ∃ x y : Nat, S = [some (.int (x : Nat)), some (.int (y : Nat))] ∧ y = m ∧ Nat.gcd x y = Nat.gcd a b) ⟨a, b, rfl, rfl, rfl⟩ ?_
  rintro m S ⟨x, y, rfl, rfl, hg⟩
  by_cases z : y = 0
  · subst z
    rw [Nat.gcd_zero_right] at hg
    simp [hg]
  · have hm := mod_nat x y (by omega)
    have z' : ¬ (y : Int) = 0 := by omega
    have hlt : x % y < y := Nat.mod_lt _ (by omega)
    have hgc : Nat.gcd y (x % y) = Nat.gcd a b := by rw [← hg, Nat.gcd_comm x y, Nat.gcd_rec y x, Nat.gcd_comm]
    generalize x % y = q at *
    simp [z', z, hm]
    exact ⟨q, hlt, y, q, ⟨rfl, rfl⟩, rfl, hgc⟩
theorem p__law_numbers {b : W} (hb : Bag b) (m far : Nat) (hm2 : m ≤ 10000) (hf : 9 ≤ far) (hf2 : far < 2 ^ 200) :
    ∃ (l : List Int) (b' : W), v__law_numbers [b, .int (m : Nat), .int (far : Nat)] = .ok (LI l) b' ∧ l.length = m ∧ Ab far l ∧ Bag b' := by
  suffices ∃ w o, v__law_numbers [b, .int (m : Nat), .int (far : Nat)] = .ok w o ∧ ∃ l : List Int, w = LI l ∧ l.length = m ∧ Ab far l ∧ Bag o by
    obtain ⟨w, o, e, l, rfl, h⟩ := this
    exact ⟨l, o, e, h⟩
  refine vc_ex ?_
  have r1 := itemsR1_n m (by omega)
  simp [f__law_numbers, enter, semLst, W.pure.all, r1]
  refine wp_ix m _ (by simp) (fun i hi => get_up0 hi) (fun t S => ∃ (b : W) (l : List Int), S = [some b, some (.int (m : Nat)), some (.int (far : Nat)), some (LI l), none, none] ∧ Bag b ∧ l.length = t ∧ Ab far l) ⟨b, [], by simp, hb, rfl, fun x hx => by cases hx⟩ ?_ ?_
  · rintro t ht S ⟨b, l, rfl, hb, hl, hab⟩
    obtain ⟨d1, b1, e1, g1, hb1⟩ := p_draw hb 3
    obtain ⟨x1, s, hs, hs2⟩ := pick3 g1 2 9 (far : Nat)
    obtain ⟨d2, b2, e2, g2, hb2⟩ := p_draw hb1 s.toNat
    rw [Int.toNat_of_nonneg (by omega)] at e2
    obtain ⟨d3, b3, e3, g3, hb3⟩ := p_draw hb2 2
    obtain ⟨x3, z, hz, hz2⟩ := pick2 g3 (d2 : Int) (-(d2 : Int))
    have e1 : v__law_draw [b, .int 3] = .ok (.int (d1 : Nat)) b1 := e1
    have e3 : v__law_draw [b2, .int 2] = .ok (.int (d3 : Nat)) b3 := e3
    have hsz : l.length < sizeLine := szt
    simp [e1, x1, hs, e2, e3, x3, hz, semLst, W.pure.all, W.pure, hsz]
    refine ⟨b3, l ++ [z], ⟨rfl, by simp⟩, hb3, by simp [hl], fun x hx => ?_⟩
    rcases List.mem_append.mp hx with hx | hx
    · exact hab x hx
    · rw [List.mem_singleton.mp hx]; omega
  · rintro S ⟨b, l, rfl, hb, hl, hab⟩
    simp
    exact ⟨hl, hab, hb⟩
/-- sums of sums -/
theorem Rs_Rs {f : Nat → Int} {n h k r : Nat} (h1 : 1 ≤ h) (kd : k ∣ h) : Rs (Rs f n h) h k r = Rs f n k r := by
  unfold Rs
  have e : ∀ q, q < h → (if q % k = r then Sg n (fun i => if i % h = q then f i else 0) else 0) = Sg n (fun i => if i % h = q then (if q % k = r then f i else 0) else 0) := fun q _ => by
    by_cases c : q % k = r
    · rw [if_pos c]
      exact Sg_congr fun i _ => by rw [if_pos c]
    · rw [if_neg c]
      exact (Sg_zero fun i _ => by rw [if_neg c]; split <;> rfl).symm
  rw [Sg_congr e, Sg_swap]
  refine Sg_congr fun i _ => ?_
  have e2 : ∀ q, q < h → (if i % h = q then (if q % k = r then f i else 0) else 0) = (if q = i % h then (if q % k = r then f i else 0) else 0) := fun q _ => by
    by_cases c : i % h = q
    · rw [if_pos c, if_pos c.symm]
    · rw [if_neg c, if_neg (Ne.symm c)]
  rw [Sg_congr e2, Sg_one, if_pos (Nat.mod_lt _ h1), Nat.mod_mod_of_dvd _ kd]
theorem restL_fold {l : List Int} {h k : Nat} (h1 : 1 ≤ h) (kd : k ∣ h) : restL (cf (restL (cf l) l.length h)) h k = restL (cf l) l.length k := by
  unfold restL
  refine List.map_congr_left fun r _ => ?_
  rw [← Rs_Rs (f := cf l) (n := l.length) h1 kd]
  unfold Rs
  exact Sg_congr fun q hq => by
    rw [cf_range hq]
theorem Rs_fold {l : List Int} {h k r : Nat} (h1 : 1 ≤ h) (kd : k ∣ h) : Rs (cf (restL (cf l) l.length h)) h k r = Rs (cf l) l.length k r := by
  rw [← Rs_Rs (f := cf l) (n := l.length) h1 kd]
  unfold Rs
  exact Sg_congr fun q hq => by
    rw [show cf (restL (fun i => cf l i) l.length h) q = Rs (cf l) l.length h q from restL_get hq]
    rfl
theorem Rs_setO {f : List Int} {s h r : Nat} {v : Int} (hs : s < f.length) : Rs (cf (f.set s v)) f.length h r = Rs (cf f) f.length h r + (if s % h = r then v - cf f s else 0) := by
  have e := Sg_one (f := fun i => if i % h = r then v - cf f i else 0) (k := s) (n := f.length)
  rw [if_pos hs] at e
  rw [← e]
  unfold Rs
  rw [← Sg_add]
  refine Sg_congr fun i hi => ?_
  show (if i % h = r then cf (f.set s v) i else 0) = (if i % h = r then cf f i else 0) + (if i = s then (if i % h = r then v - cf f i else 0) else 0)
  rw [cf_set hs]
  by_cases c : i % h = r
  · rw [if_pos c, if_pos c, if_pos c]
    by_cases es : i = s
    · rw [if_pos es, if_pos es.symm]; omega
    · rw [if_neg es, if_neg (Ne.symm es)]; omega
  · rw [if_neg c, if_neg c, if_neg c]
    split <;> rfl
/-! alike -/
theorem al_bl_4 (b : Bool) : v__law_alike_4 [.bl b, .bl b] = .ok (.bl true) .non := by
  have i1 : semIsi2 "list" "tuple" [.bl b] = some (.bl false) := rfl
  have i2 : semIsi "bool" [.bl b] = some (.bl true) := rfl
  have i3 : semIsi "int" [.bl b] = some (.bl true) := rfl
  have i4 : semIsi "str" [.bl b] = some (.bl false) := rfl
  have e : semEq false [.bl b, .bl b] = some (.bl true) := by cases b <;> rfl
  refine vc_eq ?_
  simp [f__law_alike_4, enter, i1, i2, i3, i4, e]
theorem al_non_4 : v__law_alike_4 [.non, .non] = .ok (.bl true) .non := by
  have i1 : semIsi2 "list" "tuple" [.non] = some (.bl false) := rfl
  have i2 : semIsi "bool" [.non] = some (.bl false) := rfl
  have i3 : semIsi "int" [.non] = some (.bl false) := rfl
  have i4 : semIsi "str" [.non] = some (.bl false) := rfl
  have e : semEq false [.non, .non] = some (.bl true) := rfl
  refine vc_eq ?_
  simp [f__law_alike_4, enter, i1, i2, i3, i4, e]
theorem al_natW_4 (o : Option Nat) : v__law_alike_4 [natW o, natW o] = .ok (.bl true) .non := by
  cases o with
  | none => exact al_non_4
  | some r => exact al_int_4 (r : Nat)
theorem al_pair (b : Bool) (o : Option Nat) : v__law_alike_5 [.lst [.bl b, natW o], .lst [.bl b, natW o]] = .ok (.bl true) .non :=
  al_lst_5 _ (by simp) fun w hw => by
    rcases List.mem_cons.mp hw with rfl | hw
    · exact al_bl_4 b
    · rw [List.mem_singleton.mp hw]; exact al_natW_4 o
theorem pick4 {d : Nat} (h : d < 4) (a b c e : Int) : ixN 4 (d : Int) = some d ∧ ∃ s, [W.int a, W.int b, W.int c, W.int e][d]? = some (.int s) ∧ (s = a ∨ s = b ∨ s = c ∨ s = e) := by
  refine ⟨ixN_nat h, ?_⟩
  match d, h with
  | 0, _ => exact ⟨a, rfl, .inl rfl⟩
  | 1, _ => exact ⟨b, rfl, .inr (.inl rfl)⟩
  | 2, _ => exact ⟨c, rfl, .inr (.inr (.inl rfl))⟩
  | 3, _ => exact ⟨e, rfl, .inr (.inr (.inr rfl))⟩
theorem dfP_same {l : List Int} {a b g r : Nat} (a1 : 1 ≤ a) (b1 : 1 ≤ b) (ga : g ∣ a) (gb : g ∣ b) : dfP (restL (cf l) l.length a) (restL (cf l) l.length b) g r = false := by
  unfold dfP
  rw [restL_len, restL_len, Rs_fold a1 ga, Rs_fold b1 gb]
  simp
theorem p43_right {b : W} (hb : Bag b) (wide far : Nat) (w1 : 1 ≤ wide) (w2 : wide ≤ 200) (f1 : 9 ≤ far) (f2 : far < 2 ^ 150) : ∃ b', v__law_right [b, .int (wide : Nat), .int (far : Nat)] = .ok (.bl true) b' ∧ Bag b' := by
  suffices ∃ w o, v__law_right [b, .int (wide : Nat), .int (far : Nat)] = .ok w o ∧ w = .bl true ∧ Bag o by
    obtain ⟨w, o, e, rfl, ho⟩ := this
    exact ⟨o, e, ho⟩
  obtain ⟨d1, b1, e1, g1, hb1⟩ := p_draw hb wide
  obtain ⟨d2, b2, e2, g2, hb2⟩ := p_draw hb1 wide
  obtain ⟨d3, b3, e3, g3, hb3⟩ := p_draw hb2 (2 * wide)
  obtain ⟨l, b4, e4, l1, l2, hb4⟩ := p__law_numbers hb3 (1 + d3) far (by omega) f1 (by omega)
  obtain ⟨h, hh⟩ : ∃ h : Nat, h = 1 + d1 := ⟨_, rfl⟩
  obtain ⟨k, hk⟩ : ∃ k : Nat, k = 1 + d2 := ⟨_, rfl⟩
  have hh2 : (1 : Int) + (d1 : Int) = (h : Int) := by omega
  have hk2 : (1 : Int) + (d2 : Int) = (k : Int) := by omega
  have h1 : 1 ≤ h := by omega
  have h2 : h ≤ 200 := by omega
  have k1 : 1 ≤ k := by omega
  have k2 : k ≤ 200 := by omega
  have pdv := p__law_divisor h k
  have s1 := p__law_sums l h (by omega) h1 (by omega)
  have s2 := p__law_sums l k (by omega) k1 (by omega)
  have u1 : 1 ≤ Nat.gcd h k := Nat.gcd_pos_of_pos_left _ h1
  have uh : Nat.gcd h k ∣ h := Nat.gcd_dvd_left h k
  have uk : Nat.gcd h k ∣ k := Nat.gcd_dvd_right h k
  have ul : Nat.gcd h k ≤ h := Nat.le_of_dvd h1 uh
  have fold1 : ∀ q, 1 ≤ q → q ∣ h → v_folded [LI (restL (cf l) l.length h), .int (q : Nat)] = .ok (LI (restL (cf l) l.length q)) .non := fun q q1 qd => by
    have := p_folded (restL (cf l) l.length h) q (by rw [restL_len]; exact h1) (by rw [restL_len]; exact h2) q1 (by rw [restL_len]; exact qd)
    rw [restL_len, restL_fold h1 qd] at this
    exact this
  have sums1 : ∀ q, 1 ≤ q → q ∣ h → v__law_sums [LI (restL (cf l) l.length h), .int (q : Nat)] = .ok (LI (restL (cf l) l.length q)) .non := fun q q1 qd => by
    have := p__law_sums (restL (cf l) l.length h) q (by rw [restL_len]; omega) q1 (by have := Nat.le_of_dvd h1 qd; omega)
    rw [restL_len, restL_fold h1 qd] at this
    exact this
  have sums2 : ∀ q, 1 ≤ q → q ∣ h → v__law_sums [LI l, .int (q : Nat)] = .ok (LI (restL (cf l) l.length q)) .non := fun q q1 qd => p__law_sums l q (by omega) q1 (by have := Nat.le_of_dvd h1 qd; omega)
  have same : ∀ r, dfP (restL (cf l) l.length h) (restL (cf l) l.length k) (Nat.gcd h k) r = false := fun r => dfP_same h1 k1 uh uk
  have A1 : (restL (cf l) l.length h).length = h := restL_len
  have B1 : (restL (cf l) l.length k).length = k := restL_len
  have rl : ∀ q, (restL (cf l) l.length q).length = q := fun q => restL_len
  have al : ∀ q, q ≤ 200 → v__law_alike_5 [LI (restL (cf l) l.length q), LI (restL (cf l) l.length q)] = .ok (.bl true) .non := fun q hq => al_LI_5 _ (by rw [restL_len]; omega)
  have alp := al_pair
  have i12 : semIntC [.int (h : Nat)] = some (.int (h : Nat)) := by simp
  obtain ⟨far2, hf2⟩ : ∃ z : Int, z = -(far : Int) := ⟨_, rfl⟩
  obtain ⟨mr, hmr⟩ : ∃ z : Int, z = 2 * (wide : Int) := ⟨_, rfl⟩
  have e3 : v__law_draw [b2, .int mr] = .ok (.int (d3 : Nat)) b3 := by rw [hmr]; exact e3
  have e4 : v__law_numbers [b3, .int (1 + (d3 : Int)), .int (far : Nat)] = .ok (LI l) b4 := by rw [show (1 + (d3 : Int)) = ((1 + d3 : Nat) : Int) from by omega]; exact e4
  have mw : semMul [.int 2, .int (wide : Nat)] = some (.int mr) := by rw [hmr]; exact semMul_a (mulOk_l (by omega))
  have r2 : itemsR2 [.int 1, .int ((h : Int) + 1)] = some (upFrom 1 h) := by
    rw [itemsR2_a (by omega) (by omega) (by omega) (by omega), show ((h : Int) + 1 - 1).toNat = h from by omega]
  have hls : h ≤ sizeLine := szl
  refine vc_ex ?_
  simp [f__law_right, enter, e1, e2, hh2, hk2, pdv, e3, e4, s1, s2, mw, r2, hls]
  refine wp_res (comp_ixF h _ (by simp) (fun i hi => get_up hi) (fun i => decide (h % (1 + i) = 0)) (fun i => .int ((1 + i : Nat) : Int)) [some b4, some (.int (wide : Nat)), some (.int (far : Nat)), some (.int (h : Nat)), some (.int (k : Nat)), some (.int (Nat.gcd h k : Nat)), some (LI l), some (LI (restL (cf l) l.length h)), some (LI (restL (cf l) l.length k)), none, none, none, none, none, none] (by simp) (fun i hi => ?_)) ?_
  · have hm := mod_nat h (1 + i) (by omega)
    rw [show ((1 + i : Nat) : Int) = 1 + (i : Int) from by omega] at hm ⊢
    have hd : decide (h % (1 + i) = 0) = decide (((h % (1 + i) : Nat) : Int) = 0) := by
      by_cases c : h % (1 + i) = 0
      · rw [decide_eq_true c, decide_eq_true (by omega)]
      · rw [decide_eq_false c, decide_eq_false (by omega)]
    rw [hd]
    generalize ((h % (1 + i) : Nat) : Int) = q at *
    simp [hm]
  have hDm : ∀ i ∈ (List.range h).filter (fun i => decide (h % (1 + i) = 0)), (1 + i) ∣ h ∧ 1 + i ≤ 200 := fun i hi => by
    obtain ⟨q1, q2⟩ := List.mem_filter.mp hi
    exact ⟨Nat.dvd_of_mod_eq_zero (of_decide_eq_true q2), by have := List.mem_range.mp q1; omega⟩
  generalize (List.range h).filter (fun i => decide (h % (1 + i) = 0)) = DD at *
  have hit : itemsL [.lst (DD.map fun i => W.int ((1 + i : Nat) : Int))] = some (DD.map fun i => W.int ((1 + i : Nat) : Int)) := rfl
  generalize hIT : (DD.map fun i => W.int ((1 + i : Nat) : Int)) = IT at *
  simp [hit]
  refine wp_for (fun i : Nat => W.int ((1 + i : Nat) : Int)) DD hIT.symm (fun _ S => S = [some b4, some (.int (wide : Nat)), some (.int (far : Nat)), some (.int (h : Nat)), some (.int (k : Nat)), some (.int (Nat.gcd h k : Nat)), some (LI l), some (LI (restL (cf l) l.length h)), some (LI (restL (cf l) l.length k)), none, none, none, none, none, none]) (by simp) ?_ ?_ (by rintro p S rfl; rfl)
  · rintro p i q hpq S rfl
    obtain ⟨qd, q2⟩ := hDm i (by rw [hpq]; simp)
    have f1 := fold1 (1 + i) (by omega) qd
    have f2 := sums1 (1 + i) (by omega) qd
    have f3 := sums2 (1 + i) (by omega) qd
    have f4 := al (1 + i) q2
    have zl : (restL (cf l) l.length (1 + i)).length < sizeLine := by rw [restL_len]; exact szt
    generalize restL (cf l) l.length (1 + i) = R at *
    generalize hni : ((1 + i : Nat) : Int) = ni at *
    simp [perm, f1, f2, f3, f4, zl]
  · rintro S rfl
    have n1 : fdN (restL (cf l) l.length h) (restL (cf l) l.length k) = none := by
      unfold fdN
      rw [A1, B1]
      exact least_none fun r _ => same r
    have pa := p_agree (restL (cf l) l.length h) (restL (cf l) l.length k) (by omega) (by omega) (by omega) (by omega)
    have pf := p_first_clash (restL (cf l) l.length h) (restL (cf l) l.length k) (by omega) (by omega) (by omega) (by omega)
    rw [n1] at pa pf
    have a0 : v__law_alike_5 [.lst [.bl true, .non], .lst [.bl true, .non]] = .ok (.bl true) .non := alp true none
    have pa : v_agree [LI (restL (cf l) l.length h), LI (restL (cf l) l.length k)] = .ok (.bl true) .non := pa
    have pf : v_first_clash [LI (restL (cf l) l.length h), LI (restL (cf l) l.length k)] = .ok .non .non := pf
    obtain ⟨spot, b5, e5, g5, hb5⟩ := p_draw hb4 k
    obtain ⟨dm, b6, e6, g6, hb6⟩ := p_draw hb5 2
    obtain ⟨x6, more, hm6, hm7⟩ := pick2 g6 1 (-(far : Int))
    have e6 : v__law_draw [b5, .int 2] = .ok (.int (dm : Nat)) b6 := e6
    have m0 : more ≠ 0 := by omega
    obtain ⟨later, b7, e7, g7, hb7⟩ := p_draw hb6 h
    generalize restL (cf l) l.length h = A at *
    generalize restL (cf l) l.length k = B at *
    have xs : ixN B.length (spot : Int) = some spot := ixN_nat (by omega)
    have xl : ixN A.length (later : Int) = some later := ixN_nat (by omega)
    have B2 : (B.set spot (cf B spot + more)).length = k := by rw [List.length_set]; exact B1
    have A2 : (A.set later (cf A later + more)).length = h := by rw [List.length_set]; exact A1
    have n2 : fdN A (B.set spot (cf B spot + more)) = some (spot % Nat.gcd h k) := by
      unfold fdN
      rw [A1, B2]
      refine least_some (fun r hr => ?_) ?_ (Nat.mod_lt _ u1)
      · have := same r
        unfold dfP at this ⊢
        rw [List.length_set, Rs_setO (by omega), if_neg (by omega), Int.add_zero]
        exact this
      · have := same (spot % Nat.gcd h k)
        unfold dfP at this ⊢
        rw [List.length_set, Rs_setO (by omega), if_pos rfl]
        have this : Rs (cf A) A.length (h.gcd k) (spot % Nat.gcd h k) = Rs (cf B) B.length (h.gcd k) (spot % Nat.gcd h k) := by simpa using this
        rw [this]
        simp
        omega
    have pa2 := p_agree A (B.set spot (cf B spot + more)) (by omega) (by omega) (by omega) (by omega)
    have pf2 := p_first_clash A (B.set spot (cf B spot + more)) (by omega) (by omega) (by omega) (by omega)
    rw [n2] at pa2 pf2
    have a2 : v__law_alike_5 [.lst [.bl false, .int ((spot % Nat.gcd h k : Nat) : Int)], .lst [.bl false, .int ((spot % Nat.gcd h k : Nat) : Int)]] = .ok (.bl true) .non := alp false (some (spot % Nat.gcd h k))
    have pa2 : v_agree [LI A, LI (B.set spot (cf B spot + more))] = .ok (.bl false) .non := pa2
    have pf2 : v_first_clash [LI A, LI (B.set spot (cf B spot + more))] = .ok (.int ((spot % Nat.gcd h k : Nat) : Int)) .non := pf2
    have md := mod_nat spot (Nat.gcd h k) u1
    generalize hB' : B.set spot (cf B spot + more) = B' at *
    have pa3 := p_agree (A.set later (cf A later + more)) B' (by omega) (by omega) (by omega) (by omega)
    have pf3 := p_first_clash (A.set later (cf A later + more)) B' (by omega) (by omega) (by omega) (by omega)
    have s3 := p__law_sums (A.set later (cf A later + more)) (Nat.gcd h k) (by omega) u1 (by omega)
    have s4 := p__law_sums B' (Nat.gcd h k) (by omega) u1 (by omega)
    have r1 := itemsR1_n (Nat.gcd h k) (by omega)
    have hn3 : fdN (A.set later (cf A later + more)) B' = least (dfP (A.set later (cf A later + more)) B' (Nat.gcd h k)) (Nat.gcd h k) := by unfold fdN; rw [A2, B2]
    rw [hn3] at pa3 pf3
    have c3 : ∀ r, r < Nat.gcd h k → cf (restL (cf (A.set later (cf A later + more))) (A.set later (cf A later + more)).length (Nat.gcd h k)) r = Rs (cf (A.set later (cf A later + more))) (A.set later (cf A later + more)).length (Nat.gcd h k) r := fun r hr => restL_get hr
    have c4 : ∀ r, r < Nat.gcd h k → cf (restL (cf B') B'.length (Nat.gcd h k)) r = Rs (cf B') B'.length (Nat.gcd h k) r := fun r hr => restL_get hr
    have l3 : (restL (cf (A.set later (cf A later + more))) (A.set later (cf A later + more)).length (Nat.gcd h k)).length = Nat.gcd h k := restL_len
    have l4 : (restL (cf B') B'.length (Nat.gcd h k)).length = Nat.gcd h k := restL_len
    generalize hA' : A.set later (cf A later + more) = A' at *
    have hdf : ∀ r, dfP A' B' (Nat.gcd h k) r = decide (Rs (cf A') A'.length (Nat.gcd h k) r ≠ Rs (cf B') B'.length (Nat.gcd h k) r) := fun r => rfl
    generalize restL (cf A') A'.length (Nat.gcd h k) = SA at *
    generalize restL (cf B') B'.length (Nat.gcd h k) = SB at *
    generalize Rs (cf A') A'.length (Nat.gcd h k) = fA at *
    generalize Rs (cf B') B'.length (Nat.gcd h k) = fB at *
    have hgl : Nat.gcd h k ≤ sizeLine := szl
    have hh0 := least_head (dfP A' B' (Nat.gcd h k)) (Nat.gcd h k)
    generalize hu : Nat.gcd h k = u at *
    generalize spot % u = sp at *
    simp [pa, pf, a0, semLst, W.pure.all, W.pure, e5, x6, hm6, e6, xs, hB', perm, pa2, pf2, md, a2, e7, xl, hA', r1, hgl]
    refine wp_res (comp_ixF u _ (by simp) (fun i hi => get_up0 hi) (dfP A' B' u) (fun i => .int (i : Nat)) [some b7, some (.int (wide : Nat)), some (.int (far : Nat)), some (.int (h : Nat)), some (.int (k : Nat)), some (.int (u : Nat)), some (LI l), some (LI A'), some (LI B'), none, none, some (.int (spot : Nat)), some (.int more), some (.int (later : Nat)), none] (by simp) (fun i hi => ?_)) ?_
    · have x3 : ixN SA.length (i : Int) = some i := ixN_nat (by omega)
      have x4 : ixN SB.length (i : Int) = some i := ixN_nat (by omega)
      have y3 := c3 i hi
      have y4 := c4 i hi
      rw [hdf i]
      generalize fA i = x at *
      generalize fB i = y at *
      simp [s3, s4, x3, x4, y3, y4]
    · have hbad : W.lst (((List.range u).filter (dfP A' B' u)).map fun i => W.int (i : Nat)) = LI (((List.range u).filter (dfP A' B' u)).map fun i => ((i : Nat) : Int)) := by rw [LI_d, List.map_map]; rfl
      rw [hbad]
      generalize (List.range u).filter (dfP A' B' u) = F at *
      have q1 : ∀ ns : List Int, semEq false [LI ns, .lst []] = some (.bl (decide (ns = []))) := fun ns => by
        have := eqLI (a := ns) (b := []) (neg := false)
        simpa using this
      have q2 : ∀ ns : List Int, semEq true [LI ns, .lst []] = some (.bl (!decide (ns = []))) := fun ns => by
        have := eqLI (a := ns) (b := []) (neg := true)
        simpa using this
      cases F with
      | nil =>
        have hh0 : least (dfP A' B' u) u = none := hh0.symm
        rw [hh0] at pa3 pf3
        have pa3 : v_agree [LI A', LI B'] = .ok (.bl true) .non := pa3
        have pf3 : v_first_clash [LI A', LI B'] = .ok .non .non := pf3
        have z1 : semEq false [.lst [], .lst []] = some (.bl true) := q1 []
        have z2 : semEq true [.lst [], .lst []] = some (.bl false) := q2 []
        simp [pa3, pf3, z1, z2, a0, semLst, W.pure.all, W.pure]
        exact hb7
      | cons x F =>
        have hh0 : least (dfP A' B' u) u = some x := hh0.symm
        rw [hh0] at pa3 pf3
        have pa3 : v_agree [LI A', LI B'] = .ok (.bl false) .non := pa3
        have pf3 : v_first_clash [LI A', LI B'] = .ok (.int (x : Nat)) .non := pf3
        have a3 : v__law_alike_5 [.lst [.bl false, .int (x : Nat)], .lst [.bl false, .int (x : Nat)]] = .ok (.bl true) .non := alp false (some x)
        have z1 := q1 (((x :: F).map fun i => ((i : Nat) : Int)))
        have z2 := q2 (((x :: F).map fun i => ((i : Nat) : Int)))
        have z3 : cf ((x :: F).map fun i => ((i : Nat) : Int)) 0 = (x : Int) := rfl
        have z4 : ((x :: F).map fun i => ((i : Nat) : Int)) ≠ [] := by simp
        have z5 : ixN ((x :: F).map fun i => ((i : Nat) : Int)).length 0 = some 0 := ixN_nat (k := 0) (by simp)
        rw [decide_eq_false z4] at z1 z2
        generalize ((x :: F).map fun i => ((i : Nat) : Int)) = bd at *
        simp [pa3, pf3, z1, z2, z3, z5, a3, semLst, W.pure.all, W.pure]
        exact hb7
theorem law_true : ∀ ns : List Int, ns.length ≤ 63 → ∃ io, v_law [.scr (ns.map W.int)] = .ok (.bl true) io := by
  intro ns hl
  refine ⟨.non, vc_eq ?_⟩
  obtain ⟨b, e0, hb⟩ := p_bag ns hl
  generalize hsc : W.scr (ns.map W.int) = sc at *
  have r1 : itemsR1 [.int 8] = some (upFrom 0 8) := itemsR1_n 8 (by decide)
  have c27 : semPow [.int 10, .int 27] = some (.int (10 ^ 27)) := by rw [semPow_a (by decide +kernel)]; rfl
  simp only [f_law, enter]
  simp [e0, r1]
  refine wp_ix 8 _ (by simp) (fun i hi => get_up0 hi) (fun i S => ∃ b, S = [some sc, some b, none] ∧ Bag b) ⟨b, by simp, hb⟩ ?_ ?_
  · rintro i hi S ⟨b, rfl, hb⟩
    obtain ⟨d1, b1, e1, g1, hb1⟩ := p_draw hb 4
    obtain ⟨x1, s, hs, hs2⟩ := pick4 g1 12 12 60 200
    obtain ⟨d2, b2, e2, g2, hb2⟩ := p_draw hb1 2
    obtain ⟨x2, f, hf, hf2⟩ := pick2 g2 9 (10 ^ 27)
    have e1 : v__law_draw [b, .int 4] = .ok (.int (d1 : Nat)) b1 := e1
    have e2 : v__law_draw [b1, .int 2] = .ok (.int (d2 : Nat)) b2 := e2
    obtain ⟨b3, e3, hb3⟩ := p43_right hb2 s.toNat f.toNat (by omega) (by omega) (by omega) (by omega)
    rw [Int.toNat_of_nonneg (by omega), Int.toNat_of_nonneg (by omega)] at e3
    generalize (10 : Int) ^ 27 = far at *
    simp [c27, e1, x1, hs, e2, x2, hf, e3, semLst, W.pure.all, W.pure]
    exact hb3
  · rintro S ⟨b, rfl, hb⟩
    have q1 := p_first_clash [4, 6] [3, 4, 4] (by decide) (by decide) (by decide) (by decide)
    have q2 := p_folded [1, 2, 3, 4, 5, 6] 3 (by decide) (by decide) (by decide) (by decide)
    have n1 : fdN [4, 6] [3, 4, 4] = some 0 := by decide +kernel
    have n2 : restL (cf [1, 2, 3, 4, 5, 6]) 6 3 = [5, 7, 9] := by decide +kernel
    rw [n1] at q1
    have q2 : v_folded [.lst [.int 1, .int 2, .int 3, .int 4, .int 5, .int 6], .int 3] = .ok (LI (restL (cf [1, 2, 3, 4, 5, 6]) 6 3)) .non := q2
    rw [n2] at q2
    have q1 : v_first_clash [.lst [.int 4, .int 6], .lst [.int 3, .int 4, .int 4]] = .ok (.int 0) .non := q1
    have q2 : v_folded [.lst [.int 1, .int 2, .int 3, .int 4, .int 5, .int 6], .int 3] = .ok (.lst [.int 5, .int 7, .int 9]) .non := q2
    have ha : v__law_alike_5 [.lst [.int 0, .lst [.int 5, .int 7, .int 9]], .lst [.int 0, .lst [.int 5, .int 7, .int 9]]] = .ok (.bl true) .non := al_lst_5 _ (by simp) fun w hw => by
      rcases List.mem_cons.mp hw with rfl | hw
      · exact al_int_4 0
      · rw [List.mem_singleton.mp hw]; exact al_LI_4 [5, 7, 9] (by simp)
    simp [semLst, W.pure.all, W.pure, anyW, q1, q2, ha]
theorem all_mk {l : PySem.W.OpenLaw} {w : World} {K : Kz} {h : Heap} {mg : Str → Option Value} {fa f0 f1 f2 f3 f4 f5 f6 f7 f8 f9 f10 f11 f12 f13 f14 f15 f16 f17 : Addr} (X : K.In h) (G : h.Ns mainGlobals mg) (hfa : mg "law" = some (.ref fa))
    {od0 an0 od1 an1 od2 an2 od3 an3 od4 an4 od5 an5 od6 an6 od7 an7 od8 an8 od9 an9 od10 an10 od11 an11 od12 an12 od13 an13 od14 an14 od15 an15 od16 an16 od17 an17 : Option Addr} {sl0 sl1 sl2 sl3 sl4 sl5 sl6 sl7 sl8 sl9 sl10 sl11 sl12 sl13 sl14 sl15 sl16 sl17 : Array (Option Value)} {oc0 kV0 dc0 pm0 cd0 ct0 oc1 kV1 dc1 pm1 cd1 ct1 oc2 kV2 dc2 pm2 cd2 ct2 oc3 kV3 dc3 pm3 cd3 ct3 oc4 kV4 dc4 pm4 cd4 ct4 oc5 kV5 dc5 pm5 cd5 ct5 oc6 kV6 dc6 pm6 cd6 ct6 oc7 kV7 dc7 pm7 cd7 ct7 oc8 kV8 dc8 pm8 cd8 ct8 oc9 kV9 dc9 pm9 cd9 ct9 oc10 kV10 dc10 pm10 cd10 ct10 oc11 kV11 dc11 pm11 cd11 ct11 oc12 kV12 dc12 pm12 cd12 ct12 oc13 kV13 dc13 pm13 cd13 ct13 oc14 kV14 dc14 pm14 cd14 ct14 oc15 kV15 dc15 pm15 cd15 ct15 oc16 kV16 dc16 pm16 cd16 ct16 oc17 kV17 dc17 pm17 cd17 ct17 : Value} {t0 : Tok}
    (a0 : PySem.W.nsIn K mainGlobals "_law_bag" = some (some (.ref f0))) (l0 : K.lookup f0 = some ⟨oc0, od0, .func (PySem.W.fnOf "_law_bag" "_law_bag" (defArgs s__law_bag) (defBody s__law_bag) (defScope s__law_bag) .none kV0 dc0 pm0 an0 cd0 ct0), sl0⟩) (c0 : PySem.W.codeIn K cd0 "_law_bag" = true) (k0 : PySem.W.keepIn K (.ref f0) = true)
    (a1 : PySem.W.nsIn K mainGlobals "_law_stirred" = some (some (.ref f1))) (l1 : K.lookup f1 = some ⟨oc1, od1, .func (PySem.W.fnOf "_law_stirred" "_law_stirred" (defArgs s__law_stirred) (defBody s__law_stirred) (defScope s__law_stirred) .none kV1 dc1 pm1 an1 cd1 ct1), sl1⟩) (c1 : PySem.W.codeIn K cd1 "_law_stirred" = true) (k1 : PySem.W.keepIn K (.ref f1) = true)
    (a2 : PySem.W.nsIn K mainGlobals "_law_draw" = some (some (.ref f2))) (l2 : K.lookup f2 = some ⟨oc2, od2, .func (PySem.W.fnOf "_law_draw" "_law_draw" (defArgs s__law_draw) (defBody s__law_draw) (defScope s__law_draw) .none kV2 dc2 pm2 an2 cd2 ct2), sl2⟩) (c2 : PySem.W.codeIn K cd2 "_law_draw" = true) (k2 : PySem.W.keepIn K (.ref f2) = true)
    (a3 : PySem.W.nsIn K mainGlobals "_law_divisor" = some (some (.ref f3))) (l3 : K.lookup f3 = some ⟨oc3, od3, .func (PySem.W.fnOf "_law_divisor" "_law_divisor" (defArgs s__law_divisor) (defBody s__law_divisor) (defScope s__law_divisor) .none kV3 dc3 pm3 an3 cd3 ct3), sl3⟩) (c3 : PySem.W.codeIn K cd3 "_law_divisor" = true) (k3 : PySem.W.keepIn K (.ref f3) = true)
    (a4 : PySem.W.nsIn K mainGlobals "_law_numbers" = some (some (.ref f4))) (l4 : K.lookup f4 = some ⟨oc4, od4, .func (PySem.W.fnOf "_law_numbers" "_law_numbers" (defArgs s__law_numbers) (defBody s__law_numbers) (defScope s__law_numbers) .none kV4 dc4 pm4 an4 cd4 ct4), sl4⟩) (c4 : PySem.W.codeIn K cd4 "_law_numbers" = true) (k4 : PySem.W.keepIn K (.ref f4) = true)
    (a5 : PySem.W.nsIn K mainGlobals "_law_sums" = some (some (.ref f5))) (l5 : K.lookup f5 = some ⟨oc5, od5, .func (PySem.W.fnOf "_law_sums" "_law_sums" (defArgs s__law_sums) (defBody s__law_sums) (defScope s__law_sums) .none kV5 dc5 pm5 an5 cd5 ct5), sl5⟩) (c5 : PySem.W.codeIn K cd5 "_law_sums" = true) (k5 : PySem.W.keepIn K (.ref f5) = true)
    (a6 : PySem.W.nsIn K mainGlobals "is_integer" = some (some (.ref f6))) (l6 : K.lookup f6 = some ⟨oc6, od6, .func (PySem.W.fnOf "is_integer" "is_integer" (defArgs s_is_integer) (defBody s_is_integer) (defScope s_is_integer) .none kV6 dc6 pm6 an6 cd6 ct6), sl6⟩) (c6 : PySem.W.codeIn K cd6 "is_integer" = true) (k6 : PySem.W.keepIn K (.ref f6) = true)
    (a7 : PySem.W.nsIn K mainGlobals "are_integers" = some (some (.ref f7))) (l7 : K.lookup f7 = some ⟨oc7, od7, .func (PySem.W.fnOf "are_integers" "are_integers" (defArgs s_are_integers) (defBody s_are_integers) (defScope s_are_integers) .none kV7 dc7 pm7 an7 cd7 ct7), sl7⟩) (c7 : PySem.W.codeIn K cd7 "are_integers" = true) (k7 : PySem.W.keepIn K (.ref f7) = true)
    (a8 : PySem.W.nsIn K mainGlobals "need_sums" = some (some (.ref f8))) (l8 : K.lookup f8 = some ⟨oc8, od8, .func (PySem.W.fnOf "need_sums" "need_sums" (defArgs s_need_sums) (defBody s_need_sums) (defScope s_need_sums) .none kV8 dc8 pm8 an8 cd8 ct8), sl8⟩) (c8 : PySem.W.codeIn K cd8 "need_sums" = true) (k8 : PySem.W.keepIn K (.ref f8) = true)
    (a9 : PySem.W.nsIn K mainGlobals "sums_at" = some (some (.ref f9))) (l9 : K.lookup f9 = some ⟨oc9, od9, .func (PySem.W.fnOf "sums_at" "sums_at" (defArgs s_sums_at) (defBody s_sums_at) (defScope s_sums_at) .none kV9 dc9 pm9 an9 cd9 ct9), sl9⟩) (c9 : PySem.W.codeIn K cd9 "sums_at" = true) (k9 : PySem.W.keepIn K (.ref f9) = true)
    (a10 : PySem.W.nsIn K mainGlobals "folded" = some (some (.ref f10))) (l10 : K.lookup f10 = some ⟨oc10, od10, .func (PySem.W.fnOf "folded" "folded" (defArgs s_folded) (defBody s_folded) (defScope s_folded) .none kV10 dc10 pm10 an10 cd10 ct10), sl10⟩) (c10 : PySem.W.codeIn K cd10 "folded" = true) (k10 : PySem.W.keepIn K (.ref f10) = true)
    (a11 : PySem.W.nsIn K mainGlobals "_law_alike" = some (some (.ref f11))) (l11 : K.lookup f11 = some ⟨oc11, od11, .func (PySem.W.fnOf "_law_alike" "_law_alike" (defArgs s__law_alike) (defBody s__law_alike) (defScope s__law_alike) .none kV11 dc11 pm11 an11 cd11 ct11), sl11⟩) (c11 : PySem.W.codeIn K cd11 "_law_alike" = true) (k11 : PySem.W.keepIn K (.ref f11) = true)
    (a12 : PySem.W.nsIn K mainGlobals "common_divisor" = some (some (.ref f12))) (l12 : K.lookup f12 = some ⟨oc12, od12, .func (PySem.W.fnOf "common_divisor" "common_divisor" (defArgs s_common_divisor) (defBody s_common_divisor) (defScope s_common_divisor) .none kV12 dc12 pm12 an12 cd12 ct12), sl12⟩) (c12 : PySem.W.codeIn K cd12 "common_divisor" = true) (k12 : PySem.W.keepIn K (.ref f12) = true)
    (a13 : PySem.W.nsIn K mainGlobals "first_difference" = some (some (.ref f13))) (l13 : K.lookup f13 = some ⟨oc13, od13, .func (PySem.W.fnOf "first_difference" "first_difference" (defArgs s_first_difference) (defBody s_first_difference) (defScope s_first_difference) .none kV13 dc13 pm13 an13 cd13 ct13), sl13⟩) (c13 : PySem.W.codeIn K cd13 "first_difference" = true) (k13 : PySem.W.keepIn K (.ref f13) = true)
    (a14 : PySem.W.nsIn K mainGlobals "agree" = some (some (.ref f14))) (l14 : K.lookup f14 = some ⟨oc14, od14, .func (PySem.W.fnOf "agree" "agree" (defArgs s_agree) (defBody s_agree) (defScope s_agree) .none kV14 dc14 pm14 an14 cd14 ct14), sl14⟩) (c14 : PySem.W.codeIn K cd14 "agree" = true) (k14 : PySem.W.keepIn K (.ref f14) = true)
    (a15 : PySem.W.nsIn K mainGlobals "first_clash" = some (some (.ref f15))) (l15 : K.lookup f15 = some ⟨oc15, od15, .func (PySem.W.fnOf "first_clash" "first_clash" (defArgs s_first_clash) (defBody s_first_clash) (defScope s_first_clash) .none kV15 dc15 pm15 an15 cd15 ct15), sl15⟩) (c15 : PySem.W.codeIn K cd15 "first_clash" = true) (k15 : PySem.W.keepIn K (.ref f15) = true)
    (a16 : PySem.W.nsIn K mainGlobals "_law_right" = some (some (.ref f16))) (l16 : K.lookup f16 = some ⟨oc16, od16, .func (PySem.W.fnOf "_law_right" "_law_right" (defArgs s__law_right) (defBody s__law_right) (defScope s__law_right) .none kV16 dc16 pm16 an16 cd16 ct16), sl16⟩) (c16 : PySem.W.codeIn K cd16 "_law_right" = true) (k16 : PySem.W.keepIn K (.ref f16) = true)
    (a17 : PySem.W.nsIn K mainGlobals "law" = some (some (.ref f17))) (l17 : K.lookup f17 = some ⟨oc17, od17, .func (PySem.W.fnOf "law" "law" (defArgs s_law) (defBody s_law) (defScope s_law) .none kV17 dc17 pm17 an17 cd17 ct17), sl17⟩) (c17 : PySem.W.codeIn K cd17 "law" = true) (k17 : PySem.W.keepIn K (.ref f17) = true)
    (z0 : PySem.W.nsIn K mainGlobals "int" = some none)
    (z1 : PySem.W.nsIn K mainGlobals "abs" = some none)
    (z2 : PySem.W.nsIn K mainGlobals "range" = some none)
    (z3 : PySem.W.nsIn K mainGlobals "len" = some none)
    (z4 : PySem.W.nsIn K mainGlobals "isinstance" = some none)
    (z5 : PySem.W.nsIn K mainGlobals "list" = some none)
    (z6 : PySem.W.nsIn K mainGlobals "all" = some none)
    (z7 : PySem.W.nsIn K mainGlobals "bool" = some none)
    (z8 : PySem.W.nsIn K mainGlobals "sum" = some none)
    (z9 : PySem.W.nsIn K mainGlobals "tuple" = some none)
    (z10 : PySem.W.nsIn K mainGlobals "str" = some none)
    (z11 : PySem.W.nsIn K mainGlobals "enumerate" = some none)
    (z12 : PySem.W.nsIn K mainGlobals "zip" = some none)
    (y0 : PySem.W.nsIn K mainGlobals "MOST_SUMS" = some (some (.int 200 t0)))
    : ∃ fd : FuncData, (∀ (s : Shared) (v : Value), BindsTo s fd ⟨[v], []⟩ [("script", v)]) ∧ ∀ base : Heap, K.In base → base.Ns mainGlobals mg → FnG false l.prog w K mg base 8 fa fd ["script"] (specOf K (xrK K) none true 1 v_law) := by
  have e := hfa.symm.trans (PySem.W.mg_of X G a17)
  cases e
  refine ⟨PySem.W.fnOf "law" "law" (defArgs s_law) (defBody s_law) (defScope s_law) .none kV17 dc17 pm17 an17 cd17 ct17, fun s v => .of_eq rfl, fun base _ _ => ?_⟩
  have T : Txt (⟨l.prog, w, K, mg, base⟩ : Wd) := ⟨⟨⟨_, _, fun_mk (st := s__law_bag) l0 c0 k0, PySem.W.mg_of X G a0⟩⟩, ⟨⟨_, _, fun_mk (st := s__law_stirred) l1 c1 k1, PySem.W.mg_of X G a1⟩⟩, ⟨⟨_, _, fun_mk (st := s__law_draw) l2 c2 k2, PySem.W.mg_of X G a2⟩⟩, ⟨⟨_, _, fun_mk (st := s__law_divisor) l3 c3 k3, PySem.W.mg_of X G a3⟩⟩, ⟨⟨_, _, fun_mk (st := s__law_numbers) l4 c4 k4, PySem.W.mg_of X G a4⟩⟩, ⟨⟨_, _, fun_mk (st := s__law_sums) l5 c5 k5, PySem.W.mg_of X G a5⟩⟩, ⟨⟨_, _, fun_mk (st := s_is_integer) l6 c6 k6, PySem.W.mg_of X G a6⟩⟩, ⟨⟨_, _, fun_mk (st := s_are_integers) l7 c7 k7, PySem.W.mg_of X G a7⟩⟩, ⟨⟨_, _, fun_mk (st := s_need_sums) l8 c8 k8, PySem.W.mg_of X G a8⟩⟩, ⟨⟨_, _, fun_mk (st := s_sums_at) l9 c9 k9, PySem.W.mg_of X G a9⟩⟩, ⟨⟨_, _, fun_mk (st := s_folded) l10 c10 k10, PySem.W.mg_of X G a10⟩⟩, ⟨⟨_, _, fun_mk (st := s__law_alike) l11 c11 k11, PySem.W.mg_of X G a11⟩⟩, ⟨⟨_, _, fun_mk (st := s_common_divisor) l12 c12 k12, PySem.W.mg_of X G a12⟩⟩, ⟨⟨_, _, fun_mk (st := s_first_difference) l13 c13 k13, PySem.W.mg_of X G a13⟩⟩, ⟨⟨_, _, fun_mk (st := s_agree) l14 c14 k14, PySem.W.mg_of X G a14⟩⟩, ⟨⟨_, _, fun_mk (st := s_first_clash) l15 c15 k15, PySem.W.mg_of X G a15⟩⟩, ⟨⟨_, _, fun_mk (st := s__law_right) l16 c16 k16, PySem.W.mg_of X G a16⟩⟩, ⟨⟨_, _, fun_mk (st := s_law) l17 c17 k17, PySem.W.mg_of X G a17⟩⟩, PySem.W.mg_none_of X G z0, PySem.W.mg_none_of X G z1, PySem.W.mg_none_of X G z2, PySem.W.mg_none_of X G z3, PySem.W.mg_none_of X G z4, PySem.W.mg_none_of X G z5, PySem.W.mg_none_of X G z6, PySem.W.mg_none_of X G z7, PySem.W.mg_none_of X G z8, PySem.W.mg_none_of X G z9, PySem.W.mg_none_of X G z10, PySem.W.mg_none_of X G z11, PySem.W.mg_none_of X G z12, ⟨_, PySem.W.mg_of X G y0⟩⟩
  obtain ⟨f, fd, F, hm, _, H⟩ := (ok_law T).ex
  have hm : mg "law" = some (.ref f) := hm
  rw [hfa] at hm
  cases hm
  obtain ⟨_, _, _, _, _, _, _, _, _, efd, lk, _⟩ := F.ex
  rw [l17] at lk
  cases lk
  exact H
theorem walk {l : PySem.W.OpenLaw} {q : Program} {loose : List Str} {XP : (Str → Option Value) → Heap → Prop} {YP : World → Heap → Prop} {d : DefRec} {K : Params → Kz} (hn : l.most = some 63) (hdf : d.params.defaults = []) (hY : ∀ (w : World) (h : Heap), YP w h → (K w.params).In h)
    (F : ∀ (w : World) (mg : Str → Option Value) (fa : Addr) (h : Heap), (K w.params).In h → h.Ns mainGlobals mg → mg d.name = some (.ref fa) → ∃ fd : FuncData, (∀ (s : Shared) (u : Value), BindsTo s fd ⟨[u], []⟩ [("script", u)]) ∧ ∀ base : Heap, (K w.params).In base → base.Ns mainGlobals mg → FnG false l.prog w (K w.params) mg base 8 fa fd ["script"] (specOf (K w.params) (xrK (K w.params)) none true 1 v_law)) :
    PySem.W.WalkO q loose XP YP l.row.toRowW d [] (fun f vs => PySem.call f vs) := walk_vm (n := 63) (k := 8) (x := "script") (own := true) (vc := v_law) hn (by decide) hdf ⟨rfl, by decide, by decide⟩ hY F law_true
end Vm
open PySem PySem.W PyProof.Rows
set_option maxRecDepth 100000 in
set_option maxHeartbeats 0 in
theorem PySem.Challenge.cw_frameseams_k43_sums_folded_holds : PySem.Challenge.rw_frameseams_k43_sums_folded.Holds := by
  w_on; o_law; k_head; (case hw => w_witness2)
  k_fill
  refine Vm.walk (l := PySem.Challenge.rw_frameseams_k43_sums_folded) rfl rfl (fun w h Y => PySem.W.kIn_of Y) ?F
  case F =>
    intro w mg fa h KX G hmg
    refine' Vm.all_mk KX G hmg ?a0 ?l0 ?c0 ?k0 ?a1 ?l1 ?c1 ?k1 ?a2 ?l2 ?c2 ?k2 ?a3 ?l3 ?c3 ?k3 ?a4 ?l4 ?c4 ?k4 ?a5 ?l5 ?c5 ?k5 ?a6 ?l6 ?c6 ?k6 ?a7 ?l7 ?c7 ?k7 ?a8 ?l8 ?c8 ?k8 ?a9 ?l9 ?c9 ?k9 ?a10 ?l10 ?c10 ?k10 ?a11 ?l11 ?c11 ?k11 ?a12 ?l12 ?c12 ?k12 ?a13 ?l13 ?c13 ?k13 ?a14 ?l14 ?c14 ?k14 ?a15 ?l15 ?c15 ?k15 ?a16 ?l16 ?c16 ?k16 ?a17 ?l17 ?c17 ?k17 ?z0 ?z1 ?z2 ?z3 ?z4 ?z5 ?z6 ?z7 ?z8 ?z9 ?z10 ?z11 ?z12 ?y0
    (case a0 => k_is); (case l0 => k_is); (case c0 => k_is); (case k0 => k_is); (case a1 => k_is); (case l1 => k_is)
    (case c1 => k_is); (case k1 => k_is); (case a2 => k_is); (case l2 => k_is); (case c2 => k_is); (case k2 => k_is)
    (case a3 => k_is); (case l3 => k_is); (case c3 => k_is); (case k3 => k_is); (case a4 => k_is); (case l4 => k_is)
    (case c4 => k_is); (case k4 => k_is); (case a5 => k_is); (case l5 => k_is); (case c5 => k_is); (case k5 => k_is)
    (case a6 => k_is); (case l6 => k_is); (case c6 => k_is); (case k6 => k_is); (case a7 => k_is); (case l7 => k_is)
    (case c7 => k_is); (case k7 => k_is); (case a8 => k_is); (case l8 => k_is); (case c8 => k_is); (case k8 => k_is)
    (case a9 => k_is); (case l9 => k_is); (case c9 => k_is); (case k9 => k_is); (case a10 => k_is); (case l10 => k_is)
    (case c10 => k_is); (case k10 => k_is); (case a11 => k_is); (case l11 => k_is); (case c11 => k_is); (case k11 => k_is)
    (case a12 => k_is); (case l12 => k_is); (case c12 => k_is); (case k12 => k_is); (case a13 => k_is); (case l13 => k_is)
    (case c13 => k_is); (case k13 => k_is); (case a14 => k_is); (case l14 => k_is); (case c14 => k_is); (case k14 => k_is)
    (case a15 => k_is); (case l15 => k_is); (case c15 => k_is); (case k15 => k_is); (case a16 => k_is); (case l16 => k_is)
    (case c16 => k_is); (case k16 => k_is); (case a17 => k_is); (case l17 => k_is); (case c17 => k_is); (case k17 => k_is)
    (case z0 => k_is); (case z1 => k_is); (case z2 => k_is); (case z3 => k_is); (case z4 => k_is); (case z5 => k_is)
    (case z6 => k_is); (case z7 => k_is); (case z8 => k_is); (case z9 => k_is); (case z10 => k_is); (case z11 => k_is)
    (case z12 => k_is); (case y0 => k_is)
#print axioms PySem.Challenge.cw_frameseams_k43_sums_folded_holds

