import PyProof.Rows.All
import Wide.All
import OpenK.AllK
import Wide.FinOn
import HandS.ForMost
import HandS.Exc
import HandS.IsInst
import HandS.Conv
import HandS.TupAny
import HandS.WideBits
import HandS.Wide
import HandS.SortInts
import HandS.More
import HandS.Deep
import HandS.Style
import HandS.TupLe
import HandS.HeadWalk
import HandS.ExcOwn
import HandS.NoneIn
import HandS.Defaults
import HandS.HeadHook1
import HandS.HeadHook2
import HandS.Rev
import HandS.RevTup
import HandS.Zip
import HandS.Iter
import HandS.Ends
import HandS.HeadEnd
import HandS.HeadHook4
import HandS.Head0
import HandS.Head1
import HandS.Head2
import HandS.Text
import HandS.TupMul
import PyProof.StrOps2
import HandS.Words
import HandS.WordsExc
import PySem.Challenge.RW_nolitter_k54_plans_as_texts
set_option Elab.async false
set_option linter.all false
section
set_option maxRecDepth 100000
namespace Ev
open PySem L2

/-- data as trees: o tells whether a container is owned (may be changed) or shared -/
inductive D where
  | non | bl (b : Bool) | int (i : Int) | str (x : Str)
  | tup (xs : List D)
  | lst (o : Bool) (xs : List D)
  | dic (o : Bool) (ks : List Key) (xs : List D)
  | ins (o : Bool) (C : Str) (fs : List Str) (xs : List D)
  | fn (f : Str)
  | ty (n : String)
  | scr (xs : List Int)

mutual
def frz : D → D
  | .tup xs => .tup (frzs xs)
  | .lst _ xs => .lst false (frzs xs)
  | .dic _ ks xs => .dic false ks (frzs xs)
  | .ins _ C fs xs => .ins false C fs (frzs xs)
  | .non => .non
  | .bl b => .bl b
  | .int i => .int i
  | .str x => .str x
  | .fn f => .fn f
  | .ty f => .ty f
  | .scr xs => .scr xs
def frzs : List D → List D
  | [] => []
  | d :: r => frz d :: frzs r
end
mutual
def isF : D → Bool
  | .tup xs => isFs xs
  | .lst o xs => !o && isFs xs
  | .dic o ks xs => !o && isFs xs
  | .ins o C fs xs => !o && isFs xs
  | .non => true
  | .bl _ => true
  | .int _ => true
  | .str _ => true
  | .fn _ => true
  | .ty _ => true
  | .scr _ => true
def isFs : List D → Bool
  | [] => true
  | d :: r => isF d && isFs r
end

section
variable (K : PySem.W.Frag) (mg : Str → Option Value)
mutual
/-- the value v stands for the tree d: what is owned stands in H at the cells c, in the tree's order; what is shared stands in F -/
def Rp (H F : Hp) : D → V → List Addr → Prop
  | .non, v, c => v = .non ∧ c = []
  | .bl b, v, c => v = .bl b ∧ c = []
  | .int i, v, c => v = .int i ∧ c = []
  | .str x, v, c => v = .str x ∧ c = []
  | .fn f, v, c => (∃ a, v = .ref a ∧ mg f = some (.ref a)) ∧ c = []
  | .ty n, v, c => v = .ty n ∧ c = []
  | .scr xs, v, c => ∃ a, v = .ref a ∧ SqL K F a (xs.map V.int) ∧ c = []
  | .tup xs, v, c => ∃ a vs, v = .ref a ∧ SqT K F a vs ∧ Rps H F xs vs c
  | .lst true xs, v, c => ∃ a vs c', v = .ref a ∧ H a = some (.lst vs) ∧ Rps H F xs vs c' ∧ c = a :: c'
  | .lst false xs, v, c => ∃ a vs, v = .ref a ∧ Rd F a (.lst vs) ∧ Rps H F xs vs c
  | .dic true ks xs, v, c => ∃ a vs c', v = .ref a ∧ ks.length = xs.length ∧ ks.Nodup ∧ H a = some (.dK (ks.zip vs)) ∧ Rps H F xs vs c' ∧ c = a :: c'
  | .dic false ks xs, v, c => ∃ a vs, v = .ref a ∧ ks.length = xs.length ∧ ks.Nodup ∧ F a = some (.dK (ks.zip vs)) ∧ Rps H F xs vs c
  | .ins true C fs xs, v, c => ∃ a A dx vs c', v = .ref a ∧ mg C = some (.ref A) ∧ fs.length = xs.length ∧ H a = some (.ins A dx (fs.zip vs)) ∧ Rps H F xs vs c' ∧ c = a :: c'
  | .ins false C fs xs, v, c => ∃ a A dx vs, v = .ref a ∧ mg C = some (.ref A) ∧ fs.length = xs.length ∧ F a = some (.ins A dx (fs.zip vs)) ∧ Rps H F xs vs c
def Rps (H F : Hp) : List D → List V → List Addr → Prop
  | [], vs, c => vs = [] ∧ c = []
  | d :: r, vs, c => ∃ v w c1 c2, vs = v :: w ∧ c = c1 ++ c2 ∧ Rp H F d v c1 ∧ Rps H F r w c2
end
/-- the slots' trees: cs the cells slot by slot -/
def SR (H F : Hp) : List (Option D) → St → List Addr → Prop
  | [], σ, c => σ = [] ∧ c = []
  | none :: t, σ, c => ∃ v w, σ = v :: w ∧ SR H F t w c
  | some d :: t, σ, c => ∃ v w c1 c2, σ = some v :: w ∧ c.Perm (c1 ++ c2) ∧ Rp K mg H F d v c1 ∧ SR H F t w c2
end
def Le (F F' : Hp) : Prop := ∀ a o, F a = some o → F' a = some o
theorem Le.refl (F : Hp) : Le F F := fun _ _ h => h
theorem Le.trans {F G I : Hp} (h : Le F G) (k : Le G I) : Le F I := fun a o e => k a o (h a o e)
/-- the shared part lies in the heap; the cells are unlike, tracked, and not shared -/
structure Good (H F : Hp) (c : List Addr) : Prop where
  sub : Le F H
  nd : c.Nodup
  own : ∀ a ∈ c, F a = none ∧ ∃ o, H a = some o

section
variable {K : PySem.W.Frag} {mg : Str → Option Value} {H F H' F' : Hp}
theorem Good.sublist {c c' : List Addr} (g : Good H F c) (s : c'.Sublist c) : Good H F c' := ⟨g.sub, s.nodup g.nd, fun a h => g.own a (s.subset h)⟩
theorem Good.perm {c c' : List Addr} (g : Good H F c) (s : c'.Perm c) : Good H F c' := ⟨g.sub, s.nodup_iff.mpr g.nd, fun a h => g.own a (s.subset h)⟩
theorem Good.nil (h : Le F H) : Good H F [] := ⟨h, List.nodup_nil, fun _ h => by simp at h⟩
theorem Good.fresh {c : List Addr} (g : Good H F c) {p : Addr} (h : H p = none) : F p = none ∧ p ∉ c := by
  refine ⟨?_, fun hp => ?_⟩
  · cases e : F p with
    | none => rfl
    | some o => rw [g.sub p o e] at h; cases h
  · obtain ⟨_, o, e⟩ := g.own p hp
    rw [e] at h; cases h
theorem Le.rd {a : Addr} {u : HO} (l : Le F F') (h : Rd F a u) : Rd F' a u := by
  rcases h with h | ⟨o, h⟩
  · exact .inl (l a _ h)
  · exact .inr ⟨o, l a _ h⟩
theorem Le.sqL {a : Addr} {xs : List V} (l : Le F F') (h : SqL K F a xs) : SqL K F' a xs := by
  rcases h with h | h
  · exact .inl (l.rd h)
  · exact .inr h
theorem Le.sqT {a : Addr} {xs : List V} (l : Le F F') (h : SqT K F a xs) : SqT K F' a xs := by
  rcases h with h | h
  · exact .inl (l.rd h)
  · exact .inr h
mutual
theorem Rp.keep (l : Le F F') : ∀ (d : D) (v : V) (c : List Addr), Rp K mg H F d v c → (∀ a ∈ c, H' a = H a) → Rp K mg H' F' d v c
  | .non, v, c, h, _ => by simpa only [Rp] using h
  | .bl _, v, c, h, _ => by simpa only [Rp] using h
  | .int _, v, c, h, _ => by simpa only [Rp] using h
  | .str _, v, c, h, _ => by simpa only [Rp] using h
  | .fn _, v, c, h, _ => by simpa only [Rp] using h
  | .ty _, v, c, h, _ => by simpa only [Rp] using h
  | .scr xs, v, c, h, _ => by
    simp only [Rp] at h ⊢
    obtain ⟨a, e, q, r⟩ := h
    exact ⟨a, e, l.sqL q, r⟩
  | .tup xs, v, c, h, k => by
    simp only [Rp] at h ⊢
    obtain ⟨a, vs, e, q, r⟩ := h
    exact ⟨a, vs, e, l.sqT q, Rps.keep l xs vs c r k⟩
  | .lst true xs, v, c, h, k => by
    simp only [Rp] at h ⊢
    obtain ⟨a, vs, c', e, q, r, rfl⟩ := h
    exact ⟨a, vs, c', e, (k a (by simp)).trans q, Rps.keep l xs vs c' r fun b hb => k b (by simp [hb]), rfl⟩
  | .lst false xs, v, c, h, k => by
    simp only [Rp] at h ⊢
    obtain ⟨a, vs, e, q, r⟩ := h
    exact ⟨a, vs, e, l.rd q, Rps.keep l xs vs c r k⟩
  | .dic true ks xs, v, c, h, k => by
    simp only [Rp] at h ⊢
    obtain ⟨a, vs, c', e, n1, n2, q, r, rfl⟩ := h
    exact ⟨a, vs, c', e, n1, n2, (k a (by simp)).trans q, Rps.keep l xs vs c' r fun b hb => k b (by simp [hb]), rfl⟩
  | .dic false ks xs, v, c, h, k => by
    simp only [Rp] at h ⊢
    obtain ⟨a, vs, e, n1, n2, q, r⟩ := h
    exact ⟨a, vs, e, n1, n2, l _ _ q, Rps.keep l xs vs c r k⟩
  | .ins true C fs xs, v, c, h, k => by
    simp only [Rp] at h ⊢
    obtain ⟨a, A, dx, vs, c', e, n1, n2, q, r, rfl⟩ := h
    exact ⟨a, A, dx, vs, c', e, n1, n2, (k a (by simp)).trans q, Rps.keep l xs vs c' r fun b hb => k b (by simp [hb]), rfl⟩
  | .ins false C fs xs, v, c, h, k => by
    simp only [Rp] at h ⊢
    obtain ⟨a, A, dx, vs, e, n1, n2, q, r⟩ := h
    exact ⟨a, A, dx, vs, e, n1, n2, l _ _ q, Rps.keep l xs vs c r k⟩
theorem Rps.keep (l : Le F F') : ∀ (ds : List D) (vs : List V) (c : List Addr), Rps K mg H F ds vs c → (∀ a ∈ c, H' a = H a) → Rps K mg H' F' ds vs c
  | [], vs, c, h, _ => by simpa only [Rps] using h
  | d :: r, vs, c, h, k => by
    simp only [Rps] at h ⊢
    obtain ⟨v, w, c1, c2, e, rfl, h1, h2⟩ := h
    exact ⟨v, w, c1, c2, e, rfl, Rp.keep l d v c1 h1 fun a ha => k a (by simp [ha]), Rps.keep l r w c2 h2 fun a ha => k a (by simp [ha])⟩
end
mutual
theorem Rp.nocell : ∀ (d : D) (v : V) (c : List Addr), Rp K mg H F d v c → isF d = true → c = []
  | .non, v, c, h, _ => by simp only [Rp] at h; exact h.2
  | .bl _, v, c, h, _ => by simp only [Rp] at h; exact h.2
  | .int _, v, c, h, _ => by simp only [Rp] at h; exact h.2
  | .str _, v, c, h, _ => by simp only [Rp] at h; exact h.2
  | .fn _, v, c, h, _ => by simp only [Rp] at h; exact h.2
  | .ty _, v, c, h, _ => by simp only [Rp] at h; exact h.2
  | .scr _, v, c, h, _ => by simp only [Rp] at h; obtain ⟨_, _, _, h⟩ := h; exact h
  | .tup xs, v, c, h, k => by
    simp only [Rp] at h
    obtain ⟨a, vs, e, q, r⟩ := h
    exact Rps.nocell xs vs c r (by simpa only [isF] using k)
  | .lst true xs, v, c, h, k => by simp [isF] at k
  | .lst false xs, v, c, h, k => by
    simp only [Rp] at h
    obtain ⟨a, vs, e, q, r⟩ := h
    exact Rps.nocell xs vs c r (by simpa [isF] using k)
  | .dic true ks xs, v, c, h, k => by simp [isF] at k
  | .dic false ks xs, v, c, h, k => by
    simp only [Rp] at h
    obtain ⟨a, vs, e, n1, n2, q, r⟩ := h
    exact Rps.nocell xs vs c r (by simpa [isF] using k)
  | .ins true C fs xs, v, c, h, k => by simp [isF] at k
  | .ins false C fs xs, v, c, h, k => by
    simp only [Rp] at h
    obtain ⟨a, A, dx, vs, e, n1, n2, q, r⟩ := h
    exact Rps.nocell xs vs c r (by simpa [isF] using k)
theorem Rps.nocell : ∀ (ds : List D) (vs : List V) (c : List Addr), Rps K mg H F ds vs c → isFs ds = true → c = []
  | [], vs, c, h, _ => by simp only [Rps] at h; exact h.2
  | d :: r, vs, c, h, k => by
    simp only [Rps] at h
    obtain ⟨v, w, c1, c2, e, rfl, h1, h2⟩ := h
    obtain ⟨k1, k2⟩ := Bool.and_eq_true_iff.mp (show (isF d && isFs r) = true by simpa only [isFs] using k)
    rw [Rp.nocell d v c1 h1 k1, Rps.nocell r w c2 h2 k2]; rfl
end
mutual
theorem frz_isF : ∀ (d : D), isF d = true → frz d = d
  | .non, _ => rfl
  | .bl _, _ => rfl
  | .int _, _ => rfl
  | .str _, _ => rfl
  | .fn _, _ => rfl
  | .ty _, _ => rfl
  | .scr _, _ => rfl
  | .tup xs, k => by simp only [frz]; rw [frzs_isF xs (by simpa only [isF] using k)]
  | .lst o xs, k => by
    simp [isF] at k
    simp only [frz]; rw [frzs_isF xs k.2, k.1]
  | .dic o ks xs, k => by
    simp [isF] at k
    simp only [frz]; rw [frzs_isF xs k.2, k.1]
  | .ins o C fs xs, k => by
    simp [isF] at k
    simp only [frz]; rw [frzs_isF xs k.2, k.1]
theorem frzs_isF : ∀ (ds : List D), isFs ds = true → frzs ds = ds
  | [], _ => rfl
  | d :: r, k => by
    obtain ⟨k1, k2⟩ := Bool.and_eq_true_iff.mp (show (isF d && isFs r) = true by simpa only [isFs] using k)
    simp only [frzs]; rw [frz_isF d k1, frzs_isF r k2]
end
mutual
theorem isF_frz : ∀ (d : D), isF (frz d) = true
  | .non => rfl
  | .bl _ => rfl
  | .int _ => rfl
  | .str _ => rfl
  | .fn _ => rfl
  | .ty _ => rfl
  | .scr _ => rfl
  | .tup xs => by simp only [frz, isF]; exact isFs_frzs xs
  | .lst o xs => by simp only [frz, isF]; rw [isFs_frzs xs]; rfl
  | .dic o ks xs => by simp only [frz, isF]; rw [isFs_frzs xs]; rfl
  | .ins o C fs xs => by simp only [frz, isF]; rw [isFs_frzs xs]; rfl
theorem isFs_frzs : ∀ (ds : List D), isFs (frzs ds) = true
  | [] => rfl
  | d :: r => by simp only [frzs, isFs]; rw [isF_frz d, isFs_frzs r]; rfl
end
theorem frzs_len : ∀ ds : List D, (frzs ds).length = ds.length
  | [] => rfl
  | d :: r => by simp only [frzs, List.length_cons, frzs_len r]
/-- the cells c of H become shared -/
def join (F H : Hp) (c : List Addr) : Hp := fun a => if a ∈ c then H a else F a
theorem join_in {c : List Addr} {a : Addr} (h : a ∈ c) : join F H c a = H a := if_pos h
theorem join_out {c : List Addr} {a : Addr} (h : a ∉ c) : join F H c a = F a := if_neg h
theorem join_le {c : List Addr} (h : ∀ a ∈ c, F a = none) : Le F (join F H c) := fun a o e => by
  by_cases k : a ∈ c
  · rw [h a k] at e; cases e
  · rw [join_out k]; exact e
theorem join_sub {c : List Addr} (h : Le F H) : Le (join F H c) H := fun a o e => by
  by_cases k : a ∈ c
  · rw [join_in k] at e; exact e
  · rw [join_out k] at e; exact h a o e
theorem Good.join {c c' : List Addr} (g : Good H F (c ++ c')) : Good H (join F H c) c' := by
  have nd := List.nodup_append.mp g.nd
  refine ⟨join_sub g.sub, nd.2.1, fun a h => ⟨?_, (g.own a (by simp [h])).2⟩⟩
  rw [join_out (fun k => nd.2.2 a k a h rfl)]
  exact (g.own a (by simp [h])).1
theorem Good.le_join {c c' : List Addr} (g : Good H F (c ++ c')) : Le F (Ev.join F H c) := join_le fun a h => (g.own a (by simp [h])).1
mutual
theorem Rp.frz {G : Hp} (l : Le F G) : ∀ (d : D) (v : V) (c : List Addr), Rp K mg H F d v c → (∀ a ∈ c, G a = H a) → Rp K mg H G (frz d) v []
  | .non, v, c, h, _ => by simp only [Ev.frz, Rp] at h ⊢; exact ⟨h.1, trivial⟩
  | .bl _, v, c, h, _ => by simp only [Ev.frz, Rp] at h ⊢; exact ⟨h.1, trivial⟩
  | .int _, v, c, h, _ => by simp only [Ev.frz, Rp] at h ⊢; exact ⟨h.1, trivial⟩
  | .str _, v, c, h, _ => by simp only [Ev.frz, Rp] at h ⊢; exact ⟨h.1, trivial⟩
  | .fn _, v, c, h, _ => by simp only [Ev.frz, Rp] at h ⊢; exact ⟨h.1, trivial⟩
  | .ty _, v, c, h, _ => by simp only [Ev.frz, Rp] at h ⊢; exact ⟨h.1, trivial⟩
  | .scr xs, v, c, h, _ => by
    simp only [Ev.frz, Rp] at h ⊢
    obtain ⟨a, e, q, r⟩ := h
    exact ⟨a, e, l.sqL q, trivial⟩
  | .tup xs, v, c, h, k => by
    simp only [Ev.frz, Rp] at h ⊢
    obtain ⟨a, vs, e, q, r⟩ := h
    exact ⟨a, vs, e, l.sqT q, Rps.frz l xs vs c r k⟩
  | .lst true xs, v, c, h, k => by
    simp only [Ev.frz, Rp] at h ⊢
    obtain ⟨a, vs, c', e, q, r, rfl⟩ := h
    exact ⟨a, vs, e, Rd.of ((k a (by simp)).trans q), Rps.frz l xs vs c' r fun b hb => k b (by simp [hb])⟩
  | .lst false xs, v, c, h, k => by
    simp only [Ev.frz, Rp] at h ⊢
    obtain ⟨a, vs, e, q, r⟩ := h
    exact ⟨a, vs, e, l.rd q, Rps.frz l xs vs c r k⟩
  | .dic true ks xs, v, c, h, k => by
    simp only [Ev.frz, Rp] at h ⊢
    obtain ⟨a, vs, c', e, n1, n2, q, r, rfl⟩ := h
    exact ⟨a, vs, e, by rw [frzs_len]; exact n1, n2, (k a (by simp)).trans q, Rps.frz l xs vs c' r fun b hb => k b (by simp [hb])⟩
  | .dic false ks xs, v, c, h, k => by
    simp only [Ev.frz, Rp] at h ⊢
    obtain ⟨a, vs, e, n1, n2, q, r⟩ := h
    exact ⟨a, vs, e, by rw [frzs_len]; exact n1, n2, l _ _ q, Rps.frz l xs vs c r k⟩
  | .ins true C fs xs, v, c, h, k => by
    simp only [Ev.frz, Rp] at h ⊢
    obtain ⟨a, A, dx, vs, c', e, n1, n2, q, r, rfl⟩ := h
    exact ⟨a, A, dx, vs, e, n1, by rw [frzs_len]; exact n2, (k a (by simp)).trans q, Rps.frz l xs vs c' r fun b hb => k b (by simp [hb])⟩
  | .ins false C fs xs, v, c, h, k => by
    simp only [Ev.frz, Rp] at h ⊢
    obtain ⟨a, A, dx, vs, e, n1, n2, q, r⟩ := h
    exact ⟨a, A, dx, vs, e, n1, by rw [frzs_len]; exact n2, l _ _ q, Rps.frz l xs vs c r k⟩
theorem Rps.frz {G : Hp} (l : Le F G) : ∀ (ds : List D) (vs : List V) (c : List Addr), Rps K mg H F ds vs c → (∀ a ∈ c, G a = H a) → Rps K mg H G (frzs ds) vs []
  | [], vs, c, h, _ => by simp only [Ev.frzs, Rps] at h ⊢; exact ⟨h.1, trivial⟩
  | d :: r, vs, c, h, k => by
    simp only [Ev.frzs, Rps] at h ⊢
    obtain ⟨v, w, c1, c2, e, rfl, h1, h2⟩ := h
    exact ⟨v, w, [], [], e, rfl, Rp.frz l d v c1 h1 fun a ha => k a (by simp [ha]), Rps.frz l r w c2 h2 fun a ha => k a (by simp [ha])⟩
end
end
end Ev
end
section
set_option maxRecDepth 100000
namespace Ev
open PySem PySem.Spec L2

/-! ### slots -/
abbrev Tr := List (Option D)
section
variable {K : PySem.W.Frag} {mg : Str → Option Value} {H F H' F' : Hp}
theorem SR.perm : ∀ {t : Tr} {σ : St} {c c' : List Addr}, SR K mg H F t σ c → c'.Perm c → SR K mg H F t σ c'
  | [], σ, c, c', h, p => by
    simp only [SR] at h ⊢
    obtain ⟨h1, h2⟩ := h
    subst h2
    exact ⟨h1, p.eq_nil⟩
  | none :: t, σ, c, c', h, p => by
    simp only [SR] at h ⊢
    obtain ⟨v, w, e, h⟩ := h
    exact ⟨v, w, e, h.perm p⟩
  | some d :: t, σ, c, c', h, p => by
    simp only [SR] at h ⊢
    obtain ⟨v, w, c1, c2, e, q, h⟩ := h
    exact ⟨v, w, c1, c2, e, p.trans q, h⟩
theorem SR.len : ∀ {t : Tr} {σ : St} {c : List Addr}, SR K mg H F t σ c → t.length = σ.length
  | [], σ, c, h => by simp only [SR] at h; rw [h.1]; rfl
  | none :: t, σ, c, h => by
    simp only [SR] at h
    obtain ⟨v, w, e, h⟩ := h
    rw [e, List.length_cons, List.length_cons, h.len]
  | some d :: t, σ, c, h => by
    simp only [SR] at h
    obtain ⟨v, w, c1, c2, e, q, _, h⟩ := h
    rw [e, List.length_cons, List.length_cons, h.len]
theorem SR.keep (l : Le F F') : ∀ {t : Tr} {σ : St} {c : List Addr}, SR K mg H F t σ c → (∀ a ∈ c, H' a = H a) → SR K mg H' F' t σ c
  | [], σ, c, h, _ => by simpa only [SR] using h
  | none :: t, σ, c, h, k => by
    simp only [SR] at h ⊢
    obtain ⟨v, w, e, h⟩ := h
    exact ⟨v, w, e, h.keep l k⟩
  | some d :: t, σ, c, h, k => by
    simp only [SR] at h ⊢
    obtain ⟨v, w, c1, c2, e, q, h1, h2⟩ := h
    have k' : ∀ a ∈ c1 ++ c2, H' a = H a := fun a ha => k a (q.symm.subset ha)
    exact ⟨v, w, c1, c2, e, q, Rp.keep l d v c1 h1 fun a ha => k' a (by simp [ha]), h2.keep l fun a ha => k' a (by simp [ha])⟩
/-- a slot's tree taken out -/
theorem SR.take : ∀ {t : Tr} {σ : St} {c : List Addr} {i : Nat} {d : D}, SR K mg H F t σ c → t[i]? = some (some d) →
    ∃ v c1 c2, σ[i]? = some (some v) ∧ Rp K mg H F d v c1 ∧ SR K mg H F (t.set i none) σ c2 ∧ c.Perm (c1 ++ c2)
  | [], σ, c, i, d, h, e => by simp at e
  | none :: t, σ, c, 0, d, h, e => by simp at e
  | some d0 :: t, σ, c, 0, d, h, e => by
    simp only [SR] at h
    obtain ⟨v, w, c1, c2, es, q, h1, h2⟩ := h
    simp at e
    subst e
    refine ⟨v, c1, c2, by rw [es]; rfl, h1, ?_, q⟩
    show SR K mg H F (none :: t) σ c2
    simp only [SR]
    exact ⟨_, w, es, h2⟩
  | none :: t, σ, c, i + 1, d, h, e => by
    simp only [SR] at h
    obtain ⟨v, w, es, h⟩ := h
    obtain ⟨v', c1, c2, e1, r, s, p⟩ := h.take (i := i) (d := d) (by simpa using e)
    refine ⟨v', c1, c2, by rw [es]; simpa using e1, r, ?_, p⟩
    show SR K mg H F (none :: t.set i none) σ c2
    simp only [SR]
    exact ⟨_, w, es, s⟩
  | some d0 :: t, σ, c, i + 1, d, h, e => by
    simp only [SR] at h
    obtain ⟨v, w, c1, c2, es, q, h1, h⟩ := h
    obtain ⟨v', c3, c4, e1, r, s, p⟩ := h.take (i := i) (d := d) (by simpa using e)
    refine ⟨v', c3, c1 ++ c4, by rw [es]; simpa using e1, r, ?_, ?_⟩
    · show SR K mg H F (some d0 :: t.set i none) σ (c1 ++ c4)
      simp only [SR]
      exact ⟨v, w, c1, c4, es, List.Perm.refl _, h1, s⟩
    · refine q.trans ((p.append_left c1).trans ?_)
      rw [← List.append_assoc, ← List.append_assoc]
      exact List.perm_append_comm.append_right _
/-- .. and put in again -/
theorem SR.put : ∀ {t : Tr} {σ : St} {c c1 : List Addr} {i : Nat} {d : D} {v : V}, SR K mg H F (t.set i none) σ c → i < t.length → σ[i]? = some (some v) → Rp K mg H F d v c1 → SR K mg H F (t.set i (some d)) σ (c1 ++ c)
  | [], σ, c, c1, i, d, v, h, hi, e, r => by simp at hi
  | x :: t, σ, c, c1, 0, d, v, h, hi, e, r => by
    have h : SR K mg H F (none :: t) σ c := h
    simp only [SR] at h
    obtain ⟨v', w, es, h⟩ := h
    rw [es] at e
    simp at e
    subst e
    show SR K mg H F (some d :: t) σ (c1 ++ c)
    simp only [SR]
    exact ⟨v, w, c1, c, es, List.Perm.refl _, r, h⟩
  | none :: t, σ, c, c1, i + 1, d, v, h, hi, e, r => by
    have h : SR K mg H F (none :: t.set i none) σ c := h
    simp only [SR] at h
    obtain ⟨v', w, es, h⟩ := h
    show SR K mg H F (none :: t.set i (some d)) σ (c1 ++ c)
    simp only [SR]
    exact ⟨v', w, es, SR.put h (by simpa using hi) (by rw [es] at e; simpa using e) r⟩
  | some d0 :: t, σ, c, c1, i + 1, d, v, h, hi, e, r => by
    have h : SR K mg H F (some d0 :: t.set i none) σ c := h
    simp only [SR] at h
    obtain ⟨v', w, c2, c3, es, q, r2, h⟩ := h
    show SR K mg H F (some d0 :: t.set i (some d)) σ (c1 ++ c)
    simp only [SR]
    refine ⟨v', w, c2, c1 ++ c3, es, ?_, r2, SR.put h (by simpa using hi) (by rw [es] at e; simpa using e) r⟩
    refine (q.append_left c1).trans ?_
    rw [← List.append_assoc, ← List.append_assoc]
    exact List.perm_append_comm.append_right _
/-- a slot forgotten -/
theorem SR.drop {t : Tr} {σ : St} {c : List Addr} {i : Nat} (h : SR K mg H F t σ c) : ∃ c', SR K mg H F (t.set i none) σ c' ∧ ∃ r, c.Perm (r ++ c') := by
  by_cases hi : i < t.length
  · cases e : t[i]? with
    | none => rw [List.getElem?_eq_none_iff] at e; omega
    | some o =>
      cases o with
      | none =>
        refine ⟨c, ?_, [], List.Perm.refl _⟩
        have : t.set i none = t := by
          obtain ⟨h1, h2⟩ := List.getElem?_eq_some_iff.mp e
          rw [← h2, List.set_getElem_self]
        rw [this]; exact h
      | some d =>
        obtain ⟨v, c1, c2, _, _, s, p⟩ := h.take e
        exact ⟨c2, s, c1, p⟩
  · refine ⟨c, ?_, [], List.Perm.refl _⟩
    rw [List.set_eq_of_length_le (by omega)]; exact h
/-- a value is stored in a slot whose tree is out -/
theorem SR.store : ∀ {t : Tr} {σ : St} {c : List Addr} {i : Nat} {w : Option V}, SR K mg H F (t.set i none) σ c → SR K mg H F (t.set i none) (σ.set i w) c
  | [], σ, c, i, w, h => by
    simp only [List.set_nil, SR] at h ⊢
    rw [h.1]
    exact ⟨rfl, h.2⟩
  | x :: t, σ, c, 0, w, h => by
    have h : SR K mg H F (none :: t) σ c := h
    simp only [SR] at h
    obtain ⟨v', u, es, h⟩ := h
    show SR K mg H F (none :: t) (σ.set 0 w) c
    simp only [SR]
    exact ⟨w, u, by rw [es]; rfl, h⟩
  | none :: t, σ, c, i + 1, w, h => by
    have h : SR K mg H F (none :: t.set i none) σ c := h
    simp only [SR] at h
    obtain ⟨v', u, es, h⟩ := h
    show SR K mg H F (none :: t.set i none) (σ.set (i + 1) w) c
    simp only [SR]
    exact ⟨v', u.set i w, by rw [es]; rfl, SR.store h⟩
  | some d0 :: t, σ, c, i + 1, w, h => by
    have h : SR K mg H F (some d0 :: t.set i none) σ c := h
    simp only [SR] at h
    obtain ⟨v', u, c1, c2, es, q, r, h⟩ := h
    show SR K mg H F (some d0 :: t.set i none) (σ.set (i + 1) w) c
    simp only [SR]
    exact ⟨v', u.set i w, c1, c2, by rw [es]; rfl, q, r, SR.store h⟩
/-- fewer trees are told -/
theorem SR.start {ds : List D} {vs : List V} {c : List Addr} (h : Rps K mg H F ds vs c) (n : Nat) : SR K mg H F (ds.map some ++ List.replicate n none) (vs.map some ++ List.replicate n none) c := by
  have rep : ∀ n : Nat, SR K mg H F (List.replicate n none) (List.replicate n none) [] := by
    intro n
    induction n with
    | zero => simp only [List.replicate, SR]; exact ⟨trivial, trivial⟩
    | succ n ih => simp only [List.replicate, SR]; exact ⟨none, _, rfl, ih⟩
  induction ds generalizing vs c with
  | nil =>
    simp only [Rps] at h
    rw [h.1, h.2]
    simpa using rep n
  | cons d r ih =>
    simp only [Rps] at h
    obtain ⟨v, w, c1, c2, e1, e2, h1, h2⟩ := h
    subst e1 e2
    simp only [List.map_cons, List.cons_append, SR]
    exact ⟨v, _, c1, c2, rfl, List.Perm.refl _, h1, ih h2⟩
end

/-! ### the weakest reading -/
def mx (X : Cx) (e : Expr) : TE := fun σ H Q => ∃ t, PE X e t ∧ t σ H Q
theorem pe_mx {X : Cx} {e : Expr} : PE X e (mx X e) := ⟨fun pins s σ H Q I ⟨t, p, h⟩ => p.run pins s σ H Q I h⟩
def mxT (X : Cx) (e : Expr) : TT := fun σ H Q => ∃ t, PT X e t ∧ t σ H Q
theorem pt_mx {X : Cx} {e : Expr} : PT X e (mxT X e) := ⟨fun pins s σ H Q I ⟨t, p, h⟩ => p.run pins s σ H Q I h⟩
def mxS (X : Cx) (e : Stmt) : TS := fun D σ H => ∃ t, PS X e t ∧ t D σ H
theorem ps_mx {X : Cx} {e : Stmt} : PS X e (mxS X e) := ⟨fun pins s σ H D I ⟨t, p, h⟩ => p.run pins s σ H D I h⟩
def mxSs (X : Cx) (e : List Stmt) : TS := fun D σ H => ∃ t, PSs X e t ∧ t D σ H
theorem pss_mx {X : Cx} {e : List Stmt} : PSs X e (mxSs X e) := ⟨fun pins s σ H D I ⟨t, p, h⟩ => p.run pins s σ H D I h⟩
def mxG (X : Cx) (e : Expr) : TG := fun v σ H Q => ∃ t, PG X e t ∧ t v σ H Q
theorem pg_mx {X : Cx} {e : Expr} : PG X e (mxG X e) := ⟨fun pins s σ H v u Q I r ⟨t, p, h⟩ => p.run pins s σ H v u Q I r h⟩
theorem mx_of {X : Cx} {e : Expr} {t : TE} (p : PE X e t) {σ : St} {H : Hp} {Q : VK} (h : t σ H Q) : mx X e σ H Q := ⟨t, p, h⟩

/-- the operands' values one by one, then the operation -/
def tOps : List TE → (List V → Hp → VK → Prop) → TE
  | [], r => fun _ H Q => r [] H Q
  | t :: ts, r => fun σ H Q => t σ H fun x H1 => tOps ts (fun vs => r (x :: vs)) σ H1 Q
inductive AllPE (X : Cx) : List Expr → List TE → Prop
  | nil : AllPE X [] []
  | cons {e es t ts} : PE X e t → AllPE X es ts → AllPE X (e :: es) (t :: ts)
theorem allPE_mx {X : Cx} : ∀ es : List Expr, AllPE X es (es.map (mx X))
  | [] => .nil
  | _ :: es => .cons pe_mx (allPE_mx es)
def HasOp (X : Cx) (e : Expr) (es : List Expr) (R : List V → Hp → VK → Prop) : Prop := ∀ ts, AllPE X es ts → PE X e (tOps ts R)
def HasOpT (X : Cx) (e : Expr) (es : List Expr) (R : List V → Hp → VK → Prop) : Prop := ∀ ts, AllPE X es ts → PT X e (tB (tOps ts R))
theorem hasT_of {X : Cx} {e : Expr} {es : List Expr} {R : List V → Hp → VK → Prop} (h : HasOp X e es R) (he : ∀ whole, isTrue e X.env whole = (do let v ← whole; standAt e.pos; holding [v] (truthy v))) : HasOpT X e es R :=
  fun ts hts => pt_val (h ts hts) he
theorem mxT_op {X : Cx} {e : Expr} {es : List Expr} {R : List V → Hp → VK → Prop} (h : HasOpT X e es R) {σ : L2.St} {H : Hp} {Q : Bool → Hp → Prop} (k : tOps (es.map (mx X)) R σ H (fun x H1 => ∃ c, x = .bl c ∧ Q c H1)) : mxT X e σ H Q := ⟨_, h _ (allPE_mx es), k⟩
theorem mx_op {X : Cx} {e : Expr} {es : List Expr} {R : List V → Hp → VK → Prop} (h : HasOp X e es R) {σ : St} {H : Hp} {Q : VK} (k : tOps (es.map (mx X)) R σ H Q) : mx X e σ H Q := ⟨_, h _ (allPE_mx es), k⟩

/-! ### plain expressions -/
def plainX : Expr → Bool
  | .Starred .. => false
  | .Slice .. => false
  | .Set .. => false
  | .NamedExpr .. => false
  | .Call (.Name id _) [] [] _ => id != ("super" : Str)
  | _ => true
def noComp : Expr → Bool
  | .ListComp .. => false
  | .SetComp .. => false
  | .DictComp .. => false
  | _ => true
theorem star_cons {e : Expr} {es : List Expr} {env : Env} (h : plainX e = true) : starEach (e :: es) env = (false, eval e env) :: starEach es env := by
  cases e <;> first | rfl | (simp [plainX] at h)
theorem plainIx {e : Expr} (h : plainX e = true) : PlainIx e := by
  intro o i
  cases e <;> first | rfl | (simp [plainX] at h)
theorem noSl {e : Expr} (h : plainX e = true) : NoSl e := by
  intro o i
  cases e <;> first | rfl | (simp [plainX] at h)
theorem marks {e : Expr} {op : CmpOp} (h : plainX e = true) : behindInMarks op e = false := by
  cases e <;> first | rfl | (simp [plainX] at h)
theorem base_of {e : Expr} {f : Str} {env : Env} {w : Sem Value} (h : plainX e = true) : attributeBase e f env w = w := by
  cases e with
  | Call fn as ks pos =>
    cases fn with
    | Name id p =>
      cases as with
      | nil =>
        cases ks with
        | nil =>
          have hid : (id != ("super" : Str)) = true := h
          unfold attributeBase
          simp only [hid, Bool.true_or, if_true]
        | cons k ks => rfl
      | cons a as => rfl
    | _ => rfl
  | _ => rfl
theorem fold_of {e : Expr} {env : Env} {x : Value} (h : plainX e = true) : foldedSetIterable e env x = pure x := by
  cases e <;> first | rfl | (simp [plainX] at h)
theorem swaps_of {e : Expr} {t : Option Expr} {l : Nat} {env : Env} (h : noComp e = true) : swapsWith e t l env = pure false := by
  cases e <;> first | rfl | (simp [noComp] at h)
theorem noStar : ∀ {es : List Expr} {env : Env} {pos : Pos}, es.all plainX = true → (backTo pos (starEach es env)).any (·.1) = false
  | [], _, _, _ => rfl
  | e :: es, env, pos, h => by
    rw [List.all_cons, Bool.and_eq_true] at h
    rw [star_cons h.1]
    show (false || (backTo pos (starEach es env)).any (·.1)) = false
    rw [noStar h.2]; rfl
def tL : List TE → TA
  | [] => tNil
  | t :: ts => tCons t (tL ts)
theorem pa_all {X : Cx} : ∀ {es : List Expr} {ts : List TE}, AllPE X es ts → es.all plainX = true → PA X es (tL ts)
  | [], _, .nil, _ => pa_nil
  | e :: es, _, .cons p r, h => by
    rw [List.all_cons, Bool.and_eq_true] at h
    exact pa_cons p (pa_all r h.2) (star_cons h.1)
theorem tL_ops : ∀ (ts : List TE) (R : List V → Hp → VK → Prop) (σ : L2.St) (H : Hp) (Q : VK), tOps ts R σ H Q = tL ts σ H (fun vs H' => R vs H' Q)
  | [], _, _, _, _ => rfl
  | t :: ts, R, σ, H, Q => congrArg (t σ H) (funext fun x => funext fun H1 => tL_ops ts (fun vs => R (x :: vs)) σ H1 Q)
end Ev
end
section
set_option maxRecDepth 100000
namespace Ev
open PySem PySem.Spec L2

/-! ### what a program of the top gives to the evaluator -/
structure Pg where
  gl : Str → Option D
  att : Str → Str → Bool
  fn : Str → Bool
  mt : Str → Str → Bool
  ck : Str → Bool
  /-- the default of a class's last parameter -/
  dk : Str → Option D
  /-- classes of errors that may be raised, the field of each -/
  xc : Str → Option (Option Str)
  /-- written dicts of the top, texts to texts -/
  dt : Str → Option (List (Str × Str))
/-- a written dict of the top -/
def KTab (K : PySem.W.Frag) (w : World) (a : Addr) (kvs : List (Str × Str)) : Prop :=
  ∃ es n, KDict K w a es n ∧ (∀ z y, kvs.lookup z = some y → ∃ t, PySem.W.nsIn K a z = some (some (.str y t))) ∧ ∀ z, kvs.lookup z = none → PySem.W.nsIn K a z = some none
def bltNames : List Str := ["len", "abs", "int", "str", "max", "min", "sum", "list", "tuple", "sorted", "range", "isinstance", "divmod", "enumerate", "zip", "reversed", "all", "any", "dict", "bool", "set", "repr"]
def isBlt (x : Str) : Bool := bltNames.contains x
/-- what the evaluator leans on in a context -/
structure XOk (P : Pg) (X : Cx) (N : List Str) (sc : Scope) : Prop where
  calm : X.calm = true
  names : X.N = N
  nd : N.Nodup
  scope : X.env.scope = sc
  units : X.A.units + 66 < cLine
  blt : ∀ x, isBlt x = true → X.mg x = none
  glob : ∀ x d, P.gl x = some d → ∃ v u, X.mg x = some u ∧ RelV v u ∧ isF d = true ∧ ∀ H F, Rp X.K X.mg H F d v []
  cls : ∀ C A f, P.att C f = true → X.mg C = some (.ref A) → Cls X.K A ∧ NoAttr X.K A f
  tab : ∀ x kvs, P.dt x = some kvs → ∃ a, X.mg x = some (.ref a) ∧ KTab X.K X.w a kvs
def glB (sc : Scope) (x : Str) : Bool := sc.names.lookup x == some .globalImplicit
theorem XOk.gl {P : Pg} {X : Cx} {N : List Str} {sc : Scope} (ok : XOk P X N sc) {x : Str} (h : glB sc x = true) : Gl X x := by
  show X.env.scope.names.lookup x = _
  rw [ok.scope]; exact beq_iff_eq.mp h

/-! ### the values of operands: each a tree, its cells among c -/
section
variable (K : PySem.W.Frag) (mg : Str → Option Value)
def RpE (H F : Hp) (c : List Addr) : List D → List V → Prop
  | [], vs => vs = []
  | d :: r, vs => ∃ v w cd, vs = v :: w ∧ Rp K mg H F d v cd ∧ (∀ a ∈ cd, a ∈ c) ∧ RpE H F c r w
/-- what is to be shown of an operation's answer -/
def PostN (H F : Hp) (c : List Addr) (d : D) (Q : VK) : Prop :=
  ∀ v H' F' cd, Le F F' → (∀ a ∈ c, H' a = H a) → Good H' F' (cd ++ c) → Rp K mg H' F' d v cd → Q v H'
end
/-- an operation: its answer by trees, where it stands in the text, that it is so -/
structure Opr (P : Pg) where
  f : List D → Option D
  sh : Scope → Expr → Option (List Expr)
  ok : ∀ (X : Cx) (N : List Str) (sc : Scope), XOk P X N sc → ∀ (e : Expr) (es : List Expr), sh sc e = some es → ∀ (ds : List D) (d : D), f ds = some d →
    ∃ R, HasOp X e es R ∧ HasOpT X e es R ∧ ∀ (vs : List V) (H F : Hp) (c : List Addr) (Q : VK), RpE X.K X.mg H F c ds vs → Good H F c → PostN X.K X.mg H F c d Q → R vs H Q
  pl : ∀ (sc : Scope) (e : Expr) (es : List Expr), sh sc e = some es → noComp e = true
  sound : ∀ (X : Cx) (N : List Str) (sc : Scope), XOk P X N sc → ∀ (e : Expr) (es : List Expr), sh sc e = some es → ∃ R, HasOp X e es R ∧ HasOpT X e es R

/-- a method of a built-in type: the receiver first, what must be known of it ahead of the operands -/
def HasM (X : Cx) (e x : Expr) (ys : List Expr) (Mid : V → Hp → Prop) (R : List V → Hp → VK → Prop) : Prop := ∀ t ts, PE X x t → AllPE X ys ts → PE X e (fun σ H Q => t σ H fun v H1 => Mid v H1 ∧ tOps ts (fun vs => R (v :: vs)) σ H1 Q)
structure OprM (P : Pg) where
  f : List D → Option D
  hd : D → Bool
  Mid : PySem.W.Frag → V → Hp → Prop
  sh : Scope → Expr → Option (Expr × List Expr)
  fh : ∀ d r y, f (d :: r) = some y → hd d = true
  mid : ∀ (K : PySem.W.Frag) (mg : Str → Option Value) (d : D), hd d = true → ∀ (x : V) (H F : Hp) (c : List Addr), Rp K mg H F d x c → Le F H → Mid K x H
  ok : ∀ (X : Cx) (N : List Str) (sc : Scope), XOk P X N sc → ∀ (e x : Expr) (ys : List Expr), sh sc e = some (x, ys) → ∀ (ds : List D) (d : D), f ds = some d →
    ∃ R, HasM X e x ys (Mid X.K) R ∧ ∀ (vs : List V) (H F : Hp) (c : List Addr) (Q : VK), RpE X.K X.mg H F c ds vs → Good H F c → PostN X.K X.mg H F c d Q → R vs H Q
  pl : ∀ (sc : Scope) (e x : Expr) (ys : List Expr), sh sc e = some (x, ys) → noComp e = true
  sound : ∀ (X : Cx) (N : List Str) (sc : Scope), XOk P X N sc → ∀ (e x : Expr) (ys : List Expr), sh sc e = some (x, ys) → ∃ R, HasM X e x ys (Mid X.K) R

section
variable {K : PySem.W.Frag} {mg : Str → Option Value} {H F H' F' : Hp} {c : List Addr} {Q : VK}
/-- a new object beside all that stands -/
theorem Good.new {p : Addr} {o : HO} (g : Good H F c) (h : H p = none) : Good (upd H p o) F (p :: c) ∧ ∀ a ∈ c, upd H p o a = H a := by
  obtain ⟨hf, hc⟩ := g.fresh h
  have k : ∀ a ∈ c, upd H p o a = H a := fun a ha => upd_ne fun e => hc (e ▸ ha)
  refine ⟨⟨fun a u e => ?_, List.nodup_cons.mpr ⟨hc, g.nd⟩, fun a ha => ?_⟩, k⟩
  · rw [upd_ne (ne_of_none (g.sub a u e) h)]; exact g.sub a u e
  · rcases List.mem_cons.mp ha with rfl | ha
    · exact ⟨hf, o, upd_same⟩
    · rw [k a ha]; exact g.own a ha
/-- a new object that is shared at once -/
theorem Good.newF {p : Addr} {o : HO} (g : Good H F c) (h : H p = none) : Good (upd H p o) (upd F p o) c ∧ (∀ a ∈ c, upd H p o a = H a) ∧ Le F (upd F p o) := by
  obtain ⟨hf, hc⟩ := g.fresh h
  have k : ∀ a ∈ c, upd H p o a = H a := fun a ha => upd_ne fun e => hc (e ▸ ha)
  refine ⟨⟨fun a u e => ?_, g.nd, fun a ha => ?_⟩, k, fun a u e => ?_⟩
  · by_cases hp : a = p
    · subst hp; rw [upd_same] at e ⊢; exact e
    · rw [upd_ne hp] at e; rw [upd_ne hp]; exact g.sub a u e
  · have hp : a ≠ p := fun e => hc (e ▸ ha)
    rw [k a ha, upd_ne hp]; exact g.own a ha
  · rw [upd_ne (ne_of_none e hf)]; exact e
/-- the end for an answer without cells in the heap as it stands -/
theorem PostN.flat {d : D} {v : V} (h : PostN K mg H F c d Q) (g : Good H F c) (r : Rp K mg H F d v []) : Q v H := h v H F [] (Le.refl F) (fun _ _ => rfl) g r
theorem PostN.int {i : Int} (h : PostN K mg H F c (.int i) Q) (g : Good H F c) : Q (.int i) H := h.flat g (by simp only [Rp]; exact ⟨trivial, trivial⟩)
theorem PostN.bl {b : Bool} (h : PostN K mg H F c (.bl b) Q) (g : Good H F c) : Q (.bl b) H := h.flat g (by simp only [Rp]; exact ⟨trivial, trivial⟩)
theorem PostN.str {b : Str} (h : PostN K mg H F c (.str b) Q) (g : Good H F c) : Q (.str b) H := h.flat g (by simp only [Rp]; exact ⟨trivial, trivial⟩)
theorem PostN.non (h : PostN K mg H F c .non Q) (g : Good H F c) : Q .non H := h.flat g (by simp only [Rp]; exact ⟨trivial, trivial⟩)
/-- .. for a new list of shared items -/
theorem PostN.lst {xs : List D} {vs : List V} {p : Addr} (h : PostN K mg H F c (.lst true xs) Q) (g : Good H F c) (hp : H p = none) (r : Rps K mg H F xs vs []) : Q (.ref p) (upd H p (.lst vs)) := by
  obtain ⟨g', k⟩ := g.new (o := .lst vs) hp
  refine h _ _ F [p] (Le.refl F) k g' ?_
  simp only [Rp]
  exact ⟨p, vs, [], rfl, upd_same, Rps.keep (Le.refl F) xs vs [] r (fun a ha => by simp at ha), rfl⟩
theorem PostN.tup {xs : List D} {vs : List V} {p : Addr} (h : PostN K mg H F c (.tup xs) Q) (g : Good H F c) (hp : H p = none) (r : Rps K mg H F xs vs []) : Q (.ref p) (upd H p (.tup vs)) := by
  obtain ⟨g', k, l⟩ := g.newF (o := .tup vs) hp
  refine h _ _ _ [] l k g' ?_
  simp only [Rp]
  exact ⟨p, vs, rfl, SqT.of upd_same, Rps.keep l xs vs [] r (fun a ha => by simp at ha)⟩
/-- readings -/
theorem RpE.one {d : D} {vs : List V} (h : RpE K mg H F c [d] vs) : ∃ v cd, vs = [v] ∧ Rp K mg H F d v cd ∧ ∀ a ∈ cd, a ∈ c := by
  simp only [RpE] at h
  obtain ⟨v, w, cd, e, r, k, e2⟩ := h
  exact ⟨v, cd, by rw [e, e2], r, k⟩
theorem RpE.two {d d' : D} {vs : List V} (h : RpE K mg H F c [d, d'] vs) : ∃ v v' cd cd', vs = [v, v'] ∧ Rp K mg H F d v cd ∧ (∀ a ∈ cd, a ∈ c) ∧ Rp K mg H F d' v' cd' ∧ ∀ a ∈ cd', a ∈ c := by
  simp only [RpE] at h
  obtain ⟨v, w, cd, e, r, k, v', w', cd', e', r', k', e2⟩ := h
  exact ⟨v, v', cd, cd', by rw [e, e', e2], r, k, r', k'⟩
theorem Rp.intE {i : Int} {v : V} {cd : List Addr} (h : Rp K mg H F (.int i) v cd) : v = .int i := by simp only [Rp] at h; exact h.1
theorem Rp.blE {i : Bool} {v : V} {cd : List Addr} (h : Rp K mg H F (.bl i) v cd) : v = .bl i := by simp only [Rp] at h; exact h.1
theorem Rp.strE {i : Str} {v : V} {cd : List Addr} (h : Rp K mg H F (.str i) v cd) : v = .str i := by simp only [Rp] at h; exact h.1
theorem Rp.nonE {v : V} {cd : List Addr} (h : Rp K mg H F .non v cd) : v = .non := by simp only [Rp] at h; exact h.1
theorem Rp.lstE {o : Bool} {xs : List D} {v : V} {cd : List Addr} (h : Rp K mg H F (.lst o xs) v cd) (l : Le F H) : ∃ a vs cs, v = .ref a ∧ Rd H a (.lst vs) ∧ Rps K mg H F xs vs cs ∧ ∀ b ∈ cs, b ∈ cd := by
  cases o with
  | true =>
    simp only [Rp] at h
    obtain ⟨a, vs, c', e, q, r, rfl⟩ := h
    exact ⟨a, vs, c', e, .of q, r, fun b hb => by simp [hb]⟩
  | false =>
    simp only [Rp] at h
    obtain ⟨a, vs, e, q, r⟩ := h
    exact ⟨a, vs, cd, e, l.rd q, r, fun b hb => hb⟩
theorem Rp.tupE {xs : List D} {v : V} {cd : List Addr} (h : Rp K mg H F (.tup xs) v cd) (l : Le F H) : ∃ a vs, v = .ref a ∧ SqT K H a vs ∧ Rps K mg H F xs vs cd := by
  simp only [Rp] at h
  obtain ⟨a, vs, e, q, r⟩ := h
  exact ⟨a, vs, e, l.sqT q, r⟩
theorem Rps.length : ∀ {xs : List D} {vs : List V} {cd : List Addr}, Rps K mg H F xs vs cd → xs.length = vs.length
  | [], _, _, h => by simp only [Rps] at h; rw [h.1]; rfl
  | d :: r, _, _, h => by
    simp only [Rps] at h
    obtain ⟨v, w, c1, c2, e, _, _, h2⟩ := h
    rw [e, List.length_cons, List.length_cons, Rps.length h2]
theorem Rps.flat {xs : List D} {vs : List V} {cd : List Addr} (h : Rps K mg H F xs vs cd) (f : isFs xs = true) : Rps K mg H F xs vs [] := by
  have e := Rps.nocell xs vs cd h f
  subst e; exact h
theorem Rp.flat {d : D} {v : V} {cd : List Addr} (h : Rp K mg H F d v cd) (f : isF d = true) : Rp K mg H F d v [] := by
  have e := Rp.nocell d v cd h f
  subst e; exact h
theorem Rps.append : ∀ {xs ys : List D} {vs ws : List V} {c1 c2 : List Addr}, Rps K mg H F xs vs c1 → Rps K mg H F ys ws c2 → Rps K mg H F (xs ++ ys) (vs ++ ws) (c1 ++ c2)
  | [], ys, vs, ws, c1, c2, h, k => by
    simp only [Rps] at h
    rw [h.1, h.2]; exact k
  | d :: r, ys, vs, ws, c1, c2, h, k => by
    simp only [Rps] at h
    obtain ⟨v, w, a1, a2, e, e2, h1, h2⟩ := h
    subst e e2
    simp only [List.cons_append, Rps]
    exact ⟨v, _, a1, a2 ++ c2, rfl, by rw [List.append_assoc], h1, Rps.append h2 k⟩
theorem isFs_append : ∀ xs ys : List D, isFs (xs ++ ys) = (isFs xs && isFs ys)
  | [], ys => by simp [isFs]
  | d :: r, ys => by simp only [List.cons_append, isFs, isFs_append r ys, Bool.and_assoc]
theorem isFs_all : ∀ xs : List D, isFs xs = xs.all isF
  | [] => rfl
  | d :: r => by simp only [isFs, List.all_cons, isFs_all r]
theorem Rps.get : ∀ {xs : List D} {vs : List V} {cd : List Addr} {i : Nat} {d : D}, Rps K mg H F xs vs cd → xs[i]? = some d → ∃ v c1, vs[i]? = some v ∧ Rp K mg H F d v c1 ∧ ∀ a ∈ c1, a ∈ cd
  | [], _, _, _, _, _, e => by simp at e
  | x :: r, vs, cd, 0, d, h, e => by
    simp only [Rps] at h
    obtain ⟨v, w, a1, a2, e1, e2, h1, h2⟩ := h
    simp at e; subst e; subst e1 e2
    exact ⟨v, a1, rfl, h1, fun a ha => by simp [ha]⟩
  | x :: r, vs, cd, i + 1, d, h, e => by
    simp only [Rps] at h
    obtain ⟨v, w, a1, a2, e1, e2, h1, h2⟩ := h
    subst e1 e2
    obtain ⟨v', c1, q, rr, k⟩ := h2.get (i := i) (d := d) (by simpa using e)
    exact ⟨v', c1, by simpa using q, rr, fun a ha => by simp [k a ha]⟩
theorem Rps.of_flat : ∀ {xs : List D} {vs : List V}, xs.length = vs.length → (∀ (i : Nat) d v, xs[i]? = some d → vs[i]? = some v → Rp K mg H F d v []) → Rps K mg H F xs vs []
  | [], [], _, _ => by simp only [Rps]; exact ⟨trivial, trivial⟩
  | [], _ :: _, h, _ => by simp at h
  | _ :: _, [], h, _ => by simp at h
  | d :: r, v :: w, h, k => by
    simp only [Rps]
    exact ⟨v, w, [], [], rfl, rfl, k 0 d v rfl rfl, Rps.of_flat (by simpa using h) fun i d' v' e1 e2 => k (i + 1) d' v' (by simpa using e1) (by simpa using e2)⟩
theorem Rps.item {xs : List D} {vs : List V} {i : Nat} {d : D} {v : V} (h : Rps K mg H F xs vs []) (e1 : xs[i]? = some d) (e2 : vs[i]? = some v) : Rp K mg H F d v [] := by
  obtain ⟨v', c1, e, r, k⟩ := h.get e1
  rw [e] at e2; cases e2
  have : c1 = [] := by
    cases c1 with
    | nil => rfl
    | cons a _ => have := k a (by simp); simp at this
  subst this; exact r
end
/-! ### shapes -/
def R1of (r : V → Hp → VK → Prop) : List V → Hp → VK → Prop := fun vs H Q => match vs with
  | [x] => r x H Q
  | _ => False
def R2of (r : R2) : List V → Hp → VK → Prop := fun vs H Q => match vs with
  | [x, y] => r x y H Q
  | _ => False
theorem hasOp1 {X : Cx} {e a : Expr} {r : V → Hp → VK → Prop} (h : ∀ ta, PE X a ta → PE X e (fun σ H Q => ta σ H fun x H1 => r x H1 Q)) : HasOp X e [a] (R1of r) := by
  intro ts hts
  cases hts with
  | cons p1 hts =>
    cases hts
    exact h _ p1
theorem hasOp2 {X : Cx} {e a b : Expr} {r : R2} (h : ∀ ta tb, PE X a ta → PE X b tb → PE X e (tOp r ta tb)) : HasOp X e [a, b] (R2of r) := by
  intro ts hts
  cases hts with
  | cons p1 hts =>
    cases hts with
    | cons p2 hts =>
      cases hts
      exact h _ _ p1 p2
theorem hasOp2T {X : Cx} {e a b : Expr} {r : R2} (h : ∀ ta tb, PE X a ta → PE X b tb → PT X e (tTest (tOp r ta tb))) : HasOpT X e [a, b] (R2of r) := by
  intro ts hts
  cases hts with
  | cons p1 hts =>
    cases hts with
    | cons p2 hts =>
      cases hts
      exact h _ _ p1 p2
theorem hasOpL {X : Cx} {e : Expr} {es : List Expr} {r : List V → Hp → VK → Prop} (h : ∀ t, PA X es t → PE X e (tCB r t)) (hp : es.all plainX = true) : HasOp X e es r := by
  intro ts hts
  have e1 : tOps ts r = tCB r (tL ts) := by
    funext σ H Q
    exact propext (by rw [tL_ops]; exact Iff.rfl)
  rw [e1]
  exact h _ (pa_all hts hp)
section
variable {P : Pg}
/-- what an operation on two trees owes -/
def Two (P : Pg) (mk : Cx → R2 → Prop) (f : D → D → Option D) : Prop :=
  ∀ (X : Cx) (N : List Str) (sc : Scope), XOk P X N sc → ∀ (a b d : D), f a b = some d → ∃ r, mk X r ∧
    ∀ (x y : V) (H F : Hp) (c ca cb : List Addr) (Q : VK), Rp X.K X.mg H F a x ca → (∀ z ∈ ca, z ∈ c) → Rp X.K X.mg H F b y cb → (∀ z ∈ cb, z ∈ c) → Good H F c → PostN X.K X.mg H F c d Q → r x y H Q
def f2 (f : D → D → Option D) : List D → Option D
  | [a, b] => f a b
  | _ => none
theorem f2_some {f : D → D → Option D} {ds : List D} {d : D} (h : f2 f ds = some d) : ∃ a b, ds = [a, b] ∧ f a b = some d := by
  match ds, h with
  | [a, b], h => exact ⟨a, b, rfl, h⟩
def f1 (f : D → Option D) : List D → Option D
  | [a] => f a
  | _ => none
theorem f1_some {f : D → Option D} {ds : List D} {d : D} (h : f1 f ds = some d) : ∃ a, ds = [a] ∧ f a = some d := by
  match ds, h with
  | [a], h => exact ⟨a, rfl, h⟩
theorem two_end {X : Cx} {r : R2} {a b d : D}
    (h : ∀ (x y : V) (H F : Hp) (c ca cb : List Addr) (Q : VK), Rp X.K X.mg H F a x ca → (∀ z ∈ ca, z ∈ c) → Rp X.K X.mg H F b y cb → (∀ z ∈ cb, z ∈ c) → Good H F c → PostN X.K X.mg H F c d Q → r x y H Q)
    (vs : List V) (H F : Hp) (c : List Addr) (Q : VK) (hr : RpE X.K X.mg H F c [a, b] vs) (g : Good H F c) (k : PostN X.K X.mg H F c d Q) : R2of r vs H Q := by
  obtain ⟨x, y, ca, cb, rfl, r1, k1, r2, k2⟩ := hr.two
  exact h x y H F c ca cb Q r1 k1 r2 k2 g k
def shBin (op : Operator) (_ : Scope) : Expr → Option (List Expr)
  | .BinOp a o b _ => if o = op ∧ plainX a = true ∧ plainX b = true then some [a, b] else none
  | _ => none
def opBin (op : Operator) (f : D → D → Option D) (h : Two P (fun X r => OpR X (binaryOp op) r) f) : Opr P where
  f := f2 f
  sh := shBin op
  ok := by
    intro X N sc ok e es he ds d hd
    obtain ⟨a, b, rfl, hf⟩ := f2_some hd
    cases e with
    | BinOp l o r pos =>
      simp only [shBin] at he
      split at he
      · rename_i hc
        obtain ⟨rfl, h1, h2⟩ := hc
        cases he
        obtain ⟨rr, hr, k⟩ := h X N sc ok a b d hf
        exact ⟨R2of rr, hasOp2 fun ta tb p q => pe_op hr p q, hasT_of (hasOp2 fun ta tb p q => pe_op hr p q) (fun _ => rfl), two_end k⟩
      · cases he
    | _ => simp [shBin] at he
  pl := by
    intro sc e es he
    cases e <;> first | rfl | simp [shBin] at he
  sound := by
    intro X N sc ok e es he
    cases e with
    | BinOp l o r pos =>
      simp only [shBin] at he
      split at he
      · rename_i hc
        obtain ⟨rfl, h1, h2⟩ := hc
        cases he
        have hr : OpR X (binaryOp o) (fun _ _ _ _ => False) := fun _ _ _ _ _ _ _ _ _ _ _ _ h => h.elim
        exact ⟨R2of fun _ _ _ _ => False, hasOp2 fun ta tb p q => pe_op hr p q, hasT_of (hasOp2 fun ta tb p q => pe_op hr p q) (fun _ => rfl)⟩
      · cases he
    | _ => simp [shBin] at he
def shCmp (op : CmpOp) (_ : Scope) : Expr → Option (List Expr)
  | .Compare a [o] [b] _ => if o = op ∧ plainX a = true ∧ plainX b = true then some [a, b] else none
  | _ => none
theorem shCmp_some {op : CmpOp} {sc : Scope} {e : Expr} {es : List Expr} (h : shCmp op sc e = some es) : ∃ a b pos, e = .Compare a [op] [b] pos ∧ plainX a = true ∧ plainX b = true ∧ es = [a, b] := by
  unfold shCmp at h
  split at h
  · split at h
    · rename_i hc
      obtain ⟨rfl, h1, h2⟩ := hc
      exact ⟨_, _, _, rfl, h1, h2, (Option.some.inj h).symm⟩
    · cases h
  · cases h
def opCmp (op : CmpOp) (f : D → D → Option D) (h : Two P (fun X r => OpR X (compareOp op) r) f) : Opr P where
  f := f2 f
  sh := shCmp op
  ok := by
    intro X N sc ok e es he ds d hd
    obtain ⟨a, b, rfl, hf⟩ := f2_some hd
    obtain ⟨l, r, pos, rfl, h1, h2, rfl⟩ := shCmp_some he
    obtain ⟨rr, hr, k⟩ := h X N sc ok a b d hf
    exact ⟨R2of rr, hasOp2 fun ta tb p q => pe_cmpR hr p q (marks h2), hasOp2T fun ta tb p q => pt_cmpR hr p q (marks h2), two_end k⟩
  pl := by
    intro sc e es he
    obtain ⟨l, r, pos, rfl, h1, h2, rfl⟩ := shCmp_some he
    rfl
  sound := by
    intro X N sc ok e es he
    obtain ⟨l, r, pos, rfl, h1, h2, rfl⟩ := shCmp_some he
    have hr : OpR X (compareOp op) (fun _ _ _ _ => False) := fun _ _ _ _ _ _ _ _ _ _ _ _ h => h.elim
    exact ⟨R2of fun _ _ _ _ => False, hasOp2 fun ta tb p q => pe_cmpR hr p q (marks h2), hasOp2T fun ta tb p q => pt_cmpR hr p q (marks h2)⟩
def shUn (op : UnaryOp) (_ : Scope) : Expr → Option (List Expr)
  | .UnaryOp o a _ => if o = op ∧ plainX a = true then some [a] else none
  | _ => none
/-- what a call of values owes -/
def Many (P : Pg) (mk : Cx → (List V → Hp → VK → Prop) → Prop) (f : List D → Option D) : Prop :=
  ∀ (X : Cx) (N : List Str) (sc : Scope), XOk P X N sc → ∀ (ds : List D) (d : D), f ds = some d → ∃ r, mk X r ∧
    ∀ (vs : List V) (H F : Hp) (c : List Addr) (Q : VK), RpE X.K X.mg H F c ds vs → Good H F c → PostN X.K X.mg H F c d Q → r vs H Q
def shCall (x : Str) (n : Nat) (sc : Scope) : Expr → Option (List Expr)
  | .Call (.Name y _) as [] _ => if y = x ∧ as.length = n ∧ glB sc x = true ∧ as.all plainX = true ∧ n ≠ 0 then some as else none
  | _ => none
theorem shCall_some {x : Str} {n : Nat} {sc : Scope} {e : Expr} {es : List Expr} (h : shCall x n sc e = some es) : ∃ p pos, e = .Call (.Name x p) es [] pos ∧ es.length = n ∧ glB sc x = true ∧ es.all plainX = true ∧ n ≠ 0 := by
  unfold shCall at h
  split at h
  · split at h
    · rename_i hc
      obtain ⟨rfl, h1⟩ := hc
      cases h
      exact ⟨_, _, rfl, h1⟩
    · cases h
  · cases h
def opB (x : Str) (id : String) (n : Nat) (f : List D → Option D) (hb : isBlt x = true) (hv : bootBuiltins x = some (.builtin id)) (hn : x ≠ "__name__") (hd : (x == ("__debug__" : Str)) = false) (h : Many P (fun X r => CallR X (.builtin id) r) f) : Opr P where
  f := f
  sh := shCall x n
  ok := by
    intro X N sc ok e es he ds d hf
    obtain ⟨p, pos, rfl, hl, h1, h2, h3⟩ := shCall_some he
    obtain ⟨rr, hr, k⟩ := h X N sc ok ds d hf
    have hh : HasOp X (.Call (.Name x p) es [] pos) es rr := by
      refine hasOpL (fun t ht => ?_) h2
      cases es with
      | nil => simp at hl; exact absurd hl.symm h3
      | cons a as =>
        rw [List.all_cons, Bool.and_eq_true] at h2
        exact pe_callB hr (ok.gl h1) (ok.blt _ hb) hv ht hn hd (star_cons h2.1) (noStar h2.2)
    exact ⟨rr, hh, hasT_of hh (fun _ => rfl), k⟩
  pl := by
    intro sc e es he
    obtain ⟨p, pos, rfl, _⟩ := shCall_some he
    rfl
  sound := by
    intro X N sc ok e es he
    obtain ⟨p, pos, rfl, hl, h1, h2, h3⟩ := shCall_some he
    have hr : CallR X (.builtin id) (fun _ _ _ => False) := fun _ _ _ _ _ _ _ _ _ h => h.elim
    have hh : HasOp X (.Call (.Name x p) es [] pos) es (fun _ _ _ => False) := by
      refine hasOpL (fun t ht => ?_) h2
      cases es with
      | nil => simp at hl; exact absurd hl.symm h3
      | cons a as =>
        rw [List.all_cons, Bool.and_eq_true] at h2
        exact pe_callB hr (ok.gl h1) (ok.blt _ hb) hv ht hn hd (star_cons h2.1) (noStar h2.2)
    exact ⟨_, hh, hasT_of hh (fun _ => rfl)⟩
def opTy (x : Str) (T : String) (n : Nat) (f : List D → Option D) (hb : isBlt x = true) (hv : bootBuiltins x = some (.type T)) (hn : x ≠ "__name__") (hd : (x == ("__debug__" : Str)) = false) (h : Many P (fun X r => CallR X (.type T) r) f) : Opr P where
  f := f
  sh := shCall x n
  ok := by
    intro X N sc ok e es he ds d hf
    obtain ⟨p, pos, rfl, hl, h1, h2, h3⟩ := shCall_some he
    obtain ⟨rr, hr, k⟩ := h X N sc ok ds d hf
    have hh : HasOp X (.Call (.Name x p) es [] pos) es rr := by
      refine hasOpL (fun t ht => ?_) h2
      cases es with
      | nil => simp at hl; exact absurd hl.symm h3
      | cons a as =>
        rw [List.all_cons, Bool.and_eq_true] at h2
        exact pe_callTy hr (ok.gl h1) (ok.blt _ hb) hv ht hn hd (star_cons h2.1) (noStar h2.2)
    exact ⟨rr, hh, hasT_of hh (fun _ => rfl), k⟩
  pl := by
    intro sc e es he
    obtain ⟨p, pos, rfl, _⟩ := shCall_some he
    rfl
  sound := by
    intro X N sc ok e es he
    obtain ⟨p, pos, rfl, hl, h1, h2, h3⟩ := shCall_some he
    have hr : CallR X (.type T) (fun _ _ _ => False) := fun _ _ _ _ _ _ _ _ _ h => h.elim
    have hh : HasOp X (.Call (.Name x p) es [] pos) es (fun _ _ _ => False) := by
      refine hasOpL (fun t ht => ?_) h2
      cases es with
      | nil => simp at hl; exact absurd hl.symm h3
      | cons a as =>
        rw [List.all_cons, Bool.and_eq_true] at h2
        exact pe_callTy hr (ok.gl h1) (ok.blt _ hb) hv ht hn hd (star_cons h2.1) (noStar h2.2)
    exact ⟨_, hh, hasT_of hh (fun _ => rfl)⟩
/-! ### arithmetic -/
/-- an operation on two ints under a condition -/
theorem two_int {op : Operator} {g : Int → Int → Int} {C : Int → Int → Prop} (rule : ∀ X : Cx, OpR X (binaryOp op) (rI C fun i j => .int (g i j))) {f : D → D → Option D}
    (hf : ∀ a b d, f a b = some d → ∃ i j, a = .int i ∧ b = .int j ∧ C i j ∧ d = .int (g i j)) : Two P (fun X r => OpR X (binaryOp op) r) f := by
  intro X N sc ok a b d hd
  obtain ⟨i, j, rfl, rfl, hc, rfl⟩ := hf a b d hd
  refine ⟨_, rule X, fun x y H F c ca cb Q ra _ rb _ g k => ?_⟩
  exact ⟨i, j, ra.intE, rb.intE, hc, k.int g⟩
def fI (C : Int → Int → Bool) (g : Int → Int → Int) : D → D → Option D
  | .int i, .int j => if C i j then some (.int (g i j)) else none
  | _, _ => none
theorem fI_some {C : Int → Int → Bool} {g : Int → Int → Int} {a b d : D} (h : fI C g a b = some d) : ∃ i j, a = .int i ∧ b = .int j ∧ C i j = true ∧ d = .int (g i j) := by
  match a, b, h with
  | .int i, .int j, h =>
    simp only [fI] at h
    split at h
    · rename_i hc; cases h; exact ⟨i, j, rfl, rfl, hc, rfl⟩
    · cases h
theorem opR0 {X : Cx} {op : Operator} {g : Int → Int → Int} (h : OpR X (binaryOp op) (rI0 fun i j => .int (g i j))) : OpR X (binaryOp op) (rI (fun _ _ => True) fun i j => .int (g i j)) :=
  fun pins s σ H x y v u Q I rx ry ⟨i, j, e1, e2, _, q⟩ => h pins s σ H x y v u Q I rx ry ⟨i, j, e1, e2, q⟩
def cT : Int → Int → Bool := fun _ _ => true
def opSub : Opr P := opBin .Sub (fI cT (· - ·)) (two_int (C := fun _ _ => True) (fun X => opR0 op_sub) fun a b d h => by
  obtain ⟨i, j, h1, h2, _, h4⟩ := fI_some h; exact ⟨i, j, h1, h2, trivial, h4⟩)
def opXor : Opr P := opBin .BitXor (fI cT Builtin.bitXor) (two_int (C := fun _ _ => True) (fun X => opR0 op_xor) fun a b d h => by
  obtain ⟨i, j, h1, h2, _, h4⟩ := fI_some h; exact ⟨i, j, h1, h2, trivial, h4⟩)
def opAnd : Opr P := opBin .BitAnd (fI cT Builtin.bitAnd) (two_int (C := fun _ _ => True) (fun X => opR0 op_and) fun a b d h => by
  obtain ⟨i, j, h1, h2, _, h4⟩ := fI_some h; exact ⟨i, j, h1, h2, trivial, h4⟩)
def opOr : Opr P := opBin .BitOr (fI cT Builtin.bitOr) (two_int (C := fun _ _ => True) (fun X => opR0 op_or) fun a b d h => by
  obtain ⟨i, j, h1, h2, _, h4⟩ := fI_some h; exact ⟨i, j, h1, h2, trivial, h4⟩)
def cMod : Int → Int → Bool := fun _ j => decide (0 < j)
def opMod : Opr P := opBin .Mod (fI cMod (· % ·)) (two_int (fun X => op_mod) fun a b d h => by
  obtain ⟨i, j, h1, h2, h3, h4⟩ := fI_some h; exact ⟨i, j, h1, h2, of_decide_eq_true h3, h4⟩)
def cDiv : Int → Int → Bool := fun _ j => decide (0 < j) && decide (j < 2 ^ 64)
theorem cDiv_ok {i j : Int} (h : cDiv i j = true) : CDivW i j := by
  simp only [cDiv, Bool.and_eq_true, decide_eq_true_eq] at h
  exact wide_div (b := 64) h.1 (by omega) (by decide) (by decide)
def opDiv : Opr P := opBin .FloorDiv (fI cDiv (· / ·)) (two_int (fun X => op_fdivW) fun a b d h => by
  obtain ⟨i, j, h1, h2, h3, h4⟩ := fI_some h; exact ⟨i, j, h1, h2, cDiv_ok h3, h4⟩)
def cPow : Int → Int → Bool := fun i j => decide (0 ≤ j) && decide (j ≤ 1000000) && decide (i.natAbs < 2 ^ 64)
theorem cPow_ok {i j : Int} (h : cPow i j = true) : CPow i j := by
  simp only [cPow, Bool.and_eq_true, decide_eq_true_eq] at h
  exact ⟨h.1.1, h.1.2, h.2⟩
def opPow : Opr P := opBin .Pow (fI cPow fun i j => i ^ j.toNat) (two_int (fun X => op_pow) fun a b d h => by
  obtain ⟨i, j, h1, h2, h3, h4⟩ := fI_some h; exact ⟨i, j, h1, h2, cPow_ok h3, h4⟩)
def opShl : Opr P := opBin .LShift (fI cPow fun i j => i * 2 ^ j.toNat) (two_int (fun X => op_shl) fun a b d h => by
  obtain ⟨i, j, h1, h2, h3, h4⟩ := fI_some h; exact ⟨i, j, h1, h2, cPow_ok h3, h4⟩)
def cShr : Int → Int → Bool := fun _ j => decide (0 ≤ j)
def opShr : Opr P := opBin .RShift (fI cShr fun i j => i / 2 ^ j.toNat) (two_int (fun X => op_shr) fun a b d h => by
  obtain ⟨i, j, h1, h2, h3, h4⟩ := fI_some h; exact ⟨i, j, h1, h2, of_decide_eq_true h3, h4⟩)
end
end Ev
end
section
set_option maxRecDepth 100000
set_option maxHeartbeats 4000000
namespace Ev
open PySem PySem.Spec L2
variable {P : Pg}

/-! ### list + list, also a locked one -/
theorem lstR {X : Cx} {pins : List (Addr × Obj)} {σ : L2.St} {H : Hp} {s : Shared} {l : Addr} {xs : List V} (I : Inv X pins σ H s) (hH : Rd H l (.lst xs)) : xs.length ≤ sizeLine ∧ ∃ (its : List Value) (n : Nat), Vals xs its ∧ xs.length = its.length ∧ s.heap.get? l = some { cls := .type "list", data := .seq its.toArray n } := by
  obtain ⟨z, its, n, r, e⟩ := hH.ok I.hok
  exact ⟨z, its, n, r, r.length, e⟩
def rCatR : R2 := fun x y H Q => ∃ l b xs zs, x = .ref l ∧ y = .ref b ∧ Rd H l (.lst xs) ∧ Rd H b (.lst zs) ∧ xs.length + zs.length ≤ sizeLine ∧ ∀ p, H p = none → Q (.ref p) (upd H p (.lst (xs ++ zs)))
theorem op_catR {X : Cx} : OpR X (binaryOp .Add) rCatR := by
  intro pins s σ H x y v u Q I rx ry h
  obtain ⟨l, b, xs, zs, rfl, rfl, hH, hB, hz, q⟩ := h
  cases rx
  cases ry
  obtain ⟨z, its, n, r, hl, e⟩ := lstR I hH
  obtain ⟨z2, its2, n2, r2, hl2, e2⟩ := lstR I hB
  refine PySem.P.add_list e e2 ?_ (by rw [List.size_toArray, List.size_toArray]; omega)
  have ea : its.toArray ++ its2.toArray = (its ++ its2).toArray := by simp
  rw [ea]
  exact ⟨.ref _, _, I.lnew (t' := s.toks) (r.append r2) (by rw [List.length_append]; omega), rfl, q _ I.fresh⟩

/-! ### + -/
def addF : D → D → Option D
  | .int i, .int j => some (.int (i + j))
  | .str a, .str b => if a.length + b.length ≤ sizeLine then some (.str (a ++ b)) else none
  | .lst _ xs, .lst _ ys => if isFs xs = true ∧ isFs ys = true ∧ xs.length + ys.length ≤ sizeLine then some (.lst true (xs ++ ys)) else none
  | .tup xs, .tup ys => if isFs xs = true ∧ isFs ys = true ∧ xs.length + ys.length ≤ sizeLine then some (.tup (xs ++ ys)) else none
  | _, _ => none
theorem two_add : Two P (fun X r => OpR X (binaryOp .Add) r) addF := by
  intro X N sc ok a b d h
  match a, b, h with
  | .int i, .int j, h =>
    cases h
    exact ⟨_, op_add, fun x y H F c ca cb Q ra _ rb _ g k => ⟨i, j, ra.intE, rb.intE, k.int g⟩⟩
  | .str i, .str j, h =>
    simp only [addF] at h
    split at h
    · rename_i hl
      cases h
      exact ⟨_, op_add_str, fun x y H F c ca cb Q ra _ rb _ g k => ⟨i, j, ra.strE, rb.strE, hl, k.str g⟩⟩
    · cases h
  | .lst o xs, .lst o' ys, h =>
    simp only [addF] at h
    split at h
    · rename_i hl
      obtain ⟨f1, f2, hl⟩ := hl
      cases h
      refine ⟨_, op_catR, fun x y H F c ca cb Q ra _ rb _ g k => ?_⟩
      obtain ⟨p1, vs, c1, e1, q1, r1, _⟩ := ra.lstE g.sub
      obtain ⟨p2, ws, c2, e2, q2, r2, _⟩ := rb.lstE g.sub
      refine ⟨p1, p2, vs, ws, e1, e2, q1, q2, by rw [← r1.length, ← r2.length]; exact hl, fun p hp => ?_⟩
      exact k.lst g hp ((r1.flat f1).append (r2.flat f2))
    · cases h
  | .tup xs, .tup ys, h =>
    simp only [addF] at h
    split at h
    · rename_i hl
      obtain ⟨f1, f2, hl⟩ := hl
      cases h
      refine ⟨_, op_catA, fun x y H F c ca cb Q ra _ rb _ g k => ?_⟩
      have ra0 : Rp X.K X.mg H F (.tup xs) x [] := ra.flat (by simpa only [isF] using f1)
      have rb0 : Rp X.K X.mg H F (.tup ys) y [] := rb.flat (by simpa only [isF] using f2)
      obtain ⟨p1, vs, e1, q1, r1⟩ := ra0.tupE g.sub
      obtain ⟨p2, ws, e2, q2, r2⟩ := rb0.tupE g.sub
      refine ⟨p1, p2, vs, ws, e1, e2, q1, q2, by rw [← r1.length, ← r2.length]; exact hl, fun en => ?_, fun en em => ?_, fun _ _ p hp => ?_⟩
      · have : xs = [] := by
          have := r1.length; rw [en] at this; exact List.eq_nil_of_length_eq_zero (by simpa using this)
        subst this
        rw [← e2]; exact k.flat g rb0
      · have : ys = [] := by
          have := r2.length; rw [em] at this; exact List.eq_nil_of_length_eq_zero (by simpa using this)
        subst this
        rw [← e1]; exact k.flat g (by rw [List.append_nil]; exact ra0)
      · exact k.tup g hp (r1.append r2)
    · cases h
def opAdd : Opr P := opBin .Add addF two_add

/-! ### * -/
def mulF : D → D → Option D
  | .int i, .int j => if i.natAbs < 2 ^ 64 ∨ j.natAbs < 2 ^ 64 then some (.int (i * j)) else none
  | .lst true xs, .int k => if isFs xs = true ∧ -(2 ^ 63) ≤ k ∧ k < 2 ^ 63 ∧ xs.length * k.toNat ≤ sizeLine then some (.lst true (List.replicate k.toNat xs).flatten) else none
  | _, _ => none
theorem Rps.rep {K : PySem.W.Frag} {mg : Str → Option Value} {H F : Hp} {xs : List D} {vs : List V} (r : Rps K mg H F xs vs []) : ∀ n : Nat, Rps K mg H F (List.replicate n xs).flatten (List.replicate n vs).flatten []
  | 0 => by simp only [List.replicate, List.flatten, Rps]; exact ⟨trivial, trivial⟩
  | n + 1 => by
    simp only [List.replicate_succ, List.flatten_cons]
    exact r.append (Rps.rep r n)
theorem two_mul : Two P (fun X r => OpR X (binaryOp .Mult) r) mulF := by
  intro X N sc ok a b d h
  match a, b, h with
  | .int i, .int j, h =>
    simp only [mulF] at h
    split at h
    · rename_i hc
      cases h
      refine ⟨_, op_mul, fun x y H F c ca cb Q ra _ rb _ g k => ⟨i, j, ra.intE, rb.intE, ?_, k.int g⟩⟩
      rcases hc with h | h
      · exact .inl ⟨by omega, by omega⟩
      · exact .inr ⟨by omega, by omega⟩
    · cases h
  | .lst true xs, .int n, h =>
    simp only [mulF] at h
    split at h
    · rename_i hc
      obtain ⟨f1, h1, h2, h3⟩ := hc
      cases h
      refine ⟨_, op_rep, fun x y H F c ca cb Q ra _ rb _ g k => ?_⟩
      simp only [Rp] at ra
      obtain ⟨p1, vs, c1, e1, q1, r1, _⟩ := ra
      exact ⟨p1, n, vs, e1, rb.intE, q1, h1, h2, by rw [← r1.length]; exact h3, fun p hp => k.lst g hp ((r1.flat f1).rep _)⟩
    · cases h
def opMul : Opr P := opBin .Mult mulF two_mul

/-! ### -x, not x as an operation on bools is E.not -/
def negF : D → Option D
  | .int i => some (.int (-i))
  | _ => none
def opNeg : Opr P where
  f := f1 negF
  sh := shUn .USub
  ok := by
    intro X N sc ok e es he ds d hd
    obtain ⟨a, rfl, hf⟩ := f1_some hd
    cases e with
    | UnaryOp o x pos =>
      simp only [shUn] at he
      split at he
      · rename_i hc
        obtain ⟨rfl, h1⟩ := hc
        cases he
        refine ⟨R1of (rU fun i => .int (-i)), hasOp1 fun ta p => pe_un un_neg p, hasT_of (hasOp1 fun ta p => pe_un un_neg p) (fun _ => rfl), fun vs H F c Q hr g k => ?_⟩
        obtain ⟨v, cd, rfl, r, _⟩ := hr.one
        match a, hf with
        | .int i, hf => cases hf; exact ⟨i, r.intE, k.int g⟩
      · cases he
    | _ => simp [shUn] at he
  pl := by
    intro sc e es he
    cases e <;> first | rfl | simp [shUn] at he
  sound := by
    intro X N sc ok e es he
    cases e with
    | UnaryOp o x pos =>
      simp only [shUn] at he
      split at he
      · rename_i hc
        obtain ⟨rfl, h1⟩ := hc
        cases he
        exact ⟨R1of (rU fun i => .int (-i)), hasOp1 fun ta p => pe_un un_neg p, hasT_of (hasOp1 fun ta p => pe_un un_neg p) (fun _ => rfl)⟩
      · cases he
    | _ => simp [shUn] at he

/-! ### comparisons of ints -/
def cmpF (g : Int → Int → Bool) : D → D → Option D
  | .int i, .int j => some (.bl (g i j))
  | _, _ => none
theorem two_cmp {op : CmpOp} {g : Int → Int → Bool} (rule : ∀ X : Cx, OpR X (compareOp op) (rI0 fun i j => .bl (g i j))) : Two P (fun X r => OpR X (compareOp op) r) (cmpF g) := by
  intro X N sc ok a b d h
  match a, b, h with
  | .int i, .int j, h =>
    cases h
    exact ⟨_, rule X, fun x y H F c ca cb Q ra _ rb _ g k => ⟨i, j, ra.intE, rb.intE, k.bl g⟩⟩
def opLt : Opr P := opCmp .Lt (cmpF fun i j => decide (i < j)) (two_cmp fun _ => op_lt)
def opLe : Opr P := opCmp .LtE (cmpF fun i j => decide (i ≤ j)) (two_cmp fun _ => op_le)
def opGt : Opr P := opCmp .Gt (cmpF fun i j => decide (j < i)) (two_cmp fun _ => op_gt)
def opGe : Opr P := opCmp .GtE (cmpF fun i j => decide (j ≤ i)) (two_cmp fun _ => op_ge)

/-! ### == and != of data -/
mutual
def toPy : D → Option PyData
  | .non => some .none
  | .bl b => some (.bool b)
  | .int i => some (.int i)
  | .str x => some (.str x)
  | .tup xs => (toPys xs).map .tuple
  | .lst _ xs => (toPys xs).map .list
  | _ => none
def toPys : List D → Option (List PyData)
  | [] => some []
  | d :: r => match toPy d, toPys r with
    | some p, some q => some (p :: q)
    | _, _ => none
end
mutual
theorem dp_of {K : PySem.W.Frag} {mg : Str → Option Value} {H F : Hp} (l : Le F H) : ∀ (d : D) (v : V) (c : List Addr) (p : PyData), Rp K mg H F d v c → toPy d = some p → Dp K H v p
  | .non, v, c, p, h, e => by cases e; rw [h.nonE]; exact .non
  | .bl b, v, c, p, h, e => by cases e; rw [h.blE]; exact .bl b
  | .int b, v, c, p, h, e => by cases e; rw [h.intE]; exact .int b
  | .str b, v, c, p, h, e => by cases e; rw [h.strE]; exact .str b
  | .tup xs, v, c, p, h, e => by
    simp only [toPy] at e
    cases q : toPys xs with
    | none => rw [q] at e; cases e
    | some ps =>
      rw [q] at e; cases e
      obtain ⟨a, vs, rfl, s, r⟩ := h.tupE l
      exact .tup s (dps_of l xs vs c ps r q)
  | .lst o xs, v, c, p, h, e => by
    simp only [toPy] at e
    cases q : toPys xs with
    | none => rw [q] at e; cases e
    | some ps =>
      rw [q] at e; cases e
      obtain ⟨a, vs, cs, rfl, s, r, _⟩ := h.lstE l
      exact .lst (.inl s) (dps_of l xs vs cs ps r q)
  | .dic o ks xs, v, c, p, h, e => by simp [toPy] at e
  | .ins o C fs xs, v, c, p, h, e => by simp [toPy] at e
  | .fn f, v, c, p, h, e => by simp [toPy] at e
  | .ty f, v, c, p, h, e => by simp [toPy] at e
  | .scr xs, v, c, p, h, e => by simp [toPy] at e
theorem dps_of {K : PySem.W.Frag} {mg : Str → Option Value} {H F : Hp} (l : Le F H) : ∀ (ds : List D) (vs : List V) (c : List Addr) (ps : List PyData), Rps K mg H F ds vs c → toPys ds = some ps → DpAll K H vs ps
  | [], vs, c, ps, h, e => by
    simp only [Rps] at h; cases e; rw [h.1]; exact .nil
  | d :: r, vs, c, ps, h, e => by
    simp only [Rps] at h
    obtain ⟨v, w, c1, c2, rfl, rfl, h1, h2⟩ := h
    simp only [toPys] at e
    split at e
    · rename_i p q e1 e2
      cases e
      exact .cons (dp_of l d v c1 p h1 e1) (dps_of l r w c2 q h2 e2)
    · cases e
end
/-- whether two data are alike, where that can be told -/
def eqD (a b : D) : Option Bool := match toPy a, toPy b with
  | some p, some q => if SeqAt.shaped p = true ∧ SeqAt.shaped q = true then some (PyData.eqv p q) else none
  | _, _ => none
theorem eqD_some {a b : D} {r : Bool} (h : eqD a b = some r) : ∃ p q, toPy a = some p ∧ toPy b = some q ∧ SeqAt.shaped p = true ∧ SeqAt.shaped q = true ∧ r = PyData.eqv p q := by
  unfold eqD at h
  split at h
  · rename_i p q e1 e2
    split at h
    · rename_i hc
      cases h
      exact ⟨p, q, e1, e2, hc.1, hc.2, rfl⟩
    · cases h
  · cases h
def eqF (neg : Bool) (a b : D) : Option D := (eqD a b).map fun r => .bl (if neg then !r else r)
theorem two_eq : Two P (fun X r => OpR X (compareOp .Eq) r) (eqF false) := by
  intro X N sc ok a b d h
  unfold eqF at h
  cases e : eqD a b with
  | none => rw [e] at h; cases h
  | some r =>
    rw [e] at h; cases h
    obtain ⟨p, q, e1, e2, s1, s2, rfl⟩ := eqD_some e
    have := ok.units
    exact ⟨_, op_eqD (by omega), fun x y H F c ca cb Q ra _ rb _ g k => ⟨p, q, dp_of g.sub _ _ _ _ ra e1, dp_of g.sub _ _ _ _ rb e2, s1, s2, k.bl g⟩⟩
theorem two_ne : Two P (fun X r => OpR X (compareOp .NotEq) r) (eqF true) := by
  intro X N sc ok a b d h
  unfold eqF at h
  cases e : eqD a b with
  | none => rw [e] at h; cases h
  | some r =>
    rw [e] at h; cases h
    obtain ⟨p, q, e1, e2, s1, s2, rfl⟩ := eqD_some e
    have := ok.units
    exact ⟨_, op_neD (by omega), fun x y H F c ca cb Q ra _ rb _ g k => ⟨p, q, dp_of g.sub _ _ _ _ ra e1, dp_of g.sub _ _ _ _ rb e2, s1, s2, k.bl g⟩⟩
def opEq : Opr P := opCmp .Eq (eqF false) two_eq
def opNe : Opr P := opCmp .NotEq (eqF true) two_ne

/-! ### is None -/
def isNonD : D → Bool
  | .non => true
  | _ => false
def isF' (neg : Bool) : D → D → Option D
  | a, .non => some (.bl (if neg then !isNonD a else isNonD a))
  | .bl a, .bl b => some (.bl (if neg then !decide (a = b) else decide (a = b)))
  | _, _ => none
theorem isNonV {K : PySem.W.Frag} {mg : Str → Option Value} {H F : Hp} {a : D} {x : V} {c : List Addr} (r : Rp K mg H F a x c) (l : Le F H) : decide (x = .non) = isNonD a := by
  cases a with
  | non => rw [r.nonE]; rfl
  | bl b => rw [r.blE]; rfl
  | int b => rw [r.intE]; rfl
  | str b => rw [r.strE]; rfl
  | tup xs => obtain ⟨_, _, e, _⟩ := r.tupE l; rw [e]; rfl
  | lst o xs => obtain ⟨_, _, _, e, _⟩ := r.lstE l; rw [e]; rfl
  | dic o ks xs => cases o <;> (simp only [Rp] at r; obtain ⟨_, _, r⟩ := r; first | (obtain ⟨_, e, _⟩ := r; rw [e]; rfl) | (obtain ⟨e, _⟩ := r; rw [e]; rfl))
  | ins o C fs xs => cases o <;> (simp only [Rp] at r; obtain ⟨_, _, _, _, r⟩ := r; first | (obtain ⟨_, e, _⟩ := r; rw [e]; rfl) | (obtain ⟨e, _⟩ := r; rw [e]; rfl))
  | fn f => simp only [Rp] at r; obtain ⟨⟨_, e, _⟩, _⟩ := r; rw [e]; rfl
  | ty f => simp only [Rp] at r; obtain ⟨e, _⟩ := r; rw [e]; rfl
  | scr xs => simp only [Rp] at r; obtain ⟨_, e, _⟩ := r; rw [e]; rfl
theorem two_is : Two P (fun X r => OpR X (compareOp .Is) r) (isF' false) := by
  intro X N sc ok a b d h
  match b, h with
  | .non, h =>
    cases h
    refine ⟨_, op_isN, fun x y H F c ca cb Q ra _ rb _ g k => ⟨rb.nonE, ?_⟩⟩
    rw [isNonV ra g.sub]; exact k.bl g
  | .bl b, h =>
    match a, h with
    | .bl a, h =>
      cases h
      exact ⟨_, op_is_bl, fun x y H F c ca cb Q ra _ rb _ g k => ⟨a, b, ra.blE, rb.blE, k.bl g⟩⟩
theorem two_isnot : Two P (fun X r => OpR X (compareOp .IsNot) r) (isF' true) := by
  intro X N sc ok a b d h
  match b, h with
  | .non, h =>
    cases h
    refine ⟨_, op_notN, fun x y H F c ca cb Q ra _ rb _ g k => ⟨rb.nonE, ?_⟩⟩
    rw [isNonV ra g.sub]; exact k.bl g
  | .bl b, h =>
    match a, h with
    | .bl a, h =>
      cases h
      exact ⟨_, op_isnot_bl, fun x y H F c ca cb Q ra _ rb _ g k => ⟨a, b, ra.blE, rb.blE, k.bl g⟩⟩
def opIs : Opr P := opCmp .Is (isF' false) two_is
def opIsNot : Opr P := opCmp .IsNot (isF' true) two_isnot

/-! ### in, not in: lists and tuples of flat items; one sign in a text; keys of a dict -/
def flatD : D → Bool
  | .non => true
  | .bl _ => true
  | .int _ => true
  | .str _ => true
  | _ => false
def eqFl : D → D → Bool
  | .non, .non => true
  | .bl a, .bl b => a == b
  | .bl a, .int b => (if a then 1 else 0) == b
  | .int a, .bl b => a == (if b then 1 else 0)
  | .int a, .int b => a == b
  | .str a, .str b => a == b
  | _, _ => false
def inFl (a : D) (xs : List D) : Bool := xs.any fun y => eqFl y a
theorem flatDV {K : PySem.W.Frag} {mg : Str → Option Value} {H F : Hp} {a : D} {x : V} {c : List Addr} (r : Rp K mg H F a x c) (f : flatD a = true) : flatV x = true := by
  cases a with
  | non => rw [r.nonE]; rfl
  | bl b => rw [r.blE]; rfl
  | int b => rw [r.intE]; rfl
  | str b => rw [r.strE]; rfl
  | _ => cases f
theorem eqFlV {K : PySem.W.Frag} {mg : Str → Option Value} {H F : Hp} {a b : D} {x y : V} {c c' : List Addr} (r : Rp K mg H F a x c) (r' : Rp K mg H F b y c') (f : flatD a = true) (f' : flatD b = true) : eqV x y = eqFl a b := by
  cases a with
  | non => rw [r.nonE]; cases b with
    | non => rw [r'.nonE]; rfl
    | bl b => rw [r'.blE]; rfl
    | int b => rw [r'.intE]; rfl
    | str b => rw [r'.strE]; rfl
    | _ => cases f'
  | bl a => rw [r.blE]; cases b with
    | non => rw [r'.nonE]; rfl
    | bl b => rw [r'.blE]; rfl
    | int b => rw [r'.intE]; rfl
    | str b => rw [r'.strE]; rfl
    | _ => cases f'
  | int a => rw [r.intE]; cases b with
    | non => rw [r'.nonE]; rfl
    | bl b => rw [r'.blE]; rfl
    | int b => rw [r'.intE]; rfl
    | str b => rw [r'.strE]; rfl
    | _ => cases f'
  | str a => rw [r.strE]; cases b with
    | non => rw [r'.nonE]; rfl
    | bl b => rw [r'.blE]; rfl
    | int b => rw [r'.intE]; rfl
    | str b => rw [r'.strE]; rfl
    | _ => cases f'
  | _ => cases f
theorem inFlV {K : PySem.W.Frag} {mg : Str → Option Value} {H F : Hp} {a : D} {x : V} {c : List Addr} (r : Rp K mg H F a x c) (f : flatD a = true) : ∀ {xs : List D} {vs : List V} {c' : List Addr}, Rps K mg H F xs vs c' → xs.all flatD = true → vs.all flatV = true ∧ inV x vs = inFl a xs
  | [], vs, c', h, _ => by simp only [Rps] at h; rw [h.1]; exact ⟨rfl, rfl⟩
  | d :: t, vs, c', h, fa => by
    simp only [Rps] at h
    obtain ⟨v, w, c1, c2, rfl, rfl, h1, h2⟩ := h
    rw [List.all_cons, Bool.and_eq_true] at fa
    obtain ⟨i1, i2⟩ := inFlV r f h2 fa.2
    refine ⟨by rw [List.all_cons, flatDV h1 fa.1, i1]; rfl, ?_⟩
    show (eqV v x || inV x w) = (eqFl d a || inFl a t)
    rw [eqFlV h1 r fa.1 f, i2]
theorem Rps.ints {K : PySem.W.Frag} {mg : Str → Option Value} {H F : Hp} : ∀ {ns : List Int} {vs : List V} {c : List Addr}, Rps K mg H F (ns.map D.int) vs c → vs = ns.map V.int
  | [], vs, c, h => by simp only [List.map_nil, Rps] at h; exact h.1
  | n :: ns, vs, c, h => by
    simp only [List.map_cons, Rps] at h
    obtain ⟨v, w, c1, c2, rfl, rfl, h1, h2⟩ := h
    rw [h1.intE, Rps.ints h2]; rfl
theorem Rps.to_ints {K : PySem.W.Frag} {mg : Str → Option Value} {H F : Hp} : ∀ ns : List Int, Rps K mg H F (ns.map D.int) (ns.map V.int) []
  | [] => by simp only [List.map_nil, Rps]; exact ⟨trivial, trivial⟩
  | n :: ns => by
    simp only [List.map_cons, Rps]
    exact ⟨_, _, [], [], rfl, rfl, by simp only [Rp]; exact ⟨trivial, trivial⟩, Rps.to_ints ns⟩
theorem Rps.to_strs {K : PySem.W.Frag} {mg : Str → Option Value} {H F : Hp} : ∀ ns : List Str, Rps K mg H F (ns.map D.str) (ns.map V.str) []
  | [] => by simp only [List.map_nil, Rps]; exact ⟨trivial, trivial⟩
  | n :: ns => by
    simp only [List.map_cons, Rps]
    exact ⟨_, _, [], [], rfl, rfl, by simp only [Rp]; exact ⟨trivial, trivial⟩, Rps.to_strs ns⟩
theorem Rps.strs {K : PySem.W.Frag} {mg : Str → Option Value} {H F : Hp} : ∀ {ns : List Str} {vs : List V} {c : List Addr}, Rps K mg H F (ns.map D.str) vs c → vs = ns.map V.str
  | [], vs, c, h => by simp only [List.map_nil, Rps] at h; exact h.1
  | n :: ns, vs, c, h => by
    simp only [List.map_cons, Rps] at h
    obtain ⟨v, w, c1, c2, rfl, rfl, h1, h2⟩ := h
    rw [h1.strE, Rps.strs h2]; rfl
theorem Rps.bls {K : PySem.W.Frag} {mg : Str → Option Value} {H F : Hp} : ∀ {ns : List Bool} {vs : List V} {c : List Addr}, Rps K mg H F (ns.map D.bl) vs c → vs = ns.map V.bl
  | [], vs, c, h => by simp only [List.map_nil, Rps] at h; exact h.1
  | n :: ns, vs, c, h => by
    simp only [List.map_cons, Rps] at h
    obtain ⟨v, w, c1, c2, rfl, rfl, h1, h2⟩ := h
    rw [h1.blE, Rps.bls h2]; rfl
/-- the members of a sequence -/
def inF (neg : Bool) : D → D → Option D
  | a, .lst _ xs => if flatD a = true ∧ xs.all flatD = true then some (.bl (if neg then !inFl a xs else inFl a xs)) else none
  | a, .tup xs => if flatD a = true ∧ xs.all flatD = true then some (.bl (if neg then !inFl a xs else inFl a xs)) else none
  | .str x, .str z => if x.length = 1 then some (.bl (if neg then !decide (x.cps.getD 0 0 ∈ z.cps.toList) else decide (x.cps.getD 0 0 ∈ z.cps.toList))) else none
  | _, _ => none
theorem sign_of {x : Str} (h : x.length = 1) : x = ⟨#[x.cps.getD 0 0]⟩ := by
  obtain ⟨a⟩ := x
  have h : a.size = 1 := h
  obtain ⟨l⟩ := a
  match l, h with
  | [c], _ => rfl
theorem two_in : Two P (fun X r => OpR X (compareOp .In) r) (inF false) := by
  intro X N sc ok a b d h
  match b, h with
  | .lst o xs, h =>
    simp only [inF] at h
    split at h
    · rename_i hc
      cases h
      refine ⟨_, op_in_seq, fun x y H F c ca cb Q ra _ rb _ g k => ?_⟩
      obtain ⟨p, vs, cs, e, q, r, _⟩ := rb.lstE g.sub
      obtain ⟨i1, i2⟩ := inFlV ra hc.1 r hc.2
      exact ⟨p, vs, e, .inl (.inl q), flatDV ra hc.1, i1, by rw [i2]; exact k.bl g⟩
    · cases h
  | .tup xs, h =>
    simp only [inF] at h
    split at h
    · rename_i hc
      cases h
      refine ⟨_, op_in_seq, fun x y H F c ca cb Q ra _ rb _ g k => ?_⟩
      obtain ⟨p, vs, e, q, r⟩ := rb.tupE g.sub
      obtain ⟨i1, i2⟩ := inFlV ra hc.1 r hc.2
      exact ⟨p, vs, e, .inr q, flatDV ra hc.1, i1, by rw [i2]; exact k.bl g⟩
    · cases h
  | .str z, h =>
    match a, h with
    | .str x, h =>
      simp only [inF] at h
      split at h
      · rename_i hc
        cases h
        refine ⟨_, op_in_sign, fun x' y H F c ca cb Q ra _ rb _ g k => ?_⟩
        exact ⟨x.cps.getD 0 0, z, by rw [ra.strE, ← sign_of hc], rb.strE, k.bl g⟩
      · cases h
theorem two_notin : Two P (fun X r => OpR X (compareOp .NotIn) r) (inF true) := by
  intro X N sc ok a b d h
  match b, h with
  | .lst o xs, h =>
    simp only [inF] at h
    split at h
    · rename_i hc
      cases h
      refine ⟨_, op_notIn_seq, fun x y H F c ca cb Q ra _ rb _ g k => ?_⟩
      obtain ⟨p, vs, cs, e, q, r, _⟩ := rb.lstE g.sub
      obtain ⟨i1, i2⟩ := inFlV ra hc.1 r hc.2
      exact ⟨p, vs, e, .inl (.inl q), flatDV ra hc.1, i1, by rw [i2]; exact k.bl g⟩
    · cases h
  | .tup xs, h =>
    simp only [inF] at h
    split at h
    · rename_i hc
      cases h
      refine ⟨_, op_notIn_seq, fun x y H F c ca cb Q ra _ rb _ g k => ?_⟩
      obtain ⟨p, vs, e, q, r⟩ := rb.tupE g.sub
      obtain ⟨i1, i2⟩ := inFlV ra hc.1 r hc.2
      exact ⟨p, vs, e, .inr q, flatDV ra hc.1, i1, by rw [i2]; exact k.bl g⟩
    · cases h
  | .str z, h =>
    match a, h with
    | .str x, h =>
      simp only [inF] at h
      split at h
      · rename_i hc
        cases h
        refine ⟨_, op_notIn_sign, fun x' y H F c ca cb Q ra _ rb _ g k => ?_⟩
        exact ⟨x.cps.getD 0 0, z, by rw [ra.strE, ← sign_of hc], rb.strE, k.bl g⟩
      · cases h
def opIn : Opr P := opCmp .In (inF false) two_in
def opNotIn : Opr P := opCmp .NotIn (inF true) two_notin
end Ev
end
section
set_option maxRecDepth 100000
set_option maxHeartbeats 4000000
namespace Ev
open PySem PySem.Spec L2
/-! ### written dicts of the top: a text looked up, in, not in -/
section
variable {P : Pg}
def tabF (P : Pg) (x : Str) : List D → Option D
  | [.str z] => (P.dt x).bind fun kvs => (kvs.lookup z).map .str
  | _ => none
def tabInF (P : Pg) (neg : Bool) (x : Str) : List D → Option D
  | [.str z] => (P.dt x).map fun kvs => .bl (if neg = true then !(kvs.lookup z).isSome else (kvs.lookup z).isSome)
  | _ => none
def shTab (P : Pg) (x : Str) (sc : Scope) : Expr → Option (List Expr)
  | .Subscript (.Name y _) i _ => if y = x ∧ glB sc x = true ∧ plainX i = true ∧ (x == ("__debug__" : Str)) = false ∧ (P.dt x).isSome = true then some [i] else none
  | _ => none
theorem shTab_some {x : Str} {sc : Scope} {e : Expr} {es : List Expr} (h : shTab P x sc e = some es) : ∃ i p pos, e = .Subscript (.Name x p) i pos ∧ glB sc x = true ∧ plainX i = true ∧ (x == ("__debug__" : Str)) = false ∧ (∃ kvs, P.dt x = some kvs) ∧ es = [i] := by
  unfold shTab at h
  split at h
  · split at h
    · rename_i hc
      obtain ⟨rfl, h1, h2, h3, h4⟩ := hc
      exact ⟨_, _, _, rfl, h1, h2, h3, Option.isSome_iff_exists.mp h4, (Option.some.inj h).symm⟩
    · cases h
  · cases h
def shTabIn (P : Pg) (op : CmpOp) (x : Str) (sc : Scope) : Expr → Option (List Expr)
  | .Compare a [o] [.Name y _] _ => if o = op ∧ y = x ∧ glB sc x = true ∧ plainX a = true ∧ (x == ("__debug__" : Str)) = false ∧ (P.dt x).isSome = true then some [a] else none
  | _ => none
theorem shTabIn_some {op : CmpOp} {x : Str} {sc : Scope} {e : Expr} {es : List Expr} (h : shTabIn P op x sc e = some es) : ∃ a p pos, e = .Compare a [op] [.Name x p] pos ∧ glB sc x = true ∧ plainX a = true ∧ (x == ("__debug__" : Str)) = false ∧ (∃ kvs, P.dt x = some kvs) ∧ es = [a] := by
  unfold shTabIn at h
  split at h
  · split at h
    · rename_i hc
      obtain ⟨rfl, rfl, h1, h2, h3, h4⟩ := hc
      exact ⟨_, _, _, rfl, h1, h2, h3, Option.isSome_iff_exists.mp h4, (Option.some.inj h).symm⟩
    · cases h
  · cases h
theorem tab_str {x : Str} {ds : List D} {d : D} (h : tabF P x ds = some d) : ∃ z kvs y, ds = [.str z] ∧ P.dt x = some kvs ∧ kvs.lookup z = some y ∧ d = .str y := by
  unfold tabF at h
  split at h
  · obtain ⟨kvs, e1, e2⟩ := Option.bind_eq_some_iff.mp h
    obtain ⟨y, e3, e4⟩ := Option.map_eq_some_iff.mp e2
    exact ⟨_, kvs, y, rfl, e1, e3, e4.symm⟩
  · cases h
theorem tabIn_str {neg : Bool} {x : Str} {ds : List D} {d : D} (h : tabInF P neg x ds = some d) : ∃ z kvs, ds = [.str z] ∧ P.dt x = some kvs ∧ d = .bl (if neg = true then !(kvs.lookup z).isSome else (kvs.lookup z).isSome) := by
  unfold tabInF at h
  split at h
  · obtain ⟨kvs, e1, e2⟩ := Option.map_eq_some_iff.mp h
    exact ⟨_, kvs, rfl, e1, e2.symm⟩
  · cases h
theorem nsIn_of {K : PySem.W.Frag} {w : World} {a : Addr} {kvs : List (Str × Str)} (h : KTab K w a kvs) (z : Str) : ∃ r, PySem.W.nsIn K a z = some r ∧ r.isSome = (kvs.lookup z).isSome := by
  obtain ⟨es, n, D, k1, k2⟩ := h
  cases e : kvs.lookup z with
  | none => exact ⟨none, k2 z e, rfl⟩
  | some y =>
    obtain ⟨t, ht⟩ := k1 z y e
    exact ⟨_, ht, rfl⟩
def opTab (x : Str) : Opr P where
  f := tabF P x
  sh := shTab P x
  ok := by
    intro X N sc ok e es he ds d hd
    obtain ⟨i, p, pos, rfl, h1, h2, h3, _, rfl⟩ := shTab_some he
    obtain ⟨z, kvs, y, rfl, hk, hl, rfl⟩ := tab_str hd
    obtain ⟨a, hm, es, n, D, k1, k2⟩ := ok.tab x kvs hk
    have hh : HasOp X (.Subscript (.Name x p) i pos) [i] _ := hasOp1 (r := fun y H Q => rIxD X.K X.w (.ref a) y H Q) fun ta pi => pe_ix ix_kdict (pe_glob (v := .ref a) (ok.gl h1) hm rfl h3) pi (plainIx h2)
    refine ⟨_, hh, hasT_of hh (fun _ => rfl), fun vs H F c Q r g k => ?_⟩
    obtain ⟨v, cd, rfl, r1, _⟩ := r.one
    obtain ⟨t, ht⟩ := k1 z y hl
    exact ⟨a, z, .str y, rfl, r1.strE, ⟨es, n, _, D.at_, D.lit, ht, ⟨t, rfl⟩⟩, k.str g⟩
  pl := by
    intro sc e es he
    obtain ⟨_, _, _, rfl, _⟩ := shTab_some he; rfl
  sound := by
    intro X N sc ok e es he
    obtain ⟨i, p, pos, rfl, h1, h2, h3, ⟨kvs, hk⟩, rfl⟩ := shTab_some he
    obtain ⟨a, hm, es, n, D, k1, k2⟩ := ok.tab x kvs hk
    have hh : HasOp X (.Subscript (.Name x p) i pos) [i] _ := hasOp1 (r := fun y H Q => rIxD X.K X.w (.ref a) y H Q) fun ta pi => pe_ix ix_kdict (pe_glob (v := .ref a) (ok.gl h1) hm rfl h3) pi (plainIx h2)
    exact ⟨_, hh, hasT_of hh (fun _ => rfl)⟩
abbrev rInK (X : Cx) (neg : Bool) (a : Addr) (x : V) (H : Hp) (Q : VK) : Prop := ∃ (z : Str) (r : Option Value), x = .str z ∧ V.ref a = .ref a ∧ PySem.W.nsIn X.K a z = some r ∧ Q (.bl (if neg = true then !r.isSome else r.isSome)) H
def opTabIn (x : Str) : Opr P where
  f := tabInF P false x
  sh := shTabIn P .In x
  ok := by
    intro X N sc ok e es he ds d hd
    obtain ⟨b, p, pos, rfl, h1, h2, h3, _, rfl⟩ := shTabIn_some he
    obtain ⟨z, kvs, rfl, hk, rfl⟩ := tabIn_str hd
    obtain ⟨a, hm, T⟩ := ok.tab x kvs hk
    obtain ⟨r0, hr0, hr1⟩ := nsIn_of T z
    obtain ⟨es, n, D, _⟩ := T
    refine ⟨_, hasOp1 (r := fun y H Q => rInK X false a y H Q) fun ta pi => pe_cmpR (op_in_kd D) pi (pe_glob (v := .ref a) (ok.gl h1) hm rfl h3) rfl, ?_, fun vs H F c Q r g k => ?_⟩
    · intro ts hts
      cases hts with
      | cons p1 hts =>
        cases hts
        exact pt_cmpR (op_in_kd D) p1 (pe_glob (v := .ref a) (ok.gl h1) hm rfl h3) rfl
    · obtain ⟨v, cd, rfl, r1, _⟩ := r.one
      refine ⟨z, r0, r1.strE, rfl, hr0, ?_⟩
      rw [hr1]
      exact k.bl g
  pl := by
    intro sc e es he
    obtain ⟨_, _, _, rfl, _⟩ := shTabIn_some he; rfl
  sound := by
    intro X N sc ok e es he
    obtain ⟨b, p, pos, rfl, h1, h2, h3, ⟨kvs, hk⟩, rfl⟩ := shTabIn_some he
    obtain ⟨a, hm, es, n, D, _⟩ := ok.tab x kvs hk
    refine ⟨_, hasOp1 (r := fun y H Q => rInK X false a y H Q) fun ta pi => pe_cmpR (op_in_kd D) pi (pe_glob (v := .ref a) (ok.gl h1) hm rfl h3) rfl, ?_⟩
    intro ts hts
    cases hts with
    | cons p1 hts =>
      cases hts
      exact pt_cmpR (op_in_kd D) p1 (pe_glob (v := .ref a) (ok.gl h1) hm rfl h3) rfl
def opTabNin (x : Str) : Opr P where
  f := tabInF P true x
  sh := shTabIn P .NotIn x
  ok := by
    intro X N sc ok e es he ds d hd
    obtain ⟨b, p, pos, rfl, h1, h2, h3, _, rfl⟩ := shTabIn_some he
    obtain ⟨z, kvs, rfl, hk, rfl⟩ := tabIn_str hd
    obtain ⟨a, hm, T⟩ := ok.tab x kvs hk
    obtain ⟨r0, hr0, hr1⟩ := nsIn_of T z
    obtain ⟨es, n, D, _⟩ := T
    refine ⟨_, hasOp1 (r := fun y H Q => rInK X true a y H Q) fun ta pi => pe_cmpR (op_notIn_kd D) pi (pe_glob (v := .ref a) (ok.gl h1) hm rfl h3) rfl, ?_, fun vs H F c Q r g k => ?_⟩
    · intro ts hts
      cases hts with
      | cons p1 hts =>
        cases hts
        exact pt_cmpR (op_notIn_kd D) p1 (pe_glob (v := .ref a) (ok.gl h1) hm rfl h3) rfl
    · obtain ⟨v, cd, rfl, r1, _⟩ := r.one
      refine ⟨z, r0, r1.strE, rfl, hr0, ?_⟩
      rw [hr1]
      exact k.bl g
  pl := by
    intro sc e es he
    obtain ⟨_, _, _, rfl, _⟩ := shTabIn_some he; rfl
  sound := by
    intro X N sc ok e es he
    obtain ⟨b, p, pos, rfl, h1, h2, h3, ⟨kvs, hk⟩, rfl⟩ := shTabIn_some he
    obtain ⟨a, hm, es, n, D, _⟩ := ok.tab x kvs hk
    refine ⟨_, hasOp1 (r := fun y H Q => rInK X true a y H Q) fun ta pi => pe_cmpR (op_notIn_kd D) pi (pe_glob (v := .ref a) (ok.gl h1) hm rfl h3) rfl, ?_⟩
    intro ts hts
    cases hts with
    | cons p1 hts =>
      cases hts
      exact pt_cmpR (op_notIn_kd D) p1 (pe_glob (v := .ref a) (ok.gl h1) hm rfl h3) rfl
/-! ### in values -/
theorem g_tab {x z y : Str} {kvs : List (Str × Str)} (hd : P.dt x = some kvs) (h : kvs.lookup z = some y) : (opTab x : Opr P).f [.str z] = some (.str y) := by
  show tabF P x [.str z] = _
  simp only [tabF, hd, Option.bind_some, h, Option.map_some]
theorem g_tabIn {x z : Str} {kvs : List (Str × Str)} (hd : P.dt x = some kvs) : (opTabIn x : Opr P).f [.str z] = some (.bl (kvs.lookup z).isSome) := by
  show tabInF P false x [.str z] = _
  simp only [tabInF, hd, Option.map_some, Bool.false_eq_true, if_false]
theorem g_tabNin {x z : Str} {kvs : List (Str × Str)} (hd : P.dt x = some kvs) : (opTabNin x : Opr P).f [.str z] = some (.bl (!(kvs.lookup z).isSome)) := by
  show tabInF P true x [.str z] = _
  simp only [tabInF, hd, Option.map_some, if_true]
end
end Ev
end
section
set_option maxRecDepth 100000
set_option maxHeartbeats 4000000
namespace Ev
open PySem PySem.Spec L2
theorem Rps.intsOf {K : PySem.W.Frag} {mg : Str → Option Value} {H F : Hp} : ∀ xs : List Int, Rps K mg H F (xs.map D.int) (xs.map V.int) []
  | [] => by simp only [List.map_nil, Rps]; exact ⟨trivial, trivial⟩
  | x :: xs => by
    simp only [List.map_cons, Rps]
    exact ⟨_, _, [], [], rfl, rfl, by simp only [Rp]; exact ⟨trivial, trivial⟩, Rps.intsOf xs⟩
/-! ### x[lo:], x[:hi], x[::-1] -/
def cutL {α : Type} (xs : List α) (lo hi : Option Int) : List α := (xs.drop (HT.sIx xs.length 0 lo)).take (HT.sIx xs.length xs.length hi - HT.sIx xs.length 0 lo)
theorem Rps.drop {K : PySem.W.Frag} {mg : Str → Option Value} {H F : Hp} : ∀ {xs : List D} {vs : List V} (n : Nat), Rps K mg H F xs vs [] → Rps K mg H F (xs.drop n) (vs.drop n) []
  | xs, vs, 0, h => by simpa using h
  | [], vs, n + 1, h => by
    simp only [Rps] at h
    rw [h.1]; simp only [List.drop_nil, Rps]; exact ⟨trivial, trivial⟩
  | d :: r, vs, n + 1, h => by
    simp only [Rps] at h
    obtain ⟨v, w, c1, c2, rfl, e, h1, h2⟩ := h
    obtain ⟨rfl, rfl⟩ := List.append_eq_nil_iff.mp e.symm
    simpa using Rps.drop n h2
theorem Rps.take {K : PySem.W.Frag} {mg : Str → Option Value} {H F : Hp} : ∀ {xs : List D} {vs : List V} (n : Nat), Rps K mg H F xs vs [] → Rps K mg H F (xs.take n) (vs.take n) []
  | xs, vs, 0, h => by simp only [List.take_zero, Rps]; exact ⟨trivial, trivial⟩
  | [], vs, n + 1, h => by
    simp only [Rps] at h
    rw [h.1]; simp only [List.take_nil, Rps]; exact ⟨trivial, trivial⟩
  | d :: r, vs, n + 1, h => by
    simp only [Rps] at h
    obtain ⟨v, w, c1, c2, rfl, e, h1, h2⟩ := h
    obtain ⟨rfl, rfl⟩ := List.append_eq_nil_iff.mp e.symm
    simp only [List.take_succ_cons, Rps]
    exact ⟨v, _, [], [], rfl, rfl, h1, Rps.take n h2⟩
theorem Rps.cut {K : PySem.W.Frag} {mg : Str → Option Value} {H F : Hp} {xs : List D} {vs : List V} (lo hi : Option Int) (h : Rps K mg H F xs vs []) : Rps K mg H F (cutL xs lo hi) (cutV vs lo hi) [] := by
  unfold cutL cutV
  rw [h.length]
  exact (h.drop _).take _
theorem cut_map {α β : Type} (f : α → β) (xs : List α) (lo hi : Option Int) : cutL (xs.map f) lo hi = (cutL xs lo hi).map f := by
  unfold cutL; rw [List.length_map, List.map_take, List.map_drop]
def slG (lo hi : Option Int) : D → Option D
  | .lst _ xs => if isFs xs = true then some (.lst true (cutL xs lo hi)) else none
  | .str z => if z.length ≤ sizeLine then some (.str (cutS z lo hi)) else none
  | .scr xs => some (.lst true ((cutL xs lo hi).map D.int))
  | .tup xs => if isFs xs = true then some (.tup (cutL xs lo hi)) else none
  | _ => none
theorem slG_ok {X : Cx} {d e : D} {lo hi : Option Int} (h : slG lo hi d = some e) : ∃ r, SlR X r ∧ ∀ (v : V) (H F : Hp) (c cd : List Addr) (Q : VK), Rp X.K X.mg H F d v cd → Good H F c → PostN X.K X.mg H F c e Q → r v lo hi H Q := by
  match d, h with
  | .lst o xs, h =>
    simp only [slG] at h
    split at h
    · rename_i hf
      cases h
      refine ⟨_, sl_list, fun v H F c cd Q r g k => ?_⟩
      obtain ⟨a, vs, cs, rfl, q, rs, _⟩ := r.lstE g.sub
      exact ⟨a, vs, rfl, .inl q, fun p hp => k.lst g hp ((rs.flat hf).cut lo hi)⟩
    · cases h
  | .str z, h =>
    simp only [slG] at h
    split at h
    · rename_i hz
      cases h
      refine ⟨_, sl_str, fun v H F c cd Q r g k => ?_⟩
      rw [r.strE]
      exact ⟨z, rfl, hz, k.str g⟩
    · cases h
  | .tup xs, h =>
    simp only [slG] at h
    split at h
    · rename_i hf
      cases h
      refine ⟨_, sl_tupA, fun v H F c cd Q r g k => ?_⟩
      have r0 : Rp X.K X.mg H F (.tup xs) v [] := r.flat (by simpa only [isF] using hf)
      obtain ⟨a, vs, rfl, q, rs⟩ := r0.tupE g.sub
      refine ⟨a, vs, rfl, q, fun hw => ?_, fun _ p hp => k.tup g hp (rs.cut lo hi)⟩
      have e : cutL xs lo hi = xs := by
        unfold cutL
        rw [rs.length, hw.1, hw.2, List.drop_zero, Nat.sub_zero, ← rs.length, List.take_length]
      exact k.flat g (by rw [e]; exact r0)
    · cases h
  | .scr xs, h =>
    cases h
    refine ⟨_, sl_list, fun v H F c cd Q r g k => ?_⟩
    simp only [Rp] at r
    obtain ⟨a, rfl, q, _⟩ := r
    refine ⟨a, _, rfl, g.sub.sqL q, fun p hp => k.lst g hp ?_⟩
    have := (Rps.intsOf (K := X.K) (mg := X.mg) (H := H) (F := F) xs).cut lo hi
    rwa [cut_map] at this
/-! ### a <= b < c -/
def cmpB : CmpOp → Int → Int → Bool
  | .Lt, i, j => decide (i < j)
  | .LtE, i, j => decide (i ≤ j)
  | .Gt, i, j => decide (j < i)
  | .GtE, i, j => decide (j ≤ i)
  | _, _, _ => false
def ordOp : CmpOp → Bool
  | .Lt => true
  | .LtE => true
  | .Gt => true
  | .GtE => true
  | _ => false
theorem ord_rule {op : CmpOp} (h : ordOp op = true) (X : Cx) : OpR X (compareOp op) (rI0 fun i j => .bl (cmpB op i j)) := by
  cases op <;> first | (simp [ordOp] at h; done) | exact op_lt | exact op_le | exact op_gt | exact op_ge
def shCh : Expr → Option (CmpOp × CmpOp × Expr × Expr × Expr)
  | .Compare x [p1, p2] [y, z] _ => some (p1, p2, x, y, z)
  | _ => none
theorem shCh_some {e : Expr} {q : CmpOp × CmpOp × Expr × Expr × Expr} (h : shCh e = some q) : ∃ pos, e = .Compare q.2.2.1 [q.1, q.2.1] [q.2.2.2.1, q.2.2.2.2] pos := by
  unfold shCh at h
  split at h
  · cases h; exact ⟨_, rfl⟩
  · cases h
def shSlc : Expr → Option (Expr × Expr × Expr)
  | .Subscript x (.Slice (some y) (some z) none _) _ => some (x, y, z)
  | _ => none
theorem shSlc_some {e : Expr} {q : Expr × Expr × Expr} (h : shSlc e = some q) : ∃ p2 pos, e = .Subscript q.1 (.Slice (some q.2.1) (some q.2.2) none p2) pos := by
  unfold shSlc at h
  split at h
  · cases h; exact ⟨_, _, rfl⟩
  · cases h
end Ev
end
section
set_option maxRecDepth 100000
namespace Ev
open PySem PySem.Spec L2

/-! ### expressions without effects -/
inductive A (P : Pg) where
  | v (i : Nat)
  | c (d : D) | g (x : Str)
  | p (o : Opr P) (es : List (A P))
  | pm (o : OprM P) (e : A P) (es : List (A P))
  | att (a : A P) (f : Str) | ix (a b : A P)
  | tup (es : List (A P)) | lst (es : List (A P)) | dic0
  | and (es : List (A P)) | or (es : List (A P)) | not (a : A P) | ite (c a b : A P)
  | ch (o1 o2 : CmpOp) (a b c : A P) | slc (a b c : A P)
/-- a slot's tree: of what is at hand, else of what may only be read -/
def look (tr rt : Tr) (i : Nat) : Option D := match tr[i]? with
  | some (some d) => some d
  | _ => match rt[i]? with
    | some (some d) => some d
    | _ => none
def getA (P : Pg) (f : Str) : D → Option D
  | .ins _ C fs xs => if P.att C f = true then (fs.zip xs).lookup f else none
  | _ => none
def keyD : D → Option Key
  | .int i => some (.inl i)
  | .str x => some (.inr x)
  | _ => none
def valD (ks : List Key) (xs : List D) (k : Key) : Option D := ((ks.zip xs).find? fun kv => decide (kv.1 = k)).map (·.2)
def getI : D → D → Option D
  | .lst _ xs, .int i => atI xs i
  | .tup xs, .int i => atI xs i
  | .str z, .int i => if z.length ≤ sizeLine then (atI z.cps.toList i).map fun c => .str ⟨#[c]⟩ else none
  | .dic _ ks xs, k => if ks.length = xs.length then (keyD k).bind (valD ks xs) else none
  | _, _ => none
mutual
def evA (tr rt : Tr) : A P → Option D
  | .v i => look tr rt i
  | .c d => some d
  | .g x => P.gl x
  | .p o es => (evAs tr rt es).bind o.f
  | .pm o e es => match evA tr rt e, evAs tr rt es with
    | some d, some ds => o.f (d :: ds)
    | _, _ => none
  | .att a f => (evA tr rt a).bind (getA P f)
  | .ix a b => match evA tr rt a, evA tr rt b with
    | some x, some y => getI x y
    | _, _ => none
  | .tup es => (evAs tr rt es).bind fun ds => if isFs ds = true ∧ ds.length ≤ sizeLine then some (.tup ds) else none
  | .lst es => (evAs tr rt es).bind fun ds => if isFs ds = true ∧ ds.length ≤ sizeLine then some (.lst true ds) else none
  | .dic0 => some (.dic true [] [])
  | .and es => evAnd tr rt es
  | .or es => evOr tr rt es
  | .not a => match evA tr rt a with
    | some (.bl b) => some (.bl (!b))
    | _ => none
  | .ite c a b => match evA tr rt c with
    | some (.bl k) => (if k then evA tr rt a else evA tr rt b).bind fun d => if isF d = true then some d else none
    | _ => none
  | .ch o1 o2 a b c => match evA tr rt a, evA tr rt b with
    | some (.int x), some (.int y) => if cmpB o1 x y = true then (match evA tr rt c with
      | some (.int z) => some (.bl (cmpB o2 y z))
      | _ => none) else some (.bl false)
    | _, _ => none
  | .slc a b c => match evA tr rt a, evA tr rt b, evA tr rt c with
    | some d, some (.int i), some (.int j) => slG (some i) (some j) d
    | _, _, _ => none
def evAs (tr rt : Tr) : List (A P) → Option (List D)
  | [] => some []
  | a :: r => match evA tr rt a, evAs tr rt r with
    | some x, some y => some (x :: y)
    | _, _ => none
def evAnd (tr rt : Tr) : List (A P) → Option D
  | [] => none
  | [a] => (evA tr rt a).bind fun d => if isF d = true then some d else none
  | a :: r => match evA tr rt a with
    | some (.bl true) => evAnd tr rt r
    | some (.bl false) => some (.bl false)
    | _ => none
def evOr (tr rt : Tr) : List (A P) → Option D
  | [] => none
  | [a] => (evA tr rt a).bind fun d => if isF d = true then some d else none
  | a :: r => match evA tr rt a with
    | some (.bl false) => evOr tr rt r
    | some (.bl true) => some (.bl true)
    | _ => none
end
def noIte : A P → Bool
  | .ite _ _ _ => false
  | _ => true
/-- what hands out a part of what stands -/
def shares : A P → Bool
  | .v _ => true
  | .att _ _ => true
  | .ix _ _ => true
  | _ => false

/-! ### where they stand in the text -/
def visB (N : List Str) (sc : Scope) (i : Nat) (x : Str) : Bool :=
  decide (N[i]? = some x) && (sc.names.lookup x == some .local || sc.names.lookup x == some .cell || sc.names.lookup x == some .free) && !(x == ("__debug__" : Str)) && !(x == ("__classdict__" : Str))
def constB : D → Const → Bool
  | .non, .none => true
  | .bl b, .bool c => b == c
  | .int i, .int j => decide (i = j)
  | .str x, .str y => decide (x = y)
  | _, _ => false
def testPl : Expr → Bool
  | .UnaryOp .. => false
  | .BoolOp .. => false
  | .IfExp .. => false
  | .Compare .. => false
  | _ => true
mutual
def chkA (N : List Str) (sc : Scope) : A P → Expr → Bool
  | .v i, .Name x _ => visB N sc i x
  | .c (.ty n), .Name x _ => decide (bootBuiltins x = some (.type n)) && isBlt x && glB sc x && !(x == ("__debug__" : Str)) && !(x == ("__name__" : Str))
  | .c d, .Constant k _ _ => constB d k
  | .g x, .Name y _ => decide (x = y) && glB sc x && !(x == ("__debug__" : Str))
  | .p o es, e => match o.sh sc e with
    | some xs => chkAs N sc es xs
    | none => false
  | .pm o a es, e => match o.sh sc e with
    | some (x, xs) => testPl e && chkA N sc a x && chkAs N sc es xs
    | none => false
  | .att a f, .Attribute e g _ => decide (f = g) && plainX e && chkA N sc a e
  | .ix a b, .Subscript e i _ => plainX i && chkA N sc a e && chkA N sc b i
  | .tup es, .Tuple xs _ _ => xs.all plainX && chkAs N sc es xs
  | .lst es, .List xs _ => xs.all plainX && chkAs N sc es xs
  | .dic0, .Dict [] [] _ => true
  | .and es, .BoolOp .And xs _ => chkTs N sc es xs
  | .or es, .BoolOp .Or xs _ => chkTs N sc es xs
  | .not a, .UnaryOp .Not x _ => noIte a && chkA N sc a x
  | .ite c a b, .IfExp x y z _ => noIte c && chkA N sc c x && chkA N sc a y && chkA N sc b z
  | .ch o1 o2 a b c, e => match shCh e with
    | some q => decide (q.1 = o1) && decide (q.2.1 = o2) && ordOp o1 && ordOp o2 && !(lastMarks [q.1, q.2.1] [q.2.2.2.1, q.2.2.2.2]) && chkA N sc a q.2.2.1 && chkA N sc b q.2.2.2.1 && chkA N sc c q.2.2.2.2
    | none => false
  | .slc a b c, e => match shSlc e with
    | some q => chkA N sc a q.1 && chkA N sc b q.2.1 && chkA N sc c q.2.2
    | none => false
  | _, _ => false
def chkAs (N : List Str) (sc : Scope) : List (A P) → List Expr → Bool
  | [], [] => true
  | a :: r, e :: t => chkA N sc a e && chkAs N sc r t
  | _, _ => false
def chkTs (N : List Str) (sc : Scope) : List (A P) → List Expr → Bool
  | [], [] => true
  | a :: r, e :: t => (noIte a && chkA N sc a e) && chkTs N sc r t
  | _, _ => false
end
/-- the state's relation: what is at hand, what may only be read, all among the cells c -/
structure Stt (K : PySem.W.Frag) (mg : Str → Option Value) (H F : Hp) (tr rt : Tr) (σ : L2.St) (c : List Addr) : Prop where
  a : ∃ cs, SR K mg H F tr σ cs ∧ ∀ b ∈ cs, b ∈ c
  r : ∃ cs, SR K mg H F rt σ cs ∧ ∀ b ∈ cs, b ∈ c
  g : Good H F c
section
variable {K : PySem.W.Frag} {mg : Str → Option Value} {H F H' F' : Hp} {tr rt : Tr} {σ : L2.St} {c c' : List Addr}
theorem Stt.keep (s : Stt K mg H F tr rt σ c) (l : Le F F') (k : ∀ a ∈ c, H' a = H a) (g : Good H' F' c') (hc : ∀ a ∈ c, a ∈ c') : Stt K mg H' F' tr rt σ c' := by
  obtain ⟨⟨c1, s1, k1⟩, ⟨c2, s2, k2⟩, _⟩ := s
  exact ⟨⟨c1, s1.keep l fun a ha => k a (k1 a ha), fun a ha => hc a (k1 a ha)⟩, ⟨c2, s2.keep l fun a ha => k a (k2 a ha), fun a ha => hc a (k2 a ha)⟩, g⟩
theorem Stt.look (s : Stt K mg H F tr rt σ c) {i : Nat} {d : D} (h : look tr rt i = some d) : ∃ v cd, σ[i]? = some (some v) ∧ Rp K mg H F d v cd ∧ ∀ a ∈ cd, a ∈ c := by
  obtain ⟨⟨c1, s1, k1⟩, ⟨c2, s2, k2⟩, _⟩ := s
  unfold Ev.look at h
  split at h
  · rename_i d' e
    cases h
    obtain ⟨v, a1, a2, e1, r, _, p⟩ := s1.take e
    exact ⟨v, a1, e1, r, fun a ha => k1 a (p.symm.subset (by simp [ha]))⟩
  · split at h
    · rename_i d' e
      cases h
      obtain ⟨v, a1, a2, e1, r, _, p⟩ := s2.take e
      exact ⟨v, a1, e1, r, fun a ha => k2 a (p.symm.subset (by simp [ha]))⟩
    · cases h
/-- what is to be shown of an expression's value; fr: it shares nothing with what stands -/
def PostQ (K : PySem.W.Frag) (mg : Str → Option Value) (fr : Bool) (H F : Hp) (c : List Addr) (d : D) (Q : VK) : Prop :=
  ∀ v H' F' c' cd, Le F F' → (∀ a ∈ c, H' a = H a) → Good H' F' c' → (∀ a ∈ c, a ∈ c') → (∀ a ∈ cd, a ∈ c') → (fr = true → Good H' F' (cd ++ c)) → Rp K mg H' F' d v cd → Q v H'
theorem Good.of (g : Good H F c) (g' : Good H' F' c') (h : ∀ a ∈ c, a ∈ c') : Good H' F' c := ⟨g'.sub, g.nd, fun a ha => g'.own a (h a ha)⟩
/-- of an operation -/
theorem PostQ.n {fr : Bool} {d : D} {Q : VK} (h : PostQ K mg fr H F c d Q) (l : Le F F') (k : ∀ a ∈ c, H' a = H a) (g : Good H F c) (hc : ∀ a ∈ c, a ∈ c') : PostN K mg H' F' c' d Q := by
  intro v H2 F2 cd l2 k2 g2 r
  refine h v H2 F2 (cd ++ c') cd (l.trans l2) (fun a ha => (k2 a (hc a ha)).trans (k a ha)) g2 (fun a ha => by simp [hc a ha]) (fun a ha => by simp [ha]) (fun _ => ?_) r
  have nd := List.nodup_append.mp g2.nd
  refine ⟨g2.sub, List.nodup_append.mpr ⟨nd.1, g.nd, fun a ha b hb => nd.2.2 a ha b (hc b hb)⟩, fun a ha => g2.own a ?_⟩
  rcases List.mem_append.mp ha with ha | ha
  · simp [ha]
  · simp [hc a ha]
/-- .. of a value without cells -/
theorem PostQ.flat {fr : Bool} {d : D} {v : V} {Q : VK} (h : PostQ K mg fr H F c d Q) (g : Good H F c) (r : Rp K mg H F d v []) : Q v H :=
  h v H F c [] (Le.refl F) (fun _ _ => rfl) g (fun _ ha => ha) (fun a ha => by simp at ha) (fun _ => g) r
/-- a post at a later state -/
theorem PostQ.later {fr : Bool} {d : D} {Q : VK} (h : PostQ K mg fr H F c d Q) (l : Le F F') (k : ∀ a ∈ c, H' a = H a) (g : Good H F c) (hc : ∀ a ∈ c, a ∈ c') : PostQ K mg fr H' F' c' d Q := by
  intro v H2 F2 c2 cd l2 k2 g2 h2 h3 f r
  refine h v H2 F2 c2 cd (l.trans l2) (fun a ha => (k2 a (hc a ha)).trans (k a ha)) g2 (fun a ha => h2 a (hc a ha)) h3 (fun e => ?_) r
  have g3 := f e
  have nd := List.nodup_append.mp g3.nd
  refine ⟨g3.sub, List.nodup_append.mpr ⟨nd.1, g.nd, fun a ha b hb => nd.2.2 a ha b (hc b hb)⟩, fun a ha => g3.own a ?_⟩
  rcases List.mem_append.mp ha with ha | ha
  · simp [ha]
  · simp [hc a ha]
end
theorem zip_lookup {f : Str} : ∀ {fs : List Str} {xs : List D} {d : D}, (fs.zip xs).lookup f = some d → ∃ i : Nat, xs[i]? = some d ∧ ∀ {vs : List V}, xs.length = vs.length → ∀ v, vs[i]? = some v → (fs.zip vs).lookup f = some v
  | [], xs, d, h => by simp at h
  | _ :: _, [], d, h => by simp at h
  | g :: fs, x :: xs, d, h => by
    rw [List.zip_cons_cons, List.lookup_cons] at h
    cases e : f == g with
    | true =>
      rw [e] at h
      cases h
      refine ⟨0, rfl, fun {vs} hl v hv => ?_⟩
      cases vs with
      | nil => simp at hv
      | cons w ws =>
        simp at hv; subst hv
        rw [List.zip_cons_cons, List.lookup_cons, e]
    | false =>
      rw [e] at h
      obtain ⟨i, h1, h2⟩ := zip_lookup h
      refine ⟨i + 1, by simpa using h1, fun {vs} hl v hv => ?_⟩
      cases vs with
      | nil => simp at hv
      | cons w ws =>
        rw [List.zip_cons_cons, List.lookup_cons, e]
        exact h2 (by simpa using hl) v (by simpa using hv)
theorem zip_find {k : Key} : ∀ {ks : List Key} {xs : List D} {d : D}, valD ks xs k = some d → ∃ i : Nat, xs[i]? = some d ∧ ks[i]? = some k ∧ ∀ {vs : List V}, xs.length = vs.length → ∀ v, vs[i]? = some v → valV (ks.zip vs) k = some v
  | [], xs, d, h => by simp [valD] at h
  | _ :: _, [], d, h => by simp [valD] at h
  | g :: ks, x :: xs, d, h => by
    by_cases e : g = k
    · subst e
      simp [valD] at h
      subst h
      refine ⟨0, rfl, rfl, fun {vs} hl v hv => ?_⟩
      cases vs with
      | nil => simp at hv
      | cons w ws =>
        simp at hv; subst hv
        rw [List.zip_cons_cons]; exact valV_pos rfl
    · have h' : valD ks xs k = some d := by
        simpa [valD, List.find?_cons, e] using h
      obtain ⟨i, h1, h2, h3⟩ := zip_find h'
      refine ⟨i + 1, by simpa using h1, by simpa using h2, fun {vs} hl v hv => ?_⟩
      cases vs with
      | nil => simp at hv
      | cons w ws =>
        rw [List.zip_cons_cons, valV_neg e]
        exact h3 (by simpa using hl) v (by simpa using hv)
theorem atI_of {α β : Type} {xs : List α} {ys : List β} {i : Int} {x : α} (hl : xs.length = ys.length) (h : atI xs i = some x) : ∃ j : Nat, xs[j]? = some x ∧ ∀ y, ys[j]? = some y → atI ys i = some y := by
  unfold atI at h
  cases e : ixN xs.length i with
  | none => rw [e] at h; cases h
  | some j =>
    rw [e] at h
    refine ⟨j, h, fun y hy => ?_⟩
    unfold atI
    rw [← hl, e]; exact hy
end Ev
end
section
set_option maxRecDepth 100000
namespace Ev
open PySem PySem.Spec L2
set_option maxHeartbeats 4000000
variable {P : Pg}
theorem visB_ok {X : Cx} {N : List Str} {sc : Scope} (ok : XOk P X N sc) {i : Nat} {x : Str} (h : visB N sc i x = true) : X.N[i]? = some x ∧ Vis X.env.scope x ∧ (x == ("__debug__" : Str)) = false ∧ (x == ("__classdict__" : Str)) = false := by
  unfold visB at h
  simp only [Bool.and_eq_true, Bool.or_eq_true, Bool.not_eq_true', decide_eq_true_eq, beq_iff_eq] at h
  obtain ⟨⟨⟨h1, h2⟩, h3⟩, h4⟩ := h
  refine ⟨by rw [ok.names]; exact h1, ?_, h3, h4⟩
  unfold Vis
  rw [ok.scope]
  rcases h2 with (h2 | h2) | h2
  · exact .inl h2
  · exact .inr (.inl h2)
  · exact .inr (.inr h2)
theorem fresh_sep {K : PySem.W.Frag} {mg : Str → Option Value} {fr : Bool} {H F H' F' : Hp} {c cd : List Addr} {d : D} {Q : VK} {v : V} (h : PostQ K mg fr H F c d Q) (l : Le F F') (k : ∀ a ∈ c, H' a = H a) (g : Good H' F' (cd ++ c)) (r : Rp K mg H' F' d v cd) : Q v H' :=
  h v H' F' (cd ++ c) cd l k g (fun a ha => by simp [ha]) (fun a ha => by simp [ha]) (fun _ => g) r
theorem RpE.rps {K : PySem.W.Frag} {mg : Str → Option Value} {H F : Hp} {c : List Addr} : ∀ {ds : List D} {vs : List V}, RpE K mg H F c ds vs → ∃ cv, Rps K mg H F ds vs cv ∧ ∀ a ∈ cv, a ∈ c
  | [], vs, h => by simp only [RpE] at h; exact ⟨[], by simp only [Rps]; exact ⟨h, trivial⟩, fun a ha => by simp at ha⟩
  | d :: r, vs, h => by
    simp only [RpE] at h
    obtain ⟨v, w, cd, e, rp, k, h2⟩ := h
    obtain ⟨cv, h3, h4⟩ := h2.rps
    refine ⟨cd ++ cv, by simp only [Rps]; exact ⟨v, w, cd, cv, e, rfl, rp, h3⟩, fun a ha => ?_⟩
    rcases List.mem_append.mp ha with ha | ha
    · exact k a ha
    · exact h4 a ha
/-- as a value -/
def Val (X : Cx) (tr rt : Tr) (a : A P) (e : Expr) : Prop := ∀ d, evA tr rt a = some d → ∀ (σ : L2.St) (H F : Hp) (c : List Addr) (Q : VK), Stt X.K X.mg H F tr rt σ c → PostQ X.K X.mg (!shares a) H F c d Q → mx X e σ H Q
/-- as a test -/
def Tst (X : Cx) (tr rt : Tr) (a : A P) (e : Expr) : Prop := noIte a = true → ∀ b, evA tr rt a = some (.bl b) → ∀ (σ : L2.St) (H F : Hp) (c : List Addr) (Q : Bool → Hp → Prop), Stt X.K X.mg H F tr rt σ c →
  (∀ H' F' c', Le F F' → (∀ a ∈ c, H' a = H a) → Good H' F' c' → (∀ a ∈ c, a ∈ c') → Q b H') → mxT X e σ H Q
abbrev testPlain : Expr → Bool := testPl
theorem testPlain_ok {e : Expr} {env : Env} (h : testPlain e = true) (whole : Sem Value) : isTrue e env whole = (do let v ← whole; standAt e.pos; holding [v] (truthy v)) := by
  cases e <;> first | rfl | (simp [testPl] at h)
theorem both {X : Cx} {tr rt : Tr} {a : A P} {e : Expr} (v : Val X tr rt a e) (h : testPlain e = true) : Val X tr rt a e ∧ Tst X tr rt a e := by
  refine ⟨v, fun _ b hb σ H F c Q s k => ?_⟩
  refine ⟨_, pt_val pe_mx (testPlain_ok h), ?_⟩
  refine v _ hb σ H F c _ s fun x H' F' c' cd l kk g' hcc hcd _ r => ?_
  exact ⟨b, r.blE, k H' F' c' l kk g' hcc⟩
def mxW (X : Cx) (e : Expr) : TT := fun σ H Q => ∃ t, PW X e t ∧ t σ H Q
theorem pw_mx {X : Cx} {e : Expr} : PW X e (mxW X e) := ⟨fun wh pins s σ H Q I ⟨t, p, h⟩ => p.run wh pins s σ H Q I h⟩
mutual
theorem evA_ok {X : Cx} {N : List Str} {sc : Scope} (ok : XOk P X N sc) {tr rt : Tr} : ∀ (a : A P) (e : Expr), chkA N sc a e = true → Val X tr rt a e ∧ Tst X tr rt a e
  | .v i, e, hc => by
    cases e with
    | Name x pos =>
      obtain ⟨h1, h2, h3, h4⟩ := visB_ok ok hc
      refine both (fun d hd σ H F c Q s k => ?_) rfl
      obtain ⟨v, cd, e1, r, h⟩ := s.look (show look tr rt i = some d from hd)
      refine mx_of (pe_var h1 h2 h3 h4) ⟨v, e1, ?_⟩
      exact k v H F c cd (Le.refl F) (fun _ _ => rfl) s.g (fun _ ha => ha) h (fun e => nomatch e) r
    | _ => simp [chkA] at hc
  | .c d0, e, hc => by
    cases e with
    | Constant kk j pos =>
      refine both (fun d hd σ H F c Q s k => ?_) rfl
      cases hd
      cases d0 <;> cases kk <;> first | (simp [chkA, constB] at hc; done) | skip
      · exact mx_of pe_non (k.flat s.g (by simp only [Rp]; exact ⟨trivial, trivial⟩))
      · simp only [chkA, constB, beq_iff_eq] at hc
        subst hc
        exact mx_of pe_bl (k.flat s.g (by simp only [Rp]; exact ⟨trivial, trivial⟩))
      · simp only [chkA, constB, decide_eq_true_eq] at hc
        subst hc
        exact mx_of pe_int (k.flat s.g (by simp only [Rp]; exact ⟨trivial, trivial⟩))
      · simp only [chkA, constB, decide_eq_true_eq] at hc
        subst hc
        exact mx_of pe_str (k.flat s.g (by simp only [Rp]; exact ⟨trivial, trivial⟩))
    | Name x pos =>
      refine both (fun d hd σ H F c Q s k => ?_) rfl
      cases hd
      cases d0 with
      | ty n =>
        simp only [chkA, Bool.and_eq_true, Bool.not_eq_true', decide_eq_true_eq] at hc
        obtain ⟨⟨⟨⟨h1, h2⟩, h3⟩, h4⟩, h5⟩ := hc
        exact mx_of (pe_bltn (v := .ty n) (ok.gl h3) (ok.blt _ h2) h1 rfl (by intro q; rw [q] at h5; simp at h5) h4) (k.flat s.g (by simp only [Rp]; exact ⟨trivial, trivial⟩))
      | _ => simp [chkA] at hc
    | _ => cases d0 <;> simp [chkA] at hc
  | .g x, e, hc => by
    cases e with
    | Name y pos =>
      simp only [chkA, Bool.and_eq_true, Bool.not_eq_true', decide_eq_true_eq] at hc
      obtain ⟨⟨rfl, h2⟩, h3⟩ := hc
      refine both (fun d hd σ H F c Q s k => ?_) rfl
      obtain ⟨v, u, e1, e2, _, e3⟩ := ok.glob x d hd
      exact mx_of (pe_glob (ok.gl h2) e1 e2 h3) (k.flat s.g (e3 H F))
    | _ => simp [chkA] at hc
  | .p o es, e, hc => by
    simp only [chkA] at hc
    split at hc
    · rename_i xs hsh
      refine ⟨fun d hd σ H F c Q s k => ?_, fun _ b hd σ H F c Q s k => ?_⟩
      · simp only [evA] at hd
        cases q : evAs tr rt es with
        | none => rw [q] at hd; cases hd
        | some ds =>
          rw [q] at hd
          obtain ⟨R, h1, _, h2⟩ := o.ok X N sc ok e xs hsh ds d hd
          refine mx_op h1 (evAs_ok ok es xs ds hc q σ H F c R Q s fun vs H' F' c' l kk g' hcc hr => ?_)
          exact h2 vs H' F' c' Q hr g' (k.n l kk s.g hcc)
      · simp only [evA] at hd
        cases q : evAs tr rt es with
        | none => rw [q] at hd; cases hd
        | some ds =>
          rw [q] at hd
          obtain ⟨R, _, h1, h2⟩ := o.ok X N sc ok e xs hsh ds _ hd
          refine mxT_op h1 (evAs_ok ok es xs ds hc q σ H F c R _ s fun vs H' F' c' l kk g' hcc hr => ?_)
          refine h2 vs H' F' c' _ hr g' fun v H2 F2 cd l2 k2 g2 r => ?_
          exact ⟨b, r.blE, k H2 F2 (cd ++ c') (l.trans l2) (fun z hz => (k2 z (hcc z hz)).trans (kk z hz)) g2 fun z hz => by simp [hcc z hz]⟩
    · cases hc
  | .pm o a es, e, hc => by
    simp only [chkA] at hc
    split at hc
    · rename_i x xs hsh
      simp only [Bool.and_eq_true] at hc
      refine both (fun d hd σ H F c Q s k => ?_) hc.1.1
      simp only [evA] at hd
      split at hd
      · rename_i da ds q1 q2
        obtain ⟨R, h1, h2⟩ := o.ok X N sc ok e x xs hsh _ d hd
        refine mx_of (h1 _ _ pe_mx (allPE_mx xs)) ?_
        refine (evA_ok ok a x hc.1.2).1 da q1 σ H F c _ s fun v H1 F1 c1 cd l1 k1 g1 hc1 hcd _ r1 => ?_
        refine ⟨o.mid _ _ _ (o.fh _ _ _ hd) v H1 F1 cd r1 g1.sub, ?_⟩
        refine evAs_ok ok es xs ds hc.2 q2 σ H1 F1 c1 (fun vs => R (v :: vs)) Q (s.keep l1 k1 g1 hc1) fun vs H' F' c' l kk g' hcc hr => ?_
        refine h2 (v :: vs) H' F' c' Q ?_ g' (k.n (l1.trans l) (fun z hz => (kk z (hc1 z hz)).trans (k1 z hz)) s.g fun z hz => hcc z (hc1 z hz))
        simp only [RpE]
        exact ⟨v, vs, cd, rfl, Rp.keep l _ _ _ r1 fun z hz => kk z (hcd z hz), fun z hz => hcc z (hcd z hz), hr⟩
      · cases hd
    · cases hc
  | .att a f, e, hc => by
    cases e with
    | Attribute x g pos =>
      simp only [chkA, Bool.and_eq_true, decide_eq_true_eq] at hc
      obtain ⟨⟨rfl, h2⟩, h3⟩ := hc
      refine both (fun d hd σ H F c Q s k => ?_) rfl
      simp only [evA] at hd
      cases q : evA tr rt a with
      | none => rw [q] at hd; cases hd
      | some da =>
        rw [q] at hd
        have hd : getA P f da = some d := hd
        refine mx_of (pe_fld (f := f) pe_mx (base_of h2)) ((evA_ok ok a x h3).1 da q σ H F c _ s fun v H' F' c' cd l kk g' hcc hcd fr r => ?_)
        match da, hd, r with
        | .ins o C fs xs, hd, r =>
          simp only [getA] at hd
          split at hd
          · rename_i hat
            obtain ⟨i, e1, e2⟩ := zip_lookup hd
            have main : ∃ b A dx vs cs, v = .ref b ∧ X.mg C = some (.ref A) ∧ H' b = some (.ins A dx (fs.zip vs)) ∧ Rps X.K X.mg H' F' xs vs cs ∧ ∀ z ∈ cs, z ∈ cd := by
              cases o with
              | true =>
                simp only [Rp] at r
                obtain ⟨b, A, dx, vs, c2, q1, q2, q3, q4, q5, rfl⟩ := r
                exact ⟨b, A, dx, vs, c2, q1, q2, q4, q5, fun z hz => by simp [hz]⟩
              | false =>
                simp only [Rp] at r
                obtain ⟨b, A, dx, vs, q1, q2, q3, q4, q5⟩ := r
                exact ⟨b, A, dx, vs, cd, q1, q2, g'.sub _ _ q4, q5, fun z hz => hz⟩
            obtain ⟨b, A, dx, vs, cs, rfl, q2, q4, q5, q6⟩ := main
            obtain ⟨v1, c1, z1, z2, z3⟩ := q5.get e1
            obtain ⟨y1, y2⟩ := ok.cls C A f hat q2
            refine ⟨b, A, dx, _, v1, rfl, q4, y1, y2, e2 q5.length v1 z1, ?_⟩
            exact k v1 H' F' c' c1 l kk g' hcc (fun z hz => hcd z (q6 z (z3 z hz))) (fun e => nomatch e) z2
          · cases hd
    | _ => simp [chkA] at hc
  | .ix a b, e, hc => by
    cases e with
    | Subscript x y pos =>
      simp only [chkA, Bool.and_eq_true] at hc
      obtain ⟨⟨h1, h2⟩, h3⟩ := hc
      refine both (fun d hd σ H F c Q s k => ?_) rfl
      simp only [evA] at hd
      split at hd
      · rename_i da db q1 q2
        have go : ∀ (r : R2), PE X (.Subscript x y pos) (tOp r (mx X x) (mx X y)) →
            (∀ v w H' F' c' cd cw, Le F F' → (∀ a ∈ c, H' a = H a) → Good H' F' c' → (∀ a ∈ c, a ∈ c') → (∀ a ∈ cd, a ∈ c') → Rp X.K X.mg H' F' da v cd → Rp X.K X.mg H' F' db w cw → r v w H' Q) → mx X (.Subscript x y pos) σ H Q := by
          intro r hp hr
          refine mx_of hp ((evA_ok ok a x h2).1 da q1 σ H F c _ s fun v H1 F1 c1 cd l1 k1 g1 hc1 hcd _ r1 => ?_)
          refine (evA_ok ok b y h3).1 db q2 σ H1 F1 c1 _ (s.keep l1 k1 g1 hc1) fun w H2 F2 c2 cw l2 k2 g2 hc2 hcw _ r2 => ?_
          exact hr v w H2 F2 c2 cd cw (l1.trans l2) (fun z hz => (k2 z (hc1 z hz)).trans (k1 z hz)) g2 (fun z hz => hc2 z (hc1 z hz)) (fun z hz => hc2 z (hcd z hz)) (Rp.keep l2 da v cd r1 fun z hz => k2 z (hcd z hz)) r2
        match da, db, hd, go with
        | .lst o xs, .int i, hd, go =>
          refine go _ (pe_ix ix_list pe_mx pe_mx (plainIx h1)) fun v w H' F' c' cd cw l kk g' hcc hcd r1 r2 => ?_
          obtain ⟨p, vs, cs, rfl, q, r, hh⟩ := r1.lstE g'.sub
          obtain ⟨j, e1, e2⟩ := atI_of r.length (show atI xs i = some d from hd)
          obtain ⟨v1, c1, z1, z2, z3⟩ := r.get e1
          exact ⟨p, vs, i, v1, rfl, r2.intE, .inl q, e2 v1 z1, k v1 H' F' c' c1 l kk g' hcc (fun z hz => hcd z (hh z (z3 z hz))) (fun e => nomatch e) z2⟩
        | .tup xs, .int i, hd, go =>
          refine go _ (pe_ix ix_tup pe_mx pe_mx (plainIx h1)) fun v w H' F' c' cd cw l kk g' hcc hcd r1 r2 => ?_
          obtain ⟨p, vs, rfl, q, r⟩ := r1.tupE g'.sub
          obtain ⟨j, e1, e2⟩ := atI_of r.length (show atI xs i = some d from hd)
          obtain ⟨v1, c1, z1, z2, z3⟩ := r.get e1
          exact ⟨p, vs, i, v1, rfl, r2.intE, q, e2 v1 z1, k v1 H' F' c' c1 l kk g' hcc (fun z hz => hcd z (z3 z hz)) (fun e => nomatch e) z2⟩
        | .str z, .int i, hd, go =>
          simp only [getI] at hd
          split at hd
          · rename_i hz
            cases e : atI z.cps.toList i with
            | none => rw [e] at hd; cases hd
            | some ch =>
              rw [e] at hd; cases hd
              refine go _ (pe_ix ix_str pe_mx pe_mx (plainIx h1)) fun v w H' F' c' cd cw l kk g' hcc hcd r1 r2 => ?_
              exact ⟨z, i, ch, r1.strE, r2.intE, hz, e, k _ H' F' c' [] l kk g' hcc (fun z hz => by simp at hz) (fun e => nomatch e) (by simp only [Rp]; exact ⟨trivial, trivial⟩)⟩
          · cases hd
        | .dic o ks xs, dk, hd, go =>
          simp only [getI] at hd
          split at hd
          · rename_i hl
            cases ek : keyD dk with
            | none => rw [ek] at hd; cases hd
            | some kk0 =>
              rw [ek] at hd
              have hd : valD ks xs kk0 = some d := hd
              obtain ⟨i, e1, _, e2⟩ := zip_find hd
              have hu := ok.units
              refine mx_of (pe_dget (by omega) pe_mx pe_mx (noSl h1)) ?_
              refine (evA_ok ok a x h2).1 _ q1 σ H F c _ s fun v H1 F1 c1 cd l1 k1 g1 hc1 hcd _ r1 => ?_
              refine (evA_ok ok b y h3).1 dk q2 σ H1 F1 c1 _ (s.keep l1 k1 g1 hc1) fun w H2 F2 c2 cw l2 k2 g2 hc2 hcw _ r2 => ?_
              have r1 := Rp.keep l2 _ v cd r1 (fun z hz => k2 z (hcd z hz))
              have main : ∃ p vs cs, v = .ref p ∧ H2 p = some (.dK (ks.zip vs)) ∧ Rps X.K X.mg H2 F2 xs vs cs ∧ ∀ z ∈ cs, z ∈ cd := by
                cases o with
                | true =>
                  simp only [Rp] at r1
                  obtain ⟨p, vs, c', z1, z2, z3, z4, z5, rfl⟩ := r1
                  exact ⟨p, vs, c', z1, z4, z5, fun z hz => by simp [hz]⟩
                | false =>
                  simp only [Rp] at r1
                  obtain ⟨p, vs, z1, z2, z3, z4, z5⟩ := r1
                  exact ⟨p, vs, cd, z1, g2.sub _ _ z4, z5, fun z hz => hz⟩
              obtain ⟨p, vs, cs, rfl, z4, z5, z6⟩ := main
              obtain ⟨v1, c1', y1, y2, y3⟩ := z5.get e1
              have hw : w = kV kk0 := by
                match dk, ek, r2 with
                | .int i, ek, r2 => cases ek; exact r2.intE
                | .str i, ek, r2 => cases ek; exact r2.strE
              refine ⟨p, v1, rfl, ?_, ?_⟩
              · rw [hw]
                exact .inl ⟨_, _, .inl z4, rfl, (e2 z5.length v1 y1).symm⟩
              · exact k v1 H2 F2 c2 c1' (l1.trans l2) (fun z hz => (k2 z (hc1 z hz)).trans (k1 z hz)) g2 (fun z hz => hc2 z (hc1 z hz)) (fun z hz => hc2 z (hcd z (z6 z (y3 z hz)))) (fun e => nomatch e) y2
          · cases hd
      · cases hd
    | _ => simp [chkA] at hc
  | .tup es, e, hc => by
    cases e with
    | Tuple xs kk pos =>
      simp only [chkA, Bool.and_eq_true] at hc
      refine both (fun d hd σ H F c Q s k => ?_) rfl
      simp only [evA] at hd
      cases q : evAs tr rt es with
      | none => rw [q] at hd; cases hd
      | some ds =>
        rw [q] at hd
        have hd : (if isFs ds = true ∧ ds.length ≤ sizeLine then some (D.tup ds) else none) = some d := hd
        split at hd
        · rename_i hf
          cases hd
          refine mx_of (pe_tup (pa_all (allPE_mx xs) hc.1)) ?_
          have z := evAs_ok ok es xs ds hc.2 q σ H F c (fun vs H1 Q => vs.length ≤ sizeLine ∧ ∀ p, H1 p = none → Q (.ref p) (upd H1 p (.tup vs))) Q s fun vs H' F' c' l kk g' hcc hr => ?_
          · rw [tL_ops] at z; exact z
          · obtain ⟨cv, rs, hcv⟩ := hr.rps
            have rs0 := rs.flat hf.1
            exact ⟨by rw [← rs.length]; exact hf.2, fun p hp => (k.n l kk s.g hcc).tup g' hp rs0⟩
        · cases hd
    | _ => simp [chkA] at hc
  | .lst es, e, hc => by
    cases e with
    | List xs pos =>
      simp only [chkA, Bool.and_eq_true] at hc
      refine both (fun d hd σ H F c Q s k => ?_) rfl
      simp only [evA] at hd
      cases q : evAs tr rt es with
      | none => rw [q] at hd; cases hd
      | some ds =>
        rw [q] at hd
        have hd : (if isFs ds = true ∧ ds.length ≤ sizeLine then some (D.lst true ds) else none) = some d := hd
        split at hd
        · rename_i hf
          cases hd
          refine mx_of (pe_lst (pa_all (allPE_mx xs) hc.1)) ?_
          have z := evAs_ok ok es xs ds hc.2 q σ H F c (fun vs H1 Q => vs.length ≤ sizeLine ∧ ∀ p, H1 p = none → Q (.ref p) (upd H1 p (.lst vs))) Q s fun vs H' F' c' l kk g' hcc hr => ?_
          · rw [tL_ops] at z; exact z
          · obtain ⟨cv, rs, hcv⟩ := hr.rps
            have rs0 := rs.flat hf.1
            exact ⟨by rw [← rs.length]; exact hf.2, fun p hp => (k.n l kk s.g hcc).lst g' hp rs0⟩
        · cases hd
    | _ => simp [chkA] at hc
  | .dic0, e, hc => by
    cases e with
    | Dict ks vs pos =>
      refine both (fun d hd σ H F c Q s k => ?_) rfl
      cases hd
      cases ks <;> cases vs <;> first | (simp [chkA] at hc; done) | skip
      refine mx_of pe_dnewK fun p hp => ?_
      obtain ⟨g', kk⟩ := s.g.new (o := .dK []) hp
      refine fresh_sep k (Le.refl F) kk (cd := [p]) g' ?_
      simp only [Rp, Rps]
      exact ⟨p, [], [], rfl, rfl, List.nodup_nil, upd_same, ⟨rfl, rfl⟩, rfl⟩
    | _ => simp [chkA] at hc
  | .and es, e, hc => by
    cases e with
    | BoolOp op xs pos =>
      cases op with
      | And =>
        simp only [chkA] at hc
        obtain ⟨h1, h2⟩ := evAnd_ok ok es xs pos hc
        exact ⟨fun d hd => h1 d hd, fun _ b hb σ H F c Q s k => ⟨_, pw_mx.pt, h2 b hb σ H F c Q s k⟩⟩
      | Or => simp [chkA] at hc
    | _ => simp [chkA] at hc
  | .or es, e, hc => by
    cases e with
    | BoolOp op xs pos =>
      cases op with
      | Or =>
        simp only [chkA] at hc
        obtain ⟨h1, h2⟩ := evOr_ok ok es xs pos hc
        exact ⟨fun d hd => h1 d hd, fun _ b hb σ H F c Q s k => ⟨_, pw_mx.pt, h2 b hb σ H F c Q s k⟩⟩
      | And => simp [chkA] at hc
    | _ => simp [chkA] at hc
  | .not a, e, hc => by
    cases e with
    | UnaryOp op x pos =>
      cases op with
      | Not =>
        simp only [chkA, Bool.and_eq_true] at hc
        refine ⟨fun d hd σ H F c Q s k => ?_, fun _ b hd σ H F c Q s k => ?_⟩
        · simp only [evA] at hd
          split at hd
          · rename_i b q
            cases hd
            refine mx_of (pe_not pe_mx) ((evA_ok ok a x hc.2).1 _ q σ H F c _ s fun v H' F' c' cd l kk g' hcc hcd _ r => ?_)
            exact ⟨b, r.blE, k _ H' F' c' [] l kk g' hcc (fun z hz => by simp at hz) (fun _ => s.g.of g' hcc) (by simp only [Rp]; exact ⟨trivial, trivial⟩)⟩
          · cases hd
        · simp only [evA] at hd
          split at hd
          · rename_i b q
            cases hd
            exact ⟨_, pt_not pt_mx, (evA_ok ok a x hc.2).2 hc.1 b q σ H F c _ s fun H' F' c' l kk g' hcc => k H' F' c' l kk g' hcc⟩
          · cases hd
      | _ => simp [chkA] at hc
    | _ => simp [chkA] at hc
  | .ite c' a b, e, hc => by
    cases e with
    | IfExp x y z pos =>
      simp only [chkA, Bool.and_eq_true] at hc
      obtain ⟨⟨⟨h0, h1⟩, h2⟩, h3⟩ := hc
      refine ⟨fun d hd σ H F c Q s k => ?_, fun h => nomatch h⟩
      simp only [evA] at hd
      split at hd
      · rename_i b0 q
        refine mx_of (pe_ifExp pt_mx pe_mx pe_mx) ((evA_ok ok c' x h1).2 h0 b0 q σ H F c _ s fun H' F' cc l kk g' hcc => ?_)
        cases b0 with
        | true =>
          rw [if_pos rfl] at hd ⊢
          cases q2 : evA tr rt a with
          | none => rw [q2] at hd; cases hd
          | some dd =>
            rw [q2] at hd
            have hd : (if isF dd = true then some dd else none) = some d := hd
            split at hd
            · rename_i hf
              cases hd
              refine (evA_ok ok a y h2).1 d q2 σ H' F' cc Q (s.keep l kk g' hcc) fun v H2 F2 c2 cd l2 k2 g2 hc2 hcd _ r => ?_
              exact k v H2 F2 c2 [] (l.trans l2) (fun z hz => (k2 z (hcc z hz)).trans (kk z hz)) g2 (fun z hz => hc2 z (hcc z hz)) (fun z hz => by simp at hz) (fun _ => s.g.of g2 fun z hz => hc2 z (hcc z hz)) (r.flat hf)
            · cases hd
        | false =>
          simp only [Bool.false_eq_true, if_false] at hd ⊢
          cases q2 : evA tr rt b with
          | none => rw [q2] at hd; cases hd
          | some dd =>
            rw [q2] at hd
            have hd : (if isF dd = true then some dd else none) = some d := hd
            split at hd
            · rename_i hf
              cases hd
              refine (evA_ok ok b z h3).1 d q2 σ H' F' cc Q (s.keep l kk g' hcc) fun v H2 F2 c2 cd l2 k2 g2 hc2 hcd _ r => ?_
              exact k v H2 F2 c2 [] (l.trans l2) (fun z hz => (k2 z (hcc z hz)).trans (kk z hz)) g2 (fun z hz => hc2 z (hcc z hz)) (fun z hz => by simp at hz) (fun _ => s.g.of g2 fun z hz => hc2 z (hcc z hz)) (r.flat hf)
            · cases hd
      · cases hd
    | _ => simp [chkA] at hc
  | .ch o1 o2 a b c0, e, hc => by
    simp only [chkA] at hc
    split at hc
    case h_2 => cases hc
    case h_1 q0 hq =>
    obtain ⟨p1, p2, x, y, z⟩ := q0
    obtain ⟨pos, rfl⟩ := shCh_some hq
    simp only [Bool.and_eq_true, decide_eq_true_eq, Bool.not_eq_true'] at hc
    obtain ⟨⟨⟨⟨⟨⟨⟨rfl, rfl⟩, g1⟩, g2⟩, hm⟩, h1⟩, h2⟩, h3⟩ := hc
    have go : ∀ d, evA tr rt (.ch p1 p2 a b c0) = some d → ∀ (σ : L2.St) (H F : Hp) (c : List Addr) (Q : VK), Stt X.K X.mg H F tr rt σ c → PostQ X.K X.mg true H F c d Q →
        tChain (rI0 fun i j => .bl (cmpB p1 i j)) (rI0 fun i j => .bl (cmpB p2 i j)) (mx X x) (mx X y) (mx X z) σ H Q := by
      intro d hd σ H F c Q s k
      simp only [evA] at hd
      split at hd
      · rename_i i j q1 q2
        refine (evA_ok ok a x h1).1 _ q1 σ H F c _ s fun v H1 F1 c1 cd l1 k1 gg1 hc1 hcd _ r1 => ?_
        refine (evA_ok ok b y h2).1 _ q2 σ H1 F1 c1 _ (s.keep l1 k1 gg1 hc1) fun w H2 F2 c2 cw l2 k2 gg2 hc2 hcw _ r2 => ?_
        have s2 := (s.keep l1 k1 gg1 hc1).keep l2 k2 gg2 hc2
        refine ⟨i, j, r1.intE, r2.intE, ⟨_, rfl, ?_⟩⟩
        have fin : ∀ (bb : Bool) (H3 F3 : Hp) (c3 : List Addr), d = .bl bb → Le F2 F3 → (∀ a ∈ c2, H3 a = H2 a) → Good H3 F3 c3 → (∀ a ∈ c2, a ∈ c3) → Q (.bl bb) H3 := by
          intro bb H3 F3 c3 e l3 k3 gg3 hc3
          subst e
          exact k (.bl bb) H3 F3 c3 [] (l1.trans (l2.trans l3)) (fun a ha => (k3 a (hc2 a (hc1 a ha))).trans ((k2 a (hc1 a ha)).trans (k1 a ha))) gg3 (fun a ha => hc3 a (hc2 a (hc1 a ha))) (fun a ha => by simp at ha) (fun _ => s.g.of gg3 fun a ha => hc3 a (hc2 a (hc1 a ha))) (by simp only [Rp]; exact ⟨trivial, trivial⟩)
        cases hb : cmpB p1 i j with
        | false =>
          rw [hb] at hd
          simp only [Bool.false_eq_true, if_false] at hd ⊢
          cases hd
          exact fin false H2 F2 c2 rfl (Le.refl _) (fun _ _ => rfl) gg2 (fun _ h => h)
        | true =>
          rw [hb] at hd
          simp only [if_true] at hd ⊢
          split at hd
          · rename_i kk q3
            cases hd
            refine (evA_ok ok c0 z h3).1 _ q3 σ H2 F2 c2 _ s2 fun u H3 F3 c3 cu l3 k3 gg3 hc3 hcu _ r3 => ?_
            exact ⟨j, kk, r2.intE, r3.intE, fin _ H3 F3 c3 rfl l3 k3 gg3 hc3⟩
          · cases hd
      · cases hd
    refine ⟨fun d hd σ H F c Q s k => mx_of (pe_chain (ord_rule g1 X) (ord_rule g2 X) pe_mx pe_mx pe_mx hm) (go d hd σ H F c Q s k), fun _ b0 hb σ H F c Q s k => ?_⟩
    refine ⟨_, pt_chain (ord_rule g1 X) (ord_rule g2 X) pe_mx pe_mx pe_mx hm, ?_⟩
    refine go _ hb σ H F c _ s fun v H' F' c' cd l kk g' hcc hcd _ r => ?_
    exact ⟨b0, r.blE, k H' F' c' l kk g' hcc⟩
  | .slc a b c0, e, hc => by
    simp only [chkA] at hc
    split at hc
    case h_2 => cases hc
    case h_1 q0 hq =>
    obtain ⟨x, y, z⟩ := q0
    obtain ⟨p2, pos, rfl⟩ := shSlc_some hq
    simp only [Bool.and_eq_true] at hc
    obtain ⟨⟨h1, h2⟩, h3⟩ := hc
    refine both (fun d hd σ H F c Q s k => ?_) rfl
    simp only [evA] at hd
    split at hd
    · rename_i dd i j q1 q2 q3
      obtain ⟨r, hr, hk⟩ := slG_ok (X := X) hd
      refine mx_of (pe_slice hr pe_mx (po_some pe_mx) (po_some pe_mx)) ?_
      refine (evA_ok ok a x h1).1 _ q1 σ H F c _ s fun v H1 F1 c1 cd l1 k1 gg1 hc1 hcd _ r1 => ?_
      refine (evA_ok ok b y h2).1 _ q2 σ H1 F1 c1 _ (s.keep l1 k1 gg1 hc1) fun w H2 F2 c2 cw l2 k2 gg2 hc2 hcw _ r2 => ?_
      refine ⟨i, r2.intE, ?_⟩
      refine (evA_ok ok c0 z h3).1 _ q3 σ H2 F2 c2 _ ((s.keep l1 k1 gg1 hc1).keep l2 k2 gg2 hc2) fun u H3 F3 c3 cu l3 k3 gg3 hc3 hcu _ r3 => ?_
      refine ⟨j, r3.intE, ?_⟩
      have r1' := Rp.keep l3 _ v cd (Rp.keep l2 _ v cd r1 fun a ha => k2 a (hcd a ha)) fun a ha => k3 a (hc2 a (hcd a ha))
      exact hk v H3 F3 c3 cd Q r1' gg3 (k.n (l1.trans (l2.trans l3)) (fun a ha => (k3 a (hc2 a (hc1 a ha))).trans ((k2 a (hc1 a ha)).trans (k1 a ha))) s.g (fun a ha => hc3 a (hc2 a (hc1 a ha))))
    · cases hd
theorem evAnd_ok {X : Cx} {N : List Str} {sc : Scope} (ok : XOk P X N sc) {tr rt : Tr} : ∀ (as : List (A P)) (es : List Expr) (pos : Pos), chkTs N sc as es = true →
    (∀ d, evAnd tr rt as = some d → ∀ (σ : L2.St) (H F : Hp) (c : List Addr) (Q : VK), Stt X.K X.mg H F tr rt σ c → PostQ X.K X.mg true H F c d Q → mx X (.BoolOp .And es pos) σ H Q) ∧
    (∀ b, evAnd tr rt as = some (.bl b) → ∀ (σ : L2.St) (H F : Hp) (c : List Addr) (Q : Bool → Hp → Prop), Stt X.K X.mg H F tr rt σ c → (∀ H' F' c', Le F F' → (∀ a ∈ c, H' a = H a) → Good H' F' c' → (∀ a ∈ c, a ∈ c') → Q b H') → mxW X (.BoolOp .And es pos) σ H Q)
  | [], es, pos, hc => ⟨fun d hd => by simp [evAnd] at hd, fun b hb => by simp [evAnd] at hb⟩
  | [a], es, pos, hc => by
    match es, hc with
    | [e], hc =>
      simp only [chkTs, Bool.and_eq_true] at hc
      refine ⟨fun d hd σ H F c Q s k => ?_, fun b hd σ H F c Q s k => ?_⟩
      · simp only [evAnd] at hd
        cases q : evA tr rt a with
        | none => rw [q] at hd; cases hd
        | some dd =>
          rw [q] at hd
          have hd : (if isF dd = true then some dd else none) = some d := hd
          split at hd
          · rename_i hf
            cases hd
            refine mx_of (pe_one pe_mx) ((evA_ok ok a e hc.1.2).1 d q σ H F c Q s fun v H2 F2 c2 cd l2 k2 g2 hc2 hcd _ r => ?_)
            exact k v H2 F2 c2 [] l2 k2 g2 hc2 (fun z hz => by simp at hz) (fun _ => s.g.of g2 hc2) (r.flat hf)
          · cases hd
      · simp only [evAnd] at hd
        cases q : evA tr rt a with
        | none => rw [q] at hd; cases hd
        | some dd =>
          rw [q] at hd
          have hd : (if isF dd = true then some dd else none) = some (.bl b) := hd
          split at hd
          · rename_i hf
            cases hd
            exact ⟨_, pw_and1 pt_mx, (evA_ok ok a e hc.1.2).2 hc.1.1 b q σ H F c Q s k⟩
          · cases hd
    | [], hc => simp [chkTs] at hc
    | _ :: _ :: _, hc => simp [chkTs] at hc
  | a :: a2 :: r, es, pos, hc => by
    match es, hc with
    | e :: e2 :: t, hc =>
      have hc' : chkTs N sc (a2 :: r) (e2 :: t) = true := by
        simp only [chkTs, Bool.and_eq_true] at hc ⊢
        exact hc.2
      have hca : noIte a = true ∧ chkA N sc a e = true := by
        simp only [chkTs, Bool.and_eq_true] at hc
        exact hc.1
      obtain ⟨i1, i2⟩ := evAnd_ok ok (a2 :: r) (e2 :: t) pos hc'
      refine ⟨fun d hd σ H F c Q s k => ?_, fun b hd σ H F c Q s k => ?_⟩
      · simp only [evAnd] at hd
        split at hd
        · rename_i q
          refine mx_of (pe_and pe_mx pe_mx) ((evA_ok ok a e hca.2).1 _ q σ H F c _ s fun v H2 F2 c2 cd l2 k2 g2 hc2 hcd _ r => ⟨true, r.blE, ?_⟩)
          rw [if_pos rfl]
          exact i1 d hd σ H2 F2 c2 Q (s.keep l2 k2 g2 hc2) (k.later l2 k2 s.g hc2)
        · rename_i q
          cases hd
          refine mx_of (pe_and pe_mx pe_mx) ((evA_ok ok a e hca.2).1 _ q σ H F c _ s fun v H2 F2 c2 cd l2 k2 g2 hc2 hcd _ r => ⟨false, r.blE, ?_⟩)
          simp only [Bool.false_eq_true, if_false]
          exact k _ H2 F2 c2 [] l2 k2 g2 hc2 (fun z hz => by simp at hz) (fun _ => s.g.of g2 hc2) (by simp only [Rp]; exact ⟨trivial, trivial⟩)
        · cases hd
      · simp only [evAnd] at hd
        split at hd
        · rename_i q
          refine ⟨_, pw_and pt_mx pw_mx, (evA_ok ok a e hca.2).2 hca.1 _ q σ H F c _ s fun H2 F2 c2 l2 k2 g2 hc2 => ?_⟩
          rw [if_pos rfl]
          exact i2 b hd σ H2 F2 c2 Q (s.keep l2 k2 g2 hc2) fun H3 F3 c3 l3 k3 g3 hc3 => k H3 F3 c3 (l2.trans l3) (fun z hz => (k3 z (hc2 z hz)).trans (k2 z hz)) g3 fun z hz => hc3 z (hc2 z hz)
        · rename_i q
          cases hd
          refine ⟨_, pw_and pt_mx pw_mx, (evA_ok ok a e hca.2).2 hca.1 _ q σ H F c _ s fun H2 F2 c2 l2 k2 g2 hc2 => ?_⟩
          simp only [Bool.false_eq_true, if_false]
          exact k H2 F2 c2 l2 k2 g2 hc2
        · cases hd
    | [], hc => simp [chkTs] at hc
    | [_], hc => simp [chkTs] at hc
theorem evOr_ok {X : Cx} {N : List Str} {sc : Scope} (ok : XOk P X N sc) {tr rt : Tr} : ∀ (as : List (A P)) (es : List Expr) (pos : Pos), chkTs N sc as es = true →
    (∀ d, evOr tr rt as = some d → ∀ (σ : L2.St) (H F : Hp) (c : List Addr) (Q : VK), Stt X.K X.mg H F tr rt σ c → PostQ X.K X.mg true H F c d Q → mx X (.BoolOp .Or es pos) σ H Q) ∧
    (∀ b, evOr tr rt as = some (.bl b) → ∀ (σ : L2.St) (H F : Hp) (c : List Addr) (Q : Bool → Hp → Prop), Stt X.K X.mg H F tr rt σ c → (∀ H' F' c', Le F F' → (∀ a ∈ c, H' a = H a) → Good H' F' c' → (∀ a ∈ c, a ∈ c') → Q b H') → mxW X (.BoolOp .Or es pos) σ H Q)
  | [], es, pos, hc => ⟨fun d hd => by simp [evOr] at hd, fun b hb => by simp [evOr] at hb⟩
  | [a], es, pos, hc => by
    match es, hc with
    | [e], hc =>
      simp only [chkTs, Bool.and_eq_true] at hc
      refine ⟨fun d hd σ H F c Q s k => ?_, fun b hd σ H F c Q s k => ?_⟩
      · simp only [evOr] at hd
        cases q : evA tr rt a with
        | none => rw [q] at hd; cases hd
        | some dd =>
          rw [q] at hd
          have hd : (if isF dd = true then some dd else none) = some d := hd
          split at hd
          · rename_i hf
            cases hd
            refine mx_of (pe_one pe_mx) ((evA_ok ok a e hc.1.2).1 d q σ H F c Q s fun v H2 F2 c2 cd l2 k2 g2 hc2 hcd _ r => ?_)
            exact k v H2 F2 c2 [] l2 k2 g2 hc2 (fun z hz => by simp at hz) (fun _ => s.g.of g2 hc2) (r.flat hf)
          · cases hd
      · simp only [evOr] at hd
        cases q : evA tr rt a with
        | none => rw [q] at hd; cases hd
        | some dd =>
          rw [q] at hd
          have hd : (if isF dd = true then some dd else none) = some (.bl b) := hd
          split at hd
          · rename_i hf
            cases hd
            exact ⟨_, pw_or1 pt_mx, (evA_ok ok a e hc.1.2).2 hc.1.1 b q σ H F c Q s k⟩
          · cases hd
    | [], hc => simp [chkTs] at hc
    | _ :: _ :: _, hc => simp [chkTs] at hc
  | a :: a2 :: r, es, pos, hc => by
    match es, hc with
    | e :: e2 :: t, hc =>
      have hc' : chkTs N sc (a2 :: r) (e2 :: t) = true := by
        simp only [chkTs, Bool.and_eq_true] at hc ⊢
        exact hc.2
      have hca : noIte a = true ∧ chkA N sc a e = true := by
        simp only [chkTs, Bool.and_eq_true] at hc
        exact hc.1
      obtain ⟨i1, i2⟩ := evOr_ok ok (a2 :: r) (e2 :: t) pos hc'
      refine ⟨fun d hd σ H F c Q s k => ?_, fun b hd σ H F c Q s k => ?_⟩
      · simp only [evOr] at hd
        split at hd
        · rename_i q
          refine mx_of (pe_or pe_mx pe_mx) ((evA_ok ok a e hca.2).1 _ q σ H F c _ s fun v H2 F2 c2 cd l2 k2 g2 hc2 hcd _ r => ⟨false, r.blE, ?_⟩)
          simp only [Bool.false_eq_true, if_false]
          exact i1 d hd σ H2 F2 c2 Q (s.keep l2 k2 g2 hc2) (k.later l2 k2 s.g hc2)
        · rename_i q
          cases hd
          refine mx_of (pe_or pe_mx pe_mx) ((evA_ok ok a e hca.2).1 _ q σ H F c _ s fun v H2 F2 c2 cd l2 k2 g2 hc2 hcd _ r => ⟨true, r.blE, ?_⟩)
          rw [if_pos rfl]
          exact k _ H2 F2 c2 [] l2 k2 g2 hc2 (fun z hz => by simp at hz) (fun _ => s.g.of g2 hc2) (by simp only [Rp]; exact ⟨trivial, trivial⟩)
        · cases hd
      · simp only [evOr] at hd
        split at hd
        · rename_i q
          refine ⟨_, pw_or pt_mx pw_mx, (evA_ok ok a e hca.2).2 hca.1 _ q σ H F c _ s fun H2 F2 c2 l2 k2 g2 hc2 => ?_⟩
          simp only [Bool.false_eq_true, if_false]
          exact i2 b hd σ H2 F2 c2 Q (s.keep l2 k2 g2 hc2) fun H3 F3 c3 l3 k3 g3 hc3 => k H3 F3 c3 (l2.trans l3) (fun z hz => (k3 z (hc2 z hz)).trans (k2 z hz)) g3 fun z hz => hc3 z (hc2 z hz)
        · rename_i q
          cases hd
          refine ⟨_, pw_or pt_mx pw_mx, (evA_ok ok a e hca.2).2 hca.1 _ q σ H F c _ s fun H2 F2 c2 l2 k2 g2 hc2 => ?_⟩
          rw [if_pos rfl]
          exact k H2 F2 c2 l2 k2 g2 hc2
        · cases hd
    | [], hc => simp [chkTs] at hc
    | [_], hc => simp [chkTs] at hc
theorem evAs_ok {X : Cx} {N : List Str} {sc : Scope} (ok : XOk P X N sc) {tr rt : Tr} : ∀ (as : List (A P)) (es : List Expr) (ds : List D), chkAs N sc as es = true → evAs tr rt as = some ds →
    ∀ (σ : L2.St) (H F : Hp) (c : List Addr) (R : List V → Hp → VK → Prop) (Q : VK), Stt X.K X.mg H F tr rt σ c →
      (∀ vs H' F' c', Le F F' → (∀ a ∈ c, H' a = H a) → Good H' F' c' → (∀ a ∈ c, a ∈ c') → RpE X.K X.mg H' F' c' ds vs → R vs H' Q) → tOps (es.map (mx X)) R σ H Q
  | [], es, ds, hc, hd, σ, H, F, c, R, Q, s, k => by
    cases es with
    | nil =>
      cases hd
      exact k [] H F c (Le.refl F) (fun _ _ => rfl) s.g (fun _ ha => ha) (by simp only [RpE])
    | cons _ _ => simp [chkAs] at hc
  | a :: r, es, ds, hc, hd, σ, H, F, c, R, Q, s, k => by
    cases es with
    | nil => simp [chkAs] at hc
    | cons e t =>
      simp only [chkAs, Bool.and_eq_true] at hc
      simp only [evAs] at hd
      split at hd
      · rename_i x y e1 e2
        cases hd
        show mx X e σ H _
        refine (evA_ok ok a e hc.1).1 x e1 σ H F c _ s fun v H1 F1 c1 cd l k1 g1 hcc hcd _ rp => ?_
        refine evAs_ok ok r t y hc.2 e2 σ H1 F1 c1 (fun vs => R (v :: vs)) Q (s.keep l k1 g1 hcc) fun vs H2 F2 c2 l2 k2 g2 h2 hr => ?_
        refine k (v :: vs) H2 F2 c2 (l.trans l2) (fun z hz => (k2 z (hcc z hz)).trans (k1 z hz)) g2 (fun z hz => h2 z (hcc z hz)) ?_
        simp only [RpE]
        exact ⟨v, vs, cd, rfl, Rp.keep l2 x v cd rp fun z hz => k2 z (hcd z hz), fun z hz => h2 z (hcd z hz), hr⟩
      · cases hd
end
end Ev
end
section
set_option maxRecDepth 100000
set_option maxHeartbeats 4000000
namespace Ev
open PySem PySem.Spec L2

/-- an error of an own class with its fields -/
structure Xn where
  C : Str
  fs : List Str
  xs : List D
inductive Rs (α : Type) where
  | ok (a : α) (t : Tr)
  | ex (x : Xn) (t : Tr)
/-- a call's end: the answer or the error, the trees of the arguments that were lent -/
inductive CR where
  | ok (d : D) (o : List (Option D))
  | ex (x : Xn) (o : List (Option D))
abbrev FKey := Str × Option Str
abbrev Cl := FKey → List (Bool × D) → Option CR
inductive Stp where
  | at (f : Str) | ix (n : Nat) | ky (k : Key)
inductive Opd where
  | ref (i : Nat) | val (d : D) | dp (i : Nat) (st : List Stp)
inductive Tg where
  | n (i : Nat)
  | t (l : List Tg)
inductive Fn where
  | glob (f : Str)
  | meth (C m : Str)
  | mk (C : Str)
  | mkd (C : Str) (d : D)
  /-- the operands are lent to be read; the answer holds none of them -/
  | globB (f : Str)
  /-- what the slot holds -/
  | fv (i : Nat)

/-- a built-in method that changes its receiver, or a store into it: f the receiver's tree and the operands' trees to the answer and the receiver's tree behind -/
structure Mut (P : Pg) where
  f : D → List D → Option (D × D)
  hd : D → Bool
  Mid : PySem.W.Frag → V → Hp → Prop
  sh : Scope → Expr → Option (Expr × List Expr)
  mid : ∀ (K : PySem.W.Frag) (mg : Str → Option Value) (d : D), hd d = true → ∀ (x : V) (H F : Hp) (c : List Addr), Rp K mg H F d x c → Le F H → Mid K x H
  pl : ∀ sc e x ys, sh sc e = some (x, ys) → noComp e = true
  sound : ∀ (X : Cx) (N : List Str) (sc : Scope), XOk P X N sc → ∀ (e x : Expr) (ys : List Expr), sh sc e = some (x, ys) → ∃ R, HasM X e x ys (Mid X.K) R
  ok : ∀ (X : Cx) (N : List Str) (sc : Scope), XOk P X N sc → ∀ (e x : Expr) (ys : List Expr), sh sc e = some (x, ys) → ∀ (d : D) (ds : List D) (a d' : D), f d ds = some (a, d') →
    ∃ R, HasM X e x ys (Mid X.K) R ∧ ∀ (x : V) (ws : List V) (H F : Hp) (c cd cw : List Addr) (Q : VK), Rp X.K X.mg H F d x cd → Rps X.K X.mg H F ds ws cw → Good H F (cd ++ cw ++ c) →
      (∀ v H' F' cr cd', Le F F' → (∀ b ∈ c, H' b = H b) → Good H' F' (cr ++ cd' ++ c) → Rp X.K X.mg H' F' a v cr → Rp X.K X.mg H' F' d' x cd' → Q v H') → R (x :: ws) H Q
/-- a walk: the operands' trees to the items -/
structure Itr (P : Pg) where
  f : List D → Option (List D)
  sh : Scope → Expr → Expr → Option (List Expr)
  pl : ∀ sc tg e es, sh sc tg e = some es → plainX e = true
  sound : ∀ (X : Cx) (N : List Str) (sc : Scope), XOk P X N sc → ∀ (tg e : Expr) (es : List Expr), sh sc tg e = some es →
    ∃ S : List V → Hp → (It → Hp → Prop) → Prop, ∀ ts, AllPE X es ts → PI X tg e (fun σ H R => tL ts σ H fun vs H1 => S vs H1 R)
  ok : ∀ (X : Cx) (N : List Str) (sc : Scope), XOk P X N sc → ∀ (tg e : Expr) (es : List Expr), sh sc tg e = some es → ∀ (ds l : List D), f ds = some l →
    ∃ S : List V → Hp → (It → Hp → Prop) → Prop, (∀ ts, AllPE X es ts → PI X tg e (fun σ H R => tL ts σ H fun vs H1 => S vs H1 R)) ∧
      ∀ vs, ∃ J : It, (∀ H F c R, RpE X.K X.mg H F c ds vs → Good H F c → R J H → S vs H R) ∧
        ∀ H F c, RpE X.K X.mg H F c ds vs → Good H F c → ∀ i : Nat, (∀ d, l[i]? = some d → J.go i H ∧ ∀ x H', J.yld i H x H' → ∃ F', Le F F' ∧ Good H' F' c ∧ (∀ a ∈ c, H' a = H a) ∧ Rp X.K X.mg H' F' d x []) ∧ (l.length ≤ i → J.stop i H)

inductive B (P : Pg) where
  | pu (a : A P) | nm (i : Nat) | mv (i : Nat)
  | fz (b : B P)
  | rf (i : Nat) | dp (a : A P)
  | q (o : Opr P) (es : List (B P))
  | qm (o : OprM P) (es : List (B P))
  | tup (es : List (B P)) | lst (es : List (B P))
  | and (es : List (B P)) | or (es : List (B P)) | not (a : B P)
  | call (f : Fn) (hid : Option Nat) (es : List (B P))
  | mut (o : Mut P) (hid : Option Nat) (es : List (B P))
  | lc (elt : B P) (tg : Tg) (own : List (Str × Nat)) (it : Itr P) (es : List (B P)) (ifs : List (B P))

/-! ### paths -/
def getS : D → Stp → Option D
  | .ins _ _ fs xs, .at f => (fs.zip xs).lookup f
  | .lst _ xs, .ix n => xs[n]?
  | .tup xs, .ix n => xs[n]?
  | .dic _ ks xs, .ky k => valD ks xs k
  | _, _ => none
def idxOf (f : Str) : List Str → Option Nat
  | [] => none
  | g :: r => if g = f then some 0 else (idxOf f r).map (· + 1)
def idxOfK (f : Key) : List Key → Option Nat
  | [] => none
  | g :: r => if g = f then some 0 else (idxOfK f r).map (· + 1)
def setS : D → Stp → D → Option D
  | .ins o C fs xs, .at f, d => (idxOf f fs).map fun i => .ins o C fs (xs.set i d)
  | .lst o xs, .ix n, d => some (.lst o (xs.set n d))
  | .tup xs, .ix n, d => some (.tup (xs.set n d))
  | .dic o ks xs, .ky k, d => (idxOfK k ks).map fun i => .dic o ks (xs.set i d)
  | _, _, _ => none
def getP : D → List Stp → Option D
  | d, [] => some d
  | d, s :: r => (getS d s).bind fun e => getP e r
def putP : D → List Stp → D → Option D
  | _, [], d' => some d'
  | d, s :: r, d' => (getS d s).bind fun e => (putP e r d').bind fun e' => setS d s e'
/-- the step that an index is -/
def stpOf : D → D → Option Stp
  | .lst _ xs, .int i => (ixN xs.length i).map .ix
  | .tup xs, .int i => (ixN xs.length i).map .ix
  | _, _ => none
section
variable {P : Pg}
def pth (tr rt : Tr) : A P → Option (Nat × List Stp)
  | .v i => some (i, [])
  | .att a f => (pth tr rt a).map fun q => (q.1, q.2 ++ [.at f])
  | .ix a b => match pth tr rt a, evA tr rt a, evA tr rt b with
    | some q, some x, some y => (stpOf x y).map fun s => (q.1, q.2 ++ [s])
    | _, _, _ => none
  | _ => none

/-! ### lending -/
/-- q: the tree of the path that is lent -/
def lend : Option D → List Opd → Tr → Option (List (Bool × D) × Tr)
  | none, [], t => some ([], t)
  | some _, [], _ => none
  | q, .ref i :: r, t => match t[i]? with
    | some (some d) => (lend q r (t.set i none)).map fun z => ((true, d) :: z.1, z.2)
    | _ => none
  | q, .val d :: r, t => (lend q r t).map fun z => ((false, d) :: z.1, z.2)
  | some d, .dp _ _ :: r, t => (lend none r t).map fun z => ((true, d) :: z.1, z.2)
  | none, .dp _ _ :: _, _ => none
def giveB : List Opd → List (Option D) → Tr → Option D → Option (Tr × Option D)
  | [], [], t, q => some (t, q)
  | .ref i :: r, o :: os, t, q => giveB r os (t.set i o) q
  | .val _ :: r, none :: os, t, q => giveB r os t q
  | .dp _ _ :: r, o :: os, t, _ => giveB r os t o
  | _, _, _, _ => none
/-- the operands' trees at the operation -/
def opdD (t : Tr) : Opd → Option D
  | .ref i => match t[i]? with
    | some (some d) => some d
    | _ => none
  | .val d => some d
  | .dp _ _ => none
def opdDs (t : Tr) : List Opd → Option (List D)
  | [] => some []
  | o :: r => match opdD t o, opdDs t r with
    | some x, some y => some (x :: y)
    | _, _ => none
def valsOf : List Opd → Option (List D)
  | [] => some []
  | .val d :: r => (valsOf r).map fun z => d :: z
  | _ => none
mutual
def asg : Tg → D → Tr → Option Tr
  | .n i, d, t => if i < t.length then some (t.set i (some d)) else none
  | .t l, .tup xs, t => asgs l xs t
  | .t l, .lst _ xs, t => asgs l xs t
  | .t _, _, _ => none
def asgs : List Tg → List D → Tr → Option Tr
  | [], [], t => some t
  | g :: gs, d :: ds, t => (asg g d t).bind fun t' => asgs gs ds t'
  | _, _, _ => none
end
def bindR {α β : Type} (m : Option (Rs α)) (k : α → Tr → Option (Rs β)) : Option (Rs β) := match m with
  | some (.ok a t) => k a t
  | some (.ex x t) => some (.ex x t)
  | none => none
def isC (C m : Str) : D → Bool
  | .ins _ C' fs _ => decide (C' = C ∧ m ∉ fs)
  | _ => false
def fkey : Fn → List (Bool × D) → Option FKey
  | .glob f, _ => some (f, none)
  | .meth C m, z :: _ => if isC C m z.2 = true then some (C, some m) else none
  | .meth _ _, [] => none
  | .mk C, _ => some (C, some "__init__")
  | .mkd C _, _ => some (C, some "__init__")
  | .globB f, _ => some (f, none)
  | .fv _, _ => none
/-- what was lent comes back -/
def backR (w : Tr → Option D → Option Tr) (os : List Opd) (t2 : Tr) : Option CR → Option (Rs D)
  | some (.ok d o) => (giveB os o t2 none).bind fun y => (w y.1 y.2).map fun t' => .ok d t'
  | some (.ex x o) => (giveB os o t2 none).bind fun y => (w y.1 y.2).map fun t' => .ex x t'
  | none => none
def backM (w : Tr → Option D → Option Tr) (os : List Opd) (t2 : Tr) : Option CR → Option (Rs D)
  | some (.ok .non (some d :: o)) => (giveB os o t2 none).bind fun y => (w y.1 y.2).map fun t' => .ok d t'
  | some (.ex x (_ :: o)) => (giveB os o t2 none).bind fun y => (w y.1 y.2).map fun t' => .ex x t'
  | _ => none
/-- the answer without the last argument's tree -/
def cutO : Option CR → Option CR
  | some (.ok d o) => some (.ok d o.dropLast)
  | some (.ex x o) => some (.ex x o.dropLast)
  | none => none
mutual
/-- an answer that holds nothing shared that may change -/
def nsD : D → Bool
  | .non => true
  | .bl _ => true
  | .int _ => true
  | .str _ => true
  | .tup xs => nsDs xs
  | .lst true xs => nsDs xs
  | _ => false
def nsDs : List D → Bool
  | [] => true
  | d :: r => nsD d && nsDs r
end
/-- the arguments frozen for the callee, given back as they were -/
def borC (cl1 : List (Bool × D) → Option CR) (args : List (Bool × D)) : Option CR := match cl1 (args.map fun p => (false, frz p.2)) with
  | some (.ok d _) => if nsD d = true then some (.ok d (args.map fun p => if p.1 = true then some p.2 else none)) else none
  | _ => none
def backF (w : Tr → Option D → Option Tr) (os : List Opd) (t2 : Tr) (key : FKey) (cl : Cl) (args : List (Bool × D)) : Fn → Option (Rs D)
  | .globB _ => backR w os t2 (borC (cl key) args)
  | .mkd C dv => backM w os t2 (cutO (cl key (((true, .ins true C [] []) :: args) ++ [(false, dv)])))
  | .mk C => backM w os t2 (cl key ((true, .ins true C [] []) :: args))
  | _ => backR w os t2 (cl key args)
/-- the operands are lent, the call is made, what was lent is given back; q, w: the path's tree, how it is put back -/
def callK (cl : Cl) (f : Fn) (os : List Opd) (t : Tr) (q : Option D) (w : Tr → Option D → Option Tr) : Option (Rs D) :=
  (lend q os t).bind fun z => (fkey f z.1).bind fun key => backF w os z.2 key cl z.1 f
def noW : Tr → Option D → Option Tr := fun t q => match q with
  | none => some t
  | some _ => none
/-- the path's tree in the slot that is hidden -/
def dpOf (i : Nat) : List Opd → Option (List Stp)
  | [] => none
  | .dp j s :: _ => if j = i then some s else none
  | _ :: r => dpOf i r
def backW (i : Nat) (d0 : D) (st : List Stp) : Tr → Option D → Option Tr := fun t q => match q with
  | some d => (putP d0 st d).map fun d' => t.set i (some d')
  | none => none
def wipeT (t : Tr) : List Nat → Tr
  | [] => t
  | v :: vs => (wipeT t vs).set v none
def allT (t rt : Tr) : List (A P) → Option Bool
  | [] => some true
  | a :: r => match evA t rt a with
    | some (.bl true) => allT t rt r
    | some (.bl false) => some false
    | _ => none
open Classical in
/-- the turns of a comprehension -/
noncomputable def lcGo (own : List Nat) (os : List Opd) (ds : List D) (one : D → Tr → Option (Rs (Option D))) : List D → List D → Tr → Option (Rs (List D))
  | [], acc, t => if opdDs t os = some ds then some (.ok acc t) else none
  | x :: r, acc, t => if opdDs t os = some ds then match one x t with
    | some (.ok none t') => lcGo own os ds one r acc (wipeT t' own)
    | some (.ok (some d) t') => if acc.length < sizeLine then lcGo own os ds one r (acc ++ [d]) (wipeT t' own) else none
    | _ => none else none
def hdOk (f : D → Bool) : Option D → Bool
  | some d => f d
  | none => true
/-- the def that is called -/
def resF (P : Pg) (t : Tr) : Fn → Option Fn
  | .fv i => match t[i]? with
    | some (some (.fn g)) => if P.fn g = true then some (.glob g) else none
    | _ => none
  | f => some f
def rcvOk : Fn → Option D → Bool
  | .meth C m, some d => isC C m d
  | _, _ => true
variable (cl : Cl)
mutual
noncomputable def evB (rt : Tr) : B P → Tr → Option (Rs D)
  | .pu a, t => (evA t rt a).bind fun d => if isF d = true ∨ shares a = false then some (.ok d t) else none
  | .nm i, t => match t[i]? with
    | some (some d) => some (.ok (frz d) (t.set i (some (frz d))))
    | _ => none
  | .mv i, t => match t[i]? with
    | some (some d) => some (.ok d (t.set i none))
    | _ => none
  | .fz b, t => bindR (evB rt b t) fun d t1 => some (.ok (frz d) t1)
  | .rf _, _ => none
  | .dp _, _ => none
  | .qm o es, t => if hdOk o.hd (hdD rt es t) = true then bindR (evOs none rt es t) fun os t1 => (opdDs t1 os).bind fun ds => (o.f ds).map fun d => .ok d t1 else none
  | .q o es, t => bindR (evOs none rt es t) fun os t1 => (opdDs t1 os).bind fun ds => (o.f ds).map fun d => .ok d t1
  | .tup es, t => bindR (evOs none rt es t) fun os t1 => (valsOf os).bind fun ds => if ds.length ≤ sizeLine then some (.ok (.tup ds) t1) else none
  | .lst es, t => bindR (evOs none rt es t) fun os t1 => (valsOf os).bind fun ds => if ds.length ≤ sizeLine then some (.ok (.lst true ds) t1) else none
  | .and es, t => evAn rt es t
  | .or es, t => evOn rt es t
  | .not a, t => bindR (evB rt a t) fun d t1 => match d with
    | .bl b => some (.ok (.bl (!b)) t1)
    | _ => none
  | .call f none es, t => if rcvOk f (hdD rt es t) = true then (resF P t f).bind fun f' => bindR (evOs none rt es t) fun os t1 => callK cl f' os t1 none noW else none
  | .call f (some i) es, t => match t[i]? with
    | some (some d0) => if rcvOk f (hdD (rt.set i (some d0)) es (t.set i none)) = true then bindR (evOs (some i) (rt.set i (some d0)) es (t.set i none)) fun os t1 => (dpOf i os).bind fun st => (getP d0 st).bind fun d1 => callK cl f os t1 (some d1) (backW i d0 st) else none
    | _ => none
  | .mut o none es, t => if hdOk o.hd (hdD rt es t) = true then bindR (evOs none rt es t) fun os t1 => match os with
    | .ref i :: r => match t1[i]?, valsOf r with
      | some (some d), some ds => (o.f d ds).map fun z => .ok z.1 (t1.set i (some z.2))
      | _, _ => none
    | _ => none else none
  | .mut o (some i) es, t => match t[i]? with
    | some (some d0) => if hdOk o.hd (hdD (rt.set i (some d0)) es (t.set i none)) = true then bindR (evOs (some i) (rt.set i (some d0)) es (t.set i none)) fun os t1 => match os with
      | .dp j st :: r => match getP d0 st, valsOf r with
        | some d, some ds => if j ≠ i then none else (o.f d ds).bind fun z => (putP d0 st z.2).map fun d' => .ok z.1 (t1.set i (some d'))
        | _, _ => none
      | _ => none else none
    | _ => none
  | .lc elt tg own it es ifs, t => match evOs none rt es t with
    | some (.ok os t1) => (opdDs t1 os).bind fun ds => (it.f ds).bind fun l =>
      match lcGo (own.map (·.2)) os ds (fun x t2 => (asg tg x t2).bind fun t3 => bindR (evIf (wipeT rt (own.map (·.2))) ifs t3) fun b t4 => if b = true then bindR (evB (wipeT rt (own.map (·.2))) elt t4) fun d t5 => some (.ok (some d) t5) else some (.ok none t4)) l [] (wipeT t1 (own.map (·.2))) with
        | some (.ok ys t5) => some (.ok (.lst true ys) t5)
        | _ => none
    | some (.ex x t1) => some (.ex x t1)
    | none => none
noncomputable def evOs (h : Option Nat) (rt : Tr) : List (B P) → Tr → Option (Rs (List Opd))
  | [], t => some (.ok [] t)
  | .rf i :: r, t => match t[i]? with
    | some (some _) => bindR (evOs h rt r t) fun os t2 => some (.ok (.ref i :: os) t2)
    | _ => none
  | .dp a :: r, t => match pth t rt a, evA t rt a with
    | some q, some _ => if h = some q.1 ∧ (t[q.1]?.join).isNone = true then bindR (evOs h rt r t) fun os t2 => some (.ok (.dp q.1 q.2 :: os) t2) else none
    | _, _ => none
  | e :: r, t => bindR (evB rt e t) fun d t1 => bindR (evOs h rt r t1) fun os t2 => some (.ok (.val d :: os) t2)
/-- the receiver's tree -/
noncomputable def hdD (rt : Tr) : List (B P) → Tr → Option D
  | [], _ => none
  | .rf i :: _, t => t[i]?.join
  | .dp a :: _, t => evA t rt a
  | e :: _, t => match evB rt e t with
    | some (.ok d _) => some d
    | _ => none
noncomputable def evIf (rt : Tr) : List (B P) → Tr → Option (Rs Bool)
  | [], t => some (.ok true t)
  | [a], t => bindR (evB rt a t) fun d t1 => match d with
    | .bl b => some (.ok b t1)
    | _ => none
  | _, _ => none
noncomputable def evAn (rt : Tr) : List (B P) → Tr → Option (Rs D)
  | [], _ => none
  | [a], t => evB rt a t
  | a :: r, t => bindR (evB rt a t) fun d t1 => match d with
    | .bl true => evAn rt r t1
    | .bl false => some (.ok (.bl false) t1)
    | _ => none
noncomputable def evOn (rt : Tr) : List (B P) → Tr → Option (Rs D)
  | [], _ => none
  | [a], t => evB rt a t
  | a :: r, t => bindR (evB rt a t) fun d t1 => match d with
    | .bl false => evOn rt r t1
    | .bl true => some (.ok (.bl true) t1)
    | _ => none
end
end
end Ev
end
section
set_option maxRecDepth 100000
set_option maxHeartbeats 4000000
namespace Ev
open PySem PySem.Spec L2
variable {P : Pg}
section
variable {K : PySem.W.Frag} {mg : Str → Option Value} {H F H' F' : Hp}
/-- one item of a row of trees is another one -/
theorem Rps.put : ∀ {xs : List D} {vs : List V} {c : List Addr} {n : Nat} {d1 : D} {v1 : V}, Rps K mg H F xs vs c → xs[n]? = some d1 → vs[n]? = some v1 →
    ∃ c1 rest, c.Perm (c1 ++ rest) ∧ Rp K mg H F d1 v1 c1 ∧ ∀ H' F' d' c', Le F F' → (∀ a ∈ rest, H' a = H a) → Rp K mg H' F' d' v1 c' → ∃ c2, Rps K mg H' F' (xs.set n d') vs c2 ∧ c2.Perm (c' ++ rest)
  | [], vs, c, n, d1, v1, h, e, _ => by simp at e
  | x :: r, vs, c, 0, d1, v1, h, e, e' => by
    simp only [Rps] at h
    obtain ⟨v, w, a1, a2, e1, e2, h1, h2⟩ := h
    subst e1 e2
    simp at e e'
    subst e e'
    refine ⟨a1, a2, List.Perm.refl _, h1, fun H' F' d' c' l k r' => ⟨c' ++ a2, ?_, List.Perm.refl _⟩⟩
    simp only [List.set_cons_zero, Rps]
    exact ⟨v, w, c', a2, rfl, rfl, r', Rps.keep l r w a2 h2 k⟩
  | x :: r, vs, c, n + 1, d1, v1, h, e, e' => by
    simp only [Rps] at h
    obtain ⟨v, w, a1, a2, e1, e2, h1, h2⟩ := h
    subst e1 e2
    obtain ⟨c1, rest, p, q, b⟩ := Rps.put (n := n) h2 (by simpa using e) (by simpa using e')
    refine ⟨c1, a1 ++ rest, ?_, q, fun H' F' d' c' l k r' => ?_⟩
    · refine (p.append_left a1).trans ?_
      rw [← List.append_assoc, ← List.append_assoc]
      exact List.perm_append_comm.append_right _
    · obtain ⟨c2, b1, b2⟩ := b H' F' d' c' l (fun a ha => k a (by simp [ha])) r'
      refine ⟨a1 ++ c2, ?_, ?_⟩
      · simp only [List.set_cons_succ, Rps]
        exact ⟨v, w, a1, c2, rfl, rfl, Rp.keep l x v a1 h1 fun a ha => k a (by simp [ha]), b1⟩
      · refine (b2.append_left a1).trans ?_
        rw [← List.append_assoc, ← List.append_assoc]
        exact List.perm_append_comm.append_right _
theorem lookup_idx {f : Str} : ∀ {fs : List Str} {xs : List D} {d : D}, (fs.zip xs).lookup f = some d → ∃ i, idxOf f fs = some i ∧ xs[i]? = some d ∧ ∀ {vs : List V}, xs.length = vs.length → ∀ v, vs[i]? = some v → (fs.zip vs).lookup f = some v
  | [], xs, d, h => by simp at h
  | _ :: _, [], d, h => by simp at h
  | g :: fs, x :: xs, d, h => by
    rw [List.zip_cons_cons, List.lookup_cons] at h
    cases e : f == g with
    | true =>
      rw [e] at h
      cases h
      have eg : g = f := (beq_iff_eq.mp e).symm
      refine ⟨0, by simp [idxOf, eg], rfl, fun {vs} hl v hv => ?_⟩
      cases vs with
      | nil => simp at hv
      | cons w ws =>
        simp at hv; subst hv
        rw [List.zip_cons_cons, List.lookup_cons, e]
    | false =>
      rw [e] at h
      obtain ⟨i, h0, h1, h2⟩ := lookup_idx h
      have eg : g ≠ f := fun z => by rw [z] at e; simp at e
      refine ⟨i + 1, by simp [idxOf, eg, h0], by simpa using h1, fun {vs} hl v hv => ?_⟩
      cases vs with
      | nil => simp at hv
      | cons w ws =>
        rw [List.zip_cons_cons, List.lookup_cons, e]
        exact h2 (by simpa using hl) v (by simpa using hv)
theorem valD_idx {k : Key} : ∀ {ks : List Key} {xs : List D} {d : D}, valD ks xs k = some d → ∃ i, idxOfK k ks = some i ∧ xs[i]? = some d ∧ ∀ {vs : List V}, xs.length = vs.length → ∀ v, vs[i]? = some v → valV (ks.zip vs) k = some v
  | [], xs, d, h => by simp [valD] at h
  | _ :: _, [], d, h => by simp [valD] at h
  | g :: ks, x :: xs, d, h => by
    by_cases e : g = k
    · subst e
      simp [valD] at h
      subst h
      refine ⟨0, by simp [idxOfK], rfl, fun {vs} hl v hv => ?_⟩
      cases vs with
      | nil => simp at hv
      | cons w ws =>
        simp at hv; subst hv
        rw [List.zip_cons_cons]; exact valV_pos rfl
    · have h' : valD ks xs k = some d := by
        simpa [valD, List.find?_cons, e] using h
      obtain ⟨i, h0, h1, h3⟩ := valD_idx h'
      refine ⟨i + 1, by simp [idxOfK, e, h0], by simpa using h1, fun {vs} hl v hv => ?_⟩
      cases vs with
      | nil => simp at hv
      | cons w ws =>
        rw [List.zip_cons_cons, valV_neg e]
        exact h3 (by simpa using hl) v (by simpa using hv)
/-- the tree d1 at the path st of the tree d0, whose value is v1; it may be another one -/
structure Foc (K : PySem.W.Frag) (mg : Str → Option Value) (H F : Hp) (d0 : D) (v0 : V) (c0 : List Addr) (st : List Stp) (d1 : D) (v1 : V) : Prop where
  get : getP d0 st = some d1
  foc : ∃ c1 rest, c0.Perm (c1 ++ rest) ∧ Rp K mg H F d1 v1 c1 ∧ ∀ H' F' d' c', Le F F' → (∀ a ∈ rest, H' a = H a) → Rp K mg H' F' d' v1 c' → ∃ d2 c2, putP d0 st d' = some d2 ∧ Rp K mg H' F' d2 v0 c2 ∧ c2.Perm (c' ++ rest)
theorem Foc.nil {d0 : D} {v0 : V} {c0 : List Addr} (r : Rp K mg H F d0 v0 c0) : Foc K mg H F d0 v0 c0 [] d0 v0 :=
  ⟨rfl, c0, [], by simp, r, fun H' F' d' c' _ _ r' => ⟨d', c', rfl, r', by simp⟩⟩
theorem Foc.keep {d0 d1 : D} {v0 v1 : V} {c0 : List Addr} {st : List Stp} (h : Foc K mg H F d0 v0 c0 st d1 v1) (l : Le F F') (k : ∀ a ∈ c0, H' a = H a) : Foc K mg H' F' d0 v0 c0 st d1 v1 := by
  obtain ⟨g, c1, rest, p, r, b⟩ := h
  have kr : ∀ a ∈ c1 ++ rest, H' a = H a := fun a ha => k a (p.symm.subset ha)
  exact ⟨g, c1, rest, p, Rp.keep l _ _ _ r fun a ha => kr a (by simp [ha]), fun H2 F2 d' c' l2 k2 r2 => b H2 F2 d' c' (l.trans l2) (fun a ha => (k2 a ha).trans (kr a (by simp [ha]))) r2⟩
theorem getP_snoc : ∀ {st : List Stp} {d0 d1 d2 : D} {s : Stp}, getP d0 st = some d1 → getS d1 s = some d2 → getP d0 (st ++ [s]) = some d2
  | [], d0, d1, d2, s, h, e => by
    cases h
    simp only [List.nil_append, getP, e]; rfl
  | t :: st, d0, d1, d2, s, h, e => by
    simp only [List.cons_append, getP] at h ⊢
    cases q : getS d0 t with
    | none => rw [q] at h; cases h
    | some e1 =>
      rw [q] at h
      have h : getP e1 st = some d1 := h
      show getP e1 (st ++ [s]) = some d2
      exact getP_snoc h e
theorem putP_snoc : ∀ {st : List Stp} {d0 d1 d1' d2 d2' e2 : D} {s : Stp}, getP d0 st = some d1 → getS d1 s = some d2 → setS d1 s d2' = some d1' → putP d0 st d1' = some e2 → putP d0 (st ++ [s]) d2' = some e2
  | [], d0, d1, d1', d2, d2', e2, s, h, e, q, p => by
    cases h
    simp only [putP] at p
    cases p
    simp only [List.nil_append, putP, e]
    show (some d2').bind (fun e' => setS d0 s e') = some d1'
    exact q
  | t :: st, d0, d1, d1', d2, d2', e2, s, h, e, q, p => by
    simp only [List.cons_append, getP, putP] at h p ⊢
    cases z : getS d0 t with
    | none => rw [z] at h; cases h
    | some e1 =>
      rw [z] at h p
      have h : getP e1 st = some d1 := h
      have p : (putP e1 st d1').bind (fun e' => setS d0 t e') = some e2 := p
      show (putP e1 (st ++ [s]) d2').bind (fun e' => setS d0 t e') = some e2
      cases y : putP e1 st d1' with
      | none => rw [y] at p; cases p
      | some e1' =>
        rw [y] at p
        rw [putP_snoc h e q y]
        exact p
/-- one step more -/
theorem Foc.step {d0 d1 d2 : D} {v0 v1 v2 : V} {c0 c1 rest : List Addr} {st : List Stp} {s : Stp} (g : getP d0 st = some d1) (p : c0.Perm (c1 ++ rest))
    (b : ∀ H' F' d' c', Le F F' → (∀ a ∈ rest, H' a = H a) → Rp K mg H' F' d' v1 c' → ∃ d2 c2, putP d0 st d' = some d2 ∧ Rp K mg H' F' d2 v0 c2 ∧ c2.Perm (c' ++ rest))
    (g2 : getS d1 s = some d2)
    (hs : ∃ c2 rest, c1.Perm (c2 ++ rest) ∧ Rp K mg H F d2 v2 c2 ∧ ∀ H' F' d' c', Le F F' → (∀ a ∈ rest, H' a = H a) → Rp K mg H' F' d' v2 c' → ∃ d1' c3, setS d1 s d' = some d1' ∧ Rp K mg H' F' d1' v1 c3 ∧ c3.Perm (c' ++ rest)) :
    Foc K mg H F d0 v0 c0 (st ++ [s]) d2 v2 := by
  obtain ⟨c2, rest2, p2, r2, b2⟩ := hs
  refine ⟨getP_snoc g g2, c2, rest2 ++ rest, ?_, r2, fun H' F' d' c' l k r' => ?_⟩
  · refine p.trans ((p2.append_right rest).trans ?_)
    rw [List.append_assoc]
  · obtain ⟨d1', c3, e1, e2, e3⟩ := b2 H' F' d' c' l (fun a ha => k a (by simp [ha])) r'
    obtain ⟨d3, c4, f1, f2, f3⟩ := b H' F' d1' c3 l (fun a ha => k a (by simp [ha])) e2
    refine ⟨d3, c4, putP_snoc g g2 e1 f1, f2, f3.trans ?_⟩
    refine (e3.append_right rest).trans ?_
    rw [List.append_assoc]
end
/-- a path in the text -/
theorem pth_ok {X : Cx} {N : List Str} {sc : Scope} (ok : XOk P X N sc) {t rt : Tr} {i : Nat} {d0 : D} {v0 : V} (hl : look t rt i = some d0) {σ : L2.St} (hσ : σ[i]? = some (some v0)) :
    ∀ (a : A P) (e : Expr) (st : List Stp) (d1 : D), chkA N sc a e = true → pth t rt a = some (i, st) → evA t rt a = some d1 → ∀ (H F : Hp) (c c0 : List Addr) (Q : VK), Stt X.K X.mg H F t rt σ c → Rp X.K X.mg H F d0 v0 c0 → (∀ z ∈ c0, z ∈ c) →
      (∀ w H' F' c', Le F F' → (∀ z ∈ c, H' z = H z) → Good H' F' c' → (∀ z ∈ c, z ∈ c') → Foc X.K X.mg H' F' d0 v0 c0 st d1 w → Q w H') → mx X e σ H Q
  | .v j, e, st, d1, hc, hp, hd, H, F, c, c0, Q, s, r, hcc, k => by
    cases e with
    | Name x pos =>
      obtain ⟨h1, h2, h3, h4⟩ := visB_ok ok hc
      simp only [pth, Option.some.injEq, Prod.mk.injEq] at hp
      obtain ⟨rfl, rfl⟩ := hp
      have hd : look t rt j = some d1 := hd
      rw [hl] at hd
      cases hd
      exact mx_of (pe_var h1 h2 h3 h4) ⟨v0, hσ, k v0 H F c (Le.refl F) (fun _ _ => rfl) s.g (fun _ h => h) (Foc.nil r)⟩
    | _ => simp [chkA] at hc
  | .att a f, e, st, d1, hc, hp, hd, H, F, c, c0, Q, s, r, hcc, k => by
    cases e with
    | Attribute x g pos =>
      simp only [chkA, Bool.and_eq_true, decide_eq_true_eq] at hc
      obtain ⟨⟨rfl, h2⟩, h3⟩ := hc
      simp only [evA] at hd
      cases q : evA t rt a with
      | none => rw [q] at hd; cases hd
      | some da =>
        rw [q] at hd
        have hd : getA P f da = some d1 := hd
        simp only [pth] at hp
        cases q2 : pth t rt a with
        | none => rw [q2] at hp; cases hp
        | some z =>
          obtain ⟨i', st'⟩ := z
          rw [q2] at hp
          simp only [Option.map_some, Option.some.injEq, Prod.mk.injEq] at hp
          obtain ⟨rfl, rfl⟩ := hp
          refine mx_of (pe_fld (f := f) pe_mx (base_of h2)) (pth_ok ok hl hσ a x st' da h3 q2 q H F c c0 _ s r hcc fun w H' F' c' l kk g' hc' foc => ?_)
          obtain ⟨gp, c1, rest, pp, r1, b⟩ := foc
          match da, hd, r1, b, gp with
          | .ins o C fs xs, hd, r1, b, gp =>
            simp only [getA] at hd
            split at hd
            · rename_i hat
              obtain ⟨n, e0, e1, e2⟩ := lookup_idx hd
              cases o with
              | true =>
                simp only [Rp] at r1
                obtain ⟨bb, A, dx, vs, cs, rfl, q2, q3, q4, q5, rfl⟩ := r1
                obtain ⟨v1, c2, z1, z2, z3⟩ := q5.get e1
                obtain ⟨y1, y2⟩ := ok.cls C A f hat q2
                refine ⟨bb, A, dx, _, v1, rfl, q4, y1, y2, e2 q5.length v1 z1, ?_⟩
                · refine k v1 H' F' c' l kk g' hc' (Foc.step gp pp b (by exact hd) ?_)
                  obtain ⟨c3, rest3, p3, r3, b3⟩ := q5.put e1 z1
                  refine ⟨c3, bb :: rest3, ?_, r3, fun H2 F2 d' c'' l2 k2 r2 => ?_⟩
                  · exact (p3.cons bb).trans List.perm_middle.symm
                  · obtain ⟨c4, f1, f2⟩ := b3 H2 F2 d' c'' l2 (fun z hz => k2 z (by simp [hz])) r2
                    refine ⟨.ins true C fs (xs.set n d'), bb :: c4, by simp [setS, e0], ?_, ?_⟩
                    · simp only [Rp]
                      exact ⟨bb, A, dx, vs, c4, rfl, q2, by rw [List.length_set]; exact q3, (k2 bb (by simp)).trans q4, f1, rfl⟩
                    · exact (f2.cons bb).trans List.perm_middle.symm
              | false =>
                simp only [Rp] at r1
                obtain ⟨bb, A, dx, vs, rfl, q2, q3, q4, q5⟩ := r1
                obtain ⟨v1, c2, z1, z2, z3⟩ := q5.get e1
                obtain ⟨y1, y2⟩ := ok.cls C A f hat q2
                refine ⟨bb, A, dx, _, v1, rfl, g'.sub _ _ q4, y1, y2, e2 q5.length v1 z1, ?_⟩
                refine k v1 H' F' c' l kk g' hc' (Foc.step gp pp b (by exact hd) ?_)
                obtain ⟨c3, rest3, p3, r3, b3⟩ := q5.put e1 z1
                refine ⟨c3, rest3, p3, r3, fun H2 F2 d' c'' l2 k2 r2 => ?_⟩
                obtain ⟨c4, f1, f2⟩ := b3 H2 F2 d' c'' l2 (fun z hz => k2 z hz) r2
                refine ⟨.ins false C fs (xs.set n d'), c4, by simp [setS, e0], ?_, f2⟩
                simp only [Rp]
                exact ⟨bb, A, dx, vs, rfl, q2, by rw [List.length_set]; exact q3, l2 _ _ q4, f1⟩
            · cases hd
    | _ => simp [chkA] at hc
  | .ix a b, e, st, d1, hc, hp, hd, H, F, c, c0, Q, s, r, hcc, k => by
    cases e with
    | Subscript x y pos =>
      simp only [chkA, Bool.and_eq_true] at hc
      obtain ⟨⟨h1, h2⟩, h3⟩ := hc
      simp only [evA] at hd
      split at hd
      · rename_i da db q1 q2
        simp only [pth] at hp
        rw [q1, q2] at hp
        cases q3 : pth t rt a with
        | none => rw [q3] at hp; cases hp
        | some z =>
          obtain ⟨i', st'⟩ := z
          rw [q3] at hp
          have hp : ((stpOf da db).map fun s => (i', st' ++ [s])) = some (i, st) := hp
          cases q4 : stpOf da db with
          | none => rw [q4] at hp; cases hp
          | some stp =>
            rw [q4] at hp
            simp only [Option.map_some, Option.some.injEq, Prod.mk.injEq] at hp
            obtain ⟨rfl, rfl⟩ := hp
            have go : ∀ (rr : R2), PE X (.Subscript x y pos) (tOp rr (mx X x) (mx X y)) →
                (∀ v w H' F' c' cw, Le F F' → (∀ a ∈ c, H' a = H a) → Good H' F' c' → (∀ a ∈ c, a ∈ c') → Foc X.K X.mg H' F' d0 v0 c0 st' da v → Rp X.K X.mg H' F' db w cw → rr v w H' Q) → mx X (.Subscript x y pos) σ H Q := by
              intro rr hpe hr
              refine mx_of hpe (pth_ok ok hl hσ a x st' da h2 q3 q1 H F c c0 _ s r hcc fun v H1 F1 c1 l1 k1 g1 hc1 foc => ?_)
              refine (evA_ok ok b y h3).1 db q2 σ H1 F1 c1 _ (s.keep l1 k1 g1 hc1) fun w H2 F2 c2 cw l2 k2 g2 hc2 hcw _ r2 => ?_
              exact hr v w H2 F2 c2 cw (l1.trans l2) (fun z hz => (k2 z (hc1 z hz)).trans (k1 z hz)) g2 (fun z hz => hc2 z (hc1 z hz)) (foc.keep l2 fun z hz => k2 z (hc1 z (hcc z hz))) r2
            match da, db, hd, q4, go with
            | .lst o xs, .int n, hd, q4, go =>
              refine go _ (pe_ix ix_list pe_mx pe_mx (plainIx h1)) fun v w H' F' c' cw l kk g' hc' foc r2 => ?_
              obtain ⟨gp, c1, rest, pp, r1, bk⟩ := foc
              have hd : atI xs n = some d1 := hd
              have q4 : (ixN xs.length n).map Stp.ix = some stp := q4
              unfold atI at hd
              cases ej : ixN xs.length n with
              | none => rw [ej] at hd; cases hd
              | some j =>
                rw [ej] at hd q4
                cases q4
                have e1 : xs[j]? = some d1 := hd
                have hat : ∀ {vs : List V}, xs.length = vs.length → ∀ v1, vs[j]? = some v1 → atI vs n = some v1 := fun {vs} hlen v1 hv => by
                  unfold atI; rw [← hlen, ej]; exact hv
                cases o with
                | true =>
                  simp only [Rp] at r1
                  obtain ⟨bb, vs, cs, rfl, q5, q6, rfl⟩ := r1
                  obtain ⟨v1, c2, z1, z2, z3⟩ := q6.get e1
                  refine ⟨bb, vs, n, v1, rfl, r2.intE, SqL.of q5, hat q6.length v1 z1, ?_⟩
                  refine k v1 H' F' c' l kk g' hc' (Foc.step gp pp bk (by exact e1) ?_)
                  obtain ⟨c3, rest3, p3, r3, b3⟩ := q6.put e1 z1
                  refine ⟨c3, bb :: rest3, (p3.cons bb).trans List.perm_middle.symm, r3, fun H2 F2 d' c'' l2 k2 r2 => ?_⟩
                  obtain ⟨c4, f1, f2⟩ := b3 H2 F2 d' c'' l2 (fun z hz => k2 z (by simp [hz])) r2
                  refine ⟨.lst true (xs.set j d'), bb :: c4, rfl, ?_, (f2.cons bb).trans List.perm_middle.symm⟩
                  simp only [Rp]
                  exact ⟨bb, vs, c4, rfl, (k2 bb (by simp)).trans q5, f1, rfl⟩
                | false =>
                  simp only [Rp] at r1
                  obtain ⟨bb, vs, rfl, q5, q6⟩ := r1
                  obtain ⟨v1, c2, z1, z2, z3⟩ := q6.get e1
                  refine ⟨bb, vs, n, v1, rfl, r2.intE, .inl (g'.sub.rd q5), hat q6.length v1 z1, ?_⟩
                  refine k v1 H' F' c' l kk g' hc' (Foc.step gp pp bk (by exact e1) ?_)
                  obtain ⟨c3, rest3, p3, r3, b3⟩ := q6.put e1 z1
                  refine ⟨c3, rest3, p3, r3, fun H2 F2 d' c'' l2 k2 r2 => ?_⟩
                  obtain ⟨c4, f1, f2⟩ := b3 H2 F2 d' c'' l2 (fun z hz => k2 z hz) r2
                  refine ⟨.lst false (xs.set j d'), c4, rfl, ?_, f2⟩
                  simp only [Rp]
                  exact ⟨bb, vs, rfl, l2.rd q5, f1⟩
            | .tup xs, .int n, hd, q4, go =>
              refine go _ (pe_ix ix_tup pe_mx pe_mx (plainIx h1)) fun v w H' F' c' cw l kk g' hc' foc r2 => ?_
              obtain ⟨gp, c1, rest, pp, r1, bk⟩ := foc
              have hd : atI xs n = some d1 := hd
              have q4 : (ixN xs.length n).map Stp.ix = some stp := q4
              unfold atI at hd
              cases ej : ixN xs.length n with
              | none => rw [ej] at hd; cases hd
              | some j =>
                rw [ej] at hd q4
                cases q4
                have e1 : xs[j]? = some d1 := hd
                have hat : ∀ {vs : List V}, xs.length = vs.length → ∀ v1, vs[j]? = some v1 → atI vs n = some v1 := fun {vs} hlen v1 hv => by
                  unfold atI; rw [← hlen, ej]; exact hv
                simp only [Rp] at r1
                obtain ⟨bb, vs, rfl, q5, q6⟩ := r1
                obtain ⟨v1, c2, z1, z2, z3⟩ := q6.get e1
                refine ⟨bb, vs, n, v1, rfl, r2.intE, g'.sub.sqT q5, hat q6.length v1 z1, ?_⟩
                refine k v1 H' F' c' l kk g' hc' (Foc.step gp pp bk (by exact e1) ?_)
                obtain ⟨c3, rest3, p3, r3, b3⟩ := q6.put e1 z1
                refine ⟨c3, rest3, p3, r3, fun H2 F2 d' c'' l2 k2 r2 => ?_⟩
                obtain ⟨c4, f1, f2⟩ := b3 H2 F2 d' c'' l2 (fun z hz => k2 z hz) r2
                refine ⟨.tup (xs.set j d'), c4, rfl, ?_, f2⟩
                simp only [Rp]
                exact ⟨bb, vs, rfl, l2.sqT q5, f1⟩
      · cases hd
    | _ => simp [chkA] at hc
end Ev
end
section
set_option maxRecDepth 100000
set_option maxHeartbeats 4000000
namespace L2
open PySem PySem.Spec
section
variable {X : Cx} {CX : CXT} {k : Nat} {f C : Addr} {fd : FuncData} {ps : List Str} {sp : Sp} {E : St → XK} {x m : Str} {p pos apos : Pos} {e o : Expr} {es : List Expr} {ta : TE} {t : TA}
/-- f(), what is raised is wished for at the slots -/
theorem pe_fn0 (F : FnOk X.prog X.w X.K X.mg X.base CX k f fd ps sp) (hr : Room k X.A) (hg : Gl X x) (hm : X.mg x = some (.ref f)) (hk : PySem.W.keepIn X.K (.ref f) = true) (hb : Binds X.K fd ps []) (hx : ∀ σ, PassesAt CX X σ (E σ))
    (hdb : (x == ("__debug__" : Str)) = false) : PE X (.Call (.Name x p) [] [] pos) (fun σ H Q => sp [] H Q (E σ)) := by
  refine ⟨fun pins s σ H Q I h => ?_⟩
  refine wpAny_Call_Name_kw (ld_glob I hg hm ?_ hdb)
  exact PySem.W.callWith_K0 I.kIn hk (run_fnS (us := []) F hr hb (hx σ) I .nil h)
/-- g(..), g a local name -/
theorem pe_callV {i : Nat} (F : FnOk X.prog X.w X.K X.mg X.base CX k f fd ps sp) (hr : Room k X.A) (hN : X.N[i]? = some x) (hv : Vis X.env.scope x) (hd : (x == ("__debug__" : Str)) = false) (hcd : (x == ("__classdict__" : Str)) = false) (hk : PySem.W.keepIn X.K (.ref f) = true) (hb : Binds X.K fd ps []) (hx : ∀ σ, PassesAt CX X σ (E σ))
    (ha : PA X (e :: es) t) (he : starEach (e :: es) X.env = (false, eval e X.env) :: starEach es X.env) (hpl : (backTo pos (starEach es X.env)).any (·.1) = false) :
    PE X (.Call (.Name x p) (e :: es) [] pos) (fun σ H Q => σ[i]? = some (some (.ref f)) ∧ tCallS sp E t σ H Q) := by
  refine ⟨fun pins s σ H Q I h => ?_⟩
  obtain ⟨h1, h2⟩ := h
  refine wpAny_Call_Name_kw (thn ((pe_var hN hv hd hcd).run pins s σ H (fun v H' => v = .ref f ∧ tCallS sp E t σ H' Q) I ⟨.ref f, h1, rfl, h2⟩) fun u s1 ⟨v, H1, I1, r, ev, q⟩ => ?_)
  subst ev
  obtain rfl : u = Value.ref f := r
  refine PySem.W.callWith_K (h₀ := X.base) I.ok.mod.kin hk (thn (ha.run pos pins s1 σ H1 _ I1 q) fun us s2 ⟨vs, H2, I2, r2, q2⟩ => ⟨I2.kIn, ?_⟩) he hpl
  exact run_fnS F hr hb (hx σ) I2 r2 q2
theorem eval_meth {env : Env} (ho : Ev.plainX o = true) (hl : (apos.endLine == pos.line) = true) (hp : es.all Ev.plainX = true) (hlen : es.length < 29) :
    eval (.Call (.Attribute o m apos) es [] pos) env = (do
      let ov ← eval o env
      standAt apos.atName
      let (f, first) ← holding [ov] (getMethod ov m (plainOf o env))
      callWith pos f first (backTo pos (starEach es env)) (backToKw pos (keywordEach [] env))) := by
  show (do
      let ov ← attributeBase o m env (eval o env)
      standAt apos.atName
      methodCall o m apos pos env ov (es.length + ([] : List Keyword).length) (backTo pos (starEach es env)) (backToKw pos (keywordEach [] env))) = _
  rw [Ev.base_of ho]
  have hf : methodCallForm (es.length + ([] : List Keyword).length) (backTo pos (starEach es env)) (backToKw pos (keywordEach [] env)) = true := by
    unfold methodCallForm
    have h1 := Ev.noStar (env := env) (pos := pos) hp
    have h2 : (backTo pos (starEach es env)).all (fun x => !x.1) = true := by
      rw [List.all_eq_not_any_not]
      have : (fun (x : Bool × Sem Value) => !(!x.1)) = (·.1) := by funext x; simp
      simp only [this, h1]; rfl
    rw [h2]
    simp [keywordEach, backToKw]
    omega
  congr 1
  funext ov
  rw [mcall_line hf hl]
theorem pe_methG (he : PE X o ta) (c : Cls X.K C) (hm : Meth X.K C m f) (F : FnOk X.prog X.w X.K X.mg X.base CX k f fd ps sp) (hr : Room k X.A) (hb : Binds X.K fd ps []) (hx : ∀ σ, PassesAt CX X σ (E σ)) (ha : PA X (e :: es) t)
    (ho : Ev.plainX o = true) (hl : (apos.endLine == pos.line) = true) (hp : (e :: es).all Ev.plainX = true) (hlen : (e :: es).length < 29) :
    PE X (.Call (.Attribute o m apos) (e :: es) [] pos) (fun σ H Q => ta σ H fun x H1 => ∃ a dx fs, x = .ref a ∧ H1 a = some (.ins C dx fs) ∧ fs.lookup m = none ∧ t σ H1 fun vs H2 => sp (x :: vs) H2 Q (E σ)) := by
  refine ⟨fun pins s σ H Q I h => ?_⟩
  refine PySem.W.methodCall_KW (pl := plainOf o X.env) (thn (he.run pins s σ H _ I h) fun u s1 ⟨x, H1, I1, rx, a, dx, fs, ex, ea, l, q⟩ => ?_) (eval_meth ho hl hp hlen)
  subst ex
  obtain rfl : u = Value.ref a := rx
  refine getmeth_ok I1 ea c hm l ?_
  have hp' := hp
  rw [List.all_cons, Bool.and_eq_true] at hp'
  refine PySem.W.callWith_K (first := [.ref a]) (h₀ := X.base) I.ok.mod.kin hm.kp (thn (ha.run pos pins s1 σ H1 _ I1 q) fun us s2 ⟨vs, H2, I2, r, q2⟩ => ⟨I2.kIn, ?_⟩) (Ev.star_cons hp'.1) (Ev.noStar hp'.2)
  exact run_fnS (us := .ref a :: us) (vs := .ref a :: vs) F hr hb (hx σ) I2 (.cons rfl r) q2
theorem pe_methG0 (he : PE X o ta) (c : Cls X.K C) (hm : Meth X.K C m f) (F : FnOk X.prog X.w X.K X.mg X.base CX k f fd ps sp) (hr : Room k X.A) (hb : Binds X.K fd ps []) (hx : ∀ σ, PassesAt CX X σ (E σ))
    (ho : Ev.plainX o = true) (hl : (apos.endLine == pos.line) = true) :
    PE X (.Call (.Attribute o m apos) [] [] pos) (fun σ H Q => ta σ H fun x H1 => ∃ a dx fs, x = .ref a ∧ H1 a = some (.ins C dx fs) ∧ fs.lookup m = none ∧ sp [x] H1 Q (E σ)) := by
  refine ⟨fun pins s σ H Q I h => ?_⟩
  refine PySem.W.methodCall_KW (pl := plainOf o X.env) (thn (he.run pins s σ H _ I h) fun u s1 ⟨x, H1, I1, rx, a, dx, fs, ex, ea, l, q⟩ => ?_) (eval_meth ho hl rfl (by decide))
  subst ex
  obtain rfl : u = Value.ref a := rx
  refine getmeth_ok I1 ea c hm l ?_
  exact PySem.W.callWith_K0 (first := [.ref a]) I1.kIn hm.kp (run_fnS (us := [.ref a]) (vs := [.ref a]) F hr hb (hx σ) I1 (.cons rfl .nil) q)
theorem run_makeS {pins : List (Addr × Obj)} {σ : St} {H : Hp} {s : Shared} {Q : VK} {us : List Value} {vs : List V} (M : Mk X.K C f) (F : FnOk X.prog X.w X.K X.mg X.base CX k f fd ps sp) (hr : Room (k + 1) X.A) (hb : Binds X.K fd ps [])
    (hx : PassesAt CX X σ (E σ)) (I : Inv X pins σ H s) (r : Vals vs us)
    (h : ∀ x dx, H x = none → H dx = none → dx ≠ x → sp (.ref x :: vs) (upd (upd H dx (.own x)) x (.ins C dx [])) (fun v H2 => v = .non ∧ Q (.ref x) H2) (E σ)) :
    wpAny (model X.prog X.w) X.A (call (.ref C) us) (EP X pins σ Q) X.xe s := by
  have hq := h (s.heap.objs.size + 1) s.heap.objs.size (I.hok.fresh (Nat.le_succ _)) (I.hok.fresh (Nat.le_refl _)) (Nat.ne_of_lt (Nat.lt_succ_self _))
  have I2 := Inv.made (C := C) I
  have r2 : Vals (V.ref (s.heap.objs.size + 1) :: vs) (Value.ref (s.heap.objs.size + 1) :: us) := .cons rfl r
  have hl : (Value.ref (s.heap.objs.size + 1) :: us ++ []).length = ps.length := by
    have e := r2.length
    rw [F.len _ _ _ _ hq] at e
    rw [List.append_nil]
    exact e.symm
  have bb := hb _ (Value.ref (s.heap.objs.size + 1) :: us) I2.kIn hl
  rw [List.append_nil] at bb
  refine wpAny_call (make_map (f := f) I.kIn M.makes M.init (beq_iff_eq.mp M.fn) (codeAny_mono (F.run _ X.stack _ _ ⟨Value.ref (s.heap.objs.size + 1) :: us, []⟩ (Value.ref (s.heap.objs.size + 1) :: us) _ _ (E σ) (hr.make C us [])
    (I2.env0.make C us []) bb r2 hq) fun r s' hq' => ?_))
  cases r with
  | error e => exact hx pins _ _ e s' I2 hq'
  | ok fl =>
    cases fl with
    | ret u =>
      obtain ⟨v, H', I3, rv, ev, q3⟩ := I2.after hq'
      subst ev
      exact ⟨rv, ⟨V.ref (s.heap.objs.size + 1), H', I3, rfl, q3⟩⟩
    | next => exact False.elim hq'
    | brk => exact False.elim hq'
    | cont => exact False.elim hq'
theorem pe_makeG (M : Mk X.K C f) (F : FnOk X.prog X.w X.K X.mg X.base CX k f fd ps sp) (hr : Room (k + 1) X.A) (hg : Gl X x) (hm : X.mg x = some (.ref C)) (hb : Binds X.K fd ps []) (hx : ∀ σ, PassesAt CX X σ (E σ))
    (ha : PA X (e :: es) t) (hdb : (x == ("__debug__" : Str)) = false) (hp : (e :: es).all Ev.plainX = true) :
    PE X (.Call (.Name x p) (e :: es) [] pos) (fun σ H Q => t σ H fun vs H1 => ∀ x dx, H1 x = none → H1 dx = none → dx ≠ x → sp (.ref x :: vs) (upd (upd H1 dx (.own x)) x (.ins C dx [])) (fun v H2 => v = .non ∧ Q (.ref x) H2) (E σ)) := by
  refine ⟨fun pins s σ H Q I h => ?_⟩
  rw [List.all_cons, Bool.and_eq_true] at hp
  refine wpAny_Call_Name_kw (ld_glob I hg hm ?_ hdb)
  refine PySem.W.callWith_K (h₀ := X.base) I.ok.mod.kin M.kp (thn (ha.run pos pins s σ H _ I h) fun us s1 ⟨vs, H1, I1, r, q⟩ => ⟨I1.kIn, ?_⟩) (Ev.star_cons hp.1) (Ev.noStar hp.2)
  exact run_makeS M F hr hb (hx σ) I1 r q
theorem pe_makeG0 (M : Mk X.K C f) (F : FnOk X.prog X.w X.K X.mg X.base CX k f fd ps sp) (hr : Room (k + 1) X.A) (hg : Gl X x) (hm : X.mg x = some (.ref C)) (hb : Binds X.K fd ps []) (hx : ∀ σ, PassesAt CX X σ (E σ))
    (hdb : (x == ("__debug__" : Str)) = false) :
    PE X (.Call (.Name x p) [] [] pos) (fun σ H Q => ∀ x dx, H x = none → H dx = none → dx ≠ x → sp [.ref x] (upd (upd H dx (.own x)) x (.ins C dx [])) (fun v H2 => v = .non ∧ Q (.ref x) H2) (E σ)) := by
  refine ⟨fun pins s σ H Q I h => ?_⟩
  refine wpAny_Call_Name_kw (ld_glob I hg hm ?_ hdb)
  exact PySem.W.callWith_K0 I.kIn M.kp (run_makeS (us := []) M F hr hb (hx σ) I .nil h)
theorem run_makeD {pins : List (Addr × Obj)} {σ : St} {H : Hp} {s : Shared} {Q : VK} {us : List Value} {vs : List V} (M : Mk X.K C f) (F : FnOk X.prog X.w X.K X.mg X.base CX k f fd ps sp) (hr : Room (k + 1) X.A) {ds : List Value} {dvs : List V} (hb : Binds X.K fd ps ds) (hd : Vals dvs ds)
    (hx : PassesAt CX X σ (E σ)) (I : Inv X pins σ H s) (r : Vals vs us)
    (h : ∀ x dx, H x = none → H dx = none → dx ≠ x → sp (.ref x :: (vs ++ dvs)) (upd (upd H dx (.own x)) x (.ins C dx [])) (fun v H2 => v = .non ∧ Q (.ref x) H2) (E σ)) :
    wpAny (model X.prog X.w) X.A (call (.ref C) us) (EP X pins σ Q) X.xe s := by
  have hq := h (s.heap.objs.size + 1) s.heap.objs.size (I.hok.fresh (Nat.le_succ _)) (I.hok.fresh (Nat.le_refl _)) (Nat.ne_of_lt (Nat.lt_succ_self _))
  have I2 := Inv.made (C := C) I
  have r2 : Vals (V.ref (s.heap.objs.size + 1) :: (vs ++ dvs)) (Value.ref (s.heap.objs.size + 1) :: (us ++ ds)) := .cons rfl (r.append hd)
  have hl : (Value.ref (s.heap.objs.size + 1) :: us ++ ds).length = ps.length := by
    have e := r2.length
    rw [F.len _ _ _ _ hq] at e
    exact e.symm
  have bb := hb _ (Value.ref (s.heap.objs.size + 1) :: us) I2.kIn hl
  refine wpAny_call (make_map (f := f) I.kIn M.makes M.init (beq_iff_eq.mp M.fn) (codeAny_mono (F.run _ X.stack _ _ ⟨Value.ref (s.heap.objs.size + 1) :: us, []⟩ (Value.ref (s.heap.objs.size + 1) :: (us ++ ds)) _ _ (E σ) (hr.make C us [])
    (I2.env0.make C us []) bb r2 hq) fun r s' hq' => ?_))
  cases r with
  | error e => exact hx pins _ _ e s' I2 hq'
  | ok fl =>
    cases fl with
    | ret u =>
      obtain ⟨v, H', I3, rv, ev, q3⟩ := I2.after hq'
      subst ev
      exact ⟨rv, ⟨V.ref (s.heap.objs.size + 1), H', I3, rfl, q3⟩⟩
    | next => exact False.elim hq'
    | brk => exact False.elim hq'
    | cont => exact False.elim hq'
theorem pe_makeD (M : Mk X.K C f) (F : FnOk X.prog X.w X.K X.mg X.base CX k f fd ps sp) (hr : Room (k + 1) X.A) (hg : Gl X x) (hm : X.mg x = some (.ref C)) {ds : List Value} {dvs : List V} (hb : Binds X.K fd ps ds) (hd : Vals dvs ds) (hx : ∀ σ, PassesAt CX X σ (E σ))
    (ha : PA X (e :: es) t) (hdb : (x == ("__debug__" : Str)) = false) (hp : (e :: es).all Ev.plainX = true) :
    PE X (.Call (.Name x p) (e :: es) [] pos) (fun σ H Q => t σ H fun vs H1 => ∀ x dx, H1 x = none → H1 dx = none → dx ≠ x → sp (.ref x :: (vs ++ dvs)) (upd (upd H1 dx (.own x)) x (.ins C dx [])) (fun v H2 => v = .non ∧ Q (.ref x) H2) (E σ)) := by
  refine ⟨fun pins s σ H Q I h => ?_⟩
  rw [List.all_cons, Bool.and_eq_true] at hp
  refine wpAny_Call_Name_kw (ld_glob I hg hm ?_ hdb)
  refine PySem.W.callWith_K (h₀ := X.base) I.ok.mod.kin M.kp (thn (ha.run pos pins s σ H _ I h) fun us s1 ⟨vs, H1, I1, r, q⟩ => ⟨I1.kIn, ?_⟩) (Ev.star_cons hp.1) (Ev.noStar hp.2)
  exact run_makeD M F hr hb hd (hx σ) I1 r q
theorem pe_makeD0 (M : Mk X.K C f) (F : FnOk X.prog X.w X.K X.mg X.base CX k f fd ps sp) (hr : Room (k + 1) X.A) (hg : Gl X x) (hm : X.mg x = some (.ref C)) {ds : List Value} {dvs : List V} (hb : Binds X.K fd ps ds) (hd : Vals dvs ds) (hx : ∀ σ, PassesAt CX X σ (E σ))
    (hdb : (x == ("__debug__" : Str)) = false) :
    PE X (.Call (.Name x p) [] [] pos) (fun σ H Q => ∀ x dx, H x = none → H dx = none → dx ≠ x → sp (.ref x :: ([] ++ dvs)) (upd (upd H dx (.own x)) x (.ins C dx [])) (fun v H2 => v = .non ∧ Q (.ref x) H2) (E σ)) := by
  refine ⟨fun pins s σ H Q I h => ?_⟩
  refine wpAny_Call_Name_kw (ld_glob I hg hm ?_ hdb)
  exact PySem.W.callWith_K0 I.kIn M.kp (run_makeD (us := []) M F hr hb hd (hx σ) I .nil h)
end
end L2
namespace Ev
open PySem PySem.Spec L2
section
variable (K : PySem.W.Frag) (mg : Str → Option Value)
/-- an error as it lies behind a raise -/
def RpX (H F : Hp) (x : Xn) (cls : Value) (od : Option Addr) : Prop :=
  (∃ A, mg x.C = some (.ref A) ∧ cls = .ref A) ∧ x.fs.length = x.xs.length ∧
    ((x.fs = [] ∧ True) ∨ ∃ d vs, od = some d ∧ F d = some (.xd (x.fs.zip vs)) ∧ Rps K mg H F x.xs vs [])
/-- the promise of a def by what it is worth -/
def spOf (cl : List (Bool × D) → Option CR) : Sp := fun vs H Q E =>
  ∃ (F : Hp) (args : List (Bool × D)) (c cx : List Addr) (r : CR), Rps K mg H F (args.map (·.2)) vs c ∧ Good H F (c ++ cx) ∧ cl args = some r ∧
    match r with
    | .ok d o => ∀ v H' F' cd co, Le F F' → (∀ a ∈ cx, H' a = H a) → Good H' F' (cd ++ co ++ cx) → Rp K mg H' F' d v cd → SR K mg H' F' o (vs.map some) co → Q v H'
    | .ex x o => ∀ cls od H' F' co, Le F F' → (∀ a ∈ cx, H' a = H a) → Good H' F' (co ++ cx) → RpX K mg H' F' x cls od → SR K mg H' F' o (vs.map some) co → E cls od H'
end
theorem SR.cut {K : PySem.W.Frag} {mg : Str → Option Value} {H F : Hp} : ∀ {o : List (Option D)} {vs : List V} {v : V} {c : List Addr}, SR K mg H F o ((vs ++ [v]).map some) c → ∃ c' g, SR K mg H F o.dropLast (vs.map some) c' ∧ c.Perm (g ++ c')
  | [], vs, v, c, h => by
    have := h.len
    simp at this
  | [x], [], v, c, h => ⟨[], c, by simp only [List.dropLast, List.map_nil, SR]; exact ⟨trivial, trivial⟩, by simp⟩
  | [x], w :: vs, v, c, h => by
    have := h.len
    simp at this
  | x :: y :: o, [], v, c, h => by
    have := h.len
    simp at this
  | none :: y :: o, w :: vs, v, c, h => by
    simp only [List.cons_append, List.map_cons, SR] at h
    obtain ⟨_, _, e, h⟩ := h
    cases e
    obtain ⟨c', g, h1, h2⟩ := SR.cut (o := y :: o) (vs := vs) (v := v) h
    refine ⟨c', g, ?_, h2⟩
    simp only [List.dropLast, List.map_cons, SR]
    exact ⟨_, _, rfl, h1⟩
  | some d :: y :: o, w :: vs, v, c, h => by
    simp only [List.cons_append, List.map_cons, SR] at h
    obtain ⟨_, _, a1, a2, e, p, rd, h⟩ := h
    cases e
    obtain ⟨c', g, h1, h2⟩ := SR.cut (o := y :: o) (vs := vs) (v := v) h
    refine ⟨a1 ++ c', g, ?_, ?_⟩
    · simp only [List.dropLast, List.map_cons, SR]
      exact ⟨_, _, a1, c', rfl, List.Perm.refl _, rd, h1⟩
    · refine p.trans ((h2.append_left a1).trans ?_)
      rw [← List.append_assoc, ← List.append_assoc]
      exact List.perm_append_comm.append_right _
/-- the shared part without some cells -/
def lessF (F : Hp) (c : List Addr) : Hp := fun a => if a ∈ c then none else F a
theorem lessF_out {F : Hp} {c : List Addr} {a : Addr} (h : a ∉ c) : lessF F c a = F a := if_neg h
/-- owned cells are no tuples -/
def noTup (H : Hp) (a : Addr) : Prop := ∀ vs, ¬ Rd H a (.tup vs)
theorem noTup_of {H : Hp} {a : Addr} {o : HO} (h : H a = some o) (h1 : ∀ vs, o ≠ .tup vs) (h2 : ∀ ob u, o ≠ .frz ob u) : noTup H a := by
  intro vs r
  rcases r with r | ⟨ob, r⟩
  · rw [h] at r; exact h1 vs (Option.some.inj r)
  · rw [h] at r; exact h2 _ _ (Option.some.inj r)
mutual
theorem Rp.noTup {K : PySem.W.Frag} {mg : Str → Option Value} {H F : Hp} : ∀ (d : D) (v : V) (c : List Addr), Rp K mg H F d v c → ∀ a ∈ c, noTup H a
  | .non, v, c, h, a, ha => by simp only [Rp] at h; rw [h.2] at ha; cases ha
  | .bl _, v, c, h, a, ha => by simp only [Rp] at h; rw [h.2] at ha; cases ha
  | .int _, v, c, h, a, ha => by simp only [Rp] at h; rw [h.2] at ha; cases ha
  | .str _, v, c, h, a, ha => by simp only [Rp] at h; rw [h.2] at ha; cases ha
  | .fn _, v, c, h, a, ha => by simp only [Rp] at h; rw [h.2] at ha; cases ha
  | .ty _, v, c, h, a, ha => by simp only [Rp] at h; rw [h.2] at ha; cases ha
  | .scr _, v, c, h, a, ha => by
    simp only [Rp] at h
    obtain ⟨_, _, _, e⟩ := h
    rw [e] at ha; cases ha
  | .tup xs, v, c, h, a, ha => by
    simp only [Rp] at h
    obtain ⟨_, vs, _, _, r⟩ := h
    exact Rps.noTup xs vs c r a ha
  | .lst true xs, v, c, h, a, ha => by
    simp only [Rp] at h
    obtain ⟨b, vs, c', _, q, r, rfl⟩ := h
    rcases List.mem_cons.mp ha with rfl | ha
    · exact noTup_of q (fun _ e => nomatch e) (fun _ _ e => nomatch e)
    · exact Rps.noTup xs vs c' r a ha
  | .lst false xs, v, c, h, a, ha => by
    simp only [Rp] at h
    obtain ⟨b, vs, _, _, r⟩ := h
    exact Rps.noTup xs vs c r a ha
  | .dic true ks xs, v, c, h, a, ha => by
    simp only [Rp] at h
    obtain ⟨b, vs, c', _, _, _, q, r, rfl⟩ := h
    rcases List.mem_cons.mp ha with rfl | ha
    · exact noTup_of q (fun _ e => nomatch e) (fun _ _ e => nomatch e)
    · exact Rps.noTup xs vs c' r a ha
  | .dic false ks xs, v, c, h, a, ha => by
    simp only [Rp] at h
    obtain ⟨b, vs, _, _, _, _, r⟩ := h
    exact Rps.noTup xs vs c r a ha
  | .ins true C fs xs, v, c, h, a, ha => by
    simp only [Rp] at h
    obtain ⟨b, A, dx, vs, c', _, _, _, q, r, rfl⟩ := h
    rcases List.mem_cons.mp ha with rfl | ha
    · exact noTup_of q (fun _ e => nomatch e) (fun _ _ e => nomatch e)
    · exact Rps.noTup xs vs c' r a ha
  | .ins false C fs xs, v, c, h, a, ha => by
    simp only [Rp] at h
    obtain ⟨b, A, dx, vs, _, _, _, _, r⟩ := h
    exact Rps.noTup xs vs c r a ha
theorem Rps.noTup {K : PySem.W.Frag} {mg : Str → Option Value} {H F : Hp} : ∀ (ds : List D) (vs : List V) (c : List Addr), Rps K mg H F ds vs c → ∀ a ∈ c, noTup H a
  | [], vs, c, h, a, ha => by simp only [Rps] at h; rw [h.2] at ha; cases ha
  | d :: r, vs, c, h, a, ha => by
    simp only [Rps] at h
    obtain ⟨v, w, c1, c2, _, rfl, h1, h2⟩ := h
    rcases List.mem_append.mp ha with ha | ha
    · exact Rp.noTup d v c1 h1 a ha
    · exact Rps.noTup r w c2 h2 a ha
end
theorem sqT_less {K : PySem.W.Frag} {F : Hp} {c : List Addr} {a : Addr} {vs : List V} (hc : ∀ b ∈ c, noTup F b) (h : SqT K F a vs) : SqT K (lessF F c) a vs := by
  rcases h with h | h
  · have hn : a ∉ c := fun hm => hc a hm vs h
    rcases h with h | ⟨o, h⟩
    · exact .inl (.inl (by rw [lessF_out hn]; exact h))
    · exact .inl (.inr ⟨o, by rw [lessF_out hn]; exact h⟩)
  · exact .inr h
mutual
theorem Rp.less {K : PySem.W.Frag} {mg : Str → Option Value} {H F : Hp} {c : List Addr} (hc : ∀ b ∈ c, noTup F b) : ∀ (d : D) (v : V) (cd : List Addr), nsD d = true → Rp K mg H F d v cd → Rp K mg H (lessF F c) d v cd
  | .non, v, cd, _, h => by simpa only [Rp] using h
  | .bl _, v, cd, _, h => by simpa only [Rp] using h
  | .int _, v, cd, _, h => by simpa only [Rp] using h
  | .str _, v, cd, _, h => by simpa only [Rp] using h
  | .fn _, v, cd, hn, h => by simp [nsD] at hn
  | .ty _, v, cd, hn, h => by simp [nsD] at hn
  | .scr _, v, cd, hn, h => by simp [nsD] at hn
  | .tup xs, v, cd, hn, h => by
    simp only [nsD] at hn
    simp only [Rp] at h ⊢
    obtain ⟨a, vs, e, q, r⟩ := h
    exact ⟨a, vs, e, sqT_less hc q, Rps.less hc xs vs cd hn r⟩
  | .lst true xs, v, cd, hn, h => by
    simp only [nsD] at hn
    simp only [Rp] at h ⊢
    obtain ⟨a, vs, c', e, q, r, e2⟩ := h
    exact ⟨a, vs, c', e, q, Rps.less hc xs vs c' hn r, e2⟩
  | .lst false xs, v, cd, hn, h => by simp [nsD] at hn
  | .dic _ ks xs, v, cd, hn, h => by simp [nsD] at hn
  | .ins _ C fs xs, v, cd, hn, h => by simp [nsD] at hn
theorem Rps.less {K : PySem.W.Frag} {mg : Str → Option Value} {H F : Hp} {c : List Addr} (hc : ∀ b ∈ c, noTup F b) : ∀ (ds : List D) (vs : List V) (cd : List Addr), nsDs ds = true → Rps K mg H F ds vs cd → Rps K mg H (lessF F c) ds vs cd
  | [], vs, cd, _, h => by simpa only [Rps] using h
  | d :: r, vs, cd, hn, h => by
    simp only [nsDs, Bool.and_eq_true] at hn
    simp only [Rps] at h ⊢
    obtain ⟨v, w, c1, c2, e1, e2, h1, h2⟩ := h
    exact ⟨v, w, c1, c2, e1, e2, Rp.less hc d v c1 hn.1 h1, Rps.less hc r w c2 hn.2 h2⟩
end
theorem outs_lent {K : PySem.W.Frag} {mg : Str → Option Value} {H F H' : Hp} : ∀ {args : List (Bool × D)} {vs : List V} {c : List Addr}, Rps K mg H F (args.map (·.2)) vs c → (∀ a ∈ c, H' a = H a) → ∃ c', c'.Sublist c ∧ SR K mg H' F (args.map fun p => if p.1 = true then some p.2 else none) (vs.map some) c'
  | [], vs, c, h, _ => by
    simp only [List.map_nil, Rps] at h
    obtain ⟨rfl, rfl⟩ := h
    exact ⟨[], List.Sublist.refl _, by simp only [List.map_nil, SR]; exact ⟨trivial, trivial⟩⟩
  | (l, d) :: args, vs, c, h, k => by
    simp only [List.map_cons, Rps] at h
    obtain ⟨v, w, c1, c2, rfl, rfl, r1, r2⟩ := h
    obtain ⟨c', s1, s2⟩ := outs_lent (H' := H') r2 fun a ha => k a (by simp [ha])
    cases l with
    | true =>
      refine ⟨c1 ++ c', List.Sublist.append (List.Sublist.refl _) s1, ?_⟩
      simp only [List.map_cons, if_true, SR]
      exact ⟨v, _, c1, c', rfl, List.Perm.refl _, Rp.keep (Le.refl F) d v c1 r1 fun a ha => k a (by simp [ha]), s2⟩
    | false =>
      refine ⟨c', s1.trans (List.sublist_append_right _ _), ?_⟩
      simp only [List.map_cons, Bool.false_eq_true, if_false, SR]
      exact ⟨_, _, rfl, s2⟩
/-- arguments that are lent to be read -/
theorem sp_bor {K : PySem.W.Frag} {mg : Str → Option Value} {cl1 : List (Bool × D) → Option CR} {vs : List V} {H : Hp} {Q : VK} {E : XK} (h : spOf K mg (borC cl1) vs H Q E) : spOf K mg cl1 vs H Q E := by
  obtain ⟨F, args, c, cx, r, rp, g, e, k⟩ := h
  unfold borC at e
  split at e
  · rename_i d o hc
    split at e
    · rename_i hf
      cases e
      have ea : (args.map fun p => ((false, frz p.2) : Bool × D)).map (·.2) = frzs (args.map (·.2)) := by
        rw [List.map_map]
        have : ∀ l : List (Bool × D), l.map ((fun x : Bool × D => x.2) ∘ fun p => ((false, frz p.2) : Bool × D)) = frzs (l.map (·.2)) := by
          intro l
          induction l with
          | nil => rfl
          | cons x l ih => simp only [List.map_cons, frzs]; rw [ih]; rfl
        exact this args
      refine ⟨join F H c, args.map fun p => (false, frz p.2), [], cx, .ok d o, ?_, g.join, hc, ?_⟩
      · rw [ea]
        exact Rps.frz g.le_join _ vs c rp fun a ha => join_in ha
      · intro v H' F' cd co l kk g' rd so
        have hk : ∀ a ∈ c, H' a = H a := fun a ha => by
          obtain ⟨_, ob, eo⟩ := g.own a (by simp [ha])
          rw [eo]
          exact g'.sub a ob (l a ob (by rw [join_in ha, eo]))
        obtain ⟨c', s1, s2⟩ := outs_lent (H' := H') rp hk
        have hF' : ∀ a ∈ c, ∃ ob, F' a = some ob := fun a ha => by
          obtain ⟨_, ob, eo⟩ := g.own a (by simp [ha])
          exact ⟨ob, l a ob (by rw [join_in ha, eo])⟩
        have hnt : ∀ b ∈ c, noTup F' b := fun b hb vs' rd' => by
          have n0 := Rps.noTup _ vs c rp b hb vs'
          apply n0
          rcases rd' with rd' | ⟨ob, rd'⟩
          · exact .inl (by rw [← hk b hb]; exact g'.sub b _ rd')
          · exact .inr ⟨ob, by rw [← hk b hb]; exact g'.sub b _ rd'⟩
        have s2' : SR K mg H' (lessF F' c) (args.map fun p => if p.1 = true then some p.2 else none) (vs.map some) c' := SR.keep (F := F) (fun a ob ho => by
          have hn : a ∉ c := fun hm => by
            have := (g.own a (by simp [hm])).1
            rw [ho] at this; cases this
          rw [lessF_out hn]
          exact l a ob (g.le_join a ob ho)) s2 fun _ _ => rfl
        refine k v H' (lessF F' c) cd c' (fun a ob ho => ?_) kk ⟨fun a ob ho => ?_, ?_, fun a ha => ?_⟩ (Rp.less hnt d v cd hf rd) s2'
        · have hn : a ∉ c := fun hm => by
            have := (g.own a (by simp [hm])).1
            rw [ho] at this; cases this
          rw [lessF_out hn]
          exact l a ob (g.le_join a ob ho)
        · unfold lessF at ho
          split at ho
          · cases ho
          · exact g'.sub a ob ho
        · rw [List.append_assoc]
          have n1 := g'.nd
          have n2 : (c' ++ cx).Nodup := (List.Sublist.append s1 (List.Sublist.refl cx)).nodup g.nd
          have n3 : cd.Nodup := (List.nodup_append.mp (List.nodup_append.mp n1).1).1
          refine List.nodup_append.mpr ⟨n3, n2, fun a ha b hb e => ?_⟩
          subst e
          rcases List.mem_append.mp hb with hb | hb
          · obtain ⟨ob, eo⟩ := hF' a (s1.subset hb)
            have := (g'.own a (by simp [ha])).1
            rw [eo] at this; cases this
          · exact (List.nodup_append.mp n1).2.2 a (by simp [ha]) a hb rfl
        · simp only [List.mem_append] at ha
          have fin : (∃ ob, H' a = some ob) → F' a = none ∨ a ∈ c → lessF F' c a = none ∧ ∃ o, H' a = some o := fun h1 h2 => ⟨by
            unfold lessF
            split
            · rfl
            · rcases h2 with h2 | h2
              · exact h2
              · exact absurd h2 (by assumption), h1⟩
          rcases ha with (ha | ha) | ha
          · obtain ⟨h1, h2⟩ := g'.own a (by simp [ha])
            exact fin h2 (.inl h1)
          · obtain ⟨_, ob, eo⟩ := g.own a (by simp [s1.subset ha])
            exact fin ⟨ob, by rw [hk a (s1.subset ha), eo]⟩ (.inr (s1.subset ha))
          · obtain ⟨h1, h2⟩ := g'.own a (by simp [ha])
            exact fin h2 (.inl h1)
    · cases e
  · cases e
/-- a default fills up -/
theorem sp_dfl {K : PySem.W.Frag} {mg : Str → Option Value} {cl1 : List (Bool × D) → Option CR} {dv : D} {v : V} (hv : ∀ H F, Rp K mg H F dv v []) {vs : List V} {H : Hp} {Q : VK} {E : XK}
    (h : spOf K mg (fun args => cutO (cl1 (args ++ [(false, dv)]))) vs H Q E) : spOf K mg cl1 (vs ++ [v]) H Q E := by
  obtain ⟨F, args, c, cx, r, rp, g, e, k⟩ := h
  cases hc : cl1 (args ++ [(false, dv)]) with
  | none => have e : cutO (cl1 (args ++ [(false, dv)])) = some r := e; rw [hc] at e; cases e
  | some r1 =>
    have e : cutO (cl1 (args ++ [(false, dv)])) = some r := e
    rw [hc] at e
    refine ⟨F, args ++ [(false, dv)], c, cx, r1, ?_, g, hc, ?_⟩
    · rw [List.map_append]
      have z : Rps K mg H F [dv] [v] ([] ++ []) := by
        simp only [Rps]
        exact ⟨v, [], [], [], rfl, rfl, hv H F, rfl, rfl⟩
      have := Rps.append rp z
      simpa using this
    · cases r1 with
      | ok d o =>
        cases e
        intro w H' F' cd co l kk g' rd so
        obtain ⟨c', gg, s1, p1⟩ := so.cut
        exact k w H' F' cd c' l kk ((g'.perm (show (cd ++ co ++ cx).Perm (gg ++ (cd ++ c' ++ cx)) from List.perm_iff_count.mpr fun z => by have := p1.count_eq z; simp only [List.count_append] at *; omega).symm).sublist (List.sublist_append_right _ _)) rd s1
      | ex x o =>
        cases e
        intro cls od H' F' co l kk g' rx so
        obtain ⟨c', gg, s1, p1⟩ := so.cut
        exact k cls od H' F' c' l kk ((g'.perm (show (co ++ cx).Perm (gg ++ (c' ++ cx)) from List.perm_iff_count.mpr fun z => by have := p1.count_eq z; simp only [List.count_append] at *; omega).symm).sublist (List.sublist_append_right _ _)) rx s1
/-- the defs that may be called -/
structure ClOk (P : Pg) (X : Cx) (k : Nat) (cl : Cl) : Prop where
  room : Room (k + 1) X.A
  fn : ∀ f, P.fn f = true → ∃ g fd ps, FnOk X.prog X.w X.K X.mg X.base (L2.CX X.prog X.w) k g fd ps (spOf X.K X.mg (cl (f, none))) ∧ X.mg f = some (.ref g) ∧ PySem.W.keepIn X.K (.ref g) = true ∧ Binds X.K fd ps []
  me : ∀ C m, P.mt C m = true → ∃ A g fd ps, X.mg C = some (.ref A) ∧ FnOk X.prog X.w X.K X.mg X.base (L2.CX X.prog X.w) k g fd ps (spOf X.K X.mg (cl (C, some m))) ∧ Cls X.K A ∧ Meth X.K A m g ∧ Binds X.K fd ps []
  mak : ∀ C, P.ck C = true → ∃ A g fd ps, X.mg C = some (.ref A) ∧ FnOk X.prog X.w X.K X.mg X.base (L2.CX X.prog X.w) k g fd ps (spOf X.K X.mg (cl (C, some "__init__"))) ∧ Mk X.K A g ∧ Binds X.K fd ps []
  makd : ∀ C dv, P.ck C = true → P.dk C = some dv → ∃ A g fd ps, X.mg C = some (.ref A) ∧ FnOk X.prog X.w X.K X.mg X.base (L2.CX X.prog X.w) k g fd ps (spOf X.K X.mg (cl (C, some "__init__"))) ∧ Mk X.K A g ∧ Binds X.K fd ps [] ∧
    ∃ v u, RelV v u ∧ (∀ H F, Rp X.K X.mg H F dv v []) ∧ Binds X.K fd ps [u]
end Ev
end
section
set_option maxRecDepth 100000
set_option maxHeartbeats 4000000
namespace Ev
open PySem PySem.Spec L2
theorem bindR_some {α β : Type} {m : Option (Rs α)} {k : α → Tr → Option (Rs β)} {r : Rs β} (h : bindR m k = some r) : (∃ a t, m = some (.ok a t) ∧ k a t = some r) ∨ (∃ x t, m = some (.ex x t) ∧ r = .ex x t) := by
  unfold bindR at h
  split at h
  · exact .inl ⟨_, _, rfl, h⟩
  · cases h; exact .inr ⟨_, _, rfl, rfl⟩
  · cases h
/-- the slot that is hidden: its tree, value, cells -/
structure HD where
  i : Nat
  d : D
  v : V
  c : List Addr
section
variable (K : PySem.W.Frag) (mg : Str → Option Value)
theorem perm_of {a b : List Addr} (h : ∀ x, a.count x = b.count x) : a.Perm b := List.perm_iff_count.mpr h
/-- the operands' values -/
def RO (H F : Hp) (σ : L2.St) (hd : Option HD) : List Opd → List V → List Addr → Prop
  | [], ws, c => ws = [] ∧ c = []
  | .ref i :: r, ws, c => ∃ v w, ws = v :: w ∧ σ[i]? = some (some v) ∧ RO H F σ hd r w c
  | .val d :: r, ws, c => ∃ v w c1 c2, ws = v :: w ∧ c = c1 ++ c2 ∧ Rp K mg H F d v c1 ∧ RO H F σ hd r w c2
  | .dp i st :: r, ws, c => ∃ v w h d1, ws = v :: w ∧ hd = some h ∧ h.i = i ∧ Foc K mg H F h.d h.v h.c st d1 v ∧ RO H F σ hd r w c
/-- where the operands' values come from: lent slots, the path's value -/
def RV (σ : L2.St) (qv : V) : List Opd → List V → Prop
  | [], ws => ws = []
  | .ref i :: r, ws => ∃ v w, ws = v :: w ∧ σ[i]? = some (some v) ∧ RV σ qv r w
  | .val _ :: r, ws => ∃ v w, ws = v :: w ∧ RV σ qv r w
  | .dp _ _ :: r, ws => ∃ w, ws = qv :: w ∧ RV σ qv r w
/-- the state: what is at hand (cells cs), what may be read and all else (cells cx) -/
structure BS (H F : Hp) (t rt : Tr) (σ : L2.St) (cs cx : List Addr) : Prop where
  s : SR K mg H F t σ cs
  r : ∃ cr, SR K mg H F rt σ cr ∧ ∀ a ∈ cr, a ∈ cx
  g : Good H F (cs ++ cx)
structure HDok (H F : Hp) (rt : Tr) (σ : L2.St) (cx : List Addr) (h : HD) : Prop where
  at' : rt[h.i]? = some (some h.d)
  val : σ[h.i]? = some (some h.v)
  rp : Rp K mg H F h.d h.v h.c
  sub : ∀ a ∈ h.c, a ∈ cx
end
section
variable {K : PySem.W.Frag} {mg : Str → Option Value} {H F H' F' : Hp} {t rt : Tr} {σ : L2.St} {cs cx c : List Addr} {hd : Option HD}
theorem RO.keep (l : Le F F') : ∀ {os : List Opd} {ws : List V} {c : List Addr}, RO K mg H F σ hd os ws c → (∀ a ∈ c, H' a = H a) → (∀ h, hd = some h → ∀ a ∈ h.c, H' a = H a) → RO K mg H' F' σ hd os ws c
  | [], ws, c, h, _, _ => by simpa only [RO] using h
  | .ref i :: r, ws, c, h, k, kh => by
    simp only [RO] at h ⊢
    obtain ⟨v, w, e, e2, h⟩ := h
    exact ⟨v, w, e, e2, h.keep l k kh⟩
  | .val d :: r, ws, c, h, k, kh => by
    simp only [RO] at h ⊢
    obtain ⟨v, w, c1, c2, e, e2, rp, h⟩ := h
    subst e2
    exact ⟨v, w, c1, c2, e, rfl, Rp.keep l d v c1 rp fun a ha => k a (by simp [ha]), h.keep l (fun a ha => k a (by simp [ha])) kh⟩
  | .dp i st :: r, ws, c, h, k, kh => by
    simp only [RO] at h ⊢
    obtain ⟨v, w, hh, d1, e, e2, e3, f, h⟩ := h
    exact ⟨v, w, hh, d1, e, e2, e3, f.keep l (kh hh e2), h.keep l k kh⟩
theorem BS.stt (s : BS K mg H F t rt σ cs cx) : Stt K mg H F t rt σ (cs ++ cx) := by
  obtain ⟨cr, h1, h2⟩ := s.r
  exact ⟨⟨cs, s.s, fun b hb => by simp [hb]⟩, ⟨cr, h1, fun b hb => by simp [h2 b hb]⟩, s.g⟩
theorem BS.keep (s : BS K mg H F t rt σ cs cx) (l : Le F F') (k : ∀ a ∈ cs ++ cx, H' a = H a) (g : Good H' F' (cs ++ cx)) : BS K mg H' F' t rt σ cs cx := by
  obtain ⟨cr, h1, h2⟩ := s.r
  exact ⟨s.s.keep l fun a ha => k a (by simp [ha]), ⟨cr, h1.keep l fun a ha => k a (by simp [h2 a ha]), h2⟩, g⟩
theorem HDok.keep {h : HD} (x : HDok K mg H F rt σ cx h) (l : Le F F') (k : ∀ a ∈ cx, H' a = H a) : HDok K mg H' F' rt σ cx h :=
  ⟨x.at', x.val, Rp.keep l _ _ _ x.rp fun a ha => k a (x.sub a ha), x.sub⟩
/-- lending without a path -/
theorem lend_none : ∀ {os : List Opd} {t : Tr} {args : List (Bool × D)} {t2 : Tr}, lend none os t = some (args, t2) → ∀ {ws : List V} {cv cs : List Addr}, SR K mg H F t σ cs → RO K mg H F σ hd os ws cv →
    (∀ qv, RV σ qv os ws) ∧ ∃ c1 c2, Rps K mg H F (args.map (·.2)) ws c1 ∧ SR K mg H F t2 σ c2 ∧ (cv ++ cs).Perm (c1 ++ c2)
  | [], t, args, t2, e, ws, cv, cs, s, o => by
    simp only [lend, Option.some.injEq, Prod.mk.injEq] at e
    obtain ⟨rfl, rfl⟩ := e
    simp only [RO] at o
    obtain ⟨rfl, rfl⟩ := o
    exact ⟨fun _ => by simp only [RV], [], cs, by simp only [List.map_nil, Rps]; exact ⟨trivial, trivial⟩, s, by simp⟩
  | .ref i :: r, t, args, t2, e, ws, cv, cs, s, o => by
    simp only [lend] at e
    split at e
    · rename_i d hi
      cases q : lend none r (t.set i none) with
      | none => rw [q] at e; cases e
      | some z =>
        rw [q] at e
        simp only [Option.map_some, Option.some.injEq, Prod.mk.injEq] at e
        obtain ⟨rfl, rfl⟩ := e
        simp only [RO] at o
        obtain ⟨v, w, rfl, e2, o⟩ := o
        obtain ⟨v', a1, a2, e3, rp, s2, p⟩ := s.take hi
        rw [e2] at e3; cases e3
        obtain ⟨rv, c1, c2, r1, s3, p2⟩ := lend_none (args := z.1) (t2 := z.2) q s2 o
        refine ⟨fun qv => by simp only [RV]; exact ⟨v, w, rfl, e2, rv qv⟩, a1 ++ c1, c2, ?_, s3, ?_⟩
        · simp only [List.map_cons, Rps]
          exact ⟨v, w, a1, c1, rfl, rfl, rp, r1⟩
        · refine (p.append_left cv).trans ?_
          rw [← List.append_assoc]
          refine (List.perm_append_comm.append_right a2).trans ?_
          rw [List.append_assoc, List.append_assoc]
          exact p2.append_left a1
    · cases e
  | .val d :: r, t, args, t2, e, ws, cv, cs, s, o => by
    simp only [lend] at e
    cases q : lend none r t with
    | none => rw [q] at e; cases e
    | some z =>
      rw [q] at e
      simp only [Option.map_some, Option.some.injEq, Prod.mk.injEq] at e
      obtain ⟨rfl, rfl⟩ := e
      simp only [RO] at o
      obtain ⟨v, w, a1, a2, rfl, rfl, rp, o⟩ := o
      obtain ⟨rv, c1, c2, r1, s3, p2⟩ := lend_none (args := z.1) (t2 := z.2) q s o
      refine ⟨fun qv => by simp only [RV]; exact ⟨v, w, rfl, rv qv⟩, a1 ++ c1, c2, ?_, s3, ?_⟩
      · simp only [List.map_cons, Rps]
        exact ⟨v, w, a1, c1, rfl, rfl, rp, r1⟩
      · rw [List.append_assoc, List.append_assoc]
        exact p2.append_left a1
  | .dp i st :: r, t, args, t2, e, ws, cv, cs, s, o => by simp [lend] at e
/-- .. with the path's tree -/
theorem lend_some {d0 : D} : ∀ {os : List Opd} {t : Tr} {args : List (Bool × D)} {t2 : Tr}, lend (some d0) os t = some (args, t2) → ∀ {ws : List V} {cv cs : List Addr}, SR K mg H F t σ cs → RO K mg H F σ hd os ws cv →
    ∃ i st h d1 v, hd = some h ∧ h.i = i ∧ dpOf i os = some st ∧ Foc K mg H F h.d h.v h.c st d1 v ∧ RV σ v os ws ∧ ∀ cq, Rp K mg H F d0 v cq →
      ∃ c1 c2, Rps K mg H F (args.map (·.2)) ws c1 ∧ SR K mg H F t2 σ c2 ∧ (cv ++ cs ++ cq).Perm (c1 ++ c2)
  | [], t, args, t2, e, ws, cv, cs, s, o => by simp [lend] at e
  | .ref i :: r, t, args, t2, e, ws, cv, cs, s, o => by
    simp only [lend] at e
    split at e
    · rename_i d hi
      cases q : lend (some d0) r (t.set i none) with
      | none => rw [q] at e; cases e
      | some z =>
        rw [q] at e
        simp only [Option.map_some, Option.some.injEq, Prod.mk.injEq] at e
        obtain ⟨rfl, rfl⟩ := e
        simp only [RO] at o
        obtain ⟨v, w, rfl, e2, o⟩ := o
        obtain ⟨v', a1, a2, e3, rp, s2, p⟩ := s.take hi
        rw [e2] at e3; cases e3
        obtain ⟨j, st, h, d1, vq, y1, y2, y3, y4, rv, y5⟩ := lend_some (args := z.1) (t2 := z.2) q s2 o
        refine ⟨j, st, h, d1, vq, y1, y2, y3, y4, by simp only [RV]; exact ⟨v, w, rfl, e2, rv⟩, fun cq rq => ?_⟩
        obtain ⟨c1, c2, r1, s3, p2⟩ := y5 cq rq
        refine ⟨a1 ++ c1, c2, ?_, s3, ?_⟩
        · simp only [List.map_cons, Rps]
          exact ⟨v, w, a1, c1, rfl, rfl, rp, r1⟩
        · refine ((p.append_left cv).append_right cq).trans ?_
          rw [← List.append_assoc]
          refine ((List.perm_append_comm.append_right a2).append_right cq).trans ?_
          rw [List.append_assoc, List.append_assoc, List.append_assoc]
          rw [List.append_assoc] at p2
          exact p2.append_left a1
    · cases e
  | .val d :: r, t, args, t2, e, ws, cv, cs, s, o => by
    simp only [lend] at e
    cases q : lend (some d0) r t with
    | none => rw [q] at e; cases e
    | some z =>
      rw [q] at e
      simp only [Option.map_some, Option.some.injEq, Prod.mk.injEq] at e
      obtain ⟨rfl, rfl⟩ := e
      simp only [RO] at o
      obtain ⟨v, w, a1, a2, rfl, rfl, rp, o⟩ := o
      obtain ⟨j, st, h, d1, vq, y1, y2, y3, y4, rv, y5⟩ := lend_some (args := z.1) (t2 := z.2) q s o
      refine ⟨j, st, h, d1, vq, y1, y2, y3, y4, by simp only [RV]; exact ⟨v, w, rfl, rv⟩, fun cq rq => ?_⟩
      obtain ⟨c1, c2, r1, s3, p2⟩ := y5 cq rq
      refine ⟨a1 ++ c1, c2, ?_, s3, ?_⟩
      · simp only [List.map_cons, Rps]
        exact ⟨v, w, a1, c1, rfl, rfl, rp, r1⟩
      · rw [List.append_assoc, List.append_assoc, List.append_assoc]
        rw [List.append_assoc] at p2
        exact p2.append_left a1
  | .dp i st :: r, t, args, t2, e, ws, cv, cs, s, o => by
    simp only [lend] at e
    cases q : lend none r t with
    | none => rw [q] at e; cases e
    | some z =>
      rw [q] at e
      simp only [Option.map_some, Option.some.injEq, Prod.mk.injEq] at e
      obtain ⟨rfl, rfl⟩ := e
      simp only [RO] at o
      obtain ⟨v, w, h, d1, rfl, e2, e3, f, o⟩ := o
      obtain ⟨rv, c1, c2, r1, s3, p2⟩ := lend_none (args := z.1) (t2 := z.2) q s o
      refine ⟨i, st, h, d1, v, e2, e3, by simp [dpOf], f, by simp only [RV]; exact ⟨w, rfl, rv v⟩, fun cq rq => ⟨cq ++ c1, c2, ?_, s3, ?_⟩⟩
      · simp only [List.map_cons, Rps]
        exact ⟨v, w, cq, c1, rfl, rfl, rq, r1⟩
      · refine List.perm_append_comm.trans ?_
        rw [List.append_assoc]
        exact p2.append_left cq
/-- what was lent is given back -/
theorem giveB_ok {qv : V} : ∀ {os : List Opd} {o : List (Option D)} {t : Tr} {q : Option D} {t3 : Tr} {q3 : Option D}, giveB os o t q = some (t3, q3) → ∀ {ws : List V} {co c2 cq0 : List Addr}, RV σ qv os ws → SR K mg H F o (ws.map some) co → SR K mg H F t σ c2 →
    (∀ d, q = some d → Rp K mg H F d qv cq0) → ∃ c3 cq g, SR K mg H F t3 σ c3 ∧ (∀ d, q3 = some d → Rp K mg H F d qv cq) ∧ (co ++ c2 ++ cq0).Perm (g ++ (c3 ++ cq))
  | [], [], t, q, t3, q3, e, ws, co, c2, cq0, rv, so, s, hq => by
    simp only [giveB, Option.some.injEq, Prod.mk.injEq] at e
    obtain ⟨rfl, rfl⟩ := e
    simp only [RV] at rv
    subst rv
    simp only [List.map_nil, SR] at so
    obtain ⟨_, rfl⟩ := so
    exact ⟨c2, cq0, [], s, hq, by simp⟩
  | .ref i :: r, none :: o, t, q, t3, q3, e, ws, co, c2, cq0, rv, so, s, hq => by
    simp only [giveB] at e
    simp only [RV] at rv
    obtain ⟨v, w, rfl, e2, rv⟩ := rv
    simp only [List.map_cons, SR] at so
    obtain ⟨_, _, e3, so⟩ := so
    cases e3
    obtain ⟨c2', s2, rr, p⟩ := s.drop (i := i)
    obtain ⟨c3, cq, g, s3, h3, p3⟩ := giveB_ok e rv so s2 hq
    refine ⟨c3, cq, rr ++ g, s3, h3, perm_of fun x => ?_⟩
    have h1 := p.count_eq x
    have h2 := p3.count_eq x
    simp only [List.count_append] at *
    omega
  | .ref i :: r, some d :: o, t, q, t3, q3, e, ws, co, c2, cq0, rv, so, s, hq => by
    simp only [giveB] at e
    simp only [RV] at rv
    obtain ⟨v, w, rfl, e2, rv⟩ := rv
    simp only [List.map_cons, SR] at so
    obtain ⟨_, _, a1, a2, e3, pp, rp, so⟩ := so
    cases e3
    obtain ⟨c2', s2, rr, p⟩ := s.drop (i := i)
    have hi : i < t.length := by
      rw [s.len]
      exact (List.getElem?_eq_some_iff.mp e2).1
    have s2' := SR.put s2 hi e2 rp
    obtain ⟨c3, cq, g, s3, h3, p3⟩ := giveB_ok e rv so s2' hq
    refine ⟨c3, cq, rr ++ g, s3, h3, perm_of fun x => ?_⟩
    have h1 := p.count_eq x
    have h2 := p3.count_eq x
    have h4 := pp.count_eq x
    simp only [List.count_append] at *
    omega
  | .val _ :: r, none :: o, t, q, t3, q3, e, ws, co, c2, cq0, rv, so, s, hq => by
    simp only [giveB] at e
    simp only [RV] at rv
    obtain ⟨v, w, rfl, rv⟩ := rv
    simp only [List.map_cons, SR] at so
    obtain ⟨_, _, e3, so⟩ := so
    cases e3
    exact giveB_ok e rv so s hq
  | .dp _ _ :: r, none :: o, t, q, t3, q3, e, ws, co, c2, cq0, rv, so, s, hq => by
    simp only [giveB] at e
    simp only [RV] at rv
    obtain ⟨w, rfl, rv⟩ := rv
    simp only [List.map_cons, SR] at so
    obtain ⟨_, _, e3, so⟩ := so
    cases e3
    obtain ⟨c3, cq, g, s3, h3, p3⟩ := giveB_ok (cq0 := []) e rv so s (fun d h => nomatch h)
    refine ⟨c3, cq, cq0 ++ g, s3, h3, perm_of fun x => ?_⟩
    have h2 := p3.count_eq x
    simp only [List.count_append, List.count_nil] at *
    omega
  | .dp _ _ :: r, some d :: o, t, q, t3, q3, e, ws, co, c2, cq0, rv, so, s, hq => by
    simp only [giveB] at e
    simp only [RV] at rv
    obtain ⟨w, rfl, rv⟩ := rv
    simp only [List.map_cons, SR] at so
    obtain ⟨_, _, a1, a2, e3, pp, rp, so⟩ := so
    cases e3
    obtain ⟨c3, cq, g, s3, h3, p3⟩ := giveB_ok (cq0 := a1) e rv so s (fun d h => by cases h; exact rp)
    refine ⟨c3, cq, cq0 ++ g, s3, h3, perm_of fun x => ?_⟩
    have h2 := p3.count_eq x
    have h4 := pp.count_eq x
    simp only [List.count_append] at *
    omega
  | [], _ :: _, _, _, _, _, e, _, _, _, _, _, _, _, _ => by simp [giveB] at e
  | .ref _ :: _, [], _, _, _, _, e, _, _, _, _, _, _, _, _ => by simp [giveB] at e
  | .val _ :: _, [], _, _, _, _, e, _, _, _, _, _, _, _, _ => by simp [giveB] at e
  | .val _ :: _, some _ :: _, _, _, _, _, e, _, _, _, _, _, _, _, _ => by simp [giveB] at e
  | .dp _ _ :: _, [], _, _, _, _, e, _, _, _, _, _, _, _, _ => by simp [giveB] at e
end
end Ev
end
section
set_option maxRecDepth 100000
set_option maxHeartbeats 4000000
namespace Ev
open PySem PySem.Spec L2
mutual
def chkTg (N : List Str) (rs : Scope) : Tg → Expr → Bool
  | .n i, .Name x _ => decide (N[i]? = some x) && (rs.names.lookup x == some .local || rs.names.lookup x == some .cell)
  | .t l, .Tuple es _ _ => es.all plainX && chkTgs N rs l es
  | _, _ => false
def chkTgs (N : List Str) (rs : Scope) : List Tg → List Expr → Bool
  | [], [] => true
  | g :: gs, e :: es => chkTg N rs g e && chkTgs N rs gs es
  | _, _ => false
end
mutual
def tgS : Tg → List Nat
  | .n i => [i]
  | .t l => tgSs l
def tgSs : List Tg → List Nat
  | [] => []
  | g :: gs => tgS g ++ tgSs gs
end
structure TgOk (X : Cx) (N : List Str) (rs : Scope) : Prop where
  calm : X.calm = true
  names : X.N = N
  nd : N.Nodup
  loc : ∀ x, rs.names.lookup x = some .local ∨ rs.names.lookup x = some .cell → Loc X.env.scope x ∧ (X.fn x = true ∨ X.env.scope.names.lookup x = some .local)
def mxGs (X : Cx) (es : List Expr) : TGs := fun vs σ H Q => ∃ t, PGs X es t ∧ t vs σ H Q
theorem pgs_mx {X : Cx} {es : List Expr} : PGs X es (mxGs X es) := ⟨fun pins s σ H vs us Q I r ⟨t, p, h⟩ => p.run pins s σ H vs us Q I r h⟩
theorem assignEach_plain : ∀ {es : List Expr} {env : Env}, es.all plainX = true → assignEach es env = es.map fun e => (false, assign e env)
  | [], _, _ => rfl
  | e :: es, env, h => by
    rw [List.all_cons, Bool.and_eq_true] at h
    have ih := assignEach_plain (env := env) h.2
    have : assignEach (e :: es) env = (false, assign e env) :: assignEach es env := by
      have := h.1
      cases e <;> first | rfl | (simp [plainX] at this)
    rw [this, ih]; rfl
theorem assignEach_len {es : List Expr} {env : Env} (h : es.all plainX = true) : (assignEach es env).length = es.length := by rw [assignEach_plain h, List.length_map]
theorem assignEach_star {es : List Expr} {env : Env} (h : es.all plainX = true) : (assignEach es env).findIdx? (·.1) = none := by
  rw [assignEach_plain h, List.findIdx?_eq_none_iff]
  intro x hx
  obtain ⟨e, _, rfl⟩ := List.mem_map.mp hx
  rfl
theorem assignEach_cons {e : Expr} {es : List Expr} {env : Env} (h : (e :: es).all plainX = true) : (assignEach (e :: es) env).map (·.2) = assign e env :: (assignEach es env).map (·.2) := by
  have h2 := h
  rw [List.all_cons, Bool.and_eq_true] at h2
  rw [assignEach_plain h, assignEach_plain h2.2]; rfl
theorem Rp.lstS {K : PySem.W.Frag} {mg : Str → Option Value} {H F : Hp} {o : Bool} {xs : List D} {v : V} {cd : List Addr} (h : Rp K mg H F (.lst o xs) v cd) (l : Le F H) : ∃ a vs cs, v = .ref a ∧ Rd H a (.lst vs) ∧ Rps K mg H F xs vs cs ∧ cs.Sublist cd := by
  cases o with
  | true =>
    simp only [Rp] at h
    obtain ⟨a, vs, c', e, q, r, rfl⟩ := h
    exact ⟨a, vs, c', e, .of q, r, List.sublist_cons_self _ _⟩
  | false =>
    simp only [Rp] at h
    obtain ⟨a, vs, e, q, r⟩ := h
    exact ⟨a, vs, cd, e, l.rd q, r, List.Sublist.refl _⟩
/-- what follows a store -/
def PostG (K : PySem.W.Frag) (mg : Str → Option Value) (H F : Hp) (t' : Tr) (σ : L2.St) (cx : List Addr) (js : List Nat) (Q : L2.St → Hp → Prop) : Prop :=
  ∀ σ' cs', SR K mg H F t' σ' cs' → Good H F (cs' ++ cx) → (∀ j, j ∉ js → σ'[j]? = σ[j]?) → σ'.length = σ.length → Q σ' H
theorem asgs_len : ∀ {l : List Tg} {ds : List D} {t t' : Tr}, asgs l ds t = some t' → l.length = ds.length
  | [], [], _, _, _ => rfl
  | g :: gs, d :: ds, t, t', h => by
    simp only [asgs] at h
    cases e : asg g d t with
    | none => rw [e] at h; cases h
    | some t2 =>
      rw [e] at h
      have h : asgs gs ds t2 = some t' := h
      rw [List.length_cons, List.length_cons, asgs_len h]
  | [], _ :: _, _, _, h => by simp [asgs] at h
  | _ :: _, [], _, _, h => by simp [asgs] at h
theorem chkTgs_len {N : List Str} {rs : Scope} : ∀ {l : List Tg} {es : List Expr}, chkTgs N rs l es = true → l.length = es.length
  | [], [], _ => rfl
  | g :: gs, e :: es, h => by
    simp only [chkTgs, Bool.and_eq_true] at h
    rw [List.length_cons, List.length_cons, chkTgs_len h.2]
  | [], _ :: _, h => by simp [chkTgs] at h
  | _ :: _, [], h => by simp [chkTgs] at h
mutual
theorem asg_ok {X : Cx} {N : List Str} {rs : Scope} (ok : TgOk X N rs) : ∀ (g : Tg) (e : Expr), chkTg N rs g e = true → ∀ (d : D) (t t' : Tr), asg g d t = some t' →
    ∀ (v : V) (σ : L2.St) (H F : Hp) (cs cx cd : List Addr) (Q : L2.St → Hp → Prop), SR X.K X.mg H F t σ cs → Rp X.K X.mg H F d v cd → Good H F (cd ++ cs ++ cx) → PostG X.K X.mg H F t' σ cx (tgS g) Q → mxG X e v σ H Q
  | .n i, e, hc, d, t, t', ha, v, σ, H, F, cs, cx, cd, Q, s, r, g, k => by
    cases e with
    | Name x pos =>
      simp only [chkTg, Bool.and_eq_true, Bool.or_eq_true, decide_eq_true_eq, beq_iff_eq] at hc
      obtain ⟨h1, h2⟩ := hc
      obtain ⟨l1, l2⟩ := ok.loc x h2
      simp only [asg] at ha
      split at ha
      · rename_i hi
        cases ha
        refine ⟨_, pg_name (i := i) (by rw [ok.names]; exact ok.nd) (by rw [ok.names]; exact h1) l1 l2, ?_⟩
        show Q (σ.set i (some v)) H
        obtain ⟨c', s2, rr, p⟩ := s.drop (i := i)
        have s3 := SR.put (SR.store (w := some v) s2) hi (by rw [List.getElem?_set_self (by rw [← s.len]; exact hi)]) r
        refine k _ _ s3 ?_ (fun j hj => ?_) (by rw [List.length_set])
        · refine (g.perm (c' := rr ++ (cd ++ c' ++ cx)) (perm_of fun z => ?_)).sublist (List.sublist_append_right _ _)
          have := p.count_eq z
          simp only [List.count_append] at *
          omega
        · simp only [tgS, List.mem_singleton] at hj
          rw [List.getElem?_set_ne (Ne.symm hj)]
      · cases ha
    | _ => simp [chkTg] at hc
  | .t l, e, hc, d, t, t', ha, v, σ, H, F, cs, cx, cd, Q, s, r, g, k => by
    cases e with
    | Tuple es kk pos =>
      simp only [chkTg, Bool.and_eq_true] at hc
      match d, ha, r with
      | .tup xs, ha, r =>
        simp only [asg] at ha
        obtain ⟨a, vs, rfl, q, rr⟩ := r.tupE g.sub
        refine ⟨_, pg_tup ok.calm pgs_mx (assignEach_len hc.1) (assignEach_star hc.1), ?_⟩
        refine ⟨a, vs, rfl, q, ?_, asgs_ok ok l es hc.1 hc.2 xs t t' ha vs σ H F cs cx cd Q s rr g k⟩
        rw [← rr.length, ← asgs_len ha, chkTgs_len hc.2]
      | .lst o xs, ha, r =>
        simp only [asg] at ha
        obtain ⟨a, vs, c1, rfl, q, rr, sub⟩ := r.lstS g.sub
        refine ⟨_, pg_unl ok.calm pgs_mx (assignEach_len hc.1) (assignEach_star hc.1), ?_⟩
        refine ⟨a, vs, rfl, .inl q, ?_, asgs_ok ok l es hc.1 hc.2 xs t t' ha vs σ H F cs cx c1 Q s rr (g.sublist ((sub.append_right cs).append_right cx)) k⟩
        rw [← rr.length, ← asgs_len ha, chkTgs_len hc.2]
    | _ => simp [chkTg] at hc
theorem asgs_ok {X : Cx} {N : List Str} {rs : Scope} (ok : TgOk X N rs) : ∀ (l : List Tg) (es : List Expr), es.all plainX = true → chkTgs N rs l es = true → ∀ (ds : List D) (t t' : Tr), asgs l ds t = some t' →
    ∀ (vs : List V) (σ : L2.St) (H F : Hp) (cs cx cd : List Addr) (Q : L2.St → Hp → Prop), SR X.K X.mg H F t σ cs → Rps X.K X.mg H F ds vs cd → Good H F (cd ++ cs ++ cx) → PostG X.K X.mg H F t' σ cx (tgSs l) Q → mxGs X es vs σ H Q
  | [], es, hp, hc, ds, t, t', ha, vs, σ, H, F, cs, cx, cd, Q, s, r, g, k => by
    cases es with
    | cons _ _ => simp [chkTgs] at hc
    | nil =>
      cases ds with
      | cons _ _ => simp [asgs] at ha
      | nil =>
        simp only [asgs, Option.some.injEq] at ha
        subst ha
        simp only [Rps] at r
        obtain ⟨rfl, rfl⟩ := r
        exact ⟨_, pgs_nil, rfl, k σ cs s (by simpa using g) (fun _ _ => rfl) rfl⟩
  | gg :: gs, es, hp, hc, ds, t, t', ha, vs, σ, H, F, cs, cx, cd, Q, s, r, g, k => by
    cases es with
    | nil => simp [chkTgs] at hc
    | cons e es =>
      cases ds with
      | nil => simp [asgs] at ha
      | cons d ds =>
        simp only [chkTgs, Bool.and_eq_true] at hc
        have hp2 := hp
        rw [List.all_cons, Bool.and_eq_true] at hp2
        simp only [asgs] at ha
        cases e1 : asg gg d t with
        | none => rw [e1] at ha; cases ha
        | some t2 =>
          rw [e1] at ha
          have ha : asgs gs ds t2 = some t' := ha
          simp only [Rps] at r
          obtain ⟨v, w, c1, c2, rfl, rfl, r1, r2⟩ := r
          refine ⟨_, pgs_cons pg_mx pgs_mx (assignEach_cons hp), v, w, rfl, ?_⟩
          refine asg_ok ok gg e hc.1 d t t2 e1 v σ H F cs (c2 ++ cx) c1 _ s r1 (g.perm (perm_of fun z => by simp only [List.count_append]; omega)) fun σ2 cs2 s2 g2 k2 l2 => ?_
          refine asgs_ok ok gs es hp2.2 hc.2 ds t2 t' ha w σ2 H F cs2 cx c2 Q s2 r2 (g2.perm (perm_of fun z => by simp only [List.count_append]; omega)) fun σ3 cs3 s3 g3 k3 l3 => ?_
          refine k σ3 cs3 s3 g3 (fun j hj => ?_) (l3.trans l2)
          simp only [tgSs, List.mem_append, not_or] at hj
          rw [k3 j hj.2, k2 j hj.1]
end
end Ev
end
section
set_option maxRecDepth 100000
set_option maxHeartbeats 4000000
namespace Ev
open PySem PySem.Spec L2
/-! ### where they stand in the text -/
def dkOk (P : Pg) (f : Str) (dv : D) : Bool := match P.dk f, dv with
  | some (.int i), .int j => decide (i = j)
  | _, _ => false
theorem dkOk_ok {P : Pg} {f : Str} {dv : D} (h : dkOk P f dv = true) : P.dk f = some dv := by
  unfold dkOk at h
  split at h
  · rename_i e
    rw [e, of_decide_eq_true h]
  · cases h
def blkSc (sc scope : Scope) : Scope :=
  { scope with names := scope.names.map fun (n, k) => if (k == .free && sc.kind == .function && sc.names.lookup n == some .cell) then (n, .cell) else (n, k) }
def subB (l m : List Nat) : Bool := l.all fun i => decide (i ∈ m)
section
variable {P : Pg}
mutual
def chkB (N : List Str) (sc : Scope) : B P → Expr → Bool
  | .pu a, e => chkA N sc a e && noIte a
  | .nm i, .Name x _ => visB N sc i x
  | .mv i, .Name x _ => visB N sc i x
  | .fz b, e => chkB N sc b e && testPlain e
  | .rf i, .Name x _ => visB N sc i x
  | .dp a, e => chkA N sc a e
  | .q o es, e => match o.sh sc e with
    | some xs => chkBs N sc es xs
    | none => false
  | .tup es, .Tuple xs _ _ => xs.all plainX && chkBs N sc es xs
  | .lst es, .List xs _ => xs.all plainX && chkBs N sc es xs
  | .and es, .BoolOp .And xs _ => chkBs N sc es xs
  | .or es, .BoolOp .Or xs _ => chkBs N sc es xs
  | .not a, .UnaryOp .Not x _ => chkB N sc a x
  | .call (.fv i) none es, .Call (.Name x _) as [] _ => visB N sc i x && as.all plainX && !as.isEmpty && chkBs N sc es as
  | .call (.glob f) _ es, .Call (.Name x _) as [] _ => P.fn f && decide (f = x) && glB sc x && !(x == ("__debug__" : Str)) && as.all plainX && chkBs N sc es as
  | .call (.globB f) _ es, .Call (.Name x _) as [] _ => P.fn f && decide (f = x) && glB sc x && !(x == ("__debug__" : Str)) && as.all plainX && chkBs N sc es as
  | .call (.mk f) _ es, .Call (.Name x _) as [] _ => P.ck f && decide (f = x) && glB sc x && !(x == ("__debug__" : Str)) && as.all plainX && chkBs N sc es as
  | .call (.mkd f dv) _ es, .Call (.Name x _) as [] _ => P.ck f && decide (f = x) && glB sc x && !(x == ("__debug__" : Str)) && as.all plainX && chkBs N sc es as && dkOk P f dv
  | .call (.meth C m) _ es, .Call (.Attribute o n apos) as [] pos => P.mt C m && decide (m = n) && plainX o && as.all plainX && decide (as.length < 29) && (apos.endLine == pos.line) && chkBs N sc es (o :: as)
  | .qm o es, e => match o.sh sc e with
    | some (x, xs) => testPlain e && chkBs N sc es (x :: xs)
    | none => false
  | .mut o _ es, e => match o.sh sc e with
    | some (x, xs) => testPlain e && chkBs N sc es (x :: xs)
    | none => false
  | .lc elt tg own it es ifs, .ListComp el [⟨tg', iter, ifs', 0⟩] scope _ => blkC N sc scope own && chkTg N scope tg tg' && subB (tgS tg) (own.map (·.2)) &&
      (match it.sh sc tg' iter with
        | some xs => xs.all plainX && chkBs N sc es xs
        | none => false) &&
      decide (ifs.length < 2) && chkBs N (blkSc sc scope) ifs ifs' && chkB N (blkSc sc scope) elt el
  | _, _ => false
def chkBs (N : List Str) (sc : Scope) : List (B P) → List Expr → Bool
  | [], [] => true
  | a :: r, e :: t => chkB N sc a e && chkBs N sc r t
  | _, _ => false
end
end
section
variable {K : PySem.W.Frag} {mg : Str → Option Value} {H F H' F' : Hp}
theorem SR.unstore : ∀ {t : Tr} {σ : L2.St} {c : List Addr} {i : Nat} {w : Option V}, SR K mg H F (t.set i none) (σ.set i w) c → t.length = σ.length → SR K mg H F (t.set i none) σ c
  | [], σ, c, i, w, h, hl => by
    cases σ with
    | nil => simpa using h
    | cons _ _ => simp at hl
  | x :: t, [], c, i, w, h, hl => by simp at hl
  | x :: t, v :: σ, c, 0, w, h, hl => by
    have h : SR K mg H F (none :: t) (w :: σ) c := h
    simp only [SR] at h
    obtain ⟨v', u, es, h⟩ := h
    cases es
    show SR K mg H F (none :: t) (v :: σ) c
    simp only [SR]
    exact ⟨v, σ, rfl, h⟩
  | none :: t, v :: σ, c, i + 1, w, h, hl => by
    have h : SR K mg H F (none :: t.set i none) (v :: σ.set i w) c := h
    simp only [SR] at h
    obtain ⟨v', u, es, h⟩ := h
    cases es
    show SR K mg H F (none :: t.set i none) (v :: σ) c
    simp only [SR]
    exact ⟨v, σ, rfl, SR.unstore h (by simpa using hl)⟩
  | some d0 :: t, v :: σ, c, i + 1, w, h, hl => by
    have h : SR K mg H F (some d0 :: t.set i none) (v :: σ.set i w) c := h
    simp only [SR] at h
    obtain ⟨v', u, c1, c2, es, q, r, h⟩ := h
    cases es
    show SR K mg H F (some d0 :: t.set i none) (some v' :: σ) c
    simp only [SR]
    exact ⟨v', σ, c1, c2, rfl, q, r, SR.unstore h (by simpa using hl)⟩
def NoneAt (t : Tr) (vs : List Nat) : Prop := ∀ v ∈ vs, t.set v none = t
theorem set_none_comm {t : Tr} {i j : Nat} : (t.set i none).set j none = (t.set j none).set i none := by
  by_cases e : i = j
  · subst e; rfl
  · exact List.set_comm none none e
theorem noneAt_wipeT (t : Tr) : ∀ vs : List Nat, NoneAt (wipeT t vs) vs
  | [] => fun v hv => by simp at hv
  | v :: vs => fun w hw => by
    show ((wipeT t vs).set v none).set w none = (wipeT t vs).set v none
    rcases List.mem_cons.mp hw with rfl | hw
    · rw [List.set_set]
    · rw [set_none_comm, noneAt_wipeT t vs w hw]
theorem wipeT_len (t : Tr) : ∀ vs : List Nat, (wipeT t vs).length = t.length
  | [] => rfl
  | v :: vs => by
    show ((wipeT t vs).set v none).length = t.length
    rw [List.length_set, wipeT_len t vs]
/-- own slots are forgotten, in the state and in the trees -/
theorem SR.wipe {t : Tr} {σ : L2.St} {c : List Addr} (h : SR K mg H F t σ c) : ∀ vs : List Nat, ∃ c' g, SR K mg H F (wipeT t vs) (L2.wipe σ vs) c' ∧ c.Perm (g ++ c')
  | [] => ⟨c, [], h, by simp⟩
  | v :: vs => by
    obtain ⟨c1, g1, h1, p1⟩ := SR.wipe h vs
    obtain ⟨c2, h2, g2, p2⟩ := h1.drop (i := v)
    refine ⟨c2, g1 ++ g2, SR.store (w := none) h2, perm_of fun x => ?_⟩
    have a1 := p1.count_eq x
    have a2 := p2.count_eq x
    simp only [List.count_append] at *
    omega
theorem SR.unwipe {t : Tr} {σ : L2.St} {c : List Addr} : ∀ vs : List Nat, NoneAt t vs → t.length = σ.length → SR K mg H F t (L2.wipe σ vs) c → SR K mg H F t σ c
  | [], _, _, h => h
  | v :: vs, n, hl, h => by
    have h : SR K mg H F t ((L2.wipe σ vs).set v none) c := h
    have e := n v (by simp)
    rw [← e] at h
    have h2 := SR.unstore h (by rw [wipe_length]; exact hl)
    rw [e] at h2
    exact SR.unwipe vs (fun w hw => n w (by simp [hw])) hl h2
theorem SR.towipe {t : Tr} {σ : L2.St} {c : List Addr} (h : SR K mg H F t σ c) : ∀ vs : List Nat, NoneAt t vs → SR K mg H F t (L2.wipe σ vs) c
  | [], _ => h
  | v :: vs, n => by
    have h2 := SR.towipe h vs fun w hw => n w (by simp [hw])
    have e := n v (by simp)
    show SR K mg H F t ((L2.wipe σ vs).set v none) c
    rw [← e] at h2 ⊢
    exact SR.store h2
/-- the operands as trees at the operation -/
theorem RO.rpe {σ : L2.St} {hd : Option HD} {t : Tr} {cs : List Addr} (s : SR K mg H F t σ cs) : ∀ {os : List Opd} {ws : List V} {cv c : List Addr} {ds : List D}, RO K mg H F σ hd os ws cv → opdDs t os = some ds → (∀ a ∈ cv, a ∈ c) → (∀ a ∈ cs, a ∈ c) → RpE K mg H F c ds ws
  | [], ws, cv, c, ds, o, e, h1, h2 => by
    simp only [opdDs, Option.some.injEq] at e
    subst e
    simp only [RO] at o
    simp only [RpE]; exact o.1
  | .ref i :: r, ws, cv, c, ds, o, e, h1, h2 => by
    simp only [opdDs] at e
    split at e
    · rename_i x y e1 e2
      cases e
      simp only [RO] at o
      obtain ⟨v, w, rfl, e3, o⟩ := o
      simp only [opdD] at e1
      split at e1
      · rename_i d hi
        cases e1
        obtain ⟨v', a1, a2, e4, rp, _, p⟩ := s.take hi
        rw [e3] at e4; cases e4
        simp only [RpE]
        exact ⟨v, w, a1, rfl, rp, fun a ha => h2 a (p.symm.subset (by simp [ha])), RO.rpe s o e2 h1 h2⟩
      · cases e1
    · cases e
  | .val d :: r, ws, cv, c, ds, o, e, h1, h2 => by
    simp only [opdDs] at e
    split at e
    · rename_i x y e1 e2
      cases e
      cases e1
      simp only [RO] at o
      obtain ⟨v, w, c1, c2, rfl, rfl, rp, o⟩ := o
      simp only [RpE]
      exact ⟨v, w, c1, rfl, rp, fun a ha => h1 a (by simp [ha]), RO.rpe s o e2 (fun a ha => h1 a (by simp [ha])) h2⟩
    · cases e
  | .dp i st :: r, ws, cv, c, ds, o, e, h1, h2 => by
    simp only [opdDs, opdD] at e
    cases e
theorem RO.vals {σ : L2.St} {hd : Option HD} : ∀ {os : List Opd} {ws : List V} {cv : List Addr} {ds : List D}, RO K mg H F σ hd os ws cv → valsOf os = some ds → Rps K mg H F ds ws cv
  | [], ws, cv, ds, o, e => by
    simp only [valsOf, Option.some.injEq] at e
    subst e
    simp only [RO] at o
    simp only [Rps]; exact o
  | .val d :: r, ws, cv, ds, o, e => by
    simp only [valsOf] at e
    cases q : valsOf r with
    | none => rw [q] at e; cases e
    | some z =>
      rw [q] at e
      cases e
      simp only [RO] at o
      obtain ⟨v, w, c1, c2, rfl, rfl, rp, o⟩ := o
      simp only [Rps]
      exact ⟨v, w, c1, c2, rfl, rfl, rp, RO.vals o q⟩
  | .ref i :: r, ws, cv, ds, o, e => by simp [valsOf] at e
  | .dp i st :: r, ws, cv, ds, o, e => by simp [valsOf] at e
end
/-! ### what follows -/
def PostB (X : Cx) (W : WX) (H F : Hp) (σ : L2.St) (cx : List Addr) (r : Rs D) (Q : VK) : Prop :=
  (∀ d t', r = .ok d t' → ∀ v H' F' cd cs', Le F F' → (∀ a ∈ cx, H' a = H a) → SR X.K X.mg H' F' t' σ cs' → Good H' F' (cd ++ cs' ++ cx) → Rp X.K X.mg H' F' d v cd → Q v H') ∧
  (∀ x t', r = .ex x t' → ∀ cls od H' F' cs', Le F F' → (∀ a ∈ cx, H' a = H a) → SR X.K X.mg H' F' t' σ cs' → Good H' F' (cs' ++ cx) → RpX X.K X.mg H' F' x cls od → W cls od σ H')
def PostO (X : Cx) (W : WX) (H F : Hp) (σ : L2.St) (cx : List Addr) (hd : Option HD) (r : Rs (List Opd)) (k : List V → Hp → Prop) : Prop :=
  (∀ os t', r = .ok os t' → ∀ ws H' F' cv cs', Le F F' → (∀ a ∈ cx, H' a = H a) → SR X.K X.mg H' F' t' σ cs' → Good H' F' (cv ++ cs' ++ cx) → RO X.K X.mg H' F' σ hd os ws cv → k ws H') ∧
  (∀ x t', r = .ex x t' → ∀ cls od H' F' cs', Le F F' → (∀ a ∈ cx, H' a = H a) → SR X.K X.mg H' F' t' σ cs' → Good H' F' (cs' ++ cx) → RpX X.K X.mg H' F' x cls od → W cls od σ H')
/-- the context of the evaluator -/
structure BOk (P : Pg) (X : Cx) (N : List Str) (sc : Scope) (k : Nat) (cl : Cl) (W : WX) : Prop where
  x : XOk P X N sc
  c : ClOk P X k cl
  w : Takes X W
section
variable {P : Pg}
def ValB (X : Cx) (W : WX) (cl : Cl) (t rt : Tr) (b : B P) (e : Expr) : Prop := ∀ r, evB cl rt b t = some r → ∀ (σ : L2.St) (H F : Hp) (cs cx : List Addr) (Q : VK), BS X.K X.mg H F t rt σ cs cx → PostB X W H F σ cx r Q → mx X e σ H Q
def BlR (r : Rs D) : Prop := ∀ d t', r = .ok d t' → ∃ b, d = .bl b
def TstB (X : Cx) (W : WX) (cl : Cl) (t rt : Tr) (b : B P) (e : Expr) : Prop := ∀ r, evB cl rt b t = some r → BlR r → ∀ (σ : L2.St) (H F : Hp) (cs cx : List Addr) (Q : Bool → Hp → Prop), BS X.K X.mg H F t rt σ cs cx →
  PostB X W H F σ cx r (fun v H' => ∃ b, v = .bl b ∧ Q b H') → mxT X e σ H Q
theorem bothB {X : Cx} {W : WX} {cl : Cl} {t rt : Tr} {b : B P} {e : Expr} (v : ValB X W cl t rt b e) (h : testPlain e = true) : ValB X W cl t rt b e ∧ TstB X W cl t rt b e := by
  refine ⟨v, fun r hr _ σ H F cs cx Q s k => ?_⟩
  exact ⟨_, pt_val pe_mx (testPlain_ok h), v r hr σ H F cs cx _ s k⟩
end
theorem BOk.blk {P : Pg} {X : Cx} {N : List Str} {sc scope : Scope} {own : List (Str × Nat)} {k : Nat} {cl : Cl} {W : WX} (ok : BOk P X N sc k cl W) (s : Shared) (H : Hp) (C : Addr) (c : List (Str × Addr)) (fp : List Addr) :
    BOk P (X.blk s H scope (compEnvC scope c C X.env) fp) N (blkSc sc scope) k cl (fun _ _ _ _ => False) := by
  obtain ⟨x, co, w⟩ := ok
  refine ⟨⟨x.calm, x.names, x.nd, ?_, x.units, x.blt, x.glob, x.cls, x.tab⟩, ⟨co.room, co.fn, co.me, co.mak, co.makd⟩, fun _ _ ⟨_, _, _, _, _, _, _, _, _, _, _, _, _, _, _, _, w⟩ => w.elim⟩
  show relabel scope X.env = blkSc sc scope
  rw [← x.scope]; rfl
theorem TgOk.blk {X : Cx} {N : List Str} {scope : Scope} (hc : X.calm = true) (hn : X.N = N) (nd : N.Nodup) (s : Shared) (H : Hp) (C : Addr) (c : List (Str × Addr)) (fp : List Addr) :
    TgOk (X.blk s H scope (compEnvC scope c C X.env) fp) N scope := by
  refine ⟨hc, hn, nd, fun x hx => ?_⟩
  have hl : scope.names.lookup x = some .local → (relabel scope X.env).names.lookup x = some .local := fun h => lookup_relabel_local h
  have hcell : scope.names.lookup x = some .cell → (relabel scope X.env).names.lookup x = some .cell := by
    intro h
    have gen : ∀ names : List (Str × NameKind), names.lookup x = some .cell → (names.map fun (n, k) => if (k == NameKind.free && X.env.scope.kind == .function && X.env.kindOf n == some .cell) then (n, NameKind.cell) else (n, k)).lookup x = some .cell := by
      intro names
      induction names with
      | nil => intro h; simp at h
      | cons p r ih =>
        obtain ⟨n, kd⟩ := p
        intro h
        show List.lookup x ((if (kd == NameKind.free && X.env.scope.kind == .function && X.env.kindOf n == some .cell) = true then (n, NameKind.cell) else (n, kd)) :: _) = _
        cases hx : x == n with
        | true =>
          simp only [List.lookup_cons, hx] at h
          cases h
          simp [List.lookup_cons, hx]
        | false =>
          simp only [List.lookup_cons, hx] at h
          by_cases hcc : (kd == NameKind.free && X.env.scope.kind == .function && X.env.kindOf n == some .cell) = true
          · rw [if_pos hcc]; simp only [List.lookup_cons, hx]; exact ih h
          · rw [if_neg hcc]; simp only [List.lookup_cons, hx]; exact ih h
    exact gen scope.names h
  rcases hx with h | h
  · exact ⟨.inl (hl h), .inr (hl h)⟩
  · exact ⟨.inr (hcell h), .inl (by show (scope.names.lookup x == some .cell) = true; rw [h]; rfl)⟩
end Ev
end
section
set_option maxRecDepth 100000
set_option maxHeartbeats 4000000
namespace Ev
open PySem PySem.Spec L2
section
variable {P : Pg} {X : Cx} {N : List Str} {sc : Scope} {k : Nat} {cl : Cl} {W : WX}
theorem mx_fn (ok : BOk P X N sc k cl W) {f : Str} {p pos : Pos} {es : List Expr} (hf : P.fn f = true) (hg : glB sc f = true) (hdb : (f == ("__debug__" : Str)) = false) (hp : es.all plainX = true) {σ : L2.St} {H : Hp} {Q : VK}
    (h : tOps (es.map (mx X)) (fun vs H1 Q => spOf X.K X.mg (cl (f, none)) vs H1 Q (WE W σ)) σ H Q) : mx X (.Call (.Name f p) es [] pos) σ H Q := by
  obtain ⟨g, fd, ps, F, hm, hk, hb⟩ := ok.c.fn f hf
  have hr : Room k X.A := ok.c.room.mono (Nat.le_succ k)
  cases es with
  | nil => exact mx_of (pe_fn0 (E := WE W) F hr (ok.x.gl hg) hm hk hb (passAt ok.w) hdb) h
  | cons e es =>
    have hp' := hp
    rw [List.all_cons, Bool.and_eq_true] at hp'
    rw [tL_ops] at h
    exact mx_of (pe_callS (E := WE W) F hr (ok.x.gl hg) hm hk hb (passAt ok.w) (pa_all (allPE_mx _) hp) hdb (star_cons hp'.1) (noStar hp'.2)) h
theorem mx_fv (ok : BOk P X N sc k cl W) {g x : Str} {i : Nat} {p pos : Pos} {es : List Expr} (hf : P.fn g = true) (hg : visB N sc i x = true) (hp : es.all plainX = true) (hne : es.isEmpty = false) {σ : L2.St} {H : Hp} {Q : VK} (hs : ∃ a, σ[i]? = some (some (.ref a)) ∧ X.mg g = some (.ref a))
    (h : tOps (es.map (mx X)) (fun vs H1 Q => spOf X.K X.mg (cl (g, none)) vs H1 Q (WE W σ)) σ H Q) : mx X (.Call (.Name x p) es [] pos) σ H Q := by
  obtain ⟨f, fd, ps, F, hm, hk, hb⟩ := ok.c.fn g hf
  obtain ⟨a, hs1, hs2⟩ := hs
  rw [hm] at hs2
  cases hs2
  have hr : Room k X.A := ok.c.room.mono (Nat.le_succ k)
  obtain ⟨h1, h2, h3, h4⟩ := visB_ok ok.x hg
  cases es with
  | nil => cases hne
  | cons e es =>
    have hp' := hp
    rw [List.all_cons, Bool.and_eq_true] at hp'
    rw [tL_ops] at h
    exact mx_of (pe_callV (E := WE W) F hr h1 h2 h3 h4 hk hb (passAt ok.w) (pa_all (allPE_mx _) hp) (star_cons hp'.1) (noStar hp'.2)) ⟨hs1, h⟩
theorem mx_meth (ok : BOk P X N sc k cl W) {C m : Str} {o : Expr} {apos pos : Pos} {es : List Expr} (hf : P.mt C m = true) (ho : plainX o = true) (hp : es.all plainX = true) (hlen : es.length < 29) (hl : (apos.endLine == pos.line) = true) {σ : L2.St} {H : Hp} {Q : VK}
    (h : ∀ A, X.mg C = some (.ref A) → mx X o σ H fun x H1 => ∃ a dx fs, x = .ref a ∧ H1 a = some (.ins A dx fs) ∧ fs.lookup m = none ∧ tOps (es.map (mx X)) (fun vs H2 Q => spOf X.K X.mg (cl (C, some m)) (x :: vs) H2 Q (WE W σ)) σ H1 Q) : mx X (.Call (.Attribute o m apos) es [] pos) σ H Q := by
  obtain ⟨A, g, fd, ps, hA, F, hc, hm, hb⟩ := ok.c.me C m hf
  have hr : Room k X.A := ok.c.room.mono (Nat.le_succ k)
  have h := h A hA
  cases es with
  | nil => exact mx_of (pe_methG0 (E := WE W) pe_mx hc hm F hr hb (passAt ok.w) ho hl) h
  | cons e es =>
    refine mx_of (pe_methG (E := WE W) pe_mx hc hm F hr hb (passAt ok.w) (pa_all (allPE_mx _) hp) ho hl hp hlen) ?_
    have e2 : (fun x H1 => ∃ a dx fs, x = V.ref a ∧ H1 a = some (HO.ins A dx fs) ∧ fs.lookup m = none ∧ tOps ((e :: es).map (mx X)) (fun vs H2 Q => spOf X.K X.mg (cl (C, some m)) (x :: vs) H2 Q (WE W σ)) σ H1 Q) =
        (fun x H1 => ∃ a dx fs, x = V.ref a ∧ H1 a = some (HO.ins A dx fs) ∧ fs.lookup m = none ∧ tL ((e :: es).map (mx X)) σ H1 fun vs H2 => spOf X.K X.mg (cl (C, some m)) (x :: vs) H2 Q (WE W σ)) := by
      funext x H1
      rw [tL_ops]
    rw [e2] at h
    exact h
theorem mx_mk (ok : BOk P X N sc k cl W) {C : Str} {p pos : Pos} {es : List Expr} (hf : P.ck C = true) (hg : glB sc C = true) (hdb : (C == ("__debug__" : Str)) = false) (hp : es.all plainX = true) {σ : L2.St} {H : Hp} {Q : VK}
    (h : ∀ A, X.mg C = some (.ref A) → tOps (es.map (mx X)) (fun vs H1 Q => ∀ x dx, H1 x = none → H1 dx = none → dx ≠ x → spOf X.K X.mg (cl (C, some "__init__")) (.ref x :: vs) (upd (upd H1 dx (.own x)) x (.ins A dx [])) (fun v H2 => v = .non ∧ Q (.ref x) H2) (WE W σ)) σ H Q) : mx X (.Call (.Name C p) es [] pos) σ H Q := by
  obtain ⟨A, g, fd, ps, hA, F, M, hb⟩ := ok.c.mak C hf
  have h := h A hA
  cases es with
  | nil => exact mx_of (pe_makeG0 (E := WE W) M F ok.c.room (ok.x.gl hg) hA hb (passAt ok.w) hdb) h
  | cons e es =>
    rw [tL_ops] at h
    exact mx_of (pe_makeG (E := WE W) M F ok.c.room (ok.x.gl hg) hA hb (passAt ok.w) (pa_all (allPE_mx _) hp) hdb hp) h
theorem mx_mkd (ok : BOk P X N sc k cl W) {C : Str} {p pos : Pos} {es : List Expr} {dv : D} (hf : P.ck C = true) (hk : P.dk C = some dv) (hg : glB sc C = true) (hdb : (C == ("__debug__" : Str)) = false) (hp : es.all plainX = true) {σ : L2.St} {H : Hp} {Q : VK}
    (h : ∀ A v, X.mg C = some (.ref A) → (∀ H F, Rp X.K X.mg H F dv v []) → tOps (es.map (mx X)) (fun vs H1 Q => ∀ x dx, H1 x = none → H1 dx = none → dx ≠ x → spOf X.K X.mg (cl (C, some "__init__")) (.ref x :: (vs ++ [v])) (upd (upd H1 dx (.own x)) x (.ins A dx [])) (fun v H2 => v = .non ∧ Q (.ref x) H2) (WE W σ)) σ H Q) : mx X (.Call (.Name C p) es [] pos) σ H Q := by
  obtain ⟨A, g, fd, ps, hA, F, M, _, v, u, rv, hv, hb⟩ := ok.c.makd C dv hf hk
  have hd : Vals [v] [u] := .cons rv .nil
  have h := h A v hA hv
  cases es with
  | nil => exact mx_of (pe_makeD0 (E := WE W) M F ok.c.room (ok.x.gl hg) hA hb hd (passAt ok.w) hdb) h
  | cons e es =>
    rw [tL_ops] at h
    exact mx_of (pe_makeD (E := WE W) M F ok.c.room (ok.x.gl hg) hA hb hd (passAt ok.w) (pa_all (allPE_mx _) hp) hdb hp) h
end
section
variable {K : PySem.W.Frag} {mg : Str → Option Value} {H F H' F' : Hp} {σ : L2.St}
/-- how what was lent comes back -/
def Ends (K : PySem.W.Frag) (mg : Str → Option Value) (H F : Hp) (σ : L2.St) (w : Tr → Option D → Option Tr) (qv : V) (rest : List Addr) : Prop :=
  ∀ t3 q3 t' H' F' c3 cq, w t3 q3 = some t' → SR K mg H' F' t3 σ c3 → (∀ d, q3 = some d → Rp K mg H' F' d qv cq) → Le F F' → (∀ a ∈ rest, H' a = H a) → ∃ c4 g, SR K mg H' F' t' σ c4 ∧ (cq ++ c3 ++ rest).Perm (g ++ c4)
theorem ends_no (qv : V) : Ends K mg H F σ noW qv [] := fun t3 q3 t' H' F' c3 cq hw s hq l k => by
  cases q3 with
  | none =>
    cases hw
    exact ⟨c3, cq, s, by simp⟩
  | some d => cases hw
theorem ends_back {h : HD} {st : List Stp} {v1 : V} {rest : List Addr} (hv : σ[h.i]? = some (some h.v))
    (b : ∀ H' F' d' c', Le F F' → (∀ a ∈ rest, H' a = H a) → Rp K mg H' F' d' v1 c' → ∃ d2 c2, putP h.d st d' = some d2 ∧ Rp K mg H' F' d2 h.v c2 ∧ c2.Perm (c' ++ rest)) : Ends K mg H F σ (backW h.i h.d st) v1 rest := fun t3 q3 t' H' F' c3 cq hw s hq l k => by
  cases q3 with
  | none => cases hw
  | some d =>
    have r := hq d rfl
    obtain ⟨d2, c2, e1, r2, p2⟩ := b H' F' d cq l k r
    have hw : (putP h.d st d).map (fun d' => t3.set h.i (some d')) = some t' := hw
    rw [e1] at hw
    cases hw
    obtain ⟨c3', s3, rr, p3⟩ := s.drop (i := h.i)
    have hi : h.i < t3.length := by
      rw [s.len]
      exact (List.getElem?_eq_some_iff.mp hv).1
    refine ⟨c2 ++ c3', rr, SR.put s3 hi hv r2, perm_of fun x => ?_⟩
    have a1 := p2.count_eq x
    have a2 := p3.count_eq x
    simp only [List.count_append] at *
    omega
theorem give_end {w : Tr → Option D → Option Tr} {qv : V} {rest : List Addr} (E : Ends K mg H F σ w qv rest) {os : List Opd} {o : List (Option D)} {t2 t3 t' : Tr} {q3 : Option D} (hg : giveB os o t2 none = some (t3, q3)) (hw : w t3 q3 = some t')
    {ws : List V} {co c2 : List Addr} (rv : RV σ qv os ws) (so : SR K mg H' F' o (ws.map some) co) (s : SR K mg H' F' t2 σ c2) (l : Le F F') (k : ∀ a ∈ rest, H' a = H a) : ∃ c4 g, SR K mg H' F' t' σ c4 ∧ (co ++ c2 ++ rest).Perm (g ++ c4) := by
  obtain ⟨c3, cq, g, s3, h3, p3⟩ := giveB_ok (cq0 := []) hg rv so s (fun d h => nomatch h)
  obtain ⟨c4, g4, s4, p4⟩ := E t3 q3 t' H' F' c3 cq hw s3 h3 l k
  refine ⟨c4, g ++ g4, s4, perm_of fun x => ?_⟩
  have a1 := p3.count_eq x
  have a2 := p4.count_eq x
  simp only [List.count_append, List.count_nil] at *
  omega
theorem Good.part {c c' g : List Addr} (x : Good H F c) (p : c.Perm (g ++ c')) : Good H F c' := (x.perm p.symm).sublist (List.sublist_append_right _ _)
theorem Good.memo {a b : List Addr} (x : Good H F (a ++ b)) : Good H F b := x.sublist (List.sublist_append_right _ _)
end
section
variable {P : Pg} {X : Cx} {W : WX} {σ : L2.St} {H F : Hp} {w : Tr → Option D → Option Tr} {qv : V} {rest c1 c2 cx : List Addr} {os : List Opd} {args : List (Bool × D)} {t2 : Tr} {ws : List V} {Q : VK} {r : Rs D}
theorem bind_map {α β γ : Type} {m : Option (α × β)} {f : α → β → Option Tr} {g : Tr → γ} {r : γ} (h : (m.bind fun y => (f y.1 y.2).map g) = some r) : ∃ a b t', m = some (a, b) ∧ f a b = some t' ∧ r = g t' := by
  cases m with
  | none => cases h
  | some y =>
    obtain ⟨a, b⟩ := y
    have h : (f a b).map g = some r := h
    cases e : f a b with
    | none => rw [e] at h; cases h
    | some t' =>
      rw [e] at h
      cases h
      exact ⟨a, b, t', rfl, e, rfl⟩
theorem sp_end (E : Ends X.K X.mg H F σ w qv rest) {cl1 : List (Bool × D) → Option CR} (rp : Rps X.K X.mg H F (args.map (·.2)) ws c1) (s2 : SR X.K X.mg H F t2 σ c2) (g : Good H F (c1 ++ c2 ++ rest ++ cx)) (rv : RV σ qv os ws)
    (h : backR w os t2 (cl1 args) = some r) (k : PostB X W H F σ cx r Q) : spOf X.K X.mg cl1 ws H Q (WE W σ) := by
  cases hc : cl1 args with
  | none => rw [hc] at h; cases h
  | some r0 =>
    rw [hc] at h
    refine ⟨F, args, c1, c2 ++ rest ++ cx, r0, rp, by simpa only [List.append_assoc] using g, hc, ?_⟩
    cases r0 with
    | ok d o =>
      obtain ⟨t3, q3, t', e1, e2, rfl⟩ := bind_map h
      intro v H' F' cd co l kk g' rd so
      have s2' := s2.keep (H' := H') l fun a ha => kk a (by simp [ha])
      obtain ⟨c4, g4, s4, p4⟩ := give_end E e1 e2 rv so s2' l fun a ha => kk a (by simp [ha])
      refine k.1 d t' rfl v H' F' cd c4 l (fun a ha => kk a (by simp [ha])) s4 ?_ rd
      refine g'.part (g := g4) (perm_of fun x => ?_)
      have a2 := p4.count_eq x
      simp only [List.count_append] at *
      omega
    | ex x o =>
      obtain ⟨t3, q3, t', e1, e2, rfl⟩ := bind_map h
      intro cls od H' F' co l kk g' rx so
      have s2' := s2.keep (H' := H') l fun a ha => kk a (by simp [ha])
      obtain ⟨c4, g4, s4, p4⟩ := give_end E e1 e2 rv so s2' l fun a ha => kk a (by simp [ha])
      refine k.2 x t' rfl cls od H' F' c4 l (fun a ha => kk a (by simp [ha])) s4 ?_ rx
      refine g'.part (g := g4) (perm_of fun x => ?_)
      have a2 := p4.count_eq x
      simp only [List.count_append] at *
      omega
theorem mk_end (E : Ends X.K X.mg H F σ w qv rest) {C : Str} {A : Addr} (hA : X.mg C = some (.ref A)) {cl1 : List (Bool × D) → Option CR} (rp : Rps X.K X.mg H F (args.map (·.2)) ws c1) (s2 : SR X.K X.mg H F t2 σ c2) (g : Good H F (c1 ++ c2 ++ rest ++ cx)) (rv : RV σ qv os ws)
    (h : backM w os t2 (cl1 ((true, .ins true C [] []) :: args)) = some r) (k : PostB X W H F σ cx r Q) {x dx : Addr} (hx : H x = none) (hdx : H dx = none) (hne : dx ≠ x) : spOf X.K X.mg cl1 (.ref x :: ws) (upd (upd H dx (.own x)) x (.ins A dx [])) (fun v H2 => v = .non ∧ Q (.ref x) H2) (WE W σ) := by
  cases hc : cl1 ((true, .ins true C [] []) :: args) with
  | none => rw [hc] at h; cases h
  | some r0 =>
    rw [hc] at h
    have keep : ∀ a, (∃ o, H a = some o) → upd (upd H dx (.own x)) x (.ins A dx []) a = H a := fun a ⟨o, e⟩ => by
      rw [upd_ne (ne_of_none e hx), upd_ne (ne_of_none e hdx)]
    have kc : ∀ a ∈ c1 ++ c2 ++ rest ++ cx, upd (upd H dx (.own x)) x (.ins A dx []) a = H a := fun a ha => keep a (g.own a ha).2
    have fx := g.fresh hx
    refine ⟨F, (true, .ins true C [] []) :: args, x :: c1, c2 ++ rest ++ cx, r0, ?_, ?_, hc, ?_⟩
    · simp only [List.map_cons, Rps]
      refine ⟨.ref x, ws, [x], c1, rfl, rfl, ?_, Rps.keep (Le.refl F) _ _ _ rp fun a ha => kc a (by simp [ha])⟩
      simp only [Rp, Rps]
      exact ⟨x, A, dx, [], [], rfl, hA, rfl, upd_same, ⟨rfl, rfl⟩, rfl⟩
    · have e1 : x :: c1 ++ (c2 ++ rest ++ cx) = x :: (c1 ++ c2 ++ rest ++ cx) := by simp only [List.cons_append, List.append_assoc]
      rw [e1]
      refine ⟨fun a o e => ?_, List.nodup_cons.mpr ⟨fx.2, g.nd⟩, fun a ha => ?_⟩
      · rw [keep a ⟨o, g.sub a o e⟩]; exact g.sub a o e
      · rcases List.mem_cons.mp ha with rfl | ha
        · exact ⟨fx.1, _, upd_same⟩
        · rw [kc a ha]; exact g.own a ha
    · cases r0 with
      | ok d o =>
        match d, o, h with
        | .non, some d :: o, h =>
          obtain ⟨t3, q3, t', e1, e2, rfl⟩ := bind_map h
          intro v H' F' cd co l kk g' rd so
          simp only [Rp] at rd
          obtain ⟨rfl, rfl⟩ := rd
          simp only [List.map_cons, SR] at so
          obtain ⟨v', w', ca, cb, e3, pp, rd, so⟩ := so
          cases e3
          refine ⟨rfl, ?_⟩
          have kk' : ∀ a ∈ c2 ++ rest ++ cx, H' a = H a := fun a ha => (kk a ha).trans (kc a (by simp only [List.append_assoc, List.mem_append] at *; simp [ha]))
          have s2' := s2.keep (H' := H') l fun a ha => kk' a (by simp [ha])
          obtain ⟨c4, g4, s4, p4⟩ := give_end E e1 e2 rv so s2' l fun a ha => kk' a (by simp [ha])
          refine k.1 d t' rfl (.ref x) H' F' ca c4 l (fun a ha => kk' a (by simp [ha])) s4 ?_ rd
          refine g'.part (g := g4) (perm_of fun x => ?_)
          have a2 := p4.count_eq x
          have a3 := pp.count_eq x
          simp only [List.count_append, List.count_nil] at *
          omega
        | .non, [], h => cases h
        | .non, none :: o, h => cases h
        | .bl _, o, h => cases h
        | .int _, o, h => cases h
        | .str _, o, h => cases h
        | .tup _, o, h => cases h
        | .lst _ _, o, h => cases h
        | .dic _ _ _, o, h => cases h
        | .ins _ _ _ _, o, h => cases h
        | .fn _, o, h => cases h
        | .ty _, o, h => cases h
        | .scr _, o, h => cases h
      | ex y o =>
        match o, h with
        | [], h => cases h
        | o1 :: o, h =>
          obtain ⟨t3, q3, t', e1, e2, rfl⟩ := bind_map h
          intro cls od H' F' co l kk g' rx so
          obtain ⟨cb, gb, so, pb⟩ : ∃ cb gb, SR X.K X.mg H' F' o (ws.map some) cb ∧ co.Perm (gb ++ cb) := by
            cases o1 with
            | none =>
              simp only [List.map_cons, SR] at so
              obtain ⟨_, _, e, so⟩ := so
              cases e
              exact ⟨co, [], so, by simp⟩
            | some d1 =>
              simp only [List.map_cons, SR] at so
              obtain ⟨_, _, a1, a2, e, p, _, so⟩ := so
              cases e
              exact ⟨a2, a1, so, p⟩
          have kk' : ∀ a ∈ c2 ++ rest ++ cx, H' a = H a := fun a ha => (kk a ha).trans (kc a (by simp only [List.append_assoc, List.mem_append] at *; simp [ha]))
          have s2' := s2.keep (H' := H') l fun a ha => kk' a (by simp [ha])
          obtain ⟨c4, g4, s4, p4⟩ := give_end E e1 e2 rv so s2' l fun a ha => kk' a (by simp [ha])
          refine k.2 y t' rfl cls od H' F' c4 l (fun a ha => kk' a (by simp [ha])) s4 ?_ rx
          refine g'.part (g := gb ++ g4) (perm_of fun x => ?_)
          have a2 := p4.count_eq x
          have a3 := pb.count_eq x
          simp only [List.count_append] at *
          omega
end
end Ev
end
section
set_option maxRecDepth 100000
set_option maxHeartbeats 4000000
namespace Ev
open PySem PySem.Spec L2
section
variable {P : Pg}
def OsOk (X : Cx) (W : WX) (cl : Cl) (bs : List (B P)) (es : List Expr) : Prop := ∀ (h : Option Nat) (rt t : Tr) (r : Rs (List Opd)), evOs cl h rt bs t = some r → ∀ (σ : L2.St) (H F : Hp) (cs cx : List Addr) (hd : Option HD) (R : List V → Hp → VK → Prop) (Q : VK),
  BS X.K X.mg H F t rt σ cs cx → h = hd.map HD.i → (∀ x, hd = some x → HDok X.K X.mg H F rt σ cx x) → PostO X W H F σ cx hd r (fun ws H' => R ws H' Q) → tOps (es.map (mx X)) R σ H Q
theorem mx_mono {X : Cx} {e : Expr} {σ : L2.St} {H : Hp} {Q Q' : VK} (h : mx X e σ H Q) (k : ∀ v H, Q v H → Q' v H) : mx X e σ H Q' := by
  obtain ⟨t, p, h⟩ := h
  refine ⟨fun σ H Q' => ∃ Q, t σ H Q ∧ ∀ v H, Q v H → Q' v H, ⟨fun pins s σ H Q' I ⟨Q, hq, kq⟩ => ?_⟩, Q, h, k⟩
  exact thn (p.run pins s σ H Q I hq) fun u s1 ⟨x, H1, I1, r, q⟩ => ⟨x, H1, I1, r, kq _ _ q⟩
/-- .. with the first one's tree -/
def OsHd (X : Cx) (W : WX) (cl : Cl) (bs : List (B P)) (e : Expr) (es : List Expr) : Prop := ∀ (h : Option Nat) (rt t : Tr) (r : Rs (List Opd)), evOs cl h rt bs t = some r → ∀ (σ : L2.St) (H F : Hp) (cs cx : List Addr) (hd : Option HD) (R : List V → Hp → VK → Prop) (Q : VK),
  BS X.K X.mg H F t rt σ cs cx → h = hd.map HD.i → (∀ x, hd = some x → HDok X.K X.mg H F rt σ cx x) → PostO X W H F σ cx hd r (fun ws H' => R ws H' Q) →
    mx X e σ H fun x H1 => (∃ d F1 c, hdD cl rt bs t = some d ∧ Rp X.K X.mg H1 F1 d x c ∧ Le F1 H1) ∧ tOps (es.map (mx X)) (fun vs => R (x :: vs)) σ H1 Q
theorem OsHd.ok {X : Cx} {W : WX} {cl : Cl} {bs : List (B P)} {e : Expr} {es : List Expr} (h : OsHd X W cl bs e es) : OsOk X W cl bs (e :: es) :=
  fun hh rt t r he σ H F cs cx hd R Q s h1 h2 k => mx_mono (h hh rt t r he σ H F cs cx hd R Q s h1 h2 k) fun _ _ q => q.2
theorem os_val {X : Cx} {W : WX} {cl : Cl} {b : B P} {e : Expr} {r : List (B P)} {es : List Expr} (v : ∀ t rt, ValB X W cl t rt b e) (o : OsOk X W cl r es)
    (eq : ∀ h rt t, evOs cl h rt (b :: r) t = bindR (evB cl rt b t) fun d t1 => bindR (evOs cl h rt r t1) fun os t2 => some (.ok (.val d :: os) t2))
    (eh : ∀ rt t, hdD cl rt (b :: r) t = match evB cl rt b t with
      | some (.ok d _) => some d
      | _ => none) : OsHd X W cl (b :: r) e es := by
  intro h rt t r' he σ H F cs cx hd R Q s hh hx k
  rw [eq] at he
  show mx X e σ H _
  rcases bindR_some he with ⟨d, t1, e1, e2⟩ | ⟨x, t1, e1, rfl⟩
  · refine v t rt _ e1 σ H F cs cx _ s ⟨fun d' t' ee y H1 F1 cd cs1 l1 k1 s1 g1 rp => ?_, fun _ _ ee => nomatch ee⟩
    cases ee
    obtain ⟨cr, r1, r2⟩ := s.r
    have b1 : BS X.K X.mg H1 F1 t1 rt σ cs1 (cd ++ cx) := ⟨s1, ⟨cr, r1.keep l1 fun a ha => k1 a (r2 a ha), fun a ha => by simp [r2 a ha]⟩, g1.perm (perm_of fun z => by simp only [List.count_append]; omega)⟩
    have hx1 : ∀ x, hd = some x → HDok X.K X.mg H1 F1 rt σ (cd ++ cx) x := fun x ex => ⟨(hx x ex).at', (hx x ex).val, ((hx x ex).keep l1 k1).rp, fun a ha => by simp [(hx x ex).sub a ha]⟩
    refine ⟨⟨d, F1, cd, by rw [eh, e1], rp, g1.sub⟩, ?_⟩
    rcases bindR_some e2 with ⟨os, t2, e3, e4⟩ | ⟨x, t2, e3, rfl⟩
    · cases e4
      refine o h rt t1 _ e3 σ H1 F1 cs1 (cd ++ cx) hd _ Q b1 hh hx1 ⟨fun os' t' ee ws H2 F2 cv cs2 l2 k2 s2 g2 ro => ?_, fun _ _ ee => nomatch ee⟩
      cases ee
      refine k.1 _ _ rfl (y :: ws) H2 F2 (cd ++ cv) cs2 (l1.trans l2) (fun a ha => (k2 a (by simp [ha])).trans (k1 a ha)) s2 (g2.perm (perm_of fun z => by simp only [List.count_append]; omega)) ?_
      simp only [RO]
      exact ⟨y, ws, cd, cv, rfl, rfl, Rp.keep l2 _ _ _ rp fun a ha => k2 a (by simp [ha]), ro⟩
    · refine o h rt t1 _ e3 σ H1 F1 cs1 (cd ++ cx) hd _ Q b1 hh hx1 ⟨fun _ _ ee => (nomatch ee), fun x' t' ee cls od H2 F2 cs2 l2 k2 s2 g2 rx => ?_⟩
      cases ee
      refine k.2 x t2 rfl cls od H2 F2 cs2 (l1.trans l2) (fun a ha => (k2 a (by simp [ha])).trans (k1 a ha)) s2 (g2.part (g := cd) (perm_of fun z => by simp only [List.count_append]; omega)) rx
  · refine v t rt _ e1 σ H F cs cx _ s ⟨fun _ _ ee => (nomatch ee), fun x' t' ee cls od H2 F2 cs2 l2 k2 s2 g2 rx => ?_⟩
    cases ee
    exact k.2 x t1 rfl cls od H2 F2 cs2 l2 k2 s2 g2 rx
theorem os_rf {X : Cx} {N : List Str} {sc : Scope} {W : WX} {cl : Cl} (ok : XOk P X N sc) {i : Nat} {x : Str} {pos : Pos} (hc : visB N sc i x = true) {r : List (B P)} {es : List Expr} (o : OsOk X W cl r es) : OsHd X W cl (.rf i :: r) (.Name x pos) es := by
  intro h rt t r' he σ H F cs cx hd R Q s hh hx k
  obtain ⟨h1, h2, h3, h4⟩ := visB_ok ok hc
  simp only [evOs] at he
  split at he
  · rename_i d hi
    obtain ⟨v, c1, c2, ev, rp, s2, p⟩ := s.s.take hi
    show mx X (.Name x pos) σ H _
    refine mx_of (pe_var h1 h2 h3 h4) ⟨v, ev, ⟨d, F, c1, by simp only [hdD, hi]; rfl, rp, s.g.sub⟩, ?_⟩
    rcases bindR_some he with ⟨os, t2, e3, e4⟩ | ⟨x, t2, e3, rfl⟩
    · cases e4
      refine o h rt t _ e3 σ H F cs cx hd _ Q s hh hx ⟨fun os' t' ee ws H2 F2 cv cs2 l2 k2 s2 g2 ro => ?_, fun _ _ ee => nomatch ee⟩
      cases ee
      refine k.1 _ _ rfl (v :: ws) H2 F2 cv cs2 l2 k2 s2 g2 ?_
      simp only [RO]
      exact ⟨v, ws, rfl, ev, ro⟩
    · refine o h rt t _ e3 σ H F cs cx hd _ Q s hh hx ⟨fun _ _ ee => (nomatch ee), fun x' t' ee cls od H2 F2 cs2 l2 k2 s2 g2 rx => ?_⟩
      cases ee
      exact k.2 x t2 rfl cls od H2 F2 cs2 l2 k2 s2 g2 rx
  · cases he
theorem os_dp {X : Cx} {N : List Str} {sc : Scope} {W : WX} {cl : Cl} (ok : XOk P X N sc) {a : A P} {e : Expr} (hc : chkA N sc a e = true) {r : List (B P)} {es : List Expr} (o : OsOk X W cl r es) : OsHd X W cl (.dp a :: r) e es := by
  intro h rt t r' he σ H F cs cx hd R Q s hh hx k
  simp only [evOs] at he
  split at he
  · rename_i q d ep ed
    split at he
    · rename_i hcond
      obtain ⟨hq, hn⟩ := hcond
      cases hd with
      | none => rw [hq] at hh; cases hh
      | some hh' =>
        obtain ⟨i, st⟩ := q
        have hi : i = hh'.i := by rw [hq] at hh; simpa using hh
        have hxo := hx hh' rfl
        subst hi
        have hl : look t rt hh'.i = some hh'.d := by
          unfold look
          rw [hxo.at']
          split
          · rename_i d' e'
            rw [e'] at hn
            simp at hn
          · rfl
        show mx X e σ H _
        refine pth_ok ok hl hxo.val a e st d hc ep ed H F (cs ++ cx) hh'.c _ s.stt hxo.rp (fun z hz => by simp [hxo.sub z hz]) fun w H1 F1 c1 l1 k1 g1 hcc foc => ?_
        have foc0 := foc
        have s1 := s.keep l1 k1 (s.g.of g1 hcc)
        obtain ⟨_, cf, _, _, rpf, _⟩ := foc
        refine ⟨⟨d, F1, cf, by simp only [hdD]; exact ed, rpf, g1.sub⟩, ?_⟩
        have hx1 : ∀ x, some hh' = some x → HDok X.K X.mg H1 F1 rt σ cx x := fun x ex => (hx x ex).keep l1 fun a ha => k1 a (by simp [ha])
        rcases bindR_some he with ⟨os, t2, e3, e4⟩ | ⟨x, t2, e3, rfl⟩
        · cases e4
          refine o h rt t _ e3 σ H1 F1 cs cx (some hh') _ Q s1 hh hx1 ⟨fun os' t' ee ws H2 F2 cv cs2 l2 k2 s2 g2 ro => ?_, fun _ _ ee => nomatch ee⟩
          cases ee
          refine k.1 _ _ rfl (w :: ws) H2 F2 cv cs2 (l1.trans l2) (fun a ha => (k2 a ha).trans (k1 a (by simp [ha]))) s2 g2 ?_
          simp only [RO]
          exact ⟨w, ws, hh', d, rfl, rfl, rfl, foc0.keep l2 fun z hz => k2 z (hxo.sub z hz), ro⟩
        · refine o h rt t _ e3 σ H1 F1 cs cx (some hh') _ Q s1 hh hx1 ⟨fun _ _ ee => (nomatch ee), fun x' t' ee cls od H2 F2 cs2 l2 k2 s2 g2 rx => ?_⟩
          cases ee
          exact k.2 x t2 rfl cls od H2 F2 cs2 (l1.trans l2) (fun a ha => (k2 a ha).trans (k1 a (by simp [ha]))) s2 g2 rx
    · cases he
  · cases he
/-- a hidden slot -/
theorem BS.hide {K : PySem.W.Frag} {mg : Str → Option Value} {H F : Hp} {t rt : Tr} {σ : L2.St} {cs cx : List Addr} (s : BS K mg H F t rt σ cs cx) {i : Nat} {d0 : D} (hi : t[i]? = some (some d0)) :
    ∃ (h : HD) (c2 : List Addr), h.i = i ∧ h.d = d0 ∧ BS K mg H F (t.set i none) (rt.set i (some d0)) σ c2 (h.c ++ cx) ∧ (i < rt.length → HDok K mg H F (rt.set i (some d0)) σ (h.c ++ cx) h) ∧ σ[h.i]? = some (some h.v) ∧ t.length = rt.length := by
  obtain ⟨v, c1, c2, ev, rp, s2, p⟩ := s.s.take hi
  obtain ⟨cr, r1, r2⟩ := s.r
  obtain ⟨cr', r3, g3, p3⟩ := r1.drop (i := i)
  have hlt : i < σ.length := (List.getElem?_eq_some_iff.mp ev).1
  have hir : i < rt.length := by rw [r1.len]; exact hlt
  refine ⟨⟨i, d0, v, c1⟩, c2, rfl, rfl, ⟨s2, ⟨c1 ++ cr', SR.put r3 hir ev rp, fun a ha => ?_⟩, s.g.perm (perm_of fun z => ?_)⟩, fun _ => ⟨List.getElem?_set_self hir, ev, rp, fun a ha => by simp [ha]⟩, ev, by rw [s.s.len, r1.len]⟩
  · rcases List.mem_append.mp ha with ha | ha
    · simp [ha]
    · have := r2 a (p3.symm.subset (by simp [ha]))
      simp [this]
  · have := p.count_eq z
    simp only [List.count_append] at *
    omega
theorem wipe_get {σ : L2.St} : ∀ {vs : List Nat} {j : Nat}, j ∉ vs → (wipe σ vs)[j]? = σ[j]?
  | [], j, _ => rfl
  | v :: vs, j, h => by
    simp only [List.mem_cons, not_or] at h
    unfold wipe
    rw [List.getElem?_set_ne (Ne.symm h.1), wipe_get h.2]
theorem wipe_in {σ : L2.St} : ∀ {vs : List Nat} {j : Nat}, j ∈ vs → (wipe σ vs)[j]? = if j < σ.length then some none else none
  | v :: vs, j, h => by
    unfold wipe
    by_cases e : v = j
    · subst e
      rw [List.getElem?_set, if_pos rfl, wipe_length]
    · rw [List.getElem?_set_ne e]
      refine wipe_in ?_
      rcases List.mem_cons.mp h with h | h
      · exact absurd h.symm e
      · exact h
theorem wipe_same {σ σ2 : L2.St} {vs : List Nat} (h : ∀ j, j ∉ vs → σ2[j]? = (wipe σ vs)[j]?) (hl : σ2.length = (wipe σ vs).length) : wipe σ2 vs = wipe σ vs := by
  refine List.ext_getElem? fun j => ?_
  by_cases hj : j ∈ vs
  · rw [wipe_in hj, wipe_in hj, hl, wipe_length]
  · rw [wipe_get hj, h j hj]
theorem SR.unblk {K : PySem.W.Frag} {mg : Str → Option Value} {H F : Hp} {t : Tr} {σ σ2 : L2.St} {c : List Addr} {vs : List Nat} (s : SR K mg H F t σ2 c) (e : L2.wipe σ2 vs = L2.wipe σ vs) : ∃ c' g, SR K mg H F (wipeT t vs) σ c' ∧ c.Perm (g ++ c') := by
  obtain ⟨c', g, s1, p⟩ := s.wipe vs
  rw [e] at s1
  refine ⟨c', g, SR.unwipe vs (noneAt_wipeT t vs) ?_ s1, p⟩
  rw [s1.len, wipe_length]
end
end Ev
end
section
set_option maxRecDepth 100000
set_option maxHeartbeats 4000000
namespace Ev
open PySem PySem.Spec L2
section
variable {P : Pg}
/-- the ingredients of a comprehension, shared by its two uses -/
structure LcPack (X : Cx) (scope : Scope) (tg iter elt : Expr) (ifs : List Expr) (own : List (Str × Nat)) (σ : L2.St) (H : Hp) (Q : VK) : Prop where
  x : ∃ wi g tt te, PI X tg iter wi ∧ (∀ (s : Shared) (H : Hp) (C : Addr) (cl : List (Str × Addr)) (fp : List Addr), PG (X.blk s H scope (compEnvC scope cl C X.env) fp) tg g) ∧
    (∀ (s : Shared) (H : Hp) (C : Addr) (cl : List (Str × Addr)) (fp : List Addr), PTs (X.blk s H scope (compEnvC scope cl C X.env) fp) ifs tt) ∧
    (∀ (s : Shared) (H : Hp) (C : Addr) (cl : List (Str × Addr)) (fp : List Addr), PE (X.blk s H scope (compEnvC scope cl C X.env) fp) elt te) ∧ tLc wi g tt te (own.map (·.2)) σ H Q
theorem lc_ok {X : Cx} {N : List Str} {sc : Scope} {k : Nat} {cl : Cl} {W : WX} (ok : BOk P X N sc k cl W) {elt : B P} {el : Expr} {tg : Tg} {tg' iter : Expr} {own : List (Str × Nat)} {it : Itr P} {es : List (B P)} {xs : List Expr} {ifs : List (B P)} {ifs' : List Expr} {scope : Scope}
    (hblk : blkC N sc scope own = true) (htg : chkTg N scope tg tg' = true) (hsub : subB (tgS tg) (own.map (·.2)) = true) (hsh : it.sh sc tg' iter = some xs)
    (hifs : ifs = [] ∧ ifs' = [] ∨ ∃ a c, ifs = [a] ∧ ifs' = [c] ∧ ∀ (s : Shared) (H : Hp) (C : Addr) (cc : List (Str × Addr)) (fp : List Addr) (t rt : Tr), TstB (X.blk s H scope (compEnvC scope cc C X.env) fp) (fun _ _ _ _ => False) cl t rt a c)
    (hos : OsOk X W cl es xs)
    (hel : ∀ (s : Shared) (H : Hp) (C : Addr) (c : List (Str × Addr)) (fp : List Addr) (t rt : Tr), ValB (X.blk s H scope (compEnvC scope c C X.env) fp) (fun _ _ _ _ => False) cl t rt elt el)
    {t rt : Tr} {r : Rs D} (he : evB cl rt (.lc elt tg own it es ifs) t = some r) {σ : L2.St} {H F : Hp} {cs cx : List Addr} {Q : VK} (s : BS X.K X.mg H F t rt σ cs cx) (k : PostB X W H F σ cx r Q) :
    LcPack X scope tg' iter el ifs' own σ H Q := by
  have hXN : X.N.Nodup := by rw [ok.x.names]; exact ok.x.nd
  simp only [evB] at he
  split at he
  case h_3 => cases he
  case h_2 x t1 e1 =>
    cases he
    obtain ⟨S, hPI⟩ := it.sound X N sc ok.x tg' iter xs hsh
    refine ⟨_, fun v σ H Q => ∀ s H0 C c fp, mxG (X.blk s H0 scope (compEnvC scope c C X.env) fp) tg' v σ H Q, fun σ H Q => ∀ s H0 C c fp pins s' (I : Inv (X.blk s H0 scope (compEnvC scope c C X.env) fp) pins σ H s'), False,
      fun σ H Q => ∀ s H0 C c fp, mx (X.blk s H0 scope (compEnvC scope c C X.env) fp) el σ H Q, hPI _ (allPE_mx xs),
      fun s H C c fp => ⟨fun pins s' σ H' v u Q I r h => pg_mx.run pins s' σ H' v u Q I r (h s H C c fp)⟩, fun s H C c fp => ⟨fun pins s' σ H' Q I h => (h s H C c fp pins s' I).elim⟩,
      fun s H C c fp => ⟨fun pins s' σ H' Q I h => pe_mx.run pins s' σ H' Q I (h s H C c fp)⟩, ?_⟩
    have main : ∀ (G : It → Hp → Prop), tL (xs.map (mx X)) σ H (fun vs H1 => S vs H1 G) := by
      intro G
      have z := hos none rt t _ e1 σ H F cs cx none (fun vs H1 _ => S vs H1 G) (fun _ _ => True) s rfl (fun _ e => nomatch e) ⟨fun _ _ ee => (nomatch ee), fun x' t' ee => by cases ee; exact k.2 x t1 rfl⟩
      rw [tL_ops] at z; exact z
    exact main _
  case h_1 os t1 e1 =>
  cases q1 : opdDs t1 os with
  | none => rw [q1] at he; cases he
  | some ds =>
  rw [q1] at he
  cases q2 : it.f ds with
  | none =>
    have he : (it.f ds).bind _ = some r := he
    rw [q2] at he; cases he
  | some l =>
  have e2 : (it.f ds).bind _ = some r := he
  rw [q2] at e2
  simp only [Option.bind_some] at e2
  split at e2
  case h_2 => cases e2
  case h_1 ys t5 e3 =>
  cases e2
  obtain ⟨S, hPI, hJ⟩ := it.ok X N sc ok.x tg' iter xs hsh ds l q2
  obtain ⟨one, hone⟩ : ∃ f, f = fun (x : D) (t2 : Tr) => (asg tg x t2).bind fun t3 => bindR (evIf cl (wipeT rt (own.map (·.2))) ifs t3) fun b t4 => if b = true then bindR (evB cl (wipeT rt (own.map (·.2))) elt t4) fun d t5 => some (Rs.ok (some d) t5) else some (Rs.ok none t4) := ⟨_, rfl⟩
  rw [← hone] at e3
  obtain ⟨tt, htt⟩ : ∃ tt : TT, tt = match ifs' with
      | [] => tYes
      | c0 :: _ => fun σ H Q => ∀ s H0 C c fp, mxT (X.blk s H0 scope (compEnvC scope c C X.env) fp) c0 σ H Q := ⟨_, rfl⟩
  refine ⟨_, fun v σ H Q => ∀ s H0 C c fp, mxG (X.blk s H0 scope (compEnvC scope c C X.env) fp) tg' v σ H Q, tt,
    fun σ H Q => ∀ s H0 C c fp, mx (X.blk s H0 scope (compEnvC scope c C X.env) fp) el σ H Q, hPI _ (allPE_mx xs),
    fun s H C c fp => ⟨fun pins s' σ H' v u Q I r h => pg_mx.run pins s' σ H' v u Q I r (h s H C c fp)⟩, fun s H C c fp => ?_,
    fun s H C c fp => ⟨fun pins s' σ H' Q I h => pe_mx.run pins s' σ H' Q I (h s H C c fp)⟩, ?_⟩
  · subst htt
    rcases hifs with ⟨_, rfl⟩ | ⟨a, c0, _, rfl, _⟩
    · exact pts_nil
    · exact pts_one ⟨fun pins s' σ H' Q I h => pt_mx.run pins s' σ H' Q I (h s H C c fp)⟩
  have z := hos none rt t _ e1 σ H F cs cx none (fun vs H1 Q' => Q' .non H1 → False) (fun _ _ => False)
  clear z
  have main : ∀ (G : It → Hp → Prop), (∀ ws H1 F1 cv cs1, Le F F1 → (∀ a ∈ cx, H1 a = H a) → SR X.K X.mg H1 F1 t1 σ cs1 → Good H1 F1 (cv ++ cs1 ++ cx) → RO X.K X.mg H1 F1 σ none os ws cv → S ws H1 G) → tL (xs.map (mx X)) σ H (fun vs H1 => S vs H1 G) := by
    intro G hG
    have z := hos none rt t _ e1 σ H F cs cx none (fun vs H1 _ => S vs H1 G) (fun _ _ => True) s rfl (fun _ e => nomatch e) ⟨fun os' t' ee ws H1 F1 cv cs1 l1 k1 s1 g1 ro => ?_, fun _ _ ee => nomatch ee⟩
    · rw [tL_ops] at z; exact z
    · cases ee
      exact hG ws H1 F1 cv cs1 l1 k1 s1 g1 ro
  refine main _ fun ws H1 F1 cv cs1 l1 k1 s1 g1 ro => ?_
  clear main
  obtain ⟨J, hJ1, hJ2⟩ := hJ ws
  refine hJ1 H1 F1 (cv ++ cs1 ++ cx) _ (ro.rpe s1 q1 (fun a ha => by simp [ha]) (fun a ha => by simp [ha])) g1 ?_
  intro D hD
  obtain ⟨fD, nD⟩ := g1.fresh hD
  obtain ⟨cw, gw, sw, pw⟩ := s1.wipe (own.map (·.2))
  have sw' := SR.unwipe _ (noneAt_wipeT t1 _) (by rw [wipeT_len, s1.len]) sw
  obtain ⟨cr, sr, hcr⟩ := s.r
  obtain ⟨cr2, gr2, sr2, pr2⟩ := sr.wipe (own.map (·.2))
  have sr3 := SR.unwipe _ (noneAt_wipeT rt _) (by rw [wipeT_len, sr.len]) sr2
  have kD : ∀ a ∈ cv ++ cs1 ++ cx, upd H1 D (.lst []) a = H1 a := (g1.new (o := .lst []) hD).2
  refine ⟨fun i m H' => ∃ F' accD accV ca t' cs', i ≤ l.length ∧ m = l.length - i ∧ Le F1 F' ∧ H' D = some (.lst accV) ∧ Rps X.K X.mg H' F' accD accV ca ∧ SR X.K X.mg H' F' t' σ cs' ∧ NoneAt t' (own.map (·.2)) ∧
    Good H' F' (D :: (ca ++ cv ++ cs' ++ cx)) ∧ (∀ a ∈ cv ++ cx, H' a = H1 a) ∧ lcGo (own.map (·.2)) os ds one (l.drop i) accD t' = some (.ok ys t5), ?_, ?_⟩
  · refine ⟨l.length, F1, [], [], [], wipeT t1 (own.map (·.2)), cw, Nat.zero_le _, rfl, Le.refl F1, upd_same, by simp only [Rps]; exact ⟨trivial, trivial⟩, ?_, noneAt_wipeT t1 _, ?_, fun a ha => ?_, by rw [List.drop_zero]; exact e3⟩
    · exact sw'.keep (Le.refl F1) fun a ha => kD a (by simp [pw.symm.subset (show a ∈ gw ++ cw by simp [ha])])
    · refine (g1.new (o := .lst []) hD).1.part (g := gw) (perm_of fun z => ?_)
      have := pw.count_eq z
      simp only [List.count_append, List.count_cons, List.count_nil] at *
      omega
    · refine kD a ?_
      rcases List.mem_append.mp ha with ha | ha <;> simp [ha]
  rintro i m H' ⟨F', accD, accV, ca, t', cs', hi, rfl, l', hD', ra, st, nt, g', k', hgo⟩
  have keepO : RO X.K X.mg H' F' σ none os ws cv := ro.keep l' (fun a ha => k' a (by simp [ha])) fun _ e => nomatch e
  have kk : ∀ a ∈ cx, H' a = H a := fun a ha => (k' a (by simp [ha])).trans (k1 a ha)
  have hop : opdDs t' os = some ds := by
    cases hl : l.drop i with
    | nil =>
      rw [hl] at hgo
      simp only [lcGo] at hgo
      split at hgo
      · assumption
      · cases hgo
    | cons x0 r0 =>
      rw [hl] at hgo
      simp only [lcGo] at hgo
      split at hgo
      · assumption
      · cases hgo
  have rpe : RpE X.K X.mg H' F' (D :: (ca ++ cv ++ cs' ++ cx)) ds ws := keepO.rpe st hop (fun a ha => by simp [ha]) (fun a ha => by simp [ha])
  obtain ⟨hgo1, hstop⟩ := hJ2 H' F' _ rpe g' i
  by_cases hlt : i < l.length
  case neg =>
    have hie : i = l.length := by omega
    subst hie
    rw [List.drop_length] at hgo
    simp only [lcGo] at hgo
    rw [if_pos hop] at hgo
    cases hgo
    refine .inl ⟨hstop (Nat.le_refl _), ?_⟩
    refine k.1 _ _ rfl (.ref D) H' F' (D :: ca) cs' (l1.trans l') kk st ?_ ?_
    · refine g'.part (g := cv) (perm_of fun z => ?_)
      simp only [List.count_append, List.count_cons] at *
      omega
    · simp only [Rp]
      exact ⟨D, accV, ca, rfl, hD', ra, rfl⟩
  case pos =>
  have hd : l.drop i = l[i] :: l.drop (i + 1) := List.drop_eq_getElem_cons hlt
  rw [hd] at hgo
  simp only [lcGo] at hgo
  rw [if_pos hop] at hgo
  obtain ⟨jg, jy⟩ := hgo1 l[i] (by simp [hlt])
  refine .inr ⟨jg, fun H'' => ∃ m', m' < l.length - i ∧ ∃ F' accD accV ca t' cs', i + 1 ≤ l.length ∧ m' = l.length - (i + 1) ∧ Le F1 F' ∧ H'' D = some (.lst accV) ∧ Rps X.K X.mg H'' F' accD accV ca ∧ SR X.K X.mg H'' F' t' σ cs' ∧ NoneAt t' (own.map (·.2)) ∧
    Good H'' F' (D :: (ca ++ cv ++ cs' ++ cx)) ∧ (∀ a ∈ cv ++ cx, H'' a = H1 a) ∧ lcGo (own.map (·.2)) os ds one (l.drop (i + 1)) accD t' = some (.ok ys t5), fun H'' h => h, fun xv H2 hy => ?_⟩
  obtain ⟨F2, l2, g2, k2, rx⟩ := jy xv H2 hy
  generalize hr0 : one l[i] t' = r0 at hgo
  have hr1 := hr0
  rw [hone] at hr1
  intro s0 H0 C0 c0 fp0
  cases ea : asg tg l[i] t' with
  | none =>
    have hr1 : (asg tg l[i] t').bind _ = r0 := hr1
    rw [ea] at hr1
    cases hr1
    cases hgo
  | some t3 =>
  have hr1 : (asg tg l[i] t').bind _ = r0 := hr1
  rw [ea] at hr1
  have hr1 : (bindR (evIf cl (wipeT rt (own.map (·.2))) ifs t3) fun b t4 => if b = true then bindR (evB cl (wipeT rt (own.map (·.2))) elt t4) fun d t5 => some (Rs.ok (some d) t5) else some (Rs.ok none t4)) = r0 := hr1
  have st2 : SR X.K X.mg H2 F2 t' (L2.wipe σ (own.map (·.2))) cs' := (st.keep l2 fun a ha => k2 a (by simp [ha])).towipe _ nt
  refine asg_ok (TgOk.blk (scope := scope) ok.x.calm ok.x.names ok.x.nd s0 H0 C0 c0 fp0) tg tg' htg l[i] t' t3 ea xv _ H2 F2 cs' (D :: (ca ++ cv ++ cx)) [] _ st2 rx ?_ ?_
  · exact g2.perm (perm_of fun z => by simp only [List.count_append, List.count_cons, List.nil_append]; omega)
  intro σ2 cs2 s2 g3 ks lens
  have hown : ∀ j, j ∉ own.map (·.2) → σ2[j]? = (L2.wipe σ (own.map (·.2)))[j]? := fun j hj => ks j fun hm => hj (by
    have := List.all_eq_true.mp hsub j hm
    simpa using this)
  have ew : L2.wipe σ2 (own.map (·.2)) = L2.wipe σ (own.map (·.2)) := wipe_same hown lens
  refine ⟨ew, ?_⟩
  have kk2 : ∀ a ∈ D :: (ca ++ cv ++ cx), H2 a = H' a := fun a ha => k2 a (by
    simp only [List.mem_cons, List.mem_append] at *
    rcases ha with h | (h | h) | h <;> simp [h])
  have srt : SR X.K X.mg H2 F2 (wipeT rt (own.map (·.2))) σ2 cr2 := by
    refine SR.unwipe (own.map (·.2)) (noneAt_wipeT rt _) ?_ ?_
    · rw [wipeT_len, sr.len, lens, wipe_length]
    · rw [ew]
      refine (sr2.keep (l1.trans (l'.trans l2)) fun a ha => ?_)
      have hacx : a ∈ cx := hcr a (pr2.symm.subset (by simp [ha]))
      exact (kk2 a (by simp [hacx])).trans (kk a hacx)
  have hcr2 : ∀ a ∈ cr2, a ∈ D :: (ca ++ cv ++ cx) := fun a ha => by
    have hacx : a ∈ cx := hcr a (pr2.symm.subset (by simp [ha]))
    simp [hacx]
  have bs : BS X.K X.mg H2 F2 t3 (wipeT rt (own.map (·.2))) σ2 cs2 (D :: (ca ++ cv ++ cx)) := ⟨s2, ⟨cr2, srt, hcr2⟩, g3⟩
  have hDH2 : H2 D = some (.lst accV) := (kk2 D (by simp)).trans hD'
  have ra2 := Rps.keep (H' := H2) l2 _ _ _ ra fun a ha => kk2 a (by simp [ha])
  -- the turn's value
  have fin : ∀ b t4, evIf cl (wipeT rt (own.map (·.2))) ifs t3 = some (.ok b t4) → ∀ H3 F3 cs3, Le F2 F3 → (∀ a ∈ D :: (ca ++ cv ++ cx), H3 a = H2 a) → SR X.K X.mg H3 F3 t4 σ2 cs3 → Good H3 F3 (cs3 ++ D :: (ca ++ cv ++ cx)) →
      if b = true then ∀ s H0 C c fp, mx (X.blk s H0 scope (compEnvC scope c C X.env) fp) el σ2 H3 fun y H4 => ∃ acc, H4 D = some (.lst acc) ∧ acc.length < sizeLine ∧ ∃ m', m' < l.length - i ∧ ∃ F' accD accV ca t' cs', i + 1 ≤ l.length ∧ m' = l.length - (i + 1) ∧ Le F1 F' ∧ upd H4 D (.lst (acc ++ [y])) D = some (.lst accV) ∧ Rps X.K X.mg (upd H4 D (.lst (acc ++ [y]))) F' accD accV ca ∧ SR X.K X.mg (upd H4 D (.lst (acc ++ [y]))) F' t' σ cs' ∧ NoneAt t' (own.map (·.2)) ∧
    Good (upd H4 D (.lst (acc ++ [y]))) F' (D :: (ca ++ cv ++ cs' ++ cx)) ∧ (∀ a ∈ cv ++ cx, upd H4 D (.lst (acc ++ [y])) a = H1 a) ∧ lcGo (own.map (·.2)) os ds one (l.drop (i + 1)) accD t' = some (.ok ys t5)
      else ∃ m', m' < l.length - i ∧ ∃ F' accD accV ca t' cs', i + 1 ≤ l.length ∧ m' = l.length - (i + 1) ∧ Le F1 F' ∧ H3 D = some (.lst accV) ∧ Rps X.K X.mg H3 F' accD accV ca ∧ SR X.K X.mg H3 F' t' σ cs' ∧ NoneAt t' (own.map (·.2)) ∧
    Good H3 F' (D :: (ca ++ cv ++ cs' ++ cx)) ∧ (∀ a ∈ cv ++ cx, H3 a = H1 a) ∧ lcGo (own.map (·.2)) os ds one (l.drop (i + 1)) accD t' = some (.ok ys t5) := by
    intro b t3' hb H3 F3 cs3 l3 k3 s3 g4
    rw [hb] at hr1
    have hr1 : (if b = true then bindR (evB cl (wipeT rt (own.map (·.2))) elt t3') fun d t4 => some (Rs.ok (some d) t4) else some (Rs.ok none t3')) = r0 := hr1
    have bs3 : BS X.K X.mg H3 F3 t3' (wipeT rt (own.map (·.2))) σ2 cs3 (D :: (ca ++ cv ++ cx)) := ⟨s3, ⟨cr2, srt.keep l3 fun a ha => k3 a (hcr2 a ha), hcr2⟩, g4⟩
    cases b with
    | false =>
      simp only [Bool.false_eq_true, if_false] at hr1 ⊢
      subst hr1
      have hgo : lcGo (own.map (·.2)) os ds one (l.drop (i + 1)) accD (wipeT t3' (own.map (·.2))) = some (.ok ys t5) := hgo
      obtain ⟨c5, g5, s5, p5⟩ := s3.unblk ew
      refine ⟨l.length - (i + 1), by omega, F3, accD, accV, ca, _, c5, hlt, rfl, l'.trans (l2.trans l3), (k3 D (by simp)).trans hDH2, Rps.keep l3 _ _ _ ra2 fun a ha => k3 a (by simp [ha]), s5, noneAt_wipeT t3' _, ?_, fun a ha => ?_, hgo⟩
      · refine g4.part (g := g5) (perm_of fun z => ?_)
        have := p5.count_eq z
        simp only [List.count_append, List.count_cons] at *
        omega
      · have h1 : a ∈ D :: (ca ++ cv ++ cx) := by
          simp only [List.mem_cons, List.mem_append] at *
          rcases ha with h | h <;> simp [h]
        exact (k3 a h1).trans ((kk2 a h1).trans (k' a ha))
    | true =>
      simp only [if_true] at hr1 ⊢
      intro s6 H6 C6 c6 fp6
      cases ev : evB cl (wipeT rt (own.map (·.2))) elt t3' with
      | none => rw [ev] at hr1; subst hr1; cases hgo
      | some rv =>
      rw [ev] at hr1
      cases rv with
      | ex x t4 => subst hr1; cases hgo
      | ok d t4 =>
      subst hr1
      have hgo : (if accD.length < sizeLine then lcGo (own.map (·.2)) os ds one (l.drop (i + 1)) (accD ++ [d]) (wipeT t4 (own.map (·.2))) else none) = some (.ok ys t5) := hgo
      split at hgo
      case isFalse => cases hgo
      case isTrue hlen =>
      refine hel s6 H6 C6 c6 fp6 t3' (wipeT rt (own.map (·.2))) _ ev σ2 H3 F3 cs3 (D :: (ca ++ cv ++ cx)) _ bs3 ⟨fun d' t'' ee y H4 F4 cd cs4 l4 k4 s4 g5 rd => ?_, fun _ _ ee => nomatch ee⟩
      cases ee
      have hD4 : H4 D = some (.lst accV) := (k4 D (by simp)).trans ((k3 D (by simp)).trans hDH2)
      have nd := g5.nd
      have nDall : D ∉ cd ++ cs4 ++ (ca ++ cv ++ cx) := by
        have p : (cd ++ cs4 ++ D :: (ca ++ cv ++ cx)).Perm (D :: (cd ++ cs4 ++ (ca ++ cv ++ cx))) := perm_of fun z => by simp only [List.count_append, List.count_cons]; omega
        exact (List.nodup_cons.mp (p.nodup_iff.mp nd)).1
      have ku : ∀ a ∈ cd ++ cs4 ++ (ca ++ cv ++ cx), upd H4 D (.lst (accV ++ [y])) a = H4 a := fun a ha => upd_ne fun e => nDall (e ▸ ha)
      obtain ⟨c5, g6, s5, p5⟩ := s4.unblk ew
      refine ⟨accV, hD4, by rw [← ra.length]; exact hlen, l.length - (i + 1), by omega, F4, accD ++ [d], accV ++ [y], ca ++ cd, wipeT t4 (own.map (·.2)), c5, hlt, rfl, l'.trans (l2.trans (l3.trans l4)), upd_same, ?_, ?_, noneAt_wipeT t4 _, ?_, fun a ha => ?_, hgo⟩
      · refine Rps.append (c1 := ca) (c2 := cd) ?_ ?_
        · refine Rps.keep (l3.trans l4) _ _ _ ra2 fun a ha => ?_
          rw [ku a (by simp [ha]), k4 a (by simp [ha]), k3 a (by simp [ha])]
        · have : Rps X.K X.mg (upd H4 D (.lst (accV ++ [y]))) F4 [d] [y] (cd ++ []) := by
            simp only [Rps]
            exact ⟨y, [], cd, [], rfl, rfl, Rp.keep (Le.refl F4) _ _ _ rd fun a ha => ku a (by simp [ha]), rfl, rfl⟩
          simpa using this
      · refine s5.keep (Le.refl F4) fun a ha => ku a ?_
        have := p5.symm.subset (show a ∈ g6 ++ c5 by simp [ha])
        simp [this]
      · have gu : Good (upd H4 D (.lst (accV ++ [y]))) F4 (cd ++ cs4 ++ D :: (ca ++ cv ++ cx)) := by
          refine ⟨fun a o e => ?_, g5.nd, fun a ha => ?_⟩
          · have hne : a ≠ D := fun e2 => by
              have := (g5.own D (by simp)).1
              rw [← e2] at this
              rw [this] at e; cases e
            rw [upd_ne hne]; exact g5.sub a o e
          · refine ⟨(g5.own a ha).1, ?_⟩
            by_cases hne : a = D
            · subst hne; exact ⟨_, upd_same⟩
            · rw [upd_ne hne]; exact (g5.own a ha).2
        refine gu.part (g := g6) (perm_of fun z => ?_)
        have := p5.count_eq z
        simp only [List.count_append, List.count_cons] at *
        omega
      · have h1 : a ∈ D :: (ca ++ cv ++ cx) := by
          simp only [List.mem_cons, List.mem_append] at *
          rcases ha with h | h <;> simp [h]
        have h2 : a ∈ cd ++ cs4 ++ (ca ++ cv ++ cx) := by
          simp only [List.mem_append] at *
          rcases ha with h | h <;> simp [h]
        rw [ku a h2, k4 a h1, k3 a h1, kk2 a h1, k' a ha]
  rcases hifs with ⟨rfl, rfl⟩ | ⟨a, c1, rfl, rfl, hif⟩
  · subst htt
    show tYes σ2 H2 _
    exact fin true t3 (by simp only [evIf]) H2 F2 cs2 (Le.refl F2) (fun _ _ => rfl) s2 g3
  · subst htt
    cases hb : evB cl (wipeT rt (own.map (·.2))) a t3 with
    | none =>
      simp only [evIf, hb, bindR] at hr1
      cases hr1; cases hgo
    | some rv =>
    cases rv with
    | ex y t4 =>
      simp only [evIf, hb, bindR] at hr1
      cases hr1; cases hgo
    | ok d t4 =>
    obtain ⟨b, rfl⟩ : ∃ b, d = .bl b := by
      simp only [evIf, hb, bindR] at hr1
      cases d with
      | bl b => exact ⟨b, rfl⟩
      | _ => simp at hr1; subst hr1; cases hgo
    have hif2 : evIf cl (wipeT rt (own.map (·.2))) [a] t3 = some (.ok b t4) := by simp only [evIf, hb, bindR]
    intro s6 H6 C6 c6 fp6
    refine hif s6 H6 C6 c6 fp6 t3 (wipeT rt (own.map (·.2))) _ hb (fun d' t' ee => by cases ee; exact ⟨_, rfl⟩) σ2 H2 F2 cs2 (D :: (ca ++ cv ++ cx)) _ bs ⟨fun d' t' ee v H3 F3 cd cs3 l3 k3 s3 g4 rd => ?_, fun _ _ ee => nomatch ee⟩
    cases ee
    refine ⟨b, rd.blE, ?_⟩
    exact fin b t4 hif2 H3 F3 cs3 l3 k3 s3 (g4.part (g := cd) (perm_of fun z => by simp only [List.count_append]; omega))
end
end Ev
end
section
set_option maxRecDepth 100000
set_option maxHeartbeats 4000000
namespace Ev
open PySem PySem.Spec L2
section
variable {P : Pg} {X : Cx} {N : List Str} {sc : Scope} {k : Nat} {cl : Cl} {W : WX}
/-- what comes behind operands -/
theorem os_at {h : Option Nat} {hd : Option HD} {es : List (B P)} {xs : List Expr} (o : OsOk X W cl es xs) {t rt : Tr} {os : List Opd} {t1 : Tr} (e1 : evOs cl h rt es t = some (.ok os t1)) {σ : L2.St} {H F : Hp} {cs cx : List Addr} {R : List V → Hp → VK → Prop} {Q : VK} (s : BS X.K X.mg H F t rt σ cs cx)
    (hh : h = hd.map HD.i) (hx : ∀ x, hd = some x → HDok X.K X.mg H F rt σ cx x)
    (hk : ∀ ws H' F' cv cs', Le F F' → (∀ a ∈ cx, H' a = H a) → SR X.K X.mg H' F' t1 σ cs' → Good H' F' (cv ++ cs' ++ cx) → RO X.K X.mg H' F' σ hd os ws cv → R ws H' Q) : tOps (xs.map (mx X)) R σ H Q :=
  o h rt t _ e1 σ H F cs cx hd R Q s hh hx ⟨fun os' t' ee => by cases ee; exact hk, fun _ _ ee => nomatch ee⟩
theorem os_ex {h : Option Nat} {hd : Option HD} {es : List (B P)} {xs : List Expr} (o : OsOk X W cl es xs) {t rt : Tr} {x : Xn} {t1 : Tr} (e1 : evOs cl h rt es t = some (.ex x t1)) {σ : L2.St} {H F : Hp} {cs cx : List Addr} {R : List V → Hp → VK → Prop} {Q : VK} (s : BS X.K X.mg H F t rt σ cs cx)
    (hh : h = hd.map HD.i) (hx : ∀ x, hd = some x → HDok X.K X.mg H F rt σ cx x)
    (hk : ∀ cls od H' F' cs', Le F F' → (∀ a ∈ cx, H' a = H a) → SR X.K X.mg H' F' t1 σ cs' → Good H' F' (cs' ++ cx) → RpX X.K X.mg H' F' x cls od → W cls od σ H') : tOps (xs.map (mx X)) R σ H Q :=
  o h rt t _ e1 σ H F cs cx hd R Q s hh hx ⟨fun _ _ ee => (nomatch ee), fun x' t' ee => by cases ee; exact hk⟩
theorem PostB.n {H F H' F' : Hp} {σ : L2.St} {cx cv cs' : List Addr} {d : D} {t1 : Tr} {Q : VK} (p : PostB X W H F σ cx (.ok d t1) Q) (l : Le F F') (kk : ∀ a ∈ cx, H' a = H a) (s : SR X.K X.mg H' F' t1 σ cs') : PostN X.K X.mg H' F' (cv ++ cs' ++ cx) d Q := by
  intro v H2 F2 cd l2 k2 g2 r
  refine p.1 d t1 rfl v H2 F2 cd cs' (l.trans l2) (fun a ha => (k2 a (by simp [ha])).trans (kk a ha)) (s.keep l2 fun a ha => k2 a (by simp [ha])) (g2.part (g := cv) (perm_of fun z => ?_)) r
  simp only [List.count_append]; omega
theorem no_hd {K : PySem.W.Frag} {mg : Str → Option Value} {H F : Hp} {rt : Tr} {σ : L2.St} {cx : List Addr} : ∀ x, (none : Option HD) = some x → HDok K mg H F rt σ cx x := fun _ e => nomatch e
theorem q_ok (ok : XOk P X N sc) {o : Opr P} {es : List (B P)} {e : Expr} {xs : List Expr} (hsh : o.sh sc e = some xs) (hos : OsOk X W cl es xs) {t rt : Tr} : ValB X W cl t rt (.q o es) e ∧ TstB X W cl t rt (.q o es) e := by
  refine ⟨fun r hr σ H F cs cx Q s kp => ?_, fun r hr _ σ H F cs cx Q s kp => ?_⟩
  · simp only [evB] at hr
    rcases bindR_some hr with ⟨os, t1, e1, e2⟩ | ⟨x, t1, e1, rfl⟩
    · obtain ⟨ds, q1, e3⟩ := Option.bind_eq_some_iff.mp e2
      obtain ⟨d, q2, e4⟩ := Option.map_eq_some_iff.mp e3
      subst e4
      obtain ⟨R, h1, _, h2⟩ := o.ok X N sc ok e xs hsh ds d q2
      exact mx_op h1 (os_at hos e1 s rfl no_hd fun ws H' F' cv cs' l kk s' g' ro => h2 ws H' F' (cv ++ cs' ++ cx) Q (ro.rpe s' q1 (fun a ha => by simp [ha]) fun a ha => by simp [ha]) g' (kp.n l kk s'))
    · obtain ⟨R, h1, _⟩ := o.sound X N sc ok e xs hsh
      exact mx_op h1 (os_ex hos e1 s rfl no_hd (kp.2 x t1 rfl))
  · simp only [evB] at hr
    rcases bindR_some hr with ⟨os, t1, e1, e2⟩ | ⟨x, t1, e1, rfl⟩
    · obtain ⟨ds, q1, e3⟩ := Option.bind_eq_some_iff.mp e2
      obtain ⟨d, q2, e4⟩ := Option.map_eq_some_iff.mp e3
      subst e4
      obtain ⟨R, _, h1, h2⟩ := o.ok X N sc ok e xs hsh ds d q2
      exact mxT_op h1 (os_at hos e1 s rfl no_hd fun ws H' F' cv cs' l kk s' g' ro => h2 ws H' F' (cv ++ cs' ++ cx) _ (ro.rpe s' q1 (fun a ha => by simp [ha]) fun a ha => by simp [ha]) g' (kp.n l kk s'))
    · obtain ⟨R, _, h1⟩ := o.sound X N sc ok e xs hsh
      exact mxT_op h1 (os_ex hos e1 s rfl no_hd (kp.2 x t1 rfl))
theorem tup_ok {es : List (B P)} {xs : List Expr} {pos : Pos} {cx' : Nat} (hp : xs.all plainX = true) (hos : OsOk X W cl es xs) {t rt : Tr} : ValB X W cl t rt (.tup es) (.Tuple xs cx' pos) := by
  intro r hr σ H F cs cx Q s kp
  simp only [evB] at hr
  refine mx_of (pe_tup (pa_all (allPE_mx xs) hp)) ?_
  have main : tOps (xs.map (mx X)) (fun vs H1 Q => vs.length ≤ sizeLine ∧ ∀ p, H1 p = none → Q (.ref p) (upd H1 p (.tup vs))) σ H Q := by
    rcases bindR_some hr with ⟨os, t1, e1, e2⟩ | ⟨x, t1, e1, rfl⟩
    · obtain ⟨ds, q1, e3⟩ := Option.bind_eq_some_iff.mp e2
      split at e3
      · rename_i hl
        cases e3
        refine os_at hos e1 s rfl no_hd fun ws H' F' cv cs' l kk s' g' ro => ?_
        have rs := ro.vals q1
        refine ⟨by rw [← rs.length]; exact hl, fun p hp => ?_⟩
        obtain ⟨g2, k2, l2⟩ := g'.newF (o := .tup ws) hp
        refine kp.1 _ t1 rfl _ _ _ cv cs' (l.trans l2) (fun a ha => (k2 a (by simp [ha])).trans (kk a ha)) (s'.keep l2 fun a ha => k2 a (by simp [ha])) g2 ?_
        simp only [Rp]
        exact ⟨p, ws, rfl, SqT.of upd_same, Rps.keep l2 _ _ _ rs fun a ha => k2 a (by simp [ha])⟩
      · cases e3
    · exact os_ex hos e1 s rfl no_hd (kp.2 x t1 rfl)
  rw [tL_ops] at main; exact main
theorem lst_ok {es : List (B P)} {xs : List Expr} {pos : Pos} (hp : xs.all plainX = true) (hos : OsOk X W cl es xs) {t rt : Tr} : ValB X W cl t rt (.lst es) (.List xs pos) := by
  intro r hr σ H F cs cx Q s kp
  simp only [evB] at hr
  refine mx_of (pe_lst (pa_all (allPE_mx xs) hp)) ?_
  have main : tOps (xs.map (mx X)) (fun vs H1 Q => vs.length ≤ sizeLine ∧ ∀ p, H1 p = none → Q (.ref p) (upd H1 p (.lst vs))) σ H Q := by
    rcases bindR_some hr with ⟨os, t1, e1, e2⟩ | ⟨x, t1, e1, rfl⟩
    · obtain ⟨ds, q1, e3⟩ := Option.bind_eq_some_iff.mp e2
      split at e3
      · rename_i hl
        cases e3
        refine os_at hos e1 s rfl no_hd fun ws H' F' cv cs' l kk s' g' ro => ?_
        have rs := ro.vals q1
        refine ⟨by rw [← rs.length]; exact hl, fun p hp => ?_⟩
        obtain ⟨g2, k2⟩ := g'.new (o := .lst ws) hp
        refine kp.1 _ t1 rfl _ _ _ (p :: cv) cs' l (fun a ha => (k2 a (by simp [ha])).trans (kk a ha)) (s'.keep (Le.refl F') fun a ha => k2 a (by simp [ha])) g2 ?_
        simp only [Rp]
        exact ⟨p, ws, cv, rfl, upd_same, Rps.keep (Le.refl F') _ _ _ rs fun a ha => k2 a (by simp [ha]), rfl⟩
      · cases e3
    · exact os_ex hos e1 s rfl no_hd (kp.2 x t1 rfl)
  rw [tL_ops] at main; exact main
/-- operands behind a receiver of which something must be known -/
theorem os_mid {hdf : D → Bool} {Mid : V → Hp → Prop} (mid : ∀ d, hdf d = true → ∀ (x : V) (H F : Hp) (c : List Addr), Rp X.K X.mg H F d x c → Le F H → Mid x H) {es : List (B P)} {x : Expr} {ys : List Expr} (hos : OsHd X W cl es x ys) {t rt : Tr} (hh : hdOk hdf (hdD cl rt es t) = true)
    {h : Option Nat} {hd : Option HD} {r : Rs (List Opd)} (e1 : evOs cl h rt es t = some r) {σ : L2.St} {H F : Hp} {cs cx : List Addr} {R : List V → Hp → VK → Prop} {Q : VK} (s : BS X.K X.mg H F t rt σ cs cx) (h1 : h = hd.map HD.i) (h2 : ∀ x, hd = some x → HDok X.K X.mg H F rt σ cx x)
    (k : PostO X W H F σ cx hd r (fun ws H' => R ws H' Q)) : mx X x σ H fun v H1 => Mid v H1 ∧ tOps (ys.map (mx X)) (fun vs => R (v :: vs)) σ H1 Q :=
  mx_mono (hos h rt t r e1 σ H F cs cx hd R Q s h1 h2 k) fun v H1 ⟨⟨d, F1, c, e, rp, l⟩, q⟩ => ⟨mid d (by rw [e] at hh; exact hh) v H1 F1 c rp l, q⟩
theorem post_at {os : List Opd} {t1 : Tr} {hd : Option HD} {σ : L2.St} {H F : Hp} {cx : List Addr} {k : List V → Hp → Prop}
    (hk : ∀ ws H' F' cv cs', Le F F' → (∀ a ∈ cx, H' a = H a) → SR X.K X.mg H' F' t1 σ cs' → Good H' F' (cv ++ cs' ++ cx) → RO X.K X.mg H' F' σ hd os ws cv → k ws H') : PostO X W H F σ cx hd (.ok os t1) k :=
  ⟨fun os' t' ee => by cases ee; exact hk, fun _ _ ee => nomatch ee⟩
theorem post_ex {x : Xn} {t1 : Tr} {hd : Option HD} {σ : L2.St} {H F : Hp} {cx : List Addr} {k : List V → Hp → Prop}
    (hk : ∀ cls od H' F' cs', Le F F' → (∀ a ∈ cx, H' a = H a) → SR X.K X.mg H' F' t1 σ cs' → Good H' F' (cs' ++ cx) → RpX X.K X.mg H' F' x cls od → W cls od σ H') : PostO X W H F σ cx hd (.ex x t1) k :=
  ⟨fun _ _ ee => (nomatch ee), fun x' t' ee => by cases ee; exact hk⟩
theorem qm_ok (ok : XOk P X N sc) {o : OprM P} {es : List (B P)} {e x : Expr} {ys : List Expr} (hsh : o.sh sc e = some (x, ys)) (hos : OsHd X W cl es x ys) {t rt : Tr} : ValB X W cl t rt (.qm o es) e := by
  intro r hr σ H F cs cx Q s kp
  simp only [evB] at hr
  split at hr
  case isFalse => cases hr
  case isTrue hh =>
  rcases bindR_some hr with ⟨os, t1, e1, e2⟩ | ⟨x, t1, e1, rfl⟩
  · obtain ⟨ds, q1, e3⟩ := Option.bind_eq_some_iff.mp e2
    obtain ⟨d, q2, e4⟩ := Option.map_eq_some_iff.mp e3
    subst e4
    obtain ⟨R, h1, h2⟩ := o.ok X N sc ok e _ ys hsh ds d q2
    exact mx_of (h1 _ _ pe_mx (allPE_mx ys)) (os_mid (o.mid X.K X.mg) hos hh e1 s rfl no_hd (post_at fun ws H' F' cv cs' l kk s' g' ro => h2 ws H' F' (cv ++ cs' ++ cx) Q (ro.rpe s' q1 (fun a ha => by simp [ha]) fun a ha => by simp [ha]) g' (kp.n l kk s')))
  · obtain ⟨R, h1⟩ := o.sound X N sc ok e _ ys hsh
    exact mx_of (h1 _ _ pe_mx (allPE_mx ys)) (os_mid (o.mid X.K X.mg) hos hh e1 s rfl no_hd (post_ex (kp.2 _ t1 rfl)))
theorem mut0_ok (ok : XOk P X N sc) {o : Mut P} {es : List (B P)} {e y : Expr} {ys : List Expr} (hsh : o.sh sc e = some (y, ys)) (hos : OsHd X W cl es y ys) {t rt : Tr} : ValB X W cl t rt (.mut o none es) e := by
  intro r hr σ H F cs cx Q s kp
  simp only [evB] at hr
  split at hr
  case isFalse => cases hr
  case isTrue hh =>
  rcases bindR_some hr with ⟨os, t1, e1, e2⟩ | ⟨x, t1, e1, rfl⟩
  · split at e2
    · rename_i i rr
      split at e2
      · rename_i d ds q1 q2
        obtain ⟨z, q3, e4⟩ := Option.map_eq_some_iff.mp e2
        subst e4
        obtain ⟨a, d'⟩ := z
        obtain ⟨R, h1, h2⟩ := o.ok X N sc ok e y ys hsh d ds a d' q3
        refine mx_of (h1 _ _ pe_mx (allPE_mx ys)) (os_mid (o.mid X.K X.mg) hos hh e1 s rfl no_hd (post_at fun ws H' F' cv cs' l kk s' g' ro => ?_))
        simp only [RO] at ro
        obtain ⟨v, w, rfl, ev, ro⟩ := ro
        obtain ⟨v', c1, c2, ev', rp, s2, p⟩ := s'.take q1
        rw [ev] at ev'; cases ev'
        refine h2 v w H' F' (c2 ++ cx) c1 cv Q rp (ro.vals q2) (g'.perm (perm_of fun z => ?_)) fun u H2 F2 cr cd' l2 k2 g2 ra rd => ?_
        · have := p.count_eq z
          simp only [List.count_append] at *
          omega
        · have hi : i < t1.length := (List.getElem?_eq_some_iff.mp q1).1
          have s3 := SR.put (s2.keep l2 fun b hb => k2 b (by simp [hb])) hi ev rd
          exact kp.1 a _ rfl u H2 F2 cr _ (l.trans l2) (fun b hb => (k2 b (by simp [hb])).trans (kk b hb)) s3 (by simpa only [List.append_assoc] using g2) ra
      · cases e2
    · cases e2
  · obtain ⟨R, h1⟩ := o.sound X N sc ok e y ys hsh
    exact mx_of (h1 _ _ pe_mx (allPE_mx ys)) (os_mid (o.mid X.K X.mg) hos hh e1 s rfl no_hd (post_ex (kp.2 x t1 rfl)))
/-- what was hidden is there again -/
theorem unhide {K : PySem.W.Frag} {mg : Str → Option Value} {H F : Hp} {σ : L2.St} {h : HD} {t1 : Tr} {cs c2 : List Addr} {d2 : D} (s : SR K mg H F t1 σ cs) (hv : σ[h.i]? = some (some h.v)) (r : Rp K mg H F d2 h.v c2) : ∃ c3 g, SR K mg H F (t1.set h.i (some d2)) σ (c2 ++ c3) ∧ cs.Perm (g ++ c3) := by
  obtain ⟨c3, s3, rr, p⟩ := s.drop (i := h.i)
  have hi : h.i < t1.length := by
    rw [s.len]
    exact (List.getElem?_eq_some_iff.mp hv).1
  exact ⟨c3, rr, SR.put s3 hi hv r, p⟩
theorem mut1_ok (ok : XOk P X N sc) {o : Mut P} {i : Nat} {es : List (B P)} {e y : Expr} {ys : List Expr} (hsh : o.sh sc e = some (y, ys)) (hos : OsHd X W cl es y ys) {t rt : Tr} : ValB X W cl t rt (.mut o (some i) es) e := by
  intro r hr σ H F cs cx Q s kp
  simp only [evB] at hr
  split at hr
  case h_2 => cases hr
  case h_1 d0 hi =>
  split at hr
  case isFalse => cases hr
  case isTrue hh =>
  obtain ⟨h, ch, rfl, rfl, s1, hx, hv, hlen⟩ := s.hide hi
  have hir : h.i < rt.length := by rw [← hlen]; exact (List.getElem?_eq_some_iff.mp hi).1
  have hx := hx hir
  have hxx : ∀ x, some h = some x → HDok X.K X.mg H F (rt.set h.i (some h.d)) σ (h.c ++ cx) x := fun x e => by cases e; exact hx
  rcases bindR_some hr with ⟨os, t1, e1, e2⟩ | ⟨x, t1, e1, rfl⟩
  · split at e2
    · rename_i j st rr
      split at e2
      · rename_i d ds q1 q2
        split at e2
        · cases e2
        · rename_i hj
          obtain ⟨z, q3, e4⟩ := Option.bind_eq_some_iff.mp e2
          obtain ⟨d2, q4, e5⟩ := Option.map_eq_some_iff.mp e4
          subst e5
          obtain ⟨a, d'⟩ := z
          obtain ⟨R, h1, h2⟩ := o.ok X N sc ok e y ys hsh d ds a d' q3
          refine mx_of (h1 _ _ pe_mx (allPE_mx ys)) (os_mid (o.mid X.K X.mg) hos hh e1 s1 (hd := some h) rfl hxx (post_at fun ws H' F' cv cs' l kk s' g' ro => ?_))
          simp only [RO] at ro
          obtain ⟨v, w, h', d1, rfl, eh, ei, foc, ro⟩ := ro
          cases eh
          obtain ⟨fg, c1, rest, p, rp, back⟩ := foc
          rw [q1] at fg; cases fg
          refine h2 v w H' F' (cs' ++ rest ++ cx) c1 cv Q rp (ro.vals q2) (g'.perm (perm_of fun z => ?_)) fun u H2 F2 cr cd' l2 k2 g2 ra rd => ?_
          · have := p.count_eq z
            simp only [List.count_append] at *
            omega
          · obtain ⟨d3, c3, b1, b2, b3⟩ := back H2 F2 d' cd' l2 (fun b hb => k2 b (by simp [hb])) rd
            rw [q4] at b1; cases b1
            obtain ⟨c4, g4, s4, p4⟩ := unhide (s'.keep l2 fun b hb => k2 b (by simp [hb])) hv b2
            refine kp.1 a _ rfl u H2 F2 cr _ (l.trans l2) (fun b hb => (k2 b (by simp [hb])).trans (kk b (by simp [hb]))) s4 (g2.part (g := g4) (perm_of fun z => ?_)) ra
            have a1 := b3.count_eq z
            have a2 := p4.count_eq z
            simp only [List.count_append] at *
            omega
      · cases e2
    · cases e2
  · obtain ⟨R, h1⟩ := o.sound X N sc ok e y ys hsh
    refine mx_of (h1 _ _ pe_mx (allPE_mx ys)) (os_mid (o.mid X.K X.mg) hos hh e1 s1 (hd := some h) rfl hxx (post_ex fun cls od H' F' cs' l kk s' g' rx => ?_))
    exact kp.2 x t1 rfl cls od H' F' cs' l (fun a ha => kk a (by simp [ha])) s' (g'.part (g := h.c) (perm_of fun z => by simp only [List.count_append]; omega)) rx
end
end Ev
end
section
set_option maxRecDepth 100000
set_option maxHeartbeats 4000000
namespace Ev
open PySem PySem.Spec L2
section
variable {P : Pg} {X : Cx} {N : List Str} {sc : Scope} {k : Nat} {cl : Cl} {W : WX}
theorem PostB.later {H F H' F' : Hp} {σ : L2.St} {cx : List Addr} {r : Rs D} {Q : VK} (p : PostB X W H F σ cx r Q) (l : Le F F') (kk : ∀ a ∈ cx, H' a = H a) : PostB X W H' F' σ cx r Q :=
  ⟨fun d t' e v H2 F2 cd cs' l2 k2 s2 g2 rd => p.1 d t' e v H2 F2 cd cs' (l.trans l2) (fun a ha => (k2 a ha).trans (kk a ha)) s2 g2 rd,
   fun x t' e cls od H2 F2 cs' l2 k2 s2 g2 rx => p.2 x t' e cls od H2 F2 cs' (l.trans l2) (fun a ha => (k2 a ha).trans (kk a ha)) s2 g2 rx⟩
/-- all that a call needs behind its operands -/
structure Rdy (X : Cx) (H F : Hp) (σ : L2.St) (cx : List Addr) (w : Tr → Option D → Option Tr) (os : List Opd) (t2 : Tr) (args : List (Bool × D)) (ws : List V) : Prop where
  x : ∃ qv rest c1 c2, Ends X.K X.mg H F σ w qv rest ∧ Rps X.K X.mg H F (args.map (·.2)) ws c1 ∧ SR X.K X.mg H F t2 σ c2 ∧ Good H F (c1 ++ c2 ++ rest ++ cx) ∧ RV σ qv os ws
theorem rdy_none {H F : Hp} {σ : L2.St} {cx cs cv : List Addr} {os : List Opd} {t1 t2 : Tr} {args : List (Bool × D)} {ws : List V} (e : lend none os t1 = some (args, t2)) (s : SR X.K X.mg H F t1 σ cs) (g : Good H F (cv ++ cs ++ cx)) (ro : RO X.K X.mg H F σ none os ws cv) : Rdy X H F σ cx noW os t2 args ws := by
  obtain ⟨rv, c1, c2, r1, s2, p⟩ := lend_none e s ro
  refine ⟨.non, [], c1, c2, ends_no _, r1, s2, g.perm (perm_of fun z => ?_), rv _⟩
  have := p.count_eq z
  simp only [List.count_append, List.count_nil] at *
  omega
theorem rdy_some {H F : Hp} {σ : L2.St} {cx cs cv : List Addr} {os : List Opd} {t1 t2 : Tr} {args : List (Bool × D)} {ws : List V} {h : HD} {d1 : D} {st : List Stp} (hs : dpOf h.i os = some st) (hg : getP h.d st = some d1) (e : lend (some d1) os t1 = some (args, t2)) (s : SR X.K X.mg H F t1 σ cs) (g : Good H F (cv ++ cs ++ (h.c ++ cx)))
    (ro : RO X.K X.mg H F σ (some h) os ws cv) (hv : σ[h.i]? = some (some h.v)) : Rdy X H F σ cx (backW h.i h.d st) os t2 args ws := by
  obtain ⟨i, st', h', d1', v, eh, ei, es, foc, rv, y⟩ := lend_some e s ro
  cases eh
  subst ei
  rw [hs] at es; cases es
  obtain ⟨fg, cf, rest, p, rp, back⟩ := foc
  rw [hg] at fg; cases fg
  obtain ⟨c1, c2, r1, s2, p2⟩ := y cf rp
  refine ⟨v, rest, c1, c2, ends_back hv back, r1, s2, g.perm (perm_of fun z => ?_), rv⟩
  have a1 := p.count_eq z
  have a2 := p2.count_eq z
  simp only [List.count_append] at *
  omega
theorem isC_ok {H F : Hp} {C m : Str} {d : D} {v : V} {c : List Addr} {A : Addr} (h : isC C m d = true) (r : Rp X.K X.mg H F d v c) (l : Le F H) (hA : X.mg C = some (.ref A)) : ∃ a dx fs, v = .ref a ∧ H a = some (.ins A dx fs) ∧ fs.lookup m = none := by
  cases d with
  | ins o C' fs xs =>
    simp only [isC, decide_eq_true_eq] at h
    obtain ⟨rfl, hm⟩ := h
    have lk : ∀ {vs : List V}, (fs.zip vs).lookup m = none := by
      intro vs
      rw [List.lookup_eq_none_iff]
      rintro ⟨a, b⟩ hp
      have := (List.of_mem_zip hp).1
      simp only [bne_iff_ne, ne_eq]
      intro e
      subst e
      exact hm this
    cases o with
    | true =>
      simp only [Rp] at r
      obtain ⟨a, A', dx, vs, c', rfl, q, _, q2, _, _⟩ := r
      rw [hA] at q; cases q
      exact ⟨a, dx, _, rfl, q2, lk⟩
    | false =>
      simp only [Rp] at r
      obtain ⟨a, A', dx, vs, rfl, q, _, q2, _⟩ := r
      rw [hA] at q; cases q
      exact ⟨a, dx, _, rfl, l _ _ q2, lk⟩
  | _ => simp [isC] at h
theorem callK_some {f : Fn} {os : List Opd} {t : Tr} {q : Option D} {w : Tr → Option D → Option Tr} {r : Rs D} (h : callK cl f os t q w = some r) : ∃ args t2 key, lend q os t = some (args, t2) ∧ fkey f args = some key ∧ backF w os t2 key cl args f = some r := by
  unfold callK at h
  obtain ⟨⟨args, t2⟩, h1, h2⟩ := Option.bind_eq_some_iff.mp h
  obtain ⟨key, h3, h4⟩ := Option.bind_eq_some_iff.mp h2
  exact ⟨args, t2, key, h1, h3, h4⟩
/-- the operands of a call: those in the text -/
theorem glob_ok (ok : BOk P X N sc k cl W) {f : Str} {p pos : Pos} {as : List Expr} (hf : P.fn f = true) (hg : glB sc f = true) (hdb : (f == ("__debug__" : Str)) = false) (hp : as.all plainX = true) {es : List (B P)} (hos : OsOk X W cl es as) {t rt : Tr} {h : Option Nat} {hd : Option HD} {r : Rs D}
    {K : List Opd → Tr → Option (Rs D)} (he : bindR (evOs cl h rt es t) K = some r) {σ : L2.St} {H F : Hp} {cs cx cy : List Addr} {Q : VK} (s : BS X.K X.mg H F t rt σ cs (cy ++ cx)) (hh : h = hd.map HD.i) (hx : ∀ x, hd = some x → HDok X.K X.mg H F rt σ (cy ++ cx) x) (kp : PostB X W H F σ cx r Q)
    (hK : ∀ os t1, K os t1 = some r → ∃ w q, callK cl (.glob f) os t1 q w = some r ∧ ∀ ws H' F' cv cs' args t2, Le F F' → (∀ a ∈ cy ++ cx, H' a = H a) → SR X.K X.mg H' F' t1 σ cs' → Good H' F' (cv ++ cs' ++ (cy ++ cx)) → RO X.K X.mg H' F' σ hd os ws cv → lend q os t1 = some (args, t2) → Rdy X H' F' σ cx w os t2 args ws) :
    mx X (.Call (.Name f p) as [] pos) σ H Q := by
  refine mx_fn ok hf hg hdb hp ?_
  rcases bindR_some he with ⟨os, t1, e1, e2⟩ | ⟨x, t1, e1, rfl⟩
  · obtain ⟨w, q, e3, hr⟩ := hK os t1 e2
    obtain ⟨args, t2, key, e4, e5, e6⟩ := callK_some e3
    refine os_at hos e1 s hh hx fun ws H' F' cv cs' l kk s' g' ro => ?_
    obtain ⟨qv, rest, c1, c2, E, rp, s2, g2, rv⟩ := hr ws H' F' cv cs' args t2 l kk s' g' ro e4
    simp only [fkey, Option.some.injEq] at e5
    subst e5
    exact sp_end E rp s2 g2 rv e6 (kp.later l fun a ha => kk a (by simp [ha]))
  · exact os_ex hos e1 s hh hx fun cls od H' F' cs' l kk s' g' rx => kp.2 x t1 rfl cls od H' F' cs' l (fun a ha => kk a (by simp [ha])) s' (g'.part (g := cy) (perm_of fun z => by simp only [List.count_append]; omega)) rx
theorem globv_ok (ok : BOk P X N sc k cl W) {f x : Str} {i : Nat} {p pos : Pos} {as : List Expr} (hf : P.fn f = true) (hg : visB N sc i x = true) (hp : as.all plainX = true) (hne : as.isEmpty = false) {es : List (B P)} (hos : OsOk X W cl es as) {t rt : Tr} {h : Option Nat} {hd : Option HD} {r : Rs D}
    {K : List Opd → Tr → Option (Rs D)} (he : bindR (evOs cl h rt es t) K = some r) {σ : L2.St} {H F : Hp} {cs cx cy : List Addr} {Q : VK} (s : BS X.K X.mg H F t rt σ cs (cy ++ cx)) (hh : h = hd.map HD.i) (hx : ∀ x, hd = some x → HDok X.K X.mg H F rt σ (cy ++ cx) x) (kp : PostB X W H F σ cx r Q) (hsl : ∃ a, σ[i]? = some (some (.ref a)) ∧ X.mg f = some (.ref a))
    (hK : ∀ os t1, K os t1 = some r → ∃ w q, callK cl (.glob f) os t1 q w = some r ∧ ∀ ws H' F' cv cs' args t2, Le F F' → (∀ a ∈ cy ++ cx, H' a = H a) → SR X.K X.mg H' F' t1 σ cs' → Good H' F' (cv ++ cs' ++ (cy ++ cx)) → RO X.K X.mg H' F' σ hd os ws cv → lend q os t1 = some (args, t2) → Rdy X H' F' σ cx w os t2 args ws) :
    mx X (.Call (.Name x p) as [] pos) σ H Q := by
  refine mx_fv ok hf hg hp hne hsl ?_
  rcases bindR_some he with ⟨os, t1, e1, e2⟩ | ⟨x', t1, e1, rfl⟩
  · obtain ⟨w, q, e3, hr⟩ := hK os t1 e2
    obtain ⟨args, t2, key, e4, e5, e6⟩ := callK_some e3
    refine os_at hos e1 s hh hx fun ws H' F' cv cs' l kk s' g' ro => ?_
    obtain ⟨qv, rest, c1, c2, E, rp, s2, g2, rv⟩ := hr ws H' F' cv cs' args t2 l kk s' g' ro e4
    simp only [fkey, Option.some.injEq] at e5
    subst e5
    exact sp_end E rp s2 g2 rv e6 (kp.later l fun a ha => kk a (by simp [ha]))
  · exact os_ex hos e1 s hh hx fun cls od H' F' cs' l kk s' g' rx => kp.2 x' t1 rfl cls od H' F' cs' l (fun a ha => kk a (by simp [ha])) s' (g'.part (g := cy) (perm_of fun z => by simp only [List.count_append]; omega)) rx
theorem globb_ok (ok : BOk P X N sc k cl W) {f : Str} {p pos : Pos} {as : List Expr} (hf : P.fn f = true) (hg : glB sc f = true) (hdb : (f == ("__debug__" : Str)) = false) (hp : as.all plainX = true) {es : List (B P)} (hos : OsOk X W cl es as) {t rt : Tr} {h : Option Nat} {hd : Option HD} {r : Rs D}
    {K : List Opd → Tr → Option (Rs D)} (he : bindR (evOs cl h rt es t) K = some r) {σ : L2.St} {H F : Hp} {cs cx cy : List Addr} {Q : VK} (s : BS X.K X.mg H F t rt σ cs (cy ++ cx)) (hh : h = hd.map HD.i) (hx : ∀ x, hd = some x → HDok X.K X.mg H F rt σ (cy ++ cx) x) (kp : PostB X W H F σ cx r Q)
    (hK : ∀ os t1, K os t1 = some r → ∃ w q, callK cl (.globB f) os t1 q w = some r ∧ ∀ ws H' F' cv cs' args t2, Le F F' → (∀ a ∈ cy ++ cx, H' a = H a) → SR X.K X.mg H' F' t1 σ cs' → Good H' F' (cv ++ cs' ++ (cy ++ cx)) → RO X.K X.mg H' F' σ hd os ws cv → lend q os t1 = some (args, t2) → Rdy X H' F' σ cx w os t2 args ws) :
    mx X (.Call (.Name f p) as [] pos) σ H Q := by
  refine mx_fn ok hf hg hdb hp ?_
  rcases bindR_some he with ⟨os, t1, e1, e2⟩ | ⟨x, t1, e1, rfl⟩
  · obtain ⟨w, q, e3, hr⟩ := hK os t1 e2
    obtain ⟨args, t2, key, e4, e5, e6⟩ := callK_some e3
    refine os_at hos e1 s hh hx fun ws H' F' cv cs' l kk s' g' ro => ?_
    obtain ⟨qv, rest, c1, c2, E, rp, s2, g2, rv⟩ := hr ws H' F' cv cs' args t2 l kk s' g' ro e4
    simp only [fkey, Option.some.injEq] at e5
    subst e5
    exact sp_bor (sp_end (cl1 := borC (cl (f, none))) E rp s2 g2 rv e6 (kp.later l fun a ha => kk a (by simp [ha])))
  · exact os_ex hos e1 s hh hx fun cls od H' F' cs' l kk s' g' rx => kp.2 x t1 rfl cls od H' F' cs' l (fun a ha => kk a (by simp [ha])) s' (g'.part (g := cy) (perm_of fun z => by simp only [List.count_append]; omega)) rx
theorem mkk_ok (ok : BOk P X N sc k cl W) {f : Str} {p pos : Pos} {as : List Expr} (hf : P.ck f = true) (hg : glB sc f = true) (hdb : (f == ("__debug__" : Str)) = false) (hp : as.all plainX = true) {es : List (B P)} (hos : OsOk X W cl es as) {t rt : Tr} {h : Option Nat} {hd : Option HD} {r : Rs D}
    {K : List Opd → Tr → Option (Rs D)} (he : bindR (evOs cl h rt es t) K = some r) {σ : L2.St} {H F : Hp} {cs cx cy : List Addr} {Q : VK} (s : BS X.K X.mg H F t rt σ cs (cy ++ cx)) (hh : h = hd.map HD.i) (hx : ∀ x, hd = some x → HDok X.K X.mg H F rt σ (cy ++ cx) x) (kp : PostB X W H F σ cx r Q)
    (hK : ∀ os t1, K os t1 = some r → ∃ w q, callK cl (.mk f) os t1 q w = some r ∧ ∀ ws H' F' cv cs' args t2, Le F F' → (∀ a ∈ cy ++ cx, H' a = H a) → SR X.K X.mg H' F' t1 σ cs' → Good H' F' (cv ++ cs' ++ (cy ++ cx)) → RO X.K X.mg H' F' σ hd os ws cv → lend q os t1 = some (args, t2) → Rdy X H' F' σ cx w os t2 args ws) :
    mx X (.Call (.Name f p) as [] pos) σ H Q := by
  refine mx_mk ok hf hg hdb hp fun A hA => ?_
  rcases bindR_some he with ⟨os, t1, e1, e2⟩ | ⟨x, t1, e1, rfl⟩
  · obtain ⟨w, q, e3, hr⟩ := hK os t1 e2
    obtain ⟨args, t2, key, e4, e5, e6⟩ := callK_some e3
    refine os_at hos e1 s hh hx fun ws H' F' cv cs' l kk s' g' ro => ?_
    obtain ⟨qv, rest, c1, c2, E, rp, s2, g2, rv⟩ := hr ws H' F' cv cs' args t2 l kk s' g' ro e4
    simp only [fkey, Option.some.injEq] at e5
    subst e5
    intro x dx h1 h2 h3
    exact mk_end E hA rp s2 g2 rv e6 (kp.later l fun a ha => kk a (by simp [ha])) h1 h2 h3
  · exact os_ex hos e1 s hh hx fun cls od H' F' cs' l kk s' g' rx => kp.2 x t1 rfl cls od H' F' cs' l (fun a ha => kk a (by simp [ha])) s' (g'.part (g := cy) (perm_of fun z => by simp only [List.count_append]; omega)) rx
theorem mkkd_ok (ok : BOk P X N sc k cl W) {f : Str} {p pos : Pos} {as : List Expr} {dv : D} (hf : P.ck f = true) (hk : P.dk f = some dv) (hg : glB sc f = true) (hdb : (f == ("__debug__" : Str)) = false) (hp : as.all plainX = true) {es : List (B P)} (hos : OsOk X W cl es as) {t rt : Tr} {h : Option Nat} {hd : Option HD} {r : Rs D}
    {K : List Opd → Tr → Option (Rs D)} (he : bindR (evOs cl h rt es t) K = some r) {σ : L2.St} {H F : Hp} {cs cx cy : List Addr} {Q : VK} (s : BS X.K X.mg H F t rt σ cs (cy ++ cx)) (hh : h = hd.map HD.i) (hx : ∀ x, hd = some x → HDok X.K X.mg H F rt σ (cy ++ cx) x) (kp : PostB X W H F σ cx r Q)
    (hK : ∀ os t1, K os t1 = some r → ∃ w q, callK cl (.mkd f dv) os t1 q w = some r ∧ ∀ ws H' F' cv cs' args t2, Le F F' → (∀ a ∈ cy ++ cx, H' a = H a) → SR X.K X.mg H' F' t1 σ cs' → Good H' F' (cv ++ cs' ++ (cy ++ cx)) → RO X.K X.mg H' F' σ hd os ws cv → lend q os t1 = some (args, t2) → Rdy X H' F' σ cx w os t2 args ws) :
    mx X (.Call (.Name f p) as [] pos) σ H Q := by
  refine mx_mkd ok hf hk hg hdb hp fun A v hA hv => ?_
  rcases bindR_some he with ⟨os, t1, e1, e2⟩ | ⟨x, t1, e1, rfl⟩
  · obtain ⟨w, q, e3, hr⟩ := hK os t1 e2
    obtain ⟨args, t2, key, e4, e5, e6⟩ := callK_some e3
    refine os_at hos e1 s hh hx fun ws H' F' cv cs' l kk s' g' ro => ?_
    obtain ⟨qv, rest, c1, c2, E, rp, s2, g2, rv⟩ := hr ws H' F' cv cs' args t2 l kk s' g' ro e4
    simp only [fkey, Option.some.injEq] at e5
    subst e5
    intro x dx h1 h2 h3
    exact sp_dfl (vs := .ref x :: ws) hv (mk_end (cl1 := fun args => cutO (cl (f, some "__init__") (args ++ [(false, dv)]))) E hA rp s2 g2 rv e6 (kp.later l fun a ha => kk a (by simp [ha])) h1 h2 h3)
  · exact os_ex hos e1 s hh hx fun cls od H' F' cs' l kk s' g' rx => kp.2 x t1 rfl cls od H' F' cs' l (fun a ha => kk a (by simp [ha])) s' (g'.part (g := cy) (perm_of fun z => by simp only [List.count_append]; omega)) rx
theorem meth_ok (ok : BOk P X N sc k cl W) {C m : Str} {o : Expr} {apos pos : Pos} {as : List Expr} (hf : P.mt C m = true) (ho : plainX o = true) (hp : as.all plainX = true) (hlen : as.length < 29) (hl : (apos.endLine == pos.line) = true) {es : List (B P)} (hos : OsHd X W cl es o as) {t rt : Tr} {h : Option Nat} {hd : Option HD} {r : Rs D}
    (hrc : rcvOk (.meth C m) (hdD cl rt es t) = true)
    {K : List Opd → Tr → Option (Rs D)} (he : bindR (evOs cl h rt es t) K = some r) {σ : L2.St} {H F : Hp} {cs cx cy : List Addr} {Q : VK} (s : BS X.K X.mg H F t rt σ cs (cy ++ cx)) (hh : h = hd.map HD.i) (hx : ∀ x, hd = some x → HDok X.K X.mg H F rt σ (cy ++ cx) x) (kp : PostB X W H F σ cx r Q)
    (hK : ∀ os t1, K os t1 = some r → ∃ w q, callK cl (.meth C m) os t1 q w = some r ∧ ∀ ws H' F' cv cs' args t2, Le F F' → (∀ a ∈ cy ++ cx, H' a = H a) → SR X.K X.mg H' F' t1 σ cs' → Good H' F' (cv ++ cs' ++ (cy ++ cx)) → RO X.K X.mg H' F' σ hd os ws cv → lend q os t1 = some (args, t2) → Rdy X H' F' σ cx w os t2 args ws) :
    mx X (.Call (.Attribute o m apos) as [] pos) σ H Q := by
  refine mx_meth ok hf ho hp hlen hl fun A hA => ?_
  have fin : ∀ (x : V) (H1 : Hp), ((∃ d F1 c, hdD cl rt es t = some d ∧ Rp X.K X.mg H1 F1 d x c ∧ Le F1 H1) ∧ tOps (as.map (mx X)) (fun vs H2 Q => spOf X.K X.mg (cl (C, some m)) (x :: vs) H2 Q (WE W σ)) σ H1 Q) →
      ∃ a dx fs, x = .ref a ∧ H1 a = some (.ins A dx fs) ∧ fs.lookup m = none ∧ tOps (as.map (mx X)) (fun vs H2 Q => spOf X.K X.mg (cl (C, some m)) (x :: vs) H2 Q (WE W σ)) σ H1 Q := fun x H1 ⟨⟨d, F1, c, e, rp, l⟩, q⟩ => by
    rw [e] at hrc
    obtain ⟨a, dx, fs, e1, e2, e3⟩ := isC_ok hrc rp l hA
    exact ⟨a, dx, fs, e1, e2, e3, q⟩
  rcases bindR_some he with ⟨os, t1, e1, e2⟩ | ⟨x, t1, e1, rfl⟩
  · obtain ⟨w, q, e3, hr⟩ := hK os t1 e2
    obtain ⟨args, t2, key, e4, e5, e6⟩ := callK_some e3
    refine mx_mono (hos h rt t _ e1 σ H F cs (cy ++ cx) hd (fun vs H2 Q => spOf X.K X.mg (cl (C, some m)) vs H2 Q (WE W σ)) Q s hh hx ⟨fun os' t' ee ws H' F' cv cs' l kk s' g' ro => ?_, fun _ _ ee => nomatch ee⟩) fin
    cases ee
    obtain ⟨qv, rest, c1, c2, E, rp, s2, g2, rv⟩ := hr ws H' F' cv cs' args t2 l kk s' g' ro e4
    have e7 : key = (C, some m) := by
      cases args with
      | nil => simp [fkey] at e5
      | cons z zs =>
        simp only [fkey] at e5
        split at e5
        · cases e5; rfl
        · cases e5
    subst e7
    exact sp_end E rp s2 g2 rv e6 (kp.later l fun a ha => kk a (by simp [ha]))
  · refine mx_mono (hos h rt t _ e1 σ H F cs (cy ++ cx) hd (fun vs H2 Q => spOf X.K X.mg (cl (C, some m)) vs H2 Q (WE W σ)) Q s hh hx ⟨fun _ _ ee => (nomatch ee), fun x' t' ee cls od H' F' cs' l kk s' g' rx => ?_⟩) fin
    cases ee
    exact kp.2 x t1 rfl cls od H' F' cs' l (fun a ha => kk a (by simp [ha])) s' (g'.part (g := cy) (perm_of fun z => by simp only [List.count_append]; omega)) rx
end
end Ev
end
section
set_option maxRecDepth 100000
set_option maxHeartbeats 4000000
namespace Ev
open PySem PySem.Spec L2
section
variable {P : Pg} {cl : Cl}
theorem hid_K {X : Cx} {W : WX} {f : Fn} {h : HD} {r : Rs D} {H F : Hp} {σ : L2.St} {cx : List Addr} (hv : σ[h.i]? = some (some h.v)) : ∀ os t1, ((dpOf h.i os).bind fun st => (getP h.d st).bind fun d1 => callK cl f os t1 (some d1) (backW h.i h.d st)) = some r →
    ∃ w q, callK cl f os t1 q w = some r ∧ ∀ ws H' F' cv cs' args t2, Le F F' → (∀ a ∈ h.c ++ cx, H' a = H a) → SR X.K X.mg H' F' t1 σ cs' → Good H' F' (cv ++ cs' ++ (h.c ++ cx)) → RO X.K X.mg H' F' σ (some h) os ws cv → lend q os t1 = some (args, t2) → Rdy X H' F' σ cx w os t2 args ws := by
  intro os t1 e
  obtain ⟨st, e1, e2⟩ := Option.bind_eq_some_iff.mp e
  obtain ⟨d1, e3, e4⟩ := Option.bind_eq_some_iff.mp e2
  exact ⟨_, _, e4, fun ws H' F' cv cs' args t2 l kk s' g' ro el => rdy_some e1 e3 el s' g' ro hv⟩
theorem no_K {X : Cx} {W : WX} {f : Fn} {r : Rs D} {H F : Hp} {σ : L2.St} {cx : List Addr} : ∀ os t1, callK cl f os t1 none noW = some r →
    ∃ w q, callK cl f os t1 q w = some r ∧ ∀ ws H' F' cv cs' args t2, Le F F' → (∀ a ∈ [] ++ cx, H' a = H a) → SR X.K X.mg H' F' t1 σ cs' → Good H' F' (cv ++ cs' ++ ([] ++ cx)) → RO X.K X.mg H' F' σ none os ws cv → lend q os t1 = some (args, t2) → Rdy X H' F' σ cx w os t2 args ws :=
  fun os t1 e => ⟨_, _, e, fun ws H' F' cv cs' args t2 l kk s' g' ro el => rdy_none el s' g' ro⟩
/-- a call in the text -/
theorem call_ok {X : Cx} {N : List Str} {sc : Scope} {k : Nat} {W : WX} (ok : BOk P X N sc k cl W) {f : Fn} {hid : Option Nat} {es : List (B P)} {e : Expr} (hc : chkB N sc (.call f hid es) e = true)
    (ho : ∀ xs, chkBs N sc es xs = true → OsOk X W cl es xs ∧ ∀ x ys, xs = x :: ys → OsHd X W cl es x ys) {t rt : Tr} : ValB X W cl t rt (.call f hid es) e := by
  intro r hr σ H F cs cx Q s kp
  cases hid with
  | none =>
    simp only [evB] at hr
    split at hr
    case isFalse => cases hr
    case isTrue hrc =>
    have s0 : BS X.K X.mg H F t rt σ cs ([] ++ cx) := s
    match f, e, hc, hr, hrc with
    | .fv i, .Call (.Name x p) as [] pos, hc, hr, hrc =>
      simp only [chkB, Bool.and_eq_true, Bool.not_eq_true'] at hc
      obtain ⟨⟨⟨h1, h2⟩, h3⟩, h4⟩ := hc
      simp only [resF] at hr
      split at hr
      · rename_i g hi
        split at hr
        · rename_i hf
          rw [Option.bind_some] at hr
          obtain ⟨v, c1, c2, ev, rp, _, _⟩ := s.s.take hi
          simp only [Rp] at rp
          obtain ⟨⟨a, rfl, hm⟩, _⟩ := rp
          exact globv_ok ok hf h1 h2 h3 (ho as h4).1 hr s0 rfl no_hd kp ⟨a, ev, hm⟩ (no_K (W := W))
        · cases hr
      · cases hr
    | .glob f, .Call (.Name x p) as [] pos, hc, hr, hrc =>
      simp only [chkB, Bool.and_eq_true, Bool.not_eq_true', decide_eq_true_eq] at hc
      obtain ⟨⟨⟨⟨⟨h1, rfl⟩, h3⟩, h4⟩, h5⟩, h6⟩ := hc
      exact glob_ok ok h1 h3 h4 h5 (ho as h6).1 hr s0 rfl no_hd kp (no_K (W := W))
    | .globB f, .Call (.Name x p) as [] pos, hc, hr, hrc =>
      simp only [chkB, Bool.and_eq_true, Bool.not_eq_true', decide_eq_true_eq] at hc
      obtain ⟨⟨⟨⟨⟨h1, rfl⟩, h3⟩, h4⟩, h5⟩, h6⟩ := hc
      exact globb_ok ok h1 h3 h4 h5 (ho as h6).1 hr s0 rfl no_hd kp (no_K (W := W))
    | .mk f, .Call (.Name x p) as [] pos, hc, hr, hrc =>
      simp only [chkB, Bool.and_eq_true, Bool.not_eq_true', decide_eq_true_eq] at hc
      obtain ⟨⟨⟨⟨⟨h1, rfl⟩, h3⟩, h4⟩, h5⟩, h6⟩ := hc
      exact mkk_ok ok h1 h3 h4 h5 (ho as h6).1 hr s0 rfl no_hd kp (no_K (W := W))
    | .mkd f dv, .Call (.Name x p) as [] pos, hc, hr, hrc =>
      simp only [chkB, Bool.and_eq_true, Bool.not_eq_true', decide_eq_true_eq] at hc
      obtain ⟨⟨⟨⟨⟨⟨h1, rfl⟩, h3⟩, h4⟩, h5⟩, h6⟩, h7⟩ := hc
      exact mkkd_ok ok h1 (dkOk_ok h7) h3 h4 h5 (ho as h6).1 hr s0 rfl no_hd kp (no_K (W := W))
    | .meth C m, .Call (.Attribute o n apos) as [] pos, hc, hr, hrc =>
      simp only [chkB, Bool.and_eq_true, Bool.not_eq_true', decide_eq_true_eq] at hc
      obtain ⟨⟨⟨⟨⟨⟨h1, rfl⟩, h3⟩, h4⟩, h5⟩, h6⟩, h7⟩ := hc
      exact meth_ok ok h1 h3 h4 h5 h6 ((ho (o :: as) h7).2 o as rfl) hrc hr s0 rfl no_hd kp (no_K (W := W))
  | some i =>
    simp only [evB] at hr
    split at hr
    case h_2 => cases hr
    case h_1 d0 hi =>
    split at hr
    case isFalse => cases hr
    case isTrue hrc =>
    obtain ⟨h, ch, rfl, rfl, s1, hx, hv, hlen⟩ := s.hide hi
    have hir : h.i < rt.length := by rw [← hlen]; exact (List.getElem?_eq_some_iff.mp hi).1
    have hx := hx hir
    have hxx : ∀ x, some h = some x → HDok X.K X.mg H F (rt.set h.i (some h.d)) σ (h.c ++ cx) x := fun x e => by cases e; exact hx
    match f, e, hc, hr, hrc with
    | .glob f, .Call (.Name x p) as [] pos, hc, hr, hrc =>
      simp only [chkB, Bool.and_eq_true, Bool.not_eq_true', decide_eq_true_eq] at hc
      obtain ⟨⟨⟨⟨⟨h1, rfl⟩, h3⟩, h4⟩, h5⟩, h6⟩ := hc
      exact glob_ok ok h1 h3 h4 h5 (ho as h6).1 hr s1 (hd := some h) rfl hxx kp (hid_K (W := W) hv)
    | .globB f, .Call (.Name x p) as [] pos, hc, hr, hrc =>
      simp only [chkB, Bool.and_eq_true, Bool.not_eq_true', decide_eq_true_eq] at hc
      obtain ⟨⟨⟨⟨⟨h1, rfl⟩, h3⟩, h4⟩, h5⟩, h6⟩ := hc
      exact globb_ok ok h1 h3 h4 h5 (ho as h6).1 hr s1 (hd := some h) rfl hxx kp (hid_K (W := W) hv)
    | .mk f, .Call (.Name x p) as [] pos, hc, hr, hrc =>
      simp only [chkB, Bool.and_eq_true, Bool.not_eq_true', decide_eq_true_eq] at hc
      obtain ⟨⟨⟨⟨⟨h1, rfl⟩, h3⟩, h4⟩, h5⟩, h6⟩ := hc
      exact mkk_ok ok h1 h3 h4 h5 (ho as h6).1 hr s1 (hd := some h) rfl hxx kp (hid_K (W := W) hv)
    | .mkd f dv, .Call (.Name x p) as [] pos, hc, hr, hrc =>
      simp only [chkB, Bool.and_eq_true, Bool.not_eq_true', decide_eq_true_eq] at hc
      obtain ⟨⟨⟨⟨⟨⟨h1, rfl⟩, h3⟩, h4⟩, h5⟩, h6⟩, h7⟩ := hc
      exact mkkd_ok ok h1 (dkOk_ok h7) h3 h4 h5 (ho as h6).1 hr s1 (hd := some h) rfl hxx kp (hid_K (W := W) hv)
    | .meth C m, .Call (.Attribute o n apos) as [] pos, hc, hr, hrc =>
      simp only [chkB, Bool.and_eq_true, Bool.not_eq_true', decide_eq_true_eq] at hc
      obtain ⟨⟨⟨⟨⟨⟨h1, rfl⟩, h3⟩, h4⟩, h5⟩, h6⟩, h7⟩ := hc
      exact meth_ok ok h1 h3 h4 h5 h6 ((ho (o :: as) h7).2 o as rfl) hrc hr s1 (hd := some h) rfl hxx kp (hid_K (W := W) hv)
theorem call_plain {N : List Str} {sc : Scope} {f : Fn} {hid : Option Nat} {es : List (B P)} {e : Expr} (hc : chkB N sc (.call f hid es) e = true) : testPlain e = true := by
  cases e with
  | Call fn as ks pos => rfl
  | _ => cases f <;> simp [chkB] at hc
theorem os_nil {X : Cx} {W : WX} : OsOk X W cl ([] : List (B P)) [] := by
  intro h rt t r he σ H F cs cx hd R Q s hh hx k
  simp only [evOs] at he
  cases he
  exact k.1 _ _ rfl [] H F [] cs (Le.refl F) (fun _ _ => rfl) s.s s.g (by simp only [RO]; exact ⟨trivial, trivial⟩)
def An (X : Cx) (W : WX) (cl : Cl) (rt : Tr) (bs : List (B P)) (op : BoolOp) (es : List Expr) (ev : List (B P) → Tr → Option (Rs D)) : Prop := ∀ pos t r, ev bs t = some r → ∀ (σ : L2.St) (H F : Hp) (cs cx : List Addr), BS X.K X.mg H F t rt σ cs cx →
  (∀ Q : VK, PostB X W H F σ cx r Q → mx X (.BoolOp op es pos) σ H Q) ∧ (BlR r → ∀ Q : Bool → Hp → Prop, PostB X W H F σ cx r (fun v H' => ∃ b, v = .bl b ∧ Q b H') → mxW X (.BoolOp op es pos) σ H Q)
mutual
theorem evB_ok : ∀ (b : B P) {X : Cx} {N : List Str} {sc : Scope} {k : Nat} {W : WX} (ok : BOk P X N sc k cl W) (e : Expr), chkB N sc b e = true → ∀ t rt, ValB X W cl t rt b e ∧ TstB X W cl t rt b e
  | .pu a, X, N, sc, k, W, ok, e, hc, t, rt => by
    simp only [chkB, Bool.and_eq_true] at hc
    obtain ⟨h1, h2⟩ := evA_ok (tr := t) (rt := rt) ok.x a e hc.1
    refine ⟨fun r hr σ H F cs cx Q s kp => ?_, fun r hr bl σ H F cs cx Q s kp => ?_⟩
    · simp only [evB] at hr
      obtain ⟨d, e1, e2⟩ := Option.bind_eq_some_iff.mp hr
      split at e2
      · rename_i hf
        cases e2
        refine h1 d e1 σ H F (cs ++ cx) Q s.stt fun v H' F' c' cd l kk g' hcc hcd fr rp => ?_
        have sk := s.s.keep l fun a ha => kk a (by simp [ha])
        rcases hf with hf | hf
        · exact kp.1 d t rfl v H' F' [] cs l (fun a ha => kk a (by simp [ha])) sk (s.g.of g' hcc) (rp.flat hf)
        · exact kp.1 d t rfl v H' F' cd cs l (fun a ha => kk a (by simp [ha])) sk (by rw [List.append_assoc]; exact fr (by rw [hf]; rfl)) rp
      · cases e2
    · simp only [evB] at hr
      obtain ⟨d, e1, e2⟩ := Option.bind_eq_some_iff.mp hr
      split at e2
      · rename_i hf
        cases e2
        obtain ⟨b, rfl⟩ := bl _ _ rfl
        refine h2 hc.2 b e1 σ H F (cs ++ cx) Q s.stt fun H' F' c' l kk g' hcc => ?_
        have sk := s.s.keep l fun a ha => kk a (by simp [ha])
        obtain ⟨b', eb, q⟩ := kp.1 _ t rfl (.bl b) H' F' [] cs l (fun a ha => kk a (by simp [ha])) sk (s.g.of g' hcc) (by simp only [Rp]; exact ⟨trivial, trivial⟩)
        cases eb
        exact q
      · cases e2
  | .nm i, X, N, sc, k, W, ok, e, hc, t, rt => by
    cases e with
    | Name x pos =>
      obtain ⟨h1, h2, h3, h4⟩ := visB_ok ok.x hc
      refine bothB (fun r hr σ H F cs cx Q s kp => ?_) rfl
      simp only [evB] at hr
      split at hr
      · rename_i d hi
        cases hr
        obtain ⟨v, c1, c2, ev, rp, s2, p⟩ := s.s.take hi
        refine mx_of (pe_var h1 h2 h3 h4) ⟨v, ev, ?_⟩
        have g1 : Good H F (c1 ++ (c2 ++ cx)) := s.g.perm (perm_of fun z => by have := p.count_eq z; simp only [List.count_append] at *; omega)
        have rf : Rp X.K X.mg H (join F H c1) (frz d) v [] := Rp.frz g1.le_join d v c1 rp fun a ha => join_in ha
        have s3 := SR.put (s2.keep (H' := H) g1.le_join fun _ _ => rfl) (List.getElem?_eq_some_iff.mp hi).1 ev rf
        exact kp.1 _ _ rfl v H (join F H c1) [] c2 g1.le_join (fun _ _ => rfl) s3 g1.join rf
      · cases hr
    | _ => simp [chkB] at hc
  | .mv i, X, N, sc, k, W, ok, e, hc, t, rt => by
    cases e with
    | Name x pos =>
      obtain ⟨h1, h2, h3, h4⟩ := visB_ok ok.x hc
      refine bothB (fun r hr σ H F cs cx Q s kp => ?_) rfl
      simp only [evB] at hr
      split at hr
      · rename_i d hi
        cases hr
        obtain ⟨v, c1, c2, ev, rp, s2, p⟩ := s.s.take hi
        refine mx_of (pe_var h1 h2 h3 h4) ⟨v, ev, ?_⟩
        exact kp.1 _ _ rfl v H F c1 c2 (Le.refl F) (fun _ _ => rfl) s2 (s.g.perm (perm_of fun z => by have := p.count_eq z; simp only [List.count_append] at *; omega)) rp
      · cases hr
    | _ => simp [chkB] at hc
  | .fz a, X, N, sc, k, W, ok, e, hc, t, rt => by
    simp only [chkB, Bool.and_eq_true] at hc
    refine bothB (fun r hr σ H F cs cx Q s kp => ?_) hc.2
    simp only [evB] at hr
    rcases bindR_some hr with ⟨d, t1, e1, e2⟩ | ⟨y, t1, e1, rfl⟩
    · cases e2
      refine (evB_ok a ok e hc.1 t rt).1 _ e1 σ H F cs cx Q s ⟨fun d' t' ee v H' F' cd cs' l kk s' g' rp => ?_, fun _ _ ee => nomatch ee⟩
      cases ee
      have g1 : Good H' F' (cd ++ (cs' ++ cx)) := by rw [← List.append_assoc]; exact g'
      have rf : Rp X.K X.mg H' (join F' H' cd) (frz d) v [] := Rp.frz g1.le_join d v cd rp fun a ha => join_in ha
      exact kp.1 _ _ rfl v H' (join F' H' cd) [] cs' (l.trans g1.le_join) kk (s'.keep (H' := H') g1.le_join fun _ _ => rfl) g1.join rf
    · exact (evB_ok a ok e hc.1 t rt).1 _ e1 σ H F cs cx Q s ⟨fun _ _ ee => (nomatch ee), fun x' t' ee => by cases ee; exact kp.2 y t1 rfl⟩
  | .rf i, X, N, sc, k, W, ok, e, hc, t, rt => ⟨fun r hr => by simp [evB] at hr, fun r hr => by simp [evB] at hr⟩
  | .dp i, X, N, sc, k, W, ok, e, hc, t, rt => ⟨fun r hr => by simp [evB] at hr, fun r hr => by simp [evB] at hr⟩
  | .q o es, X, N, sc, k, W, ok, e, hc, t, rt => by
    simp only [chkB] at hc
    split at hc
    · rename_i xs hsh
      exact q_ok ok.x hsh (evOs_ok es ok xs hc).1
    · cases hc
  | .tup es, X, N, sc, k, W, ok, e, hc, t, rt => by
    cases e with
    | Tuple xs n pos =>
      simp only [chkB, Bool.and_eq_true] at hc
      exact bothB (tup_ok hc.1 (evOs_ok es ok xs hc.2).1) rfl
    | _ => simp [chkB] at hc
  | .lst es, X, N, sc, k, W, ok, e, hc, t, rt => by
    cases e with
    | List xs pos =>
      simp only [chkB, Bool.and_eq_true] at hc
      exact bothB (lst_ok hc.1 (evOs_ok es ok xs hc.2).1) rfl
    | _ => simp [chkB] at hc
  | .and es, X, N, sc, k, W, ok, e, hc, t, rt => by
    cases e with
    | BoolOp op xs pos =>
      cases op with
      | And =>
        simp only [chkB] at hc
        have z := (evAn_ok es ok xs hc rt).1
        exact ⟨fun r hr σ H F cs cx Q s kp => (z pos t r (by simpa only [evB] using hr) σ H F cs cx s).1 Q kp, fun r hr bl σ H F cs cx Q s kp => ⟨_, pw_mx.pt, (z pos t r (by simpa only [evB] using hr) σ H F cs cx s).2 bl Q kp⟩⟩
      | Or => simp [chkB] at hc
    | _ => simp [chkB] at hc
  | .or es, X, N, sc, k, W, ok, e, hc, t, rt => by
    cases e with
    | BoolOp op xs pos =>
      cases op with
      | Or =>
        simp only [chkB] at hc
        have z := (evAn_ok es ok xs hc rt).2
        exact ⟨fun r hr σ H F cs cx Q s kp => (z pos t r (by simpa only [evB] using hr) σ H F cs cx s).1 Q kp, fun r hr bl σ H F cs cx Q s kp => ⟨_, pw_mx.pt, (z pos t r (by simpa only [evB] using hr) σ H F cs cx s).2 bl Q kp⟩⟩
      | And => simp [chkB] at hc
    | _ => simp [chkB] at hc
  | .not a, X, N, sc, k, W, ok, e, hc, t, rt => by
    cases e with
    | UnaryOp op x pos =>
      cases op with
      | Not =>
        simp only [chkB] at hc
        obtain ⟨h1, h2⟩ := evB_ok a ok x hc t rt
        refine ⟨fun r hr σ H F cs cx Q s kp => ?_, fun r hr bl σ H F cs cx Q s kp => ?_⟩
        · simp only [evB] at hr
          rcases bindR_some hr with ⟨d, t1, e1, e2⟩ | ⟨y, t1, e1, rfl⟩
          · split at e2
            · rename_i b
              cases e2
              refine mx_of (pe_not pe_mx) (h1 _ e1 σ H F cs cx _ s ⟨fun d' t' ee v H' F' cd cs' l kk s' g' rp => ?_, fun _ _ ee => nomatch ee⟩)
              cases ee
              refine ⟨b, rp.blE, ?_⟩
              exact kp.1 _ _ rfl _ H' F' [] cs' l kk s' (g'.part (g := cd) (perm_of fun z => by simp only [List.count_append, List.count_nil]; omega)) (by simp only [Rp]; exact ⟨trivial, trivial⟩)
            · cases e2
          · refine mx_of (pe_not pe_mx) (h1 _ e1 σ H F cs cx _ s ⟨fun _ _ ee => (nomatch ee), fun x' t' ee => by cases ee; exact kp.2 y t1 rfl⟩)
        · simp only [evB] at hr
          rcases bindR_some hr with ⟨d, t1, e1, e2⟩ | ⟨y, t1, e1, rfl⟩
          · split at e2
            · rename_i b
              cases e2
              refine ⟨_, pt_not pt_mx, h2 _ e1 (fun d' t' ee => by cases ee; exact ⟨_, rfl⟩) σ H F cs cx _ s ⟨fun d' t' ee v H' F' cd cs' l kk s' g' rp => ?_, fun _ _ ee => nomatch ee⟩⟩
              cases ee
              refine ⟨b, rp.blE, ?_⟩
              obtain ⟨b', eb, q⟩ := kp.1 _ _ rfl (.bl (!b)) H' F' [] cs' l kk s' (g'.part (g := cd) (perm_of fun z => by simp only [List.count_append, List.count_nil]; omega)) (by simp only [Rp]; exact ⟨trivial, trivial⟩)
              cases eb
              exact q
            · cases e2
          · exact ⟨_, pt_not pt_mx, h2 _ e1 (fun d' t' ee => nomatch ee) σ H F cs cx _ s ⟨fun _ _ ee => (nomatch ee), fun x' t' ee => by cases ee; exact kp.2 y t1 rfl⟩⟩
      | _ => simp [chkB] at hc
    | _ => simp [chkB] at hc
  | .call f hid es, X, N, sc, k, W, ok, e, hc, t, rt => bothB (call_ok ok hc fun xs h => evOs_ok es ok xs h) (call_plain hc)
  | .qm o es, X, N, sc, k, W, ok, e, hc, t, rt => by
    simp only [chkB] at hc
    split at hc
    · rename_i y xs hsh
      rw [Bool.and_eq_true] at hc
      exact bothB (qm_ok ok.x hsh ((evOs_ok es ok (y :: xs) hc.2).2 y xs rfl)) hc.1
    · cases hc
  | .mut o none es, X, N, sc, k, W, ok, e, hc, t, rt => by
    simp only [chkB] at hc
    split at hc
    · rename_i y xs hsh
      rw [Bool.and_eq_true] at hc
      exact bothB (mut0_ok ok.x hsh ((evOs_ok es ok (y :: xs) hc.2).2 y xs rfl)) hc.1
    · cases hc
  | .mut o (some i) es, X, N, sc, k, W, ok, e, hc, t, rt => by
    simp only [chkB] at hc
    split at hc
    · rename_i y xs hsh
      rw [Bool.and_eq_true] at hc
      exact bothB (mut1_ok ok.x hsh ((evOs_ok es ok (y :: xs) hc.2).2 y xs rfl)) hc.1
    · cases hc
  | .lc elt tg own it es ifs, X, N, sc, k, W, ok, e, hc, t, rt => by
    match e, hc with
    | .ListComp el [⟨tg', iter, ifs', 0⟩] scope pos, hc =>
      have hc : (blkC N sc scope own && chkTg N scope tg tg' && subB (tgS tg) (own.map (·.2)) &&
      (match it.sh sc tg' iter with
        | some xs => xs.all plainX && chkBs N sc es xs
        | none => false) && decide (ifs.length < 2) && chkBs N (blkSc sc scope) ifs ifs' && chkB N (blkSc sc scope) elt el) = true := by
        unfold chkB at hc
        exact hc
      simp only [Bool.and_eq_true] at hc
      obtain ⟨⟨⟨⟨⟨⟨h1, h2⟩, h3⟩, h4⟩, h0⟩, h5⟩, h6⟩ := hc
      have hifs : ifs = [] ∧ ifs' = [] ∨ ∃ a c, ifs = [a] ∧ ifs' = [c] ∧ ∀ (s : Shared) (H : Hp) (C : Addr) (cc : List (Str × Addr)) (fp : List Addr) (t rt : Tr), TstB (X.blk s H scope (compEnvC scope cc C X.env) fp) (fun _ _ _ _ => False) cl t rt a c := by
        match ifs, ifs', h5, h0 with
        | [], [], _, _ => exact .inl ⟨rfl, rfl⟩
        | [a], [c], h5, _ =>
          simp only [chkBs, Bool.and_eq_true] at h5
          exact .inr ⟨a, c, rfl, rfl, fun s0 H0 C cc fp t rt => (evB_ok a (ok.blk (own := own) s0 H0 C cc fp) c h5.1 t rt).2⟩
        | [], _ :: _, h5, _ => simp [chkBs] at h5
        | [_], [], h5, _ => simp [chkBs] at h5
        | [_], _ :: _ :: _, h5, _ => simp [chkBs] at h5
        | _ :: _ :: _, _, _, h0 => simp at h0; omega
      split at h4
      · rename_i xs hsh
        simp only [Bool.and_eq_true] at h4
        refine bothB (fun r hr σ H F cs cx Q s kp => ?_) rfl
        obtain ⟨wi, g, tt, te, p1, p2, p3, p4, p5⟩ := (lc_ok ok h1 h2 h3 hsh hifs (evOs_ok es ok xs h4.2).1 (fun s0 H0 C c fp t rt => (evB_ok elt (ok.blk (own := own) s0 H0 C c fp) el h6 t rt).1) hr s kp).x
        exact mx_of (pe_lc ok.x.calm (by rw [ok.x.names]; exact ok.x.nd) p1 (by rw [ok.x.names, ok.x.scope]; exact blkOk_by h1) p2 p3 p4 (fun x => fold_of (it.pl _ _ _ _ hsh))) p5
      · cases h4
theorem evOs_ok : ∀ (bs : List (B P)) {X : Cx} {N : List Str} {sc : Scope} {k : Nat} {W : WX} (ok : BOk P X N sc k cl W) (es : List Expr), chkBs N sc bs es = true → OsOk X W cl bs es ∧ ∀ x ys, es = x :: ys → OsHd X W cl bs x ys
  | [], X, N, sc, k, W, ok, es, hc => by
    cases es with
    | nil => exact ⟨os_nil, fun _ _ e => nomatch e⟩
    | cons _ _ => simp [chkBs] at hc
  | b :: r, X, N, sc, k, W, ok, es, hc => by
    cases es with
    | nil => simp [chkBs] at hc
    | cons e t =>
      simp only [chkBs, Bool.and_eq_true] at hc
      have ih := (evOs_ok r ok t hc.2).1
      have hd : OsHd X W cl (b :: r) e t := by
        match b, hc with
        | .rf i, hc =>
          cases e with
          | Name x pos => exact os_rf ok.x hc.1 ih
          | _ => simp [chkB] at hc
        | .dp a, hc => exact os_dp ok.x hc.1 ih
        | .pu a, hc => exact os_val (fun t rt => (evB_ok (.pu a) ok e hc.1 t rt).1) ih (fun _ _ _ => by simp only [evOs]) (fun _ _ => by simp only [hdD] <;> rfl)
        | .nm a, hc => exact os_val (fun t rt => (evB_ok (.nm a) ok e hc.1 t rt).1) ih (fun _ _ _ => by simp only [evOs]) (fun _ _ => by simp only [hdD] <;> rfl)
        | .fz a, hc => exact os_val (fun t rt => (evB_ok (.fz a) ok e hc.1 t rt).1) ih (fun _ _ _ => by simp only [evOs]) (fun _ _ => by simp only [hdD] <;> rfl)
        | .mv a, hc => exact os_val (fun t rt => (evB_ok (.mv a) ok e hc.1 t rt).1) ih (fun _ _ _ => by simp only [evOs]) (fun _ _ => by simp only [hdD] <;> rfl)
        | .qm a b, hc => exact os_val (fun t rt => (evB_ok (.qm a b) ok e hc.1 t rt).1) ih (fun _ _ _ => by simp only [evOs]) (fun _ _ => by simp only [hdD] <;> rfl)
        | .q a b, hc => exact os_val (fun t rt => (evB_ok (.q a b) ok e hc.1 t rt).1) ih (fun _ _ _ => by simp only [evOs]) (fun _ _ => by simp only [hdD] <;> rfl)
        | .tup a, hc => exact os_val (fun t rt => (evB_ok (.tup a) ok e hc.1 t rt).1) ih (fun _ _ _ => by simp only [evOs]) (fun _ _ => by simp only [hdD] <;> rfl)
        | .lst a, hc => exact os_val (fun t rt => (evB_ok (.lst a) ok e hc.1 t rt).1) ih (fun _ _ _ => by simp only [evOs]) (fun _ _ => by simp only [hdD] <;> rfl)
        | .and a, hc => exact os_val (fun t rt => (evB_ok (.and a) ok e hc.1 t rt).1) ih (fun _ _ _ => by simp only [evOs]) (fun _ _ => by simp only [hdD] <;> rfl)
        | .or a, hc => exact os_val (fun t rt => (evB_ok (.or a) ok e hc.1 t rt).1) ih (fun _ _ _ => by simp only [evOs]) (fun _ _ => by simp only [hdD] <;> rfl)
        | .not a, hc => exact os_val (fun t rt => (evB_ok (.not a) ok e hc.1 t rt).1) ih (fun _ _ _ => by simp only [evOs]) (fun _ _ => by simp only [hdD] <;> rfl)
        | .call a b c, hc => exact os_val (fun t rt => (evB_ok (.call a b c) ok e hc.1 t rt).1) ih (fun _ _ _ => by simp only [evOs]) (fun _ _ => by simp only [hdD] <;> rfl)
        | .mut a b c, hc => exact os_val (fun t rt => (evB_ok (.mut a b c) ok e hc.1 t rt).1) ih (fun _ _ _ => by simp only [evOs]) (fun _ _ => by simp only [hdD] <;> rfl)
        | .lc a b c d es f, hc => exact os_val (fun t rt => (evB_ok (.lc a b c d es f) ok e hc.1 t rt).1) ih (fun _ _ _ => by simp only [evOs]) (fun _ _ => by simp only [hdD] <;> rfl)
      exact ⟨hd.ok, fun x ys e => by cases e; exact hd⟩
theorem evAn_ok : ∀ (bs : List (B P)) {X : Cx} {N : List Str} {sc : Scope} {k : Nat} {W : WX} (ok : BOk P X N sc k cl W) (es : List Expr), chkBs N sc bs es = true → ∀ rt, An X W cl rt bs .And es (evAn cl rt) ∧ An X W cl rt bs .Or es (evOn cl rt)
  | [], X, N, sc, k, W, ok, es, hc, rt => ⟨fun pos t r hr => by simp [evAn] at hr, fun pos t r hr => by simp [evOn] at hr⟩
  | [a], X, N, sc, k, W, ok, es, hc, rt => by
    match es, hc with
    | [e], hc =>
      simp only [chkBs, Bool.and_eq_true] at hc
      refine ⟨fun pos t r hr σ H F cs cx s => ?_, fun pos t r hr σ H F cs cx s => ?_⟩
      · obtain ⟨h1, h2⟩ := evB_ok a ok e hc.1 t rt
        simp only [evAn] at hr
        exact ⟨fun Q kp => mx_of (pe_one pe_mx) (h1 r hr σ H F cs cx Q s kp), fun bl Q kp => ⟨_, pw_and1 pt_mx, h2 r hr bl σ H F cs cx Q s kp⟩⟩
      · obtain ⟨h1, h2⟩ := evB_ok a ok e hc.1 t rt
        simp only [evOn] at hr
        exact ⟨fun Q kp => mx_of (pe_one pe_mx) (h1 r hr σ H F cs cx Q s kp), fun bl Q kp => ⟨_, pw_or1 pt_mx, h2 r hr bl σ H F cs cx Q s kp⟩⟩
    | [], hc => simp [chkBs] at hc
    | _ :: _ :: _, hc => simp [chkBs] at hc
  | a :: a2 :: r, X, N, sc, k, W, ok, es, hc, rt => by
    match es, hc with
    | e :: e2 :: t, hc =>
      have hc' : chkBs N sc (a2 :: r) (e2 :: t) = true := by
        simp only [chkBs, Bool.and_eq_true] at hc ⊢
        exact hc.2
      have hca : chkB N sc a e = true := by
        simp only [chkBs, Bool.and_eq_true] at hc
        exact hc.1
      obtain ⟨i1, i2⟩ := evAn_ok (a2 :: r) ok (e2 :: t) hc' rt
      refine ⟨fun pos tr rs hr σ H F cs cx s => ?_, fun pos tr rs hr σ H F cs cx s => ?_⟩
      · obtain ⟨h1, h2⟩ := evB_ok a ok e hca tr rt
        simp only [evAn] at hr
        rcases bindR_some hr with ⟨d, t1, e1, e3⟩ | ⟨y, t1, e1, rfl⟩
        · split at e3
          · have nx : ∀ H' F' cs', Le F F' → (∀ a ∈ cx, H' a = H a) → SR X.K X.mg H' F' t1 σ cs' → Good H' F' (cs' ++ cx) → _ := fun H' F' cs' l kk s' g' => i1 pos t1 rs e3 σ H' F' cs' cx (by
              obtain ⟨cr, r1, r2⟩ := s.r
              exact ⟨s', ⟨cr, r1.keep l fun a ha => kk a (r2 a ha), r2⟩, g'⟩)
            refine ⟨fun Q kp => mx_of (pe_and pe_mx pe_mx) (h1 _ e1 σ H F cs cx _ s ⟨fun d' t' ee v H' F' cd cs' l kk s' g' rp => ?_, fun _ _ ee => nomatch ee⟩), fun bl Q kp => ⟨_, pw_and pt_mx pw_mx, h2 _ e1 (fun d' t' ee => by cases ee; exact ⟨_, rfl⟩) σ H F cs cx _ s ⟨fun d' t' ee v H' F' cd cs' l kk s' g' rp => ?_, fun _ _ ee => nomatch ee⟩⟩⟩
            · cases ee
              exact ⟨true, rp.blE, by rw [if_pos rfl]; exact (nx H' F' cs' l kk s' (g'.part (g := cd) (perm_of fun z => by simp only [List.count_append]; omega))).1 Q (kp.later l kk)⟩
            · cases ee
              exact ⟨true, rp.blE, by rw [if_pos rfl]; exact (nx H' F' cs' l kk s' (g'.part (g := cd) (perm_of fun z => by simp only [List.count_append]; omega))).2 bl Q (kp.later l kk)⟩
          · cases e3
            refine ⟨fun Q kp => mx_of (pe_and pe_mx pe_mx) (h1 _ e1 σ H F cs cx _ s ⟨fun d' t' ee v H' F' cd cs' l kk s' g' rp => ?_, fun _ _ ee => nomatch ee⟩), fun bl Q kp => ⟨_, pw_and pt_mx pw_mx, h2 _ e1 (fun d' t' ee => by cases ee; exact ⟨_, rfl⟩) σ H F cs cx _ s ⟨fun d' t' ee v H' F' cd cs' l kk s' g' rp => ?_, fun _ _ ee => nomatch ee⟩⟩⟩
            · cases ee
              exact ⟨false, rp.blE, by simp only [Bool.false_eq_true, if_false]; exact kp.1 _ _ rfl _ H' F' [] cs' l kk s' (g'.part (g := cd) (perm_of fun z => by simp only [List.count_append, List.count_nil]; omega)) (by simp only [Rp]; exact ⟨trivial, trivial⟩)⟩
            · cases ee
              obtain ⟨b', eb, q⟩ := kp.1 _ _ rfl (.bl false) H' F' [] cs' l kk s' (g'.part (g := cd) (perm_of fun z => by simp only [List.count_append, List.count_nil]; omega)) (by simp only [Rp]; exact ⟨trivial, trivial⟩)
              cases eb
              exact ⟨false, rp.blE, by simp only [Bool.false_eq_true, if_false]; exact q⟩
          · cases e3
        · exact ⟨fun Q kp => mx_of (pe_and pe_mx pe_mx) (h1 _ e1 σ H F cs cx _ s ⟨fun _ _ ee => (nomatch ee), fun x' t' ee => by cases ee; exact kp.2 y t1 rfl⟩),
            fun bl Q kp => ⟨_, pw_and pt_mx pw_mx, h2 _ e1 (fun d' t' ee => nomatch ee) σ H F cs cx _ s ⟨fun _ _ ee => (nomatch ee), fun x' t' ee => by cases ee; exact kp.2 y t1 rfl⟩⟩⟩
      · obtain ⟨h1, h2⟩ := evB_ok a ok e hca tr rt
        simp only [evOn] at hr
        rcases bindR_some hr with ⟨d, t1, e1, e3⟩ | ⟨y, t1, e1, rfl⟩
        · split at e3
          · have nx : ∀ H' F' cs', Le F F' → (∀ a ∈ cx, H' a = H a) → SR X.K X.mg H' F' t1 σ cs' → Good H' F' (cs' ++ cx) → _ := fun H' F' cs' l kk s' g' => i2 pos t1 rs e3 σ H' F' cs' cx (by
              obtain ⟨cr, r1, r2⟩ := s.r
              exact ⟨s', ⟨cr, r1.keep l fun a ha => kk a (r2 a ha), r2⟩, g'⟩)
            refine ⟨fun Q kp => mx_of (pe_or pe_mx pe_mx) (h1 _ e1 σ H F cs cx _ s ⟨fun d' t' ee v H' F' cd cs' l kk s' g' rp => ?_, fun _ _ ee => nomatch ee⟩), fun bl Q kp => ⟨_, pw_or pt_mx pw_mx, h2 _ e1 (fun d' t' ee => by cases ee; exact ⟨_, rfl⟩) σ H F cs cx _ s ⟨fun d' t' ee v H' F' cd cs' l kk s' g' rp => ?_, fun _ _ ee => nomatch ee⟩⟩⟩
            · cases ee
              exact ⟨false, rp.blE, by simp only [Bool.false_eq_true, if_false]; exact (nx H' F' cs' l kk s' (g'.part (g := cd) (perm_of fun z => by simp only [List.count_append]; omega))).1 Q (kp.later l kk)⟩
            · cases ee
              exact ⟨false, rp.blE, by simp only [Bool.false_eq_true, if_false]; exact (nx H' F' cs' l kk s' (g'.part (g := cd) (perm_of fun z => by simp only [List.count_append]; omega))).2 bl Q (kp.later l kk)⟩
          · cases e3
            refine ⟨fun Q kp => mx_of (pe_or pe_mx pe_mx) (h1 _ e1 σ H F cs cx _ s ⟨fun d' t' ee v H' F' cd cs' l kk s' g' rp => ?_, fun _ _ ee => nomatch ee⟩), fun bl Q kp => ⟨_, pw_or pt_mx pw_mx, h2 _ e1 (fun d' t' ee => by cases ee; exact ⟨_, rfl⟩) σ H F cs cx _ s ⟨fun d' t' ee v H' F' cd cs' l kk s' g' rp => ?_, fun _ _ ee => nomatch ee⟩⟩⟩
            · cases ee
              exact ⟨true, rp.blE, by rw [if_pos rfl]; exact kp.1 _ _ rfl _ H' F' [] cs' l kk s' (g'.part (g := cd) (perm_of fun z => by simp only [List.count_append, List.count_nil]; omega)) (by simp only [Rp]; exact ⟨trivial, trivial⟩)⟩
            · cases ee
              obtain ⟨b', eb, q⟩ := kp.1 _ _ rfl (.bl true) H' F' [] cs' l kk s' (g'.part (g := cd) (perm_of fun z => by simp only [List.count_append, List.count_nil]; omega)) (by simp only [Rp]; exact ⟨trivial, trivial⟩)
              cases eb
              exact ⟨true, rp.blE, by rw [if_pos rfl]; exact q⟩
          · cases e3
        · exact ⟨fun Q kp => mx_of (pe_or pe_mx pe_mx) (h1 _ e1 σ H F cs cx _ s ⟨fun _ _ ee => (nomatch ee), fun x' t' ee => by cases ee; exact kp.2 y t1 rfl⟩),
            fun bl Q kp => ⟨_, pw_or pt_mx pw_mx, h2 _ e1 (fun d' t' ee => nomatch ee) σ H F cs cx _ s ⟨fun _ _ ee => (nomatch ee), fun x' t' ee => by cases ee; exact kp.2 y t1 rfl⟩⟩⟩
    | [], hc => simp [chkBs] at hc
    | [_], hc => simp [chkBs] at hc
end
end
end Ev
end
section
set_option maxRecDepth 100000
set_option maxHeartbeats 4000000
namespace Ev
open PySem PySem.Spec L2
/-- where a statement ends -/
inductive RsS where
  | nx (t : Tr)
  | rt (d : D) (t : Tr)
  | ex (x : Xn) (t : Tr)
/-- a store into an object: the receiver's tree, the other operands' trees, the value's tree to the receiver's tree behind -/
structure Put (P : Pg) where
  f : D → List D → D → Option D
  sh : Scope → Expr → Option (List Expr)
  ok : ∀ (X : Cx) (N : List Str) (sc : Scope), XOk P X N sc → ∀ (e : Expr) (es : List Expr), sh sc e = some es → ∀ (d : D) (ds : List D) (y d' : D), f d ds y = some d' →
    ∃ R : List V → V → Hp → (Hp → Prop) → Prop, (∀ (v : Expr) (pos : Pos) (tv : TE) (ts : List TE), PE X v tv → AllPE X es ts → PS X (.Assign [e] v pos) (fun D σ H => tv σ H fun y H1 => tL ts σ H1 fun vs H2 => R vs y H2 fun H3 => D.nx σ H3)) ∧
      ∀ (x : V) (ws : List V) (yv : V) (H F : Hp) (c cd cw cy : List Addr) (Q : Hp → Prop), Rp X.K X.mg H F d x cd → Rps X.K X.mg H F ds ws cw → Rp X.K X.mg H F y yv cy → Good H F (cd ++ cw ++ cy ++ c) →
        (∀ H' cd', (∀ b ∈ c, H' b = H b) → Good H' F (cd' ++ c) → Rp X.K X.mg H' F d' x cd' → Q H') → R (x :: ws) yv H Q
  sound : ∀ (X : Cx) (N : List Str) (sc : Scope), XOk P X N sc → ∀ (e : Expr) (es : List Expr), sh sc e = some es →
    ∃ R : List V → V → Hp → (Hp → Prop) → Prop, ∀ (v : Expr) (pos : Pos) (tv : TE) (ts : List TE), PE X v tv → AllPE X es ts → PS X (.Assign [e] v pos) (fun D σ H => tv σ H fun y H1 => tL ts σ H1 fun vs H2 => R vs y H2 fun H3 => D.nx σ H3)
/-- op= -/
structure Aug (P : Pg) where
  op : Operator
  f : D → D → Option D
  ok : ∀ (X : Cx) (N : List Str) (sc : Scope), XOk P X N sc → ∀ (d y d' : D), f d y = some d' → ∃ R : TIp, PIp X op R ∧
    ∀ (x yv : V) (H F : Hp) (c cd cy : List Addr) (Q : VK), Rp X.K X.mg H F d x cd → Rp X.K X.mg H F y yv cy → Good H F (cd ++ cy ++ c) →
      (∀ z H' F' cd', Le F F' → (∀ b ∈ c, H' b = H b) → Good H' F' (cd' ++ c) → Rp X.K X.mg H' F' d' z cd' → Q z H') → R x yv H Q
/-- a target of several: a name, an item of a name's list -/
inductive Tx (P : Pg) where
  | n (i : Nat)
  | s (i : Nat) (ix : A P)
inductive S (P : Pg) where
  | ex (b : B P)
  | set (i : Nat) (b : B P)
  | asg (g : Tg) (b : B P)
  | par (i j : Nat) (a b : B P)
  | tx (l : List (Tx P)) (b : B P)
  | put (o : Put P) (hid : Option Nat) (v : B P) (es : List (B P))
  | aug (o : Aug P) (i : Nat) (b : B P)
  | augA (o : Aug P) (i : Nat) (f : Str) (b : B P)
  | ret (b : B P) | ret0 | pass
  | iff (c : B P) (a b : List (S P))
  | for (tg : Tg) (it : Itr P) (es : List (B P)) (body : List (S P))
  | whl (c : B P) (body : List (S P))
  | fg (js : List Nat)
  | shr (i : Nat)
  | unp (l : List Tg) (i : Nat)
  | no
section
variable {P : Pg}
def noRt (t : Tr) : Tr := t.map fun _ => none
def txs : List (Tx P) → List D → Tr → Option Tr
  | [], [], t => some t
  | .n i :: r, d :: ds, t => if i < t.length then txs r ds (t.set i (some d)) else none
  | .s i a :: r, d :: ds, t => match t[i]?, evA t (noRt t) a with
    | some (some (.lst true xs)), some (.int k) => match ixN xs.length k with
      | some j => txs r ds (t.set i (some (.lst true (xs.set j d))))
      | none => none
    | _, _ => none
  | _, _, _ => none
open Classical in
noncomputable def forGo (os : List Opd) (ds : List D) (tg : Tg) (one : Tr → Option RsS) : List D → Tr → Option RsS
  | [], t => if opdDs t os = some ds then some (.nx t) else none
  | x :: r, t => if opdDs t os = some ds then match (asg tg x t).bind one with
    | some (.nx t') => forGo os ds tg one r t'
    | z => z else none
def whGo (c : Tr → Option (Rs D)) (one : Tr → Option RsS) : Nat → Tr → Option RsS
  | 0, _ => none
  | n + 1, t => match c t with
    | some (.ok (.bl true) t1) => match one t1 with
      | some (.nx t2) => whGo c one n t2
      | z => z
    | some (.ok (.bl false) t1) => some (.nx t1)
    | some (.ex x t1) => some (.ex x t1)
    | _ => none
def bindS {α : Type} (m : Option (Rs α)) (k : α → Tr → Option RsS) : Option RsS := match m with
  | some (.ok a t) => k a t
  | some (.ex x t) => some (.ex x t)
  | none => none
def refsOf : List (B P) → List Nat
  | [] => []
  | .rf i :: r => i :: refsOf r
  | _ :: r => refsOf r
variable (cl : Cl) (n : Nat)
mutual
noncomputable def exS : S P → Tr → Option RsS
  | .ex b, t => bindS (evB cl (noRt t) b t) fun _ t1 => some (.nx t1)
  | .set i b, t => bindS (evB cl (noRt t) b t) fun d t1 => if i < t1.length then some (.nx (t1.set i (some d))) else none
  | .asg g b, t => bindS (evB cl (noRt t) b t) fun d t1 => (asg g d t1).map .nx
  | .par i j a b, t => bindS (evOs cl none (noRt t) [a, b] t) fun os t1 => match valsOf os with
    | some [d, e] => if i < t1.length ∧ j < t1.length then some (.nx ((t1.set i (some d)).set j (some e))) else none
    | _ => none
  | .tx l b, t => bindS (evB cl (noRt t) b t) fun d t1 => match d with
    | .tup ds => (txs l ds t1).map .nx
    | _ => none
  | .put o none v es, t => bindS (evB cl (noRt t) v t) fun y t1 => bindS (evOs cl none (noRt t) es t1) fun os t2 => match os with
    | .ref i :: r => match t2[i]?, valsOf r with
      | some (some d), some ds => (o.f d ds y).map fun d' => .nx (t2.set i (some d'))
      | _, _ => none
    | _ => none
  | .put o (some i) v es, t => bindS (evB cl (noRt t) v t) fun y t1 => match t1[i]? with
    | some (some d0) => bindS (evOs cl (some i) ((noRt t).set i (some d0)) es (t1.set i none)) fun os t2 => match os with
      | .dp j st :: r => match getP d0 st, valsOf r with
        | some d, some ds => if j ≠ i then none else (o.f d ds y).bind fun z => (putP d0 st z).map fun d' => .nx (t2.set i (some d'))
        | _, _ => none
      | _ => none
    | _ => none
  | .aug o i b, t => match t[i]? with
    | some (some _) => bindS (evB cl (noRt t) b t) fun y t1 => match t1[i]? with
      | some (some d) => (o.f d y).map fun d' => .nx (t1.set i (some d'))
      | _ => none
    | _ => none
  | .augA o i f b, t => match t[i]? with
    | some (some (.ins true C fs xs)) => match (fs.zip xs).lookup f, decide (P.att C f = true) with
      | some (.int k), true => bindS (evB cl (noRt t) b t) fun y t1 => match t1[i]? with
        | some (some (.ins true C' fs' xs')) => match (fs'.zip xs').lookup f, idxOf f fs', o.f (.int k) y with
          | some (.int k'), some q, some d' => if k' = k ∧ C' = C ∧ isF d' = true ∧ fs'.length < 1000 then some (.nx (t1.set i (some (.ins true C fs' (xs'.set q d'))))) else none
          | _, _, _ => none
        | _ => none
      | _, _ => none
    | _ => none
  | .ret b, t => bindS (evB cl (noRt t) b t) fun d t1 => some (.rt d t1)
  | .ret0, t => some (.rt .non t)
  | .pass, t => some (.nx t)
  | .iff c a b, t => bindS (evB cl (noRt t) c t) fun d t1 => match d with
    | .bl true => exSs a t1
    | .bl false => exSs b t1
    | _ => none
  | .for tg it es body, t => bindS (evOs cl none (noRt t) es t) fun os t1 => (opdDs t1 os).bind fun ds => (it.f ds).bind fun l => forGo os ds tg (exSs body) l t1
  | .whl c body, t => whGo (fun t => evB cl (noRt t) c t) (exSs body) n t
  | .fg js, t => some (.nx (wipeT t js))
  | .shr i, t => match t[i]? with
    | some (some d) => some (.nx (t.set i (some (frz d))))
    | _ => none
  | .unp l i, t => match t[i]? with
    | some (some (.lst true xs)) => if isFs xs = true then (asgs l xs t).map .nx else none
    | _ => none
  | .no, _ => none
noncomputable def exSs : List (S P) → Tr → Option RsS
  | [], t => some (.nx t)
  | s :: r, t => match exS s t with
    | some (.nx t') => exSs r t'
    | z => z
end
end
/-! ### in the text -/
def locB (N : List Str) (sc : Scope) (i : Nat) (x : Str) : Bool := decide (N[i]? = some x) && (sc.names.lookup x == some .local || sc.names.lookup x == some .cell)
def swapB (sc : Scope) (value : Expr) (t : Str) (pos : Pos) : Bool := match value with
  | .ListComp _ _ s _ => sc.names.lookup t == some .local && pos.line == value.pos.line && !(s.names.any fun (n, k) => n == t && (k == .local || k == .cell))
  | .SetComp .. => true
  | .DictComp .. => true
  | _ => false
def isTupE : Expr → Bool
  | .Tuple .. => true
  | _ => false
def headS {P : Pg} : List (Tx P) → Bool
  | .s _ _ :: _ => true
  | _ => false
def isLc {P : Pg} : B P → Bool
  | .lc .. => true
  | _ => false
section
variable {P : Pg}
def chkTx (N : List Str) (sc : Scope) : List (Tx P) → List Expr → Bool
  | [], [] => true
  | .n i :: r, .Name x _ :: es => locB N sc i x && chkTx N sc r es
  | .s i a :: r, .Subscript (.Name x _) y _ :: es => visB N sc i x && plainX y && chkA N sc a y && chkTx N sc r es
  | _, _ => false
def txS : List (Tx P) → List Nat
  | [] => []
  | .n i :: r => i :: txS r
  | .s _ _ :: r => txS r
def out (pr js : List Nat) : Bool := pr.all fun i => decide (i ∉ js)
mutual
def chkS (N : List Str) (sc : Scope) (pr : List Nat) : S P → Stmt → Bool
  | .no, _ => true
  | .ex b, .Expr e _ => noComp e && chkB N sc b e
  | .set i b, .Assign [.Name x p] e pos => out pr [i] && locB N sc i x && chkB N sc b e && (!(swapB sc e x p) || (isLc b && (sc.names.lookup x == some .local)))
  | .asg g b, .Assign [tg] e _ => out pr (tgS g) && plainX tg && chkTg N sc g tg && noComp e && !(isTupE e) && chkB N sc b e
  | .unp l i, .Assign [tg] e _ => out pr (tgS (.t l)) && plainX tg && chkTg N sc (.t l) tg && noComp e && !(isTupE e) && chkA (P := P) N sc (.v i) e
  | .par i j a b, .Assign [.Tuple [.Name x p, .Name y q] _ _] (.Tuple [u, w] _ _) _ => out pr [i, j] && decide (N[i]? = some x) && decide (N[j]? = some y) && decide (i ≠ j) && (sc.names.lookup x == some .local) && (sc.names.lookup y == some .local) && plainX u && plainX w && (p.line == q.line) &&
      !(foldedForSure 8 u && foldedForSure 8 w) && !(constantsAlone 8 u && constantsAlone 8 w) && chkBs N sc [a, b] [u, w]
  | .tx l b, .Assign [.Tuple es _ _] e _ => out pr (txS l) && es.all plainX && chkTx N sc l es && noComp e && (!(isTupE e) || headS l) && chkB N sc b e
  | .put o _ v es, .Assign [tg] e _ => match o.sh sc tg with
    | some xs => noComp e && chkB N sc v e && chkBs N sc es xs
    | none => false
  | .aug o i b, .AugAssign (.Name x _) op e _ => out pr [i] && locB N sc i x && decide (op = o.op) && chkB N sc b e
  | .augA o i f b, .AugAssign (.Attribute (.Name x _) g _) op e _ => visB N sc i x && decide (g = f) && decide (op = o.op) && chkB N sc b e
  | .ret b, .Return (some e) _ => chkB N sc b e
  | .ret0, .Return none _ => true
  | .pass, .Pass _ => true
  | .iff c a b, .If e x y _ => chkB N sc c e && chkSs N sc pr a x && chkSs N sc pr b y
  | .for tg it es body, .For tg' iter body' [] _ => (match it.sh sc tg' iter with
      | some xs => out (pr ++ refsOf es) (tgS tg) && chkTg N sc tg tg' && chkBs N sc es xs && chkSs N sc (pr ++ refsOf es) body body'
      | none => false)
  | .whl c body, .While e body' [] _ => chkB N sc c e && chkSs N sc pr body body'
  | _, _ => false
def chkSs (N : List Str) (sc : Scope) (pr : List Nat) : List (S P) → List Stmt → Bool
  | [], [] => true
  | .fg _ :: r, st => chkSs N sc pr r st
  | .shr _ :: r, st => chkSs N sc pr r st
  | a :: r, s :: t => chkS N sc pr a s && chkSs N sc pr r t
  | _, _ => false
end
end
end Ev
end
section
set_option maxRecDepth 100000
set_option maxHeartbeats 4000000
namespace Ev
open PySem PySem.Spec L2
theorem inv_ex {sc : Scope} {N : List Str} {P : Pg} {pr : List Nat} {b : B P} {st : Stmt} (h : chkS N sc pr (.ex b) st = true) : ∃ e pos, st = .Expr e pos := by
  unfold chkS at h
  split at h <;> first | exact ⟨_, _, rfl⟩ | (cases h; done) | (rename_i q _; cases q; done) | (rename_i q; cases q; done) | skip
theorem inv_set {sc : Scope} {N : List Str} {P : Pg} {pr : List Nat} {i : Nat} {b : B P} {st : Stmt} (h : chkS N sc pr (.set i b) st = true) : ∃ x p e pos, st = .Assign [.Name x p] e pos := by
  unfold chkS at h
  split at h <;> first | exact ⟨_, _, _, _, rfl⟩ | (cases h; done) | (rename_i q _; cases q; done) | (rename_i q; cases q; done) | skip
theorem inv_asg {sc : Scope} {N : List Str} {P : Pg} {pr : List Nat} {g : Tg} {b : B P} {st : Stmt} (h : chkS N sc pr (.asg g b) st = true) : ∃ tg e pos, st = .Assign [tg] e pos := by
  unfold chkS at h
  split at h <;> first | exact ⟨_, _, _, rfl⟩ | (cases h; done) | (rename_i q _; cases q; done) | (rename_i q; cases q; done) | skip
theorem inv_unp {sc : Scope} {N : List Str} {P : Pg} {pr : List Nat} {l : List Tg} {i : Nat} {st : Stmt} (h : chkS N sc pr (.unp l i : S P) st = true) : ∃ tg e pos, st = .Assign [tg] e pos := by
  unfold chkS at h
  split at h <;> first | exact ⟨_, _, _, rfl⟩ | (cases h; done) | (rename_i q _; cases q; done) | (rename_i q; cases q; done) | skip
theorem inv_par {sc : Scope} {N : List Str} {P : Pg} {pr : List Nat} {i j : Nat} {a b : B P} {st : Stmt} (h : chkS N sc pr (.par i j a b) st = true) : ∃ x p y q kt pt u w k2 pt2 pos, st = .Assign [.Tuple [.Name x p, .Name y q] kt pt] (.Tuple [u, w] k2 pt2) pos := by
  unfold chkS at h
  split at h <;> first | exact ⟨_, _, _, _, _, _, _, _, _, _, _, rfl⟩ | (cases h; done) | (rename_i q _; cases q; done) | (rename_i q; cases q; done) | skip
theorem inv_tx {sc : Scope} {N : List Str} {P : Pg} {pr : List Nat} {l : List (Tx P)} {b : B P} {st : Stmt} (h : chkS N sc pr (.tx l b) st = true) : ∃ es kt p e pos, st = .Assign [.Tuple es kt p] e pos := by
  unfold chkS at h
  split at h <;> first | exact ⟨_, _, _, _, _, rfl⟩ | (cases h; done) | (rename_i q _; cases q; done) | (rename_i q; cases q; done) | skip
theorem inv_put {sc : Scope} {N : List Str} {P : Pg} {pr : List Nat} {o : Put P} {h : Option Nat} {v : B P} {es : List (B P)} {st : Stmt} (h : chkS N sc pr (.put o h v es) st = true) : ∃ tg e pos, st = .Assign [tg] e pos := by
  unfold chkS at h
  split at h <;> first | exact ⟨_, _, _, rfl⟩ | (cases h; done) | (rename_i q _; cases q; done) | (rename_i q; cases q; done) | skip
theorem inv_aug {sc : Scope} {N : List Str} {P : Pg} {pr : List Nat} {o : Aug P} {i : Nat} {b : B P} {st : Stmt} (h : chkS N sc pr (.aug o i b) st = true) : ∃ x p op e pos, st = .AugAssign (.Name x p) op e pos := by
  unfold chkS at h
  split at h <;> first | exact ⟨_, _, _, _, _, rfl⟩ | (cases h; done) | (rename_i q _; cases q; done) | (rename_i q; cases q; done) | skip
theorem inv_augA {sc : Scope} {N : List Str} {P : Pg} {pr : List Nat} {o : Aug P} {i : Nat} {f : Str} {b : B P} {st : Stmt} (h : chkS N sc pr (.augA o i f b) st = true) : ∃ x p g q op e pos, st = .AugAssign (.Attribute (.Name x p) g q) op e pos := by
  unfold chkS at h
  split at h <;> first | exact ⟨_, _, _, _, _, _, _, rfl⟩ | (cases h; done) | (rename_i q _; cases q; done) | (rename_i q; cases q; done) | skip
theorem inv_ret {sc : Scope} {N : List Str} {P : Pg} {pr : List Nat} {b : B P} {st : Stmt} (h : chkS N sc pr (.ret b) st = true) : ∃ e pos, st = .Return (some e) pos := by
  unfold chkS at h
  split at h <;> first | exact ⟨_, _, rfl⟩ | (cases h; done) | (rename_i q _; cases q; done) | (rename_i q; cases q; done) | skip
theorem inv_ret0 {sc : Scope} {N : List Str} {P : Pg} {pr : List Nat}  {st : Stmt} (h : chkS N sc pr (.ret0 : S P) st = true) : ∃ pos, st = .Return none pos := by
  unfold chkS at h
  split at h <;> first | exact ⟨_, rfl⟩ | (cases h; done) | (rename_i q _; cases q; done) | (rename_i q; cases q; done) | skip
theorem inv_pass {sc : Scope} {N : List Str} {P : Pg} {pr : List Nat}  {st : Stmt} (h : chkS N sc pr (.pass : S P) st = true) : ∃ pos, st = .Pass pos := by
  unfold chkS at h
  split at h <;> first | exact ⟨_, rfl⟩ | (cases h; done) | (rename_i q _; cases q; done) | (rename_i q; cases q; done) | skip
theorem inv_iff {sc : Scope} {N : List Str} {P : Pg} {pr : List Nat} {c : B P} {a b : List (S P)} {st : Stmt} (h : chkS N sc pr (.iff c a b) st = true) : ∃ e x y pos, st = .If e x y pos := by
  unfold chkS at h
  split at h <;> first | exact ⟨_, _, _, _, rfl⟩ | (cases h; done) | (rename_i q _; cases q; done) | (rename_i q; cases q; done) | skip
theorem inv_for {sc : Scope} {N : List Str} {P : Pg} {pr : List Nat} {tg : Tg} {it : Itr P} {es : List (B P)} {body : List (S P)} {st : Stmt} (h : chkS N sc pr (.for tg it es body) st = true) : ∃ tg' iter body' pos, st = .For tg' iter body' [] pos := by
  unfold chkS at h
  split at h <;> first | exact ⟨_, _, _, _, rfl⟩ | (cases h; done) | (rename_i q _; cases q; done) | (rename_i q; cases q; done) | skip
theorem inv_whl {sc : Scope} {N : List Str} {P : Pg} {pr : List Nat} {c : B P} {body : List (S P)} {st : Stmt} (h : chkS N sc pr (.whl c body) st = true) : ∃ e body' pos, st = .While e body' [] pos := by
  unfold chkS at h
  split at h <;> first | exact ⟨_, _, _, rfl⟩ | (cases h; done) | (rename_i q _; cases q; done) | (rename_i q; cases q; done) | skip
section
variable {P : Pg} {X : Cx} {N : List Str} {sc : Scope} {k : Nat} {cl : Cl} {W : WX}
/-- the context of statements -/
structure SOk (P : Pg) (X : Cx) (N : List Str) (sc : Scope) (k : Nat) (cl : Cl) (W : WX) : Prop where
  b : BOk P X N sc k cl W
  hp : PassesOwn (model X.prog X.w) X.A X.env X.xe
  tg : TgOk X N sc
  kind : sc.kind = .function
/-- what follows a statement -/
structure PostS (X : Cx) (W : WX) (H F : Hp) (σ : L2.St) (cx : List Addr) (pr : List Nat) (r : RsS) (D : L2.Ends) : Prop where
  nx : ∀ t', r = .nx t' → ∀ σ' H' F' cs', Le F F' → (∀ a ∈ cx, H' a = H a) → SR X.K X.mg H' F' t' σ' cs' → Good H' F' (cs' ++ cx) → (∀ j ∈ pr, σ'[j]? = σ[j]?) → σ'.length = σ.length → D.nx σ' H'
  rt : ∀ d t', r = .rt d t' → ∀ v σ' H' F' cd cs', Le F F' → (∀ a ∈ cx, H' a = H a) → SR X.K X.mg H' F' t' σ' cs' → Good H' F' (cd ++ cs' ++ cx) → Rp X.K X.mg H' F' d v cd → (∀ j ∈ pr, σ'[j]? = σ[j]?) → σ'.length = σ.length → D.rt v H'
  ex : ∀ x t', r = .ex x t' → ∀ cls od σ' H' F' cs', Le F F' → (∀ a ∈ cx, H' a = H a) → SR X.K X.mg H' F' t' σ' cs' → Good H' F' (cs' ++ cx) → RpX X.K X.mg H' F' x cls od → (∀ j ∈ pr, σ'[j]? = σ[j]?) → σ'.length = σ.length → W cls od σ' H'
def SVal (X : Cx) (W : WX) (pr : List Nat) (r : RsS) (t : Tr) (M : TS) : Prop := ∀ (σ : L2.St) (H F : Hp) (cs cx : List Addr) (D : L2.Ends), SR X.K X.mg H F t σ cs → Good H F (cs ++ cx) → PostS X W H F σ cx pr r D → M D σ H
theorem noRt_SR {K : PySem.W.Frag} {mg : Str → Option Value} {H F : Hp} : ∀ {t : Tr} {σ : L2.St}, t.length = σ.length → SR K mg H F (noRt t) σ []
  | [], [], _ => by simp only [noRt, List.map_nil, SR]; exact ⟨trivial, trivial⟩
  | _ :: t, v :: σ, h => by
    show SR K mg H F (none :: noRt t) (v :: σ) []
    simp only [SR]
    exact ⟨v, σ, rfl, noRt_SR (by simpa using h)⟩
  | [], _ :: _, h => by simp at h
  | _ :: _, [], h => by simp at h
theorem bs_of {K : PySem.W.Frag} {mg : Str → Option Value} {H F : Hp} {t : Tr} {σ : L2.St} {cs cx : List Addr} (s : SR K mg H F t σ cs) (g : Good H F (cs ++ cx)) : BS K mg H F t (noRt t) σ cs cx :=
  ⟨s, ⟨[], noRt_SR s.len, fun a ha => by simp at ha⟩, g⟩
theorem bindS_some {α : Type} {m : Option (Rs α)} {f : α → Tr → Option RsS} {r : RsS} (h : bindS m f = some r) : (∃ a t, m = some (.ok a t) ∧ f a t = some r) ∨ (∃ x t, m = some (.ex x t) ∧ r = .ex x t) := by
  unfold bindS at h
  split at h
  · exact .inl ⟨_, _, rfl, h⟩
  · cases h; exact .inr ⟨_, _, rfl, rfl⟩
  · cases h
/-- a value is stored in a slot -/
theorem set_slot {K : PySem.W.Frag} {mg : Str → Option Value} {H F : Hp} {t : Tr} {σ : L2.St} {cs cd cx : List Addr} {i : Nat} {d : D} {v : V} (s : SR K mg H F t σ cs) (r : Rp K mg H F d v cd) (g : Good H F (cd ++ cs ++ cx)) (hi : i < t.length) :
    ∃ cs', SR K mg H F (t.set i (some d)) (σ.set i (some v)) cs' ∧ Good H F (cs' ++ cx) := by
  obtain ⟨c', s2, rr, p⟩ := s.drop (i := i)
  have s3 := SR.put (SR.store (w := some v) s2) hi (by rw [List.getElem?_set_self (by rw [← s.len]; exact hi)]) r
  refine ⟨_, s3, ?_⟩
  refine (g.perm (c' := rr ++ (cd ++ c' ++ cx)) (perm_of fun z => ?_)).sublist (List.sublist_append_right _ _)
  have := p.count_eq z
  simp only [List.count_append] at *
  omega
theorem out_ok {pr js : List Nat} (h : out pr js = true) : ∀ j ∈ pr, j ∉ js := fun j hj => by
  have := List.all_eq_true.mp h j hj
  simpa using this
theorem locB_ok (ok : SOk P X N sc k cl W) {i : Nat} {x : Str} (h : locB N sc i x = true) : X.N[i]? = some x ∧ Loc X.env.scope x ∧ (X.fn x = true ∨ X.env.scope.names.lookup x = some .local) := by
  unfold locB at h
  simp only [Bool.and_eq_true, Bool.or_eq_true, decide_eq_true_eq, beq_iff_eq] at h
  obtain ⟨h1, h2⟩ := ok.tg.loc x h.2
  exact ⟨by rw [ok.b.x.names]; exact h.1, h1, h2⟩
theorem nodupX (ok : SOk P X N sc k cl W) : X.N.Nodup := by rw [ok.b.x.names]; exact ok.b.x.nd
theorem swap_val {env : Env} (hk : env.scope.kind = .function) {e : Expr} {x : Str} {p : Pos} {l : Nat} (h : noComp e = true ∨ ∃ a b s q, e = .ListComp a b s q) : swapsWith e (some (.Name x p)) l env = pure (swapB env.scope e x p) := by
  rcases h with h | ⟨a, b, s, q, rfl⟩
  · rw [swaps_of h]
    cases e <;> first | rfl | (simp [noComp] at h)
  · have hb : env.blockKind = .function := by
      unfold Env.blockKind
      rw [hk]; rfl
    unfold swapsWith
    simp only [hb]
    rfl
theorem chk_ex {b : B P} {e : Expr} : isLc b = true → chkB N sc b e = true → ∃ a c s q, e = .ListComp a c s q := by
  intro h hc
  cases b with
  | lc elt tg own it es ifs =>
    cases e with
    | ListComp a c s q => exact ⟨_, _, _, _, rfl⟩
    | _ => simp [chkB] at hc
  | _ => simp [isLc] at h
/-- what an expression's end owes, for a statement that goes on with K -/
theorem ex_run (ok : SOk P X N sc k cl W) {b : B P} {e : Expr} (hc : chkB N sc b e = true) {t : Tr} {f : D → Tr → Option RsS} {r : RsS} (h : bindS (evB cl (noRt t) b t) f = some r) {σ : L2.St} {H F : Hp} {cs cx : List Addr} {pr : List Nat} {E : L2.Ends} {Q : VK} (s : SR X.K X.mg H F t σ cs) (g : Good H F (cs ++ cx)) (kp : PostS X W H F σ cx pr r E)
    (hk : ∀ d t1, evB cl (noRt t) b t = some (.ok d t1) → f d t1 = some r → ∀ v H' F' cd cs', Le F F' → (∀ a ∈ cx, H' a = H a) → SR X.K X.mg H' F' t1 σ cs' → Good H' F' (cd ++ cs' ++ cx) → Rp X.K X.mg H' F' d v cd → Q v H') : mx X e σ H Q := by
  rcases bindS_some h with ⟨d, t1, e1, e2⟩ | ⟨x, t1, e1, rfl⟩
  · exact (evB_ok b ok.b e hc t (noRt t)).1 _ e1 σ H F cs cx Q (bs_of s g) ⟨fun d' t' ee v H' F' cd cs' l kk s' g' rd => by cases ee; exact hk d t1 e1 e2 v H' F' cd cs' l kk s' g' rd, fun _ _ ee => nomatch ee⟩
  · exact (evB_ok b ok.b e hc t (noRt t)).1 _ e1 σ H F cs cx Q (bs_of s g) ⟨fun _ _ ee => (nomatch ee), fun x' t' ee cls od H' F' cs' l kk s' g' rx => by cases ee; exact kp.ex x t1 rfl cls od σ H' F' cs' l kk s' g' rx (fun _ _ => rfl) rfl⟩
theorem s_ex (ok : SOk P X N sc k cl W) {b : B P} {e : Expr} {pos : Pos} {n : Nat} {pr : List Nat} (h1 : noComp e = true) (h2 : chkB N sc b e = true) {t : Tr} {r : RsS} (he : exS cl n (.ex b) t = some r) : SVal X W pr r t (mxS X (.Expr e pos)) := by
  intro σ H F cs cx D s g kp
  simp only [exS] at he
  refine ⟨_, ps_expr pe_mx (swaps_of h1), ?_⟩
  refine ex_run ok h2 he s g kp fun d t1 _ e2 v H' F' cd cs' l kk s' g' rd => ?_
  cases e2
  exact kp.nx _ rfl σ H' F' cs' l kk s' (g'.part (g := cd) (perm_of fun z => by simp only [List.count_append]; omega)) (fun _ _ => rfl) rfl
theorem s_set (ok : SOk P X N sc k cl W) {i : Nat} {b : B P} {x : Str} {p pos : Pos} {e : Expr} {n : Nat} {pr : List Nat} (hc : chkS N sc pr (.set i b) (.Assign [.Name x p] e pos) = true) {t : Tr} {r : RsS} (he : exS cl n (.set i b) t = some r) : SVal X W pr r t (mxS X (.Assign [.Name x p] e pos)) := by
  intro σ H F cs cx D s g kp
  simp only [chkS, Bool.and_eq_true, Bool.or_eq_true, Bool.not_eq_true', beq_iff_eq] at hc
  obtain ⟨⟨⟨h1, h2⟩, h3⟩, h4⟩ := hc
  obtain ⟨l1, l2, l3⟩ := locB_ok ok h2
  simp only [exS] at he
  have fin : ∀ d t1, evB cl (noRt t) b t = some (.ok d t1) → (if i < t1.length then some (RsS.nx (t1.set i (some d))) else none) = some r → ∀ v H' F' cd cs', Le F F' → (∀ a ∈ cx, H' a = H a) → SR X.K X.mg H' F' t1 σ cs' → Good H' F' (cd ++ cs' ++ cx) → Rp X.K X.mg H' F' d v cd → D.nx (σ.set i (some v)) H' := by
    intro d t1 _ e2 v H' F' cd cs' l kk s' g' rd
    split at e2
    · rename_i hi
      cases e2
      obtain ⟨cs2, s2, g2⟩ := set_slot s' rd g' hi
      refine kp.nx _ rfl _ H' F' cs2 l kk s2 g2 (fun j hj => ?_) (by rw [List.length_set])
      have := out_ok h1 j hj
      simp only [List.mem_singleton] at this
      rw [List.getElem?_set_ne (Ne.symm this)]
    · cases e2
  have hkind : X.env.scope.kind = .function := by rw [ok.b.x.scope]; exact ok.kind
  by_cases hl : isLc b = true
  · obtain ⟨a, c, s0, q, rfl⟩ := chk_ex hl h3
    have hsw := swap_val hkind (e := .ListComp a c s0 q) (x := x) (p := p) (l := pos.line) (.inr ⟨_, _, _, _, rfl⟩)
    rw [ok.b.x.scope] at hsw
    cases hs : swapB sc (.ListComp a c s0 q) x p with
    | false =>
      rw [hs] at hsw
      refine ⟨_, ps_set (nodupX ok) l1 l2 pe_mx hsw l3, ?_⟩
      exact ex_run ok h3 he s g kp fin
    | true =>
      rw [hs] at hsw
      rcases h4 with h4 | ⟨_, h4⟩
      · rw [hs] at h4; cases h4
      match b, h3, hl, he, fin with
      | .lc elt tg own it es ifs, h3, hl, he, fin =>
        match c, h3, hsw with
        | [⟨tg', iter, ifs', 0⟩], h3, hsw =>
        have h3 : (blkC N sc s0 own && chkTg N s0 tg tg' && subB (tgS tg) (own.map (·.2)) &&
          (match it.sh sc tg' iter with
            | some xs => xs.all plainX && chkBs N sc es xs
            | none => false) && decide (ifs.length < 2) && chkBs N (blkSc sc s0) ifs ifs' && chkB N (blkSc sc s0) elt a) = true := by
          unfold chkB at h3
          exact h3
        simp only [Bool.and_eq_true] at h3
        obtain ⟨⟨⟨⟨⟨⟨g1, g2⟩, g3⟩, g4⟩, g0⟩, g5⟩, g6⟩ := h3
        have hifs : ifs = [] ∧ ifs' = [] ∨ ∃ a c, ifs = [a] ∧ ifs' = [c] ∧ ∀ (s : Shared) (H : Hp) (C : Addr) (cc : List (Str × Addr)) (fp : List Addr) (t rt : Tr), TstB (X.blk s H s0 (compEnvC s0 cc C X.env) fp) (fun _ _ _ _ => False) cl t rt a c := by
          match ifs, ifs', g5, g0 with
          | [], [], _, _ => exact .inl ⟨rfl, rfl⟩
          | [a1], [c1], g5, _ =>
            simp only [chkBs, Bool.and_eq_true] at g5
            exact .inr ⟨a1, c1, rfl, rfl, fun s0' H0 C cc fp t rt => (evB_ok a1 (ok.b.blk (own := own) s0' H0 C cc fp) c1 g5.1 t rt).2⟩
          | [], _ :: _, g5, _ => simp [chkBs] at g5
          | [_], [], g5, _ => simp [chkBs] at g5
          | [_], _ :: _ :: _, g5, _ => simp [chkBs] at g5
          | _ :: _ :: _, _, _, g0 => simp at g0; omega
        split at g4
        · rename_i xs hsh
          simp only [Bool.and_eq_true] at g4
          have pack : ∀ r', evB cl (noRt t) (.lc elt tg own it es ifs) t = some r' → PostB X W H F σ cx r' (fun v H' => D.nx (σ.set i (some v)) H') → mxS X (.Assign [.Name x p] (.ListComp a [⟨tg', iter, ifs', 0⟩] s0 q) pos) D σ H := by
            intro r' he' kp'
            obtain ⟨wi, gg, tt, te, p1, p2, p3, p4, p5⟩ := (lc_ok ok.b g1 g2 g3 hsh hifs (evOs_ok es ok.b xs g4.2).1 (fun s0' H0 C c fp t rt => (evB_ok elt (ok.b.blk (own := own) s0' H0 C c fp) a g6 t rt).1) he' (bs_of s g) kp').x
            exact ⟨_, ps_setLc ok.b.x.calm (nodupX ok) l1 (by rw [ok.b.x.scope]; exact h4) hsw p1 (by rw [ok.b.x.names, ok.b.x.scope]; exact blkOk_by g1) p2 p3 p4 (fun x => fold_of (it.pl _ _ _ _ hsh)), p5⟩
          rcases bindS_some he with ⟨d, t1, e1, e2⟩ | ⟨y, t1, e1, rfl⟩
          · exact pack _ e1 ⟨fun d' t' ee v H' F' cd cs' l kk s' g' rd => by cases ee; exact fin d t1 e1 e2 v H' F' cd cs' l kk s' g' rd, fun _ _ ee => nomatch ee⟩
          · exact pack _ e1 ⟨fun _ _ ee => (nomatch ee), fun x' t' ee cls od H' F' cs' l kk s' g' rx => by cases ee; exact kp.ex y t1 rfl cls od σ H' F' cs' l kk s' g' rx (fun _ _ => rfl) rfl⟩
        · cases g4
  · have h4 : swapB sc e x p = false := by
      rcases h4 with h4 | ⟨h4, _⟩
      · exact h4
      · exact absurd h4 hl
    have hne : noComp e = true ∨ ∃ a b s q, e = .ListComp a b s q := by
      cases e <;> first | exact .inl rfl | exact .inr ⟨_, _, _, _, rfl⟩ | (simp [swapB] at h4)
    have hsw := swap_val hkind (x := x) (p := p) (l := pos.line) hne
    rw [ok.b.x.scope, h4] at hsw
    refine ⟨_, ps_set (nodupX ok) l1 l2 pe_mx hsw l3, ?_⟩
    exact ex_run ok h3 he s g kp fin
end
end Ev
end
section
set_option maxRecDepth 100000
set_option maxHeartbeats 4000000
namespace Ev
open PySem PySem.Spec L2
section
variable {P : Pg} {X : Cx} {N : List Str} {sc : Scope} {k : Nat} {cl : Cl} {W : WX}
theorem swNo {tg e : Expr} {env : Env} (h : isTupE e = false) : swappedStores [tg] e env = pure none := by
  unfold swappedStores
  cases e <;> first | (simp [isTupE] at h; done) | skip
  all_goals (cases tg <;> rfl)
theorem assign1 {e : Expr} {env : Env} (h : plainX e = true) : (assignEach [e] env).map (·.2) = [assign e env] := by
  rw [assignEach_plain (by simp [h])]; rfl
theorem s_asg (ok : SOk P X N sc k cl W) {gg : Tg} {b : B P} {tg e : Expr} {pos : Pos} {n : Nat} {pr : List Nat} (hc : chkS N sc pr (.asg gg b) (.Assign [tg] e pos) = true) {t : Tr} {r : RsS} (he : exS cl n (.asg gg b) t = some r) : SVal X W pr r t (mxS X (.Assign [tg] e pos)) := by
  intro σ H F cs cx D s g kp
  simp only [chkS, Bool.and_eq_true, Bool.not_eq_true'] at hc
  obtain ⟨⟨⟨⟨⟨h1, h2⟩, h3⟩, h4⟩, h5⟩, h6⟩ := hc
  simp only [exS] at he
  refine ⟨_, ps_asg pe_mx pg_mx (swaps_of h4) (swNo h5) (assign1 h2), ?_⟩
  refine ex_run ok h6 he s g kp fun d t1 _ e2 v H' F' cd cs' l kk s' g' rd => ?_
  obtain ⟨t2, e3, e4⟩ := Option.map_eq_some_iff.mp e2
  subst e4
  refine asg_ok ok.tg gg tg h3 d t1 t2 e3 v σ H' F' cs' cx cd D.nx s' rd g' fun σ2 cs2 s2 g2 k2 l2 => ?_
  exact kp.nx _ rfl σ2 H' F' cs2 l kk s2 g2 (fun j hj => k2 j (out_ok h1 j hj)) l2
theorem s_unp (ok : SOk P X N sc k cl W) {l : List Tg} {i : Nat} {tg e : Expr} {pos : Pos} {n : Nat} {pr : List Nat} (hc : chkS N sc pr (.unp l i : S P) (.Assign [tg] e pos) = true) {t : Tr} {r : RsS} (he : exS cl n (.unp l i : S P) t = some r) : SVal X W pr r t (mxS X (.Assign [tg] e pos)) := by
  intro σ H F cs cx D s g kp
  simp only [chkS, Bool.and_eq_true, Bool.not_eq_true'] at hc
  obtain ⟨⟨⟨⟨⟨h1, h2⟩, h3⟩, h4⟩, h5⟩, h6⟩ := hc
  simp only [exS] at he
  split at he
  case h_2 => cases he
  case h_1 xs hx =>
  split at he
  case isFalse => cases he
  case isTrue hf =>
  obtain ⟨t2, e3, e4⟩ := Option.map_eq_some_iff.mp he
  subst e4
  cases e with
  | Name x p =>
    obtain ⟨z1, z2, z3, z4⟩ := visB_ok ok.b.x h6
    obtain ⟨v, a1, a2, q1, q2, q3, q4⟩ := s.take hx
    simp only [Rp] at q2
    obtain ⟨a, vs, c', rfl, hH, rs, rfl⟩ := q2
    cases tg with
    | Tuple es kk tpos =>
      simp only [chkTg, Bool.and_eq_true] at h3
      refine ⟨_, ps_asg (pe_var z1 z2 z3 z4) (pg_unl ok.b.x.calm pgs_mx (assignEach_len h3.1) (assignEach_star h3.1)) rfl (swNo h5) (assign1 h2), ?_⟩
      refine ⟨.ref a, q1, a, vs, rfl, .inl (.inl hH), ?_, ?_⟩
      · rw [← rs.length, ← asgs_len e3, chkTgs_len h3.2]
      refine asgs_ok ok.tg l es h3.1 h3.2 xs t t2 e3 vs σ H F cs cx [] _ s (rs.flat hf) (by simpa using g) fun σ2 cs2 s2 g2 k2 l2 => ?_
      exact kp.nx _ rfl σ2 H F cs2 (Le.refl F) (fun _ _ => rfl) s2 g2 (fun j hj => k2 j (out_ok h1 j hj)) l2
    | _ => simp [chkTg] at h3
  | _ => simp [chkA] at h6
theorem s_ret (ok : SOk P X N sc k cl W) {b : B P} {e : Expr} {pos : Pos} {n : Nat} {pr : List Nat} (h2 : chkB N sc b e = true) {t : Tr} {r : RsS} (he : exS cl n (.ret b) t = some r) : SVal X W pr r t (mxS X (.Return (some e) pos)) := by
  intro σ H F cs cx D s g kp
  simp only [exS] at he
  refine ⟨_, ps_ret pe_mx, ?_⟩
  refine ex_run ok h2 he s g kp fun d t1 _ e2 v H' F' cd cs' l kk s' g' rd => ?_
  cases e2
  exact kp.rt _ _ rfl v σ H' F' cd cs' l kk s' g' rd (fun _ _ => rfl) rfl
theorem s_ret0 {pos : Pos} {n : Nat} {pr : List Nat} {t : Tr} {r : RsS} (he : exS cl n (.ret0 : S P) t = some r) : SVal X W pr r t (mxS X (.Return none pos)) := by
  intro σ H F cs cx D s g kp
  simp only [exS] at he
  cases he
  exact ⟨_, ps_retN, kp.rt _ _ rfl .non σ H F [] cs (Le.refl F) (fun _ _ => rfl) s g (by simp only [Rp]; exact ⟨trivial, trivial⟩) (fun _ _ => rfl) rfl⟩
theorem s_pass {pos : Pos} {n : Nat} {pr : List Nat} {t : Tr} {r : RsS} (he : exS cl n (.pass : S P) t = some r) : SVal X W pr r t (mxS X (.Pass pos)) := by
  intro σ H F cs cx D s g kp
  simp only [exS] at he
  cases he
  exact ⟨_, ps_pass, kp.nx _ rfl σ H F cs (Le.refl F) (fun _ _ => rfl) s g (fun _ _ => rfl) rfl⟩
/-- the operands of a statement -/
theorem os_run {h : Option Nat} {hd : Option HD} (ok : SOk P X N sc k cl W) {es : List (B P)} {xs : List Expr} (hc : chkBs N sc es xs = true) {t rt : Tr} {f : List Opd → Tr → Option RsS} {r : RsS} (he : bindS (evOs cl h rt es t) f = some r) {σ : L2.St} {H F : Hp} {cs cx cy : List Addr} {pr : List Nat} {E : L2.Ends} {R : List V → Hp → VK → Prop} {Q : VK}
    (s : BS X.K X.mg H F t rt σ cs (cy ++ cx)) (hh : h = hd.map HD.i) (hx : ∀ x, hd = some x → HDok X.K X.mg H F rt σ (cy ++ cx) x) (kp : PostS X W H F σ cx pr r E)
    (hk : ∀ os t1, evOs cl h rt es t = some (.ok os t1) → f os t1 = some r → ∀ ws H' F' cv cs', Le F F' → (∀ a ∈ cy ++ cx, H' a = H a) → SR X.K X.mg H' F' t1 σ cs' → Good H' F' (cv ++ cs' ++ (cy ++ cx)) → RO X.K X.mg H' F' σ hd os ws cv → R ws H' Q) : tOps (xs.map (mx X)) R σ H Q := by
  rcases bindS_some he with ⟨os, t1, e1, e2⟩ | ⟨x, t1, e1, rfl⟩
  · exact os_at (evOs_ok es ok.b xs hc).1 e1 s hh hx (hk os t1 e1 e2)
  · exact os_ex (evOs_ok es ok.b xs hc).1 e1 s hh hx fun cls od H' F' cs' l kk s' g' rx => kp.ex x t1 rfl cls od σ H' F' cs' l (fun a ha => kk a (by simp [ha])) s' (g'.part (g := cy) (perm_of fun z => by simp only [List.count_append]; omega)) rx (fun _ _ => rfl) rfl
theorem s_par (ok : SOk P X N sc k cl W) {i j : Nat} {a b : B P} {st : Stmt} {n : Nat} {pr : List Nat} (hc : chkS N sc pr (.par i j a b) st = true) {t : Tr} {r : RsS} (he : exS cl n (.par i j a b) t = some r) : SVal X W pr r t (mxS X st) := by
  intro σ H F cs cx D s g kp
  obtain ⟨x, p, y, q, kt, pt, u, w, k2, pt2, pos, rfl⟩ := inv_par hc
  simp only [chkS, Bool.and_eq_true, Bool.not_eq_true', decide_eq_true_eq, beq_iff_eq] at hc
  obtain ⟨⟨⟨⟨⟨⟨⟨⟨⟨⟨⟨h1, h2⟩, h3⟩, h4⟩, h5⟩, h6⟩, h7⟩, h8⟩, h9⟩, h10⟩, h11⟩, h12⟩ := hc
  have hne : x ≠ y := fun e => h4 (nodup_ix ok.b.x.nd h2 (by rw [e]; exact h3))
  have hx : X.env.kindOf x = some .local := by show X.env.scope.names.lookup x = _; rw [ok.b.x.scope]; exact h5
  have hy : X.env.kindOf y = some .local := by show X.env.scope.names.lookup y = _; rw [ok.b.x.scope]; exact h6
  have hb : X.env.blockKind = .function := by
    unfold Env.blockKind
    rw [ok.b.x.scope, ok.kind]; rfl
  have h11' : (constantsAlone 8 u && constantsAlone 8 w) = false := h11
  have h10' : (foldedForSure 8 u && foldedForSure 8 w) = false := h10
  have hsw : swappedStores [.Tuple [.Name x p, .Name y q] kt pt] (.Tuple [u, w] k2 pt2) X.env = pure (some [x, y]) := by
    unfold swappedStores
    simp only [hb]
    have e1 : ([u, w].any fun | .Starred .. => true | _ => false) = false := by
      show (_ || (_ || false)) = false
      rw [Bool.or_eq_false_iff, Bool.or_eq_false_iff]
      exact ⟨by cases u <;> first | rfl | (simp [plainX] at h7), by cases w <;> first | rfl | (simp [plainX] at h8), rfl⟩
    have hd : ([x, y].eraseDups.length != [x, y].length) = false := by
      have : (y == x) = false := beq_eq_false_iff_ne.mpr (Ne.symm hne)
      simp [List.eraseDups_cons, this]
    simp only [List.filterMap_cons, List.filterMap_nil, List.head?_cons, Option.map_some, Option.getD_some, hx, hy, e1]
    have h9' : (q.line == p.line) = true := by rw [beq_iff_eq]; exact h9.symm
    simp only [Expr.pos, beq_self_eq_true, Bool.and_self, h9', Bool.true_and, if_true, hd]
    simp only [List.all_cons, List.all_nil, Bool.and_true, h10', h11']
    exact (if_neg (by simp)).trans ((if_neg (fun hh => Bool.false_ne_true (e1.symm.trans hh))).trans ((if_neg (by simp)).trans ((if_neg (by decide)).trans (if_neg (by decide)))))
  refine ⟨_, ps_par ok.b.x.calm (nodupX ok) (by rw [ok.b.x.names]; exact h2) (by rw [ok.b.x.names]; exact h3) h4 hx hy (pa_all (allPE_mx [u, w]) (by simp [h7, h8])) hsw, ?_⟩
  simp only [exS] at he
  show tL ([u, w].map (mx X)) σ H _
  have main : tOps ([u, w].map (mx X)) (fun vs H1 _ => ∃ v w, vs = [v, w] ∧ D.nx ((σ.set i (some v)).set j (some w)) H1) σ H (fun _ _ => True) := by
    refine os_run ok (cy := []) h12 he (bs_of s g) (hd := none) rfl no_hd kp fun os t1 e1 e2 ws H' F' cv cs' l kk s' g' ro => ?_
    have e2 : (match valsOf os with
      | some [d, e] => if i < t1.length ∧ j < t1.length then some (RsS.nx ((t1.set i (some d)).set j (some e))) else none
      | _ => none) = some r := e2
    split at e2
    · rename_i d e ev
      split at e2
      · rename_i hl
        cases e2
        have rs := ro.vals ev
        simp only [Rps] at rs
        obtain ⟨v, w', c1, c2, rfl, rfl, r1, v2, w2, c3, c4, rfl, rfl, r2, rfl, rfl⟩ := rs
        refine ⟨v, v2, rfl, ?_⟩
        obtain ⟨cs2, s2, g2⟩ := set_slot (cx := c3 ++ cx) s' r1 (g'.perm (perm_of fun z => by simp only [List.count_append, List.count_nil]; omega)) hl.1
        obtain ⟨cs3, s3, g3⟩ := set_slot (cx := cx) s2 r2 (g2.perm (perm_of fun z => by simp only [List.count_append]; omega)) (by rw [List.length_set]; exact hl.2)
        refine kp.nx _ rfl _ H' F' cs3 l kk s3 g3 (fun m hm => ?_) (by rw [List.length_set, List.length_set])
        have := out_ok h1 m hm
        simp only [List.mem_cons, List.not_mem_nil, or_false, not_or] at this
        rw [List.getElem?_set_ne (Ne.symm this.2), List.getElem?_set_ne (Ne.symm this.1)]
      · cases e2
    · cases e2
  rw [tL_ops] at main; exact main
end
end Ev
end
section
set_option maxRecDepth 100000
set_option maxHeartbeats 4000000
namespace Ev
open PySem PySem.Spec L2
section
variable {P : Pg} {X : Cx} {N : List Str} {sc : Scope} {k : Nat} {cl : Cl} {W : WX}
theorem SR.at' {K : PySem.W.Frag} {mg : Str → Option Value} {H F : Hp} {t : Tr} {σ : L2.St} {c : List Addr} (s : SR K mg H F t σ c) {i : Nat} {d : D} (h : t[i]? = some (some d)) : ∃ v, σ[i]? = some (some v) := by
  obtain ⟨v, _, _, e, _⟩ := s.take h
  exact ⟨v, e⟩
theorem s_put0 (ok : SOk P X N sc k cl W) {o : Put P} {v : B P} {es : List (B P)} {tg e : Expr} {xs : List Expr} {pos : Pos} {n : Nat} {pr : List Nat} (hsh : o.sh sc tg = some xs) (h2 : chkB N sc v e = true) (h3 : chkBs N sc es xs = true) {t : Tr} {r : RsS} (he : exS cl n (.put o none v es) t = some r) : SVal X W pr r t (mxS X (.Assign [tg] e pos)) := by
  intro σ H F cs cx D s g kp
  simp only [exS] at he
  have bad : ∀ (x : Xn) (t1 : Tr), evB cl (noRt t) v t = some (.ex x t1) → mxS X (.Assign [tg] e pos) D σ H := fun x t1 e1 => by
    rw [e1] at he
    cases he
    obtain ⟨R, hr⟩ := o.sound X N sc ok.b.x tg xs hsh
    refine ⟨_, hr e pos (mx X e) (xs.map (mx X)) pe_mx (allPE_mx xs), ?_⟩
    exact (evB_ok v ok.b e h2 t (noRt t)).1 _ e1 σ H F cs cx _ (bs_of s g) ⟨fun _ _ ee => (nomatch ee), fun x' t' ee cls od H' F' cs' l kk s' g' rx => by cases ee; exact kp.ex x t1 rfl cls od σ H' F' cs' l kk s' g' rx (fun _ _ => rfl) rfl⟩
  rcases bindS_some he with ⟨y, t1, e1, e2⟩ | ⟨x, t1, e1, _⟩
  case inr => exact bad x t1 e1
  rcases bindS_some e2 with ⟨os, t2, e3, e4⟩ | ⟨x, t2, e3, rfl⟩
  case inr =>
    obtain ⟨R, hr⟩ := o.sound X N sc ok.b.x tg xs hsh
    refine ⟨_, hr e pos (mx X e) (xs.map (mx X)) pe_mx (allPE_mx xs), ?_⟩
    refine (evB_ok v ok.b e h2 t (noRt t)).1 _ e1 σ H F cs cx _ (bs_of s g) ⟨fun d' t' ee yv H1 F1 cy cs1 l1 k1 s1 g1 ry => ?_, fun _ _ ee => nomatch ee⟩
    cases ee
    have b1 : BS X.K X.mg H1 F1 t1 (noRt t) σ cs1 (cy ++ cx) := ⟨s1, ⟨[], noRt_SR s.len, fun a ha => by simp at ha⟩, g1.perm (perm_of fun z => by simp only [List.count_append]; omega)⟩
    have main : tOps (xs.map (mx X)) (fun vs H2 _ => R vs yv H2 fun H3 => D.nx σ H3) σ H1 (fun _ _ => True) := os_ex (evOs_ok es ok.b xs h3).1 e3 b1 rfl no_hd fun cls od H' F' cs' l kk s' g' rx => kp.ex x t2 rfl cls od σ H' F' cs' (l1.trans l) (fun a ha => (kk a (by simp [ha])).trans (k1 a ha)) s' (g'.part (g := cy) (perm_of fun z => by simp only [List.count_append]; omega)) rx (fun _ _ => rfl) rfl
    rw [tL_ops] at main; exact main
  split at e4
  case h_2 => cases e4
  case h_1 i rr =>
  split at e4
  case h_2 => cases e4
  case h_1 d ds q1 q2 =>
  obtain ⟨d', q3, e5⟩ := Option.map_eq_some_iff.mp e4
  subst e5
  obtain ⟨R, hr, h⟩ := o.ok X N sc ok.b.x tg xs hsh d ds y d' q3
  refine ⟨_, hr e pos (mx X e) (xs.map (mx X)) pe_mx (allPE_mx xs), ?_⟩
  refine (evB_ok v ok.b e h2 t (noRt t)).1 _ e1 σ H F cs cx _ (bs_of s g) ⟨fun d' t' ee yv H1 F1 cy cs1 l1 k1 s1 g1 ry => ?_, fun _ _ ee => nomatch ee⟩
  cases ee
  have b1 : BS X.K X.mg H1 F1 t1 (noRt t) σ cs1 (cy ++ cx) := ⟨s1, ⟨[], noRt_SR s.len, fun a ha => by simp at ha⟩, g1.perm (perm_of fun z => by simp only [List.count_append]; omega)⟩
  have main : tOps (xs.map (mx X)) (fun vs H2 _ => R vs yv H2 fun H3 => D.nx σ H3) σ H1 (fun _ _ => True) := by
    refine os_at (evOs_ok es ok.b xs h3).1 e3 b1 rfl no_hd fun ws H2 F2 cv cs2 l2 k2 s2 g2 ro => ?_
    simp only [RO] at ro
    obtain ⟨x, w, rfl, ev, ro⟩ := ro
    obtain ⟨x', c1, c2, ev', rp, s3, p⟩ := s2.take q1
    rw [ev] at ev'; cases ev'
    refine h x w yv H2 F2 (c2 ++ cx) c1 cv cy _ rp (ro.vals q2) (Rp.keep l2 _ _ _ ry fun a ha => k2 a (by simp [ha])) (g2.perm (perm_of fun z => ?_)) fun H3 cd' k3 g3 rd => ?_
    · have := p.count_eq z
      simp only [List.count_append] at *
      omega
    · have hi : i < t2.length := (List.getElem?_eq_some_iff.mp q1).1
      have s4 := SR.put (s3.keep (Le.refl F2) fun b hb => k3 b (by simp [hb])) hi ev rd
      exact kp.nx _ rfl σ H3 F2 _ (l1.trans l2) (fun b hb => (k3 b (by simp [hb])).trans ((k2 b (by simp [hb])).trans (k1 b hb))) s4 (by simpa only [List.append_assoc] using g3) (fun _ _ => rfl) rfl
  rw [tL_ops] at main; exact main
theorem s_put1 (ok : SOk P X N sc k cl W) {o : Put P} {i : Nat} {v : B P} {es : List (B P)} {tg e : Expr} {xs : List Expr} {pos : Pos} {n : Nat} {pr : List Nat} (hsh : o.sh sc tg = some xs) (h2 : chkB N sc v e = true) (h3 : chkBs N sc es xs = true) {t : Tr} {r : RsS} (he : exS cl n (.put o (some i) v es) t = some r) : SVal X W pr r t (mxS X (.Assign [tg] e pos)) := by
  intro σ H F cs cx D s g kp
  simp only [exS] at he
  rcases bindS_some he with ⟨y, t1, e1, e2⟩ | ⟨x, t1, e1, rfl⟩
  case inr =>
    obtain ⟨R, hr⟩ := o.sound X N sc ok.b.x tg xs hsh
    refine ⟨_, hr e pos (mx X e) (xs.map (mx X)) pe_mx (allPE_mx xs), ?_⟩
    exact (evB_ok v ok.b e h2 t (noRt t)).1 _ e1 σ H F cs cx _ (bs_of s g) ⟨fun _ _ ee => (nomatch ee), fun x' t' ee cls od H' F' cs' l kk s' g' rx => by cases ee; exact kp.ex x t1 rfl cls od σ H' F' cs' l kk s' g' rx (fun _ _ => rfl) rfl⟩
  split at e2
  case h_2 => cases e2
  case h_1 d0 hi =>
  have pack : ∀ (R : List V → V → Hp → (Hp → Prop) → Prop), (∀ yv H1 F1 cy cs1, Le F F1 → (∀ a ∈ cx, H1 a = H a) → SR X.K X.mg H1 F1 t1 σ cs1 → Good H1 F1 (cy ++ cs1 ++ cx) → Rp X.K X.mg H1 F1 y yv cy → tOps (xs.map (mx X)) (fun vs H2 _ => R vs yv H2 fun H3 => D.nx σ H3) σ H1 (fun _ _ => True)) →
      mx X e σ H fun yv H1 => tL (xs.map (mx X)) σ H1 fun vs H2 => R vs yv H2 fun H3 => D.nx σ H3 := by
    intro R hR
    refine (evB_ok v ok.b e h2 t (noRt t)).1 _ e1 σ H F cs cx _ (bs_of s g) ⟨fun d' t' ee yv H1 F1 cy cs1 l1 k1 s1 g1 ry => ?_, fun _ _ ee => nomatch ee⟩
    cases ee
    have z := hR yv H1 F1 cy cs1 l1 k1 s1 g1 ry
    rw [tL_ops] at z; exact z
  have hide : ∀ H1 F1 cy cs1, SR X.K X.mg H1 F1 t1 σ cs1 → Good H1 F1 (cy ++ cs1 ++ cx) → ∃ (h : HD) (ch : List Addr), h.i = i ∧ h.d = d0 ∧ BS X.K X.mg H1 F1 (t1.set i none) ((noRt t).set i (some d0)) σ ch ((h.c ++ cy) ++ cx) ∧ HDok X.K X.mg H1 F1 ((noRt t).set i (some d0)) σ ((h.c ++ cy) ++ cx) h ∧ σ[h.i]? = some (some h.v) := by
    intro H1 F1 cy cs1 s1 g1
    have b1 : BS X.K X.mg H1 F1 t1 (noRt t) σ cs1 (cy ++ cx) := ⟨s1, ⟨[], noRt_SR s.len, fun a ha => by simp at ha⟩, g1.perm (perm_of fun z => by simp only [List.count_append]; omega)⟩
    obtain ⟨h, ch, rfl, rfl, s2, hx, hv, hlen⟩ := b1.hide hi
    have hir : h.i < (noRt t).length := by rw [← hlen]; exact (List.getElem?_eq_some_iff.mp hi).1
    have hx := hx hir
    rw [← List.append_assoc] at s2 hx
    exact ⟨h, ch, rfl, rfl, s2, hx, hv⟩
  rcases bindS_some e2 with ⟨os, t2, e3, e4⟩ | ⟨x, t2, e3, rfl⟩
  case inr =>
    obtain ⟨R, hr⟩ := o.sound X N sc ok.b.x tg xs hsh
    refine ⟨_, hr e pos (mx X e) (xs.map (mx X)) pe_mx (allPE_mx xs), pack R fun yv H1 F1 cy cs1 l1 k1 s1 g1 ry => ?_⟩
    obtain ⟨h, ch, rfl, rfl, s2, hx, hv⟩ := hide H1 F1 cy cs1 s1 g1
    exact os_ex (evOs_ok es ok.b xs h3).1 e3 s2 (hd := some h) rfl (fun x e => by cases e; exact hx) fun cls od H' F' cs' l kk s' g' rx => kp.ex x t2 rfl cls od σ H' F' cs' (l1.trans l) (fun a ha => (kk a (by simp [ha])).trans (k1 a ha)) s' (g'.part (g := h.c ++ cy) (perm_of fun z => by simp only [List.count_append]; omega)) rx (fun _ _ => rfl) rfl
  split at e4
  case h_2 => cases e4
  case h_1 j st rr =>
  split at e4
  case h_2 => cases e4
  case h_1 d ds q1 q2 =>
  split at e4
  case isTrue => cases e4
  case isFalse hj =>
  obtain ⟨z, q3, e5⟩ := Option.bind_eq_some_iff.mp e4
  obtain ⟨d2, q4, e6⟩ := Option.map_eq_some_iff.mp e5
  subst e6
  obtain ⟨R, hr, h⟩ := o.ok X N sc ok.b.x tg xs hsh d ds y z q3
  refine ⟨_, hr e pos (mx X e) (xs.map (mx X)) pe_mx (allPE_mx xs), pack R fun yv H1 F1 cy cs1 l1 k1 s1 g1 ry => ?_⟩
  obtain ⟨hh, ch, rfl, rfl, s2, hx, hv⟩ := hide H1 F1 cy cs1 s1 g1
  refine os_at (evOs_ok es ok.b xs h3).1 e3 s2 (hd := some hh) rfl (fun x e => by cases e; exact hx) fun ws H2 F2 cv cs2 l2 k2 s3 g2 ro => ?_
  simp only [RO] at ro
  obtain ⟨x, w, h', d1, rfl, eh, ei, foc, ro⟩ := ro
  cases eh
  obtain ⟨fg, c1, rest, p, rp, back⟩ := foc
  rw [q1] at fg; cases fg
  refine h x w yv H2 F2 (cs2 ++ rest ++ cx) c1 cv cy _ rp (ro.vals q2) (Rp.keep l2 _ _ _ ry fun a ha => k2 a (by simp [ha])) (g2.perm (perm_of fun z => ?_)) fun H3 cd' k3 g3 rd => ?_
  · have := p.count_eq z
    simp only [List.count_append] at *
    omega
  · obtain ⟨d3, c3, b1, b2, b3⟩ := back H3 F2 z cd' (Le.refl F2) (fun b hb => k3 b (by simp [hb])) rd
    rw [q4] at b1; cases b1
    obtain ⟨c4, g4, s4, p4⟩ := unhide (s3.keep (Le.refl F2) fun b hb => k3 b (by simp [hb])) hv b2
    refine kp.nx _ rfl σ H3 F2 _ (l1.trans l2) (fun b hb => (k3 b (by simp [hb])).trans ((k2 b (by simp [hb])).trans (k1 b hb))) s4 (g3.part (g := g4) (perm_of fun z => ?_)) (fun _ _ => rfl) rfl
    have a1 := b3.count_eq z
    have a2 := p4.count_eq z
    simp only [List.count_append] at *
    omega
theorem s_aug (ok : SOk P X N sc k cl W) {o : Aug P} {i : Nat} {b : B P} {x : Str} {p pos : Pos} {op : Operator} {e : Expr} {n : Nat} {pr : List Nat} (hc : chkS N sc pr (.aug o i b) (.AugAssign (.Name x p) op e pos) = true) {t : Tr} {r : RsS} (he : exS cl n (.aug o i b) t = some r) : SVal X W pr r t (mxS X (.AugAssign (.Name x p) op e pos)) := by
  intro σ H F cs cx D s g kp
  simp only [chkS, Bool.and_eq_true, decide_eq_true_eq] at hc
  obtain ⟨⟨⟨h1, h2⟩, rfl⟩, h4⟩ := hc
  obtain ⟨l1, l2, l3⟩ := locB_ok ok h2
  simp only [exS] at he
  split at he
  case h_2 => cases he
  case h_1 d0 hi =>
  obtain ⟨x0, ex0⟩ := s.at' hi
  rcases bindS_some he with ⟨y, t1, e1, e2⟩ | ⟨z, t1, e1, rfl⟩
  · split at e2
    case h_2 => cases e2
    case h_1 d hi1 =>
    obtain ⟨d', q, e3⟩ := Option.map_eq_some_iff.mp e2
    subst e3
    obtain ⟨R, hp, h⟩ := o.ok X N sc ok.b.x d y d' q
    refine ⟨_, ps_aug (nodupX ok) l1 l2 pe_mx hp l3, x0, ex0, ?_⟩
    refine (evB_ok b ok.b e h4 t (noRt t)).1 _ e1 σ H F cs cx _ (bs_of s g) ⟨fun d'' t' ee yv H1 F1 cy cs1 k1 kk1 s1 g1 ry => ?_, fun _ _ ee => nomatch ee⟩
    cases ee
    obtain ⟨x1, c1, c2, ev, rp, s2, pp⟩ := s1.take hi1
    rw [ex0] at ev; cases ev
    refine h x0 yv H1 F1 (c2 ++ cx) c1 cy _ rp ry (g1.perm (perm_of fun z => ?_)) fun z H2 F2 cd' l2' k2 g2 rd => ?_
    · have := pp.count_eq z
      simp only [List.count_append] at *
      omega
    · have hlt : i < t1.length := (List.getElem?_eq_some_iff.mp hi1).1
      have s3 := s2.keep l2' fun b hb => k2 b (by simp [hb])
      obtain ⟨cs4, s4, g4⟩ := set_slot (cd := cd') (cx := cx) (d := d') (v := z) (i := i) s3 rd (by simpa only [List.append_assoc] using g2) (by rw [List.length_set]; exact hlt)
      rw [List.set_set] at s4
      refine kp.nx _ rfl _ H2 F2 cs4 (k1.trans l2') (fun b hb => (k2 b (by simp [hb])).trans (kk1 b hb)) s4 g4 (fun j hj => ?_) (by rw [List.length_set])
      have := out_ok h1 j hj
      simp only [List.mem_singleton] at this
      rw [List.getElem?_set_ne (Ne.symm this)]
  · have hp : PIp X o.op (fun _ _ _ _ => False) := fun _ _ _ _ _ _ _ _ _ _ _ _ h => h.elim
    refine ⟨_, ps_aug (nodupX ok) l1 l2 pe_mx hp l3, x0, ex0, ?_⟩
    exact (evB_ok b ok.b e h4 t (noRt t)).1 _ e1 σ H F cs cx _ (bs_of s g) ⟨fun _ _ ee => (nomatch ee), fun x' t' ee cls od H' F' cs' l kk s' g' rx => by cases ee; exact kp.ex z t1 rfl cls od σ H' F' cs' l kk s' g' rx (fun _ _ => rfl) rfl⟩
end
end Ev
end
section
set_option maxRecDepth 100000
set_option maxHeartbeats 4000000
namespace Ev
open PySem PySem.Spec L2
theorem putF_zip {f : Str} {v : V} : ∀ {fs : List Str} {vs : List V} {q : Nat}, idxOf f fs = some q → fs.length = vs.length → putF f v (fs.zip vs) = fs.zip (vs.set q v)
  | [], vs, q, h, _ => by simp [idxOf] at h
  | g :: fs, [], q, h, hl => by simp at hl
  | g :: fs, w :: vs, q, h, hl => by
    by_cases e : g = f
    · subst e
      simp [idxOf] at h
      subst h
      simp [putF]
    · simp only [idxOf, if_neg e] at h
      obtain ⟨q', h1, rfl⟩ := Option.map_eq_some_iff.mp h
      rw [List.zip_cons_cons]
      show (if g = f then (g, v) :: fs.zip vs else (g, w) :: putF f v (fs.zip vs)) = _
      rw [if_neg e, putF_zip h1 (by simpa using hl)]
      rfl
theorem idxOf_lt {f : Str} : ∀ {fs : List Str} {q : Nat}, idxOf f fs = some q → q < fs.length
  | [], q, h => by simp [idxOf] at h
  | g :: fs, q, h => by
    by_cases e : g = f
    · simp [idxOf, e] at h; subst h; simp
    · simp only [idxOf, if_neg e] at h
      obtain ⟨q', h1, rfl⟩ := Option.map_eq_some_iff.mp h
      have := idxOf_lt h1
      simp; omega
section
variable {P : Pg} {X : Cx} {N : List Str} {sc : Scope} {k : Nat} {cl : Cl} {W : WX}
/-- an item exchanged for a tree without cells -/
theorem Rps.setF {K : PySem.W.Frag} {mg : Str → Option Value} {H F H' F' : Hp} (l : Le F F') : ∀ {xs : List D} {vs : List V} {c : List Addr} {q : Nat} {d : D} {v : V}, Rps K mg H F xs vs c → (∀ a ∈ c, H' a = H a) → q < xs.length → Rp K mg H' F' d v [] → ∃ c' g, Rps K mg H' F' (xs.set q d) (vs.set q v) c' ∧ c.Perm (g ++ c')
  | [], vs, c, q, d, v, h, k, hq, r => by simp at hq
  | x :: xs, vs, c, 0, d, v, h, k, hq, r => by
    simp only [Rps] at h
    obtain ⟨w, ws, c1, c2, rfl, rfl, r1, r2⟩ := h
    refine ⟨[] ++ c2, c1, ?_, by simp⟩
    show Rps K mg H' F' (d :: xs) (v :: ws) _
    simp only [Rps]
    exact ⟨v, ws, [], c2, rfl, rfl, r, Rps.keep l _ _ _ r2 fun a ha => k a (by simp [ha])⟩
  | x :: xs, vs, c, q + 1, d, v, h, k, hq, r => by
    simp only [Rps] at h
    obtain ⟨w, ws, c1, c2, rfl, rfl, r1, r2⟩ := h
    obtain ⟨c', g, r3, p⟩ := Rps.setF l (q := q) r2 (fun a ha => k a (by simp [ha])) (by simpa using hq) r
    refine ⟨c1 ++ c', g, ?_, perm_of fun z => ?_⟩
    · show Rps K mg H' F' (x :: xs.set q d) (w :: ws.set q v) _
      simp only [Rps]
      exact ⟨w, _, c1, c', rfl, rfl, Rp.keep l _ _ _ r1 fun a ha => k a (by simp [ha]), r3⟩
    · have := p.count_eq z
      simp only [List.count_append] at *
      omega
/-- .. for any tree beside -/
theorem Rps.setD {K : PySem.W.Frag} {mg : Str → Option Value} {H F : Hp} : ∀ {xs : List D} {vs : List V} {c cd : List Addr} {q : Nat} {d : D} {v : V}, Rps K mg H F xs vs c → q < xs.length → Rp K mg H F d v cd → ∃ c' g, Rps K mg H F (xs.set q d) (vs.set q v) c' ∧ (cd ++ c).Perm (g ++ c')
  | [], vs, c, cd, q, d, v, h, hq, r => by simp at hq
  | x :: xs, vs, c, cd, 0, d, v, h, hq, r => by
    simp only [Rps] at h
    obtain ⟨w, ws, c1, c2, rfl, rfl, r1, r2⟩ := h
    refine ⟨cd ++ c2, c1, ?_, perm_of fun z => by simp only [List.count_append]; omega⟩
    show Rps K mg H F (d :: xs) (v :: ws) _
    simp only [Rps]
    exact ⟨v, ws, cd, c2, rfl, rfl, r, r2⟩
  | x :: xs, vs, c, cd, q + 1, d, v, h, hq, r => by
    simp only [Rps] at h
    obtain ⟨w, ws, c1, c2, rfl, rfl, r1, r2⟩ := h
    obtain ⟨c', g, r3, p⟩ := Rps.setD (q := q) r2 (by simpa using hq) r
    refine ⟨c1 ++ c', g, ?_, perm_of fun z => ?_⟩
    · show Rps K mg H F (x :: xs.set q d) (w :: ws.set q v) _
      simp only [Rps]
      exact ⟨w, _, c1, c', rfl, rfl, r1, r3⟩
    · have := p.count_eq z
      simp only [List.count_append] at *
      omega
theorem vis_pe (ok : SOk P X N sc k cl W) {i : Nat} {x : Str} {p : Pos} (h : visB N sc i x = true) : PE X (.Name x p) (tVar i) := by
  obtain ⟨h1, h2, h3, h4⟩ := visB_ok ok.b.x h
  exact pe_var h1 h2 h3 h4
theorem s_augA (ok : SOk P X N sc k cl W) {o : Aug P} {i : Nat} {f : Str} {b : B P} {x gn : Str} {p q0 pos : Pos} {op : Operator} {e : Expr} {n : Nat} {pr : List Nat} (hc : chkS N sc pr (.augA o i f b) (.AugAssign (.Attribute (.Name x p) gn q0) op e pos) = true) {t : Tr} {r : RsS} (he : exS cl n (.augA o i f b) t = some r) : SVal X W pr r t (mxS X (.AugAssign (.Attribute (.Name x p) gn q0) op e pos)) := by
  intro σ H F cs cx D s g kp
  simp only [chkS, Bool.and_eq_true, decide_eq_true_eq] at hc
  obtain ⟨⟨⟨h1, rfl⟩, rfl⟩, h4⟩ := hc
  simp only [exS] at he
  split at he
  case h_2 => cases he
  case h_1 C fs xs hi =>
  split at he
  case h_2 => cases he
  case h_1 kk hlk hatt =>
  have hatt := of_decide_eq_true hatt
  obtain ⟨v0, c1, c2, ev, rp, s2, pp⟩ := s.take hi
  simp only [Rp] at rp
  obtain ⟨a, A, dx, vs, c', rfl, hA, hlen, hH, rs, rfl⟩ := rp
  obtain ⟨y1, y2⟩ := ok.b.x.cls C A gn hatt hA
  obtain ⟨qq, z1, z2⟩ := zip_lookup hlk
  obtain ⟨w1, cw, z3, z4, z5⟩ := rs.get z1
  have z4 := z4.intE
  subst z4
  have hl := z2 rs.length _ z3
  rcases bindS_some he with ⟨y, t1, e1, e2⟩ | ⟨z, t1, e1, rfl⟩
  · split at e2
    case h_2 => cases e2
    case h_1 C' fs' xs' hi1 =>
    split at e2
    case h_2 => cases e2
    case h_1 k' q d' hk1 hq hd =>
    split at e2
    case isFalse => cases e2
    case isTrue hcond =>
    obtain ⟨rfl, rfl, hF, hl3⟩ := hcond
    cases e2
    obtain ⟨R, hp, h⟩ := o.ok X N sc ok.b.x (.int k') y d' hd
    refine ⟨_, ps_fldaug (vis_pe ok h1) pe_mx hp, _, ev, a, A, dx, _, _, rfl, hH, y1, y2, hl, ?_⟩
    refine (evB_ok b ok.b e h4 t (noRt t)).1 _ e1 σ H F cs cx _ (bs_of s g) ⟨fun d'' t' ee yv H1 F1 cy cs1 k1 kk1 s1 g1 ry => ?_, fun _ _ ee => nomatch ee⟩
    cases ee
    obtain ⟨x1, c3, c4, ev1, rp1, s3, pp1⟩ := s1.take hi1
    rw [ev] at ev1; cases ev1
    simp only [Rp] at rp1
    obtain ⟨a', A', dx', vs', c5, ea, hA', hlen', hH', rs', rfl⟩ := rp1
    cases ea
    rw [hA] at hA'; cases hA'
    refine h _ yv H1 F1 (a :: c5 ++ c4 ++ cx) [] cy _ (by simp only [Rp]; exact ⟨trivial, trivial⟩) ry (g1.perm (perm_of fun z => ?_)) fun z H2 F2 cd' l2' k2 g2 rd => ?_
    · have := pp1.count_eq z
      simp only [List.count_append, List.count_nil] at *
      omega
    · have rd0 := rd.flat hF
      have ha2 : H2 a = some (.ins A dx' (fs'.zip vs')) := (k2 a (by simp)).trans hH'
      have hqlt : q < xs'.length := by rw [← hlen']; exact idxOf_lt hq
      refine ⟨dx', _, ha2, by rw [List.length_zip]; omega, ?_⟩
      rw [putF_zip hq (by rw [hlen', rs'.length])]
      have na : a ∉ c5 ++ c4 ++ cx := by
        have nd := g2.nd
        have p : (cd' ++ (a :: c5 ++ c4 ++ cx)).Perm (a :: (cd' ++ (c5 ++ c4 ++ cx))) := perm_of fun z => by simp only [List.count_append, List.count_cons]; omega
        have := (List.nodup_cons.mp (p.nodup_iff.mp nd)).1
        intro hm
        exact this (by simp only [List.mem_append] at *; exact .inr hm)
      have ku : ∀ b ∈ c5 ++ c4 ++ cx, upd H2 a (.ins A dx' (fs'.zip (vs'.set q z))) b = H2 b := fun b hb => upd_ne fun e => na (e ▸ hb)
      have rd1 : Rp X.K X.mg (upd H2 a (.ins A dx' (fs'.zip (vs'.set q z)))) F2 d' z [] := Rp.keep (Le.refl F2) _ _ _ rd0 fun b hb => by simp at hb
      obtain ⟨c6, g6, rs6, p6⟩ := Rps.setF (H' := upd H2 a (.ins A dx' (fs'.zip (vs'.set q z)))) l2' rs' (fun b hb => (ku b (by simp [hb])).trans (k2 b (by simp [hb]))) hqlt rd1
      have hlt : i < t1.length := (List.getElem?_eq_some_iff.mp hi1).1
      have s4 := s3.keep (H' := upd H2 a (.ins A dx' (fs'.zip (vs'.set q z)))) l2' fun b hb => (ku b (by simp [hb])).trans (k2 b (by simp [hb]))
      have s5 := SR.put (d := .ins true C' fs' (xs'.set q d')) s4 hlt ev (c1 := a :: c6) (by
        simp only [Rp]
        exact ⟨a, A, dx', vs'.set q z, c6, rfl, hA, by rw [List.length_set]; exact hlen', upd_same, rs6, rfl⟩)
      refine kp.nx _ rfl σ _ F2 _ (k1.trans l2') (fun b hb => (ku b (by simp [hb])).trans ((k2 b (by simp [hb])).trans (kk1 b hb))) s5 ?_ (fun _ _ => rfl) rfl
      have gu : Good (upd H2 a (.ins A dx' (fs'.zip (vs'.set q z)))) F2 (a :: c5 ++ c4 ++ cx) := by
        have g3 : Good H2 F2 (a :: c5 ++ c4 ++ cx) := g2.memo
        refine ⟨fun b o e => ?_, g3.nd, fun b hb => ?_⟩
        · have hne : b ≠ a := fun e2 => by
            have := (g3.own a (by simp)).1
            rw [← e2] at this
            rw [this] at e; cases e
          rw [upd_ne hne]; exact g3.sub b o e
        · refine ⟨(g3.own b hb).1, ?_⟩
          by_cases hne : b = a
          · subst hne; exact ⟨_, upd_same⟩
          · rw [upd_ne hne]; exact (g3.own b hb).2
      refine gu.part (g := g6) (perm_of fun z => ?_)
      have := p6.count_eq z
      simp only [List.count_append, List.count_cons] at *
      omega
  · have hp : InOp X o.op (fun _ _ _ _ => False) := fun _ _ _ _ _ _ _ _ _ _ _ _ h => h.elim
    refine ⟨_, ps_fldaug (vis_pe ok h1) pe_mx hp, _, ev, a, A, dx, _, _, rfl, hH, y1, y2, hl, ?_⟩
    exact (evB_ok b ok.b e h4 t (noRt t)).1 _ e1 σ H F cs cx _ (bs_of s g) ⟨fun _ _ ee => (nomatch ee), fun x' t' ee cls od H' F' cs' l kk s' g' rx => by cases ee; exact kp.ex z t1 rfl cls od σ H' F' cs' l kk s' g' rx (fun _ _ => rfl) rfl⟩
end
end Ev
end
section
set_option maxRecDepth 100000
set_option maxHeartbeats 4000000
namespace Ev
open PySem PySem.Spec L2
section
variable {P : Pg} {X : Cx} {N : List Str} {sc : Scope} {k : Nat} {cl : Cl} {W : WX}
theorem sub_assign {o i : Expr} {pos : Pos} {env : Env} (h : plainX i = true) : ∀ v, assign (.Subscript o i pos) env v = (do
      let ov ← holding [v] (eval o env)
      let iv ← holding [v, ov] (eval i env)
      standAt pos
      holding [v, ov, iv] (setItem ov iv v)
      release [v, ov, iv] []) := by
  intro v
  cases i <;> first | rfl | (simp [plainX] at h)
/-- a cell written -/
theorem Good.write {H F : Hp} {c : List Addr} {a : Addr} {o : HO} (g : Good H F c) (ha : a ∈ c) : Good (upd H a o) F c := by
  refine ⟨fun b u e => ?_, g.nd, fun b hb => ⟨(g.own b hb).1, ?_⟩⟩
  · have hne : b ≠ a := fun e2 => by
      have := (g.own a ha).1
      rw [← e2] at this
      rw [this] at e; cases e
    rw [upd_ne hne]; exact g.sub b u e
  · by_cases hne : b = a
    · subst hne; exact ⟨_, upd_same⟩
    · rw [upd_ne hne]; exact (g.own b hb).2
theorem txs_len : ∀ {l : List (Tx P)} {ds : List D} {t t' : Tr}, txs l ds t = some t' → l.length = ds.length
  | [], [], _, _, _ => rfl
  | .n i :: r, d :: ds, t, t', h => by
    simp only [txs] at h
    split at h
    · rw [List.length_cons, List.length_cons, txs_len h]
    · cases h
  | .s i a :: r, d :: ds, t, t', h => by
    simp only [txs] at h
    split at h
    · split at h
      · rw [List.length_cons, List.length_cons, txs_len h]
      · cases h
    · cases h
  | [], _ :: _, _, _, h => by simp [txs] at h
  | .n _ :: _, [], _, _, h => by simp [txs] at h
  | .s _ _ :: _, [], _, _, h => by simp [txs] at h
theorem chkTx_len : ∀ {l : List (Tx P)} {es : List Expr}, chkTx N sc l es = true → l.length = es.length
  | [], [], _ => rfl
  | .n i :: r, e :: es, h => by
    cases e with
    | Name x p =>
      simp only [chkTx, Bool.and_eq_true] at h
      rw [List.length_cons, List.length_cons, chkTx_len h.2]
    | _ => simp [chkTx] at h
  | .s i a :: r, e :: es, h => by
    match e, h with
    | .Subscript (.Name x p) y q, h =>
      simp only [chkTx, Bool.and_eq_true] at h
      rw [List.length_cons, List.length_cons, chkTx_len h.2]
  | [], _ :: _, h => by simp [chkTx] at h
  | .n _ :: _, [], h => by simp [chkTx] at h
  | .s _ _ :: _, [], h => by simp [chkTx] at h
theorem noRt_set {t : Tr} {i : Nat} {o : Option D} : noRt (t.set i o) = noRt t := by
  unfold noRt
  rw [List.map_set, ← List.map_set (f := fun _ => (none : Option D)) (a := none)]
  refine List.ext_getElem? fun j => ?_
  simp only [List.getElem?_map, List.getElem?_set]
  split
  · rename_i e
    subst e
    by_cases h : i < t.length
    · simp [h]
    · simp [h]
  · rfl
theorem txs_ok (ok : SOk P X N sc k cl W) : ∀ (l : List (Tx P)) (es : List Expr), es.all plainX = true → chkTx N sc l es = true → ∀ (ds : List D) (t t' : Tr), txs l ds t = some t' →
    ∀ (vs : List V) (σ : L2.St) (H F : Hp) (cs cx cd : List Addr) (Q : L2.St → Hp → Prop), SR X.K X.mg H F t σ cs → Rps X.K X.mg H F ds vs cd → Good H F (cd ++ cs ++ cx) →
      (∀ σ' H' F' cs', Le F F' → (∀ a ∈ cx, H' a = H a) → SR X.K X.mg H' F' t' σ' cs' → Good H' F' (cs' ++ cx) → (∀ j, j ∉ txS l → σ'[j]? = σ[j]?) → σ'.length = σ.length → Q σ' H') → mxGs X es vs σ H Q
  | [], es, hp, hc, ds, t, t', ha, vs, σ, H, F, cs, cx, cd, Q, s, r, g, k => by
    cases es with
    | cons _ _ => simp [chkTx] at hc
    | nil =>
      cases ds with
      | cons _ _ => simp [txs] at ha
      | nil =>
        simp only [txs, Option.some.injEq] at ha
        subst ha
        simp only [Rps] at r
        obtain ⟨rfl, rfl⟩ := r
        exact ⟨_, pgs_nil, rfl, k σ H F cs (Le.refl F) (fun _ _ => rfl) s (by simpa using g) (fun _ _ => rfl) rfl⟩
  | .n i :: l, es, hp, hc, ds, t, t', ha, vs, σ, H, F, cs, cx, cd, Q, s, r, g, k => by
    match es, ds, hc, ha with
    | .Name x p :: es, d :: ds, hc, ha =>
      simp only [chkTx, Bool.and_eq_true] at hc
      have hp2 := hp
      rw [List.all_cons, Bool.and_eq_true] at hp2
      simp only [txs] at ha
      split at ha
      · rename_i hi
        simp only [Rps] at r
        obtain ⟨v, w, c1, c2, rfl, rfl, r1, r2⟩ := r
        obtain ⟨l1, l2, l3⟩ := locB_ok ok hc.1
        refine ⟨_, pgs_cons (pg_name (nodupX ok) l1 l2 l3) pgs_mx (assignEach_cons hp), v, w, rfl, ?_⟩
        obtain ⟨cs2, s2, g2⟩ := set_slot (cx := c2 ++ cx) s r1 (g.perm (perm_of fun z => by simp only [List.count_append]; omega)) hi
        refine txs_ok ok l es hp2.2 hc.2 ds _ t' ha w _ H F cs2 cx c2 Q s2 r2 (g2.perm (perm_of fun z => by simp only [List.count_append]; omega)) fun σ3 H3 F3 cs3 l3 kk s3 g3 k3 len3 => ?_
        refine k σ3 H3 F3 cs3 l3 kk s3 g3 (fun j hj => ?_) (len3.trans (by rw [List.length_set]))
        simp only [txS, List.mem_cons, not_or] at hj
        rw [k3 j hj.2, List.getElem?_set_ne (Ne.symm hj.1)]
      · cases ha
    | [], _, hc, _ => simp [chkTx] at hc
    | _, [], _, ha => simp [txs] at ha
  | .s i a :: l, es, hp, hc, ds, t, t', ha, vs, σ, H, F, cs, cx, cd, Q, s, r, g, k => by
    match es, ds, hc, ha with
    | .Subscript (.Name x p) y q :: es, d :: ds, hc, ha =>
      simp only [chkTx, Bool.and_eq_true] at hc
      obtain ⟨⟨⟨h1, h2⟩, h3⟩, h4⟩ := hc
      have hp2 := hp
      rw [List.all_cons, Bool.and_eq_true] at hp2
      simp only [txs] at ha
      split at ha
      · rename_i xs kk hi hix
        split at ha
        · rename_i j hj
          simp only [Rps] at r
          obtain ⟨v, w, c1, c2, rfl, rfl, r1, r2⟩ := r
          refine ⟨_, pgs_cons (pg_sub (vis_pe ok h1) pe_mx set_list (sub_assign h2)) pgs_mx (assignEach_cons hp), v, w, rfl, ?_⟩
          obtain ⟨v0, c3, c4, ev, rp, s2, pp⟩ := s.take hi
          refine ⟨v0, ev, ?_⟩
          have stt : Stt X.K X.mg H F t (noRt t) σ (cs ++ (c1 ++ c2 ++ cx)) := (bs_of s (g.perm (perm_of fun z => by simp only [List.count_append]; omega))).stt
          refine (evA_ok ok.b.x a y h3).1 _ hix σ H F _ _ stt fun iv H1 F1 cc ci l1 k1 g1 hcc hci _ ri => ?_
          have g2 : Good H1 F1 (cs ++ (c1 ++ c2 ++ cx)) := stt.g.of g1 hcc
          have rp1 := Rp.keep (H' := H1) l1 _ _ _ rp fun b hb => k1 b (by simp [pp.symm.subset (show b ∈ c3 ++ c4 by simp [hb])])
          have s3 := s2.keep (H' := H1) l1 fun b hb => k1 b (by simp [pp.symm.subset (show b ∈ c3 ++ c4 by simp [hb])])
          simp only [Rp] at rp1
          obtain ⟨pa, ws, c5, rfl, hH, rs, rfl⟩ := rp1
          refine ⟨pa, ws, kk, j, rfl, ri.intE, hH, by rw [← rs.length]; exact hj, ?_⟩
          have r1' := Rp.keep (H' := H1) l1 _ _ _ r1 fun b hb => k1 b (by simp [hb])
          have r2' := Rps.keep (H' := H1) l1 _ _ _ r2 fun b hb => k1 b (by simp [hb])
          have g3 : Good H1 F1 (pa :: (c5 ++ c4 ++ c1 ++ c2 ++ cx)) := g2.perm (perm_of fun z => by
            have := pp.count_eq z
            simp only [List.count_append, List.count_cons] at *
            omega)
          have g4 : Good (upd H1 pa (.lst (ws.set j v))) F1 (pa :: (c5 ++ c4 ++ c1 ++ c2 ++ cx)) := g3.write (by simp)
          have ku : ∀ b ∈ c5 ++ c4 ++ c1 ++ c2 ++ cx, upd H1 pa (.lst (ws.set j v)) b = H1 b := fun b hb => upd_ne fun e => (List.nodup_cons.mp g3.nd).1 (e ▸ hb)
          have jlt : j < xs.length := by
            exact (ixN_seq hj).2.1
          obtain ⟨c6, g6, rs6, p6⟩ := Rps.setD (H := upd H1 pa (.lst (ws.set j v))) (Rps.keep (Le.refl F1) _ _ _ rs fun b hb => ku b (by simp [hb])) jlt (Rp.keep (Le.refl F1) _ _ _ r1' fun b hb => ku b (by simp [hb]))
          have s4 := SR.put (d := .lst true (xs.set j d)) (s3.keep (H' := upd H1 pa (.lst (ws.set j v))) (Le.refl F1) fun b hb => ku b (by simp [hb])) (List.getElem?_eq_some_iff.mp hi).1 ev (c1 := pa :: c6) (by
            simp only [Rp]
            exact ⟨pa, ws.set j v, c6, rfl, upd_same, rs6, rfl⟩)
          have ha' : txs l ds (t.set i (some (.lst true (xs.set j d)))) = some t' := ha
          refine txs_ok ok l es hp2.2 h4 ds _ t' ha' w σ _ F1 _ cx c2 Q s4 (Rps.keep (Le.refl F1) _ _ _ r2' fun b hb => ku b (by simp [hb])) (g4.part (g := g6) (perm_of fun z => ?_)) fun σ3 H3 F3 cs3 l3 kk s3 g3 k3 len3 => ?_
          · have := p6.count_eq z
            simp only [List.count_append, List.count_cons] at *
            omega
          · exact k σ3 H3 F3 cs3 (l1.trans l3) (fun b hb => (kk b hb).trans ((ku b (by simp [hb])).trans (k1 b (by simp [hb])))) s3 g3 (fun j hj => k3 j hj) len3
        · cases ha
      · cases ha
    | [], _, hc, _ => simp [chkTx] at hc
    | _, [], _, ha => simp [txs] at ha
end
end Ev
end
section
set_option maxRecDepth 100000
set_option maxHeartbeats 4000000
namespace Ev
open PySem PySem.Spec L2
section
variable {P : Pg} {X : Cx} {N : List Str} {sc : Scope} {k : Nat} {cl : Cl} {W : WX}
theorem s_tx (ok : SOk P X N sc k cl W) {l : List (Tx P)} {b : B P} {es : List Expr} {kt : Nat} {e : Expr} {p pos : Pos} {n : Nat} {pr : List Nat} (hc : chkS N sc pr (.tx l b) (.Assign [.Tuple es kt p] e pos) = true) {t : Tr} {r : RsS} (he : exS cl n (.tx l b) t = some r) : SVal X W pr r t (mxS X (.Assign [.Tuple es kt p] e pos)) := by
  intro σ H F cs cx D s g kp
  simp only [chkS, Bool.and_eq_true] at hc
  obtain ⟨⟨⟨⟨⟨h1, h2⟩, h3⟩, h4⟩, h5⟩, h6⟩ := hc
  simp only [exS] at he
  have hsw : swappedStores [.Tuple es kt p] e X.env = pure none := by
    cases ht : isTupE e with
    | false => exact swNo ht
    | true =>
      rw [ht] at h5
      match e, l, h5 with
      | .Tuple vs k2 p2, .s i a :: l', h5 =>
        match es, h3 with
        | .Subscript (.Name x p) y q :: es', h3 =>
          unfold swappedStores
          simp only
          split
          · rfl
          · split
            · rfl
            · rw [if_pos]
              simp only [Bool.or_eq_true, bne_iff_ne]
              refine .inl ?_
              rw [List.filterMap_cons_none rfl]
              refine Nat.ne_of_lt ?_
              rw [List.length_cons]
              exact Nat.lt_succ_of_le (List.length_filterMap_le _ _)
  refine ⟨_, ps_asg (g := gTup X.K es.length (mxGs X es)) pe_mx (pg_tup ok.b.x.calm pgs_mx (assignEach_len h2) (assignEach_star h2)) (by unfold swapsWithSole; exact swaps_of h4) hsw (by rfl), ?_⟩
  refine ex_run ok h6 he s g kp fun d t1 _ e2 v H' F' cd cs' l' kk s' g' rd => ?_
  split at e2
  · rename_i _ ds _
    obtain ⟨t2, e3, e4⟩ := Option.map_eq_some_iff.mp e2
    subst e4
    simp only [Rp] at rd
    obtain ⟨a, vs, rfl, hq, rs⟩ := rd
    refine ⟨a, vs, rfl, g'.sub.sqT hq, by rw [← rs.length, ← txs_len e3, chkTx_len h3], ?_⟩
    refine txs_ok ok l es h2 h3 ds t1 t2 e3 vs σ H' F' cs' cx cd D.nx s' rs g' fun σ2 H2 F2 cs2 l2 k2 s2 g2 k3 l3 => ?_
    exact kp.nx _ rfl σ2 H2 F2 cs2 (l'.trans l2) (fun a ha => (k2 a ha).trans (kk a ha)) s2 g2 (fun j hj => k3 j (out_ok h1 j hj)) l3
  · cases e2
theorem s_iff (ok : SOk P X N sc k cl W) {c : B P} {a b : List (S P)} {e : Expr} {x y : List Stmt} {pos : Pos} {n : Nat} {pr : List Nat} (hc : chkB N sc c e = true)
    (ha : ∀ t r, exSs cl n a t = some r → SVal X W pr r t (mxSs X x)) (hb : ∀ t r, exSs cl n b t = some r → SVal X W pr r t (mxSs X y)) {t : Tr} {r : RsS} (he : exS cl n (.iff c a b) t = some r) : SVal X W pr r t (mxS X (.If e x y pos)) := by
  intro σ H F cs cx D s g kp
  simp only [exS] at he
  refine ⟨_, ps_if pt_mx pss_mx pss_mx, ?_⟩
  show mxT X e σ H _
  have later : ∀ {H' F' : Hp}, Le F F' → (∀ a ∈ cx, H' a = H a) → PostS X W H' F' σ cx pr r D := fun l kk =>
    ⟨fun t' e σ' H2 F2 cs2 l2 k2 => kp.nx t' e σ' H2 F2 cs2 (l.trans l2) fun a ha => (k2 a ha).trans (kk a ha), fun d t' e v σ' H2 F2 cd cs2 l2 k2 => kp.rt d t' e v σ' H2 F2 cd cs2 (l.trans l2) fun a ha => (k2 a ha).trans (kk a ha),
      fun x t' e cls od σ' H2 F2 cs2 l2 k2 => kp.ex x t' e cls od σ' H2 F2 cs2 (l.trans l2) fun a ha => (k2 a ha).trans (kk a ha)⟩
  rcases bindS_some he with ⟨d, t1, e1, e2⟩ | ⟨z, t1, e1, rfl⟩
  · split at e2
    · refine (evB_ok c ok.b e hc t (noRt t)).2 _ e1 (fun d' t' ee => by cases ee; exact ⟨_, rfl⟩) σ H F cs cx _ (bs_of s g) ⟨fun d' t' ee v H' F' cd cs' l kk s' g' rd => ?_, fun _ _ ee => nomatch ee⟩
      cases ee
      refine ⟨true, rd.blE, ?_⟩
      rw [if_pos rfl]
      exact ha t1 r e2 σ H' F' cs' cx D s' (g'.part (g := cd) (perm_of fun z => by simp only [List.count_append]; omega)) (later l kk)
    · refine (evB_ok c ok.b e hc t (noRt t)).2 _ e1 (fun d' t' ee => by cases ee; exact ⟨_, rfl⟩) σ H F cs cx _ (bs_of s g) ⟨fun d' t' ee v H' F' cd cs' l kk s' g' rd => ?_, fun _ _ ee => nomatch ee⟩
      cases ee
      refine ⟨false, rd.blE, ?_⟩
      rw [if_neg Bool.false_ne_true]
      exact hb t1 r e2 σ H' F' cs' cx D s' (g'.part (g := cd) (perm_of fun z => by simp only [List.count_append]; omega)) (later l kk)
    · cases e2
  · exact (evB_ok c ok.b e hc t (noRt t)).2 _ e1 (fun d' t' ee => nomatch ee) σ H F cs cx _ (bs_of s g) ⟨fun _ _ ee => (nomatch ee), fun x' t' ee cls od H' F' cs' l kk s' g' rx => by cases ee; exact kp.ex z t1 rfl cls od σ H' F' cs' l kk s' g' rx (fun _ _ => rfl) rfl⟩
theorem s_whl (ok : SOk P X N sc k cl W) {c : B P} {body : List (S P)} {e : Expr} {x : List Stmt} {pos : Pos} {n : Nat} {pr : List Nat} (hc : chkB N sc c e = true)
    (hb : ∀ t r, exSs cl n body t = some r → SVal X W pr r t (mxSs X x)) {t : Tr} {r : RsS} (he : exS cl n (.whl c body) t = some r) : SVal X W pr r t (mxS X (.While e x [] pos)) := by
  intro σ H F cs cx D s g kp
  simp only [exS] at he
  refine ⟨_, ps_while ok.hp pt_mx pss_mx, ?_⟩
  refine ⟨fun m σ' H' => ∃ F' t' cs', Le F F' ∧ (∀ a ∈ cx, H' a = H a) ∧ SR X.K X.mg H' F' t' σ' cs' ∧ Good H' F' (cs' ++ cx) ∧ (∀ j ∈ pr, σ'[j]? = σ[j]?) ∧ σ'.length = σ.length ∧ whGo (fun t => evB cl (noRt t) c t) (exSs cl n body) m t' = some r, ⟨n, F, t, cs, Le.refl F, fun _ _ => rfl, s, g, fun _ _ => rfl, rfl, he⟩, ?_⟩
  rintro m σ1 H1 ⟨F1, t1, cs1, l1, k1, s1, g1, p1, len1, he1⟩
  cases m with
  | zero => cases he1
  | succ m =>
    show mxT X e σ1 H1 _
    simp only [whGo] at he1
    split at he1
    · rename_i t2 e1
      refine (evB_ok c ok.b e hc t1 (noRt t1)).2 _ e1 (fun d' t' ee => by cases ee; exact ⟨_, rfl⟩) σ1 H1 F1 cs1 cx _ (bs_of s1 g1) ⟨fun d' t' ee v H' F' cd cs' l kk s' g' rd => ?_, fun _ _ ee => nomatch ee⟩
      cases ee
      refine ⟨true, rd.blE, ?_⟩
      rw [if_pos rfl]
      refine ⟨fun σ' H2 => ∃ F' t' cs', Le F F' ∧ (∀ a ∈ cx, H2 a = H a) ∧ SR X.K X.mg H2 F' t' σ' cs' ∧ Good H2 F' (cs' ++ cx) ∧ (∀ j ∈ pr, σ'[j]? = σ[j]?) ∧ σ'.length = σ.length ∧ whGo (fun t => evB cl (noRt t) c t) (exSs cl n body) m t' = some r, fun σ' H2 h => ⟨m, Nat.lt_succ_self m, h⟩, ?_⟩
      have g2 := g'.part (g := cd) (c' := cs' ++ cx) (perm_of fun z => by simp only [List.count_append]; omega)
      have k2 : ∀ a ∈ cx, H' a = H a := fun a ha => (kk a ha).trans (k1 a ha)
      cases hq : exSs cl n body t2 with
      | none => rw [hq] at he1; cases he1
      | some r2 =>
        rw [hq] at he1
        refine hb t2 r2 hq σ1 H' F' cs' cx _ s' g2 ⟨fun t3 ee σ2 H2 F2 cs2 l2 k3 s2 g3 p2 len2 => ?_, fun d t3 ee v σ2 H2 F2 cd2 cs2 l2 k3 s2 g3 rd2 p2 len2 => ?_, fun x3 t3 ee cls od σ2 H2 F2 cs2 l2 k3 s2 g3 rx p2 len2 => ?_⟩
        · subst ee
          exact ⟨F2, t3, cs2, l1.trans (l.trans l2), fun a ha => (k3 a ha).trans (k2 a ha), s2, g3, fun j hj => (p2 j hj).trans (p1 j hj), len2.trans len1, he1⟩
        · subst ee
          cases he1
          exact kp.rt d t3 rfl v σ2 H2 F2 cd2 cs2 (l1.trans (l.trans l2)) (fun a ha => (k3 a ha).trans (k2 a ha)) s2 g3 rd2 (fun j hj => (p2 j hj).trans (p1 j hj)) (len2.trans len1)
        · subst ee
          cases he1
          exact kp.ex x3 t3 rfl cls od σ2 H2 F2 cs2 (l1.trans (l.trans l2)) (fun a ha => (k3 a ha).trans (k2 a ha)) s2 g3 rx (fun j hj => (p2 j hj).trans (p1 j hj)) (len2.trans len1)
    · rename_i t2 e1
      cases he1
      refine (evB_ok c ok.b e hc t1 (noRt t1)).2 _ e1 (fun d' t' ee => by cases ee; exact ⟨_, rfl⟩) σ1 H1 F1 cs1 cx _ (bs_of s1 g1) ⟨fun d' t' ee v H' F' cd cs' l kk s' g' rd => ?_, fun _ _ ee => nomatch ee⟩
      cases ee
      refine ⟨false, rd.blE, ?_⟩
      rw [if_neg Bool.false_ne_true]
      exact kp.nx _ rfl σ1 H' F' cs' (l1.trans l) (fun a ha => (kk a ha).trans (k1 a ha)) s' (g'.part (g := cd) (perm_of fun z => by simp only [List.count_append]; omega)) p1 len1
    · rename_i x2 t2 e1
      cases he1
      exact (evB_ok c ok.b e hc t1 (noRt t1)).2 _ e1 (fun d' t' ee => nomatch ee) σ1 H1 F1 cs1 cx _ (bs_of s1 g1) ⟨fun _ _ ee => (nomatch ee), fun x' t' ee cls od H' F' cs' l kk s' g' rx => by cases ee; exact kp.ex x2 t2 rfl cls od σ1 H' F' cs' (l1.trans l) (fun a ha => (kk a ha).trans (k1 a ha)) s' g' rx p1 len1⟩
    · cases he1
end
end Ev
end
section
set_option maxRecDepth 100000
set_option maxHeartbeats 4000000
namespace Ev
open PySem PySem.Spec L2
def refsO : List Opd → List Nat
  | [] => []
  | .ref i :: r => i :: refsO r
  | _ :: r => refsO r
theorem RO.st {K : PySem.W.Frag} {mg : Str → Option Value} {H F : Hp} {σ σ' : L2.St} {hd : Option HD} : ∀ {os : List Opd} {ws : List V} {cv : List Addr}, RO K mg H F σ hd os ws cv → (∀ j ∈ refsO os, σ'[j]? = σ[j]?) → RO K mg H F σ' hd os ws cv
  | [], ws, cv, h, _ => by simpa only [RO] using h
  | .ref i :: r, ws, cv, h, k => by
    simp only [RO] at h ⊢
    obtain ⟨v, w, e, e2, h⟩ := h
    exact ⟨v, w, e, (k i (by simp [refsO])).trans e2, h.st fun j hj => k j (by simp [refsO, hj])⟩
  | .val d :: r, ws, cv, h, k => by
    simp only [RO] at h ⊢
    obtain ⟨v, w, c1, c2, e, e2, rp, h⟩ := h
    exact ⟨v, w, c1, c2, e, e2, rp, h.st fun j hj => k j (by simp [refsO, hj])⟩
  | .dp i st :: r, ws, cv, h, k => by
    simp only [RO] at h ⊢
    obtain ⟨v, w, hh, d1, e, e2, e3, f, h⟩ := h
    exact ⟨v, w, hh, d1, e, e2, e3, f, h.st fun j hj => k j (by simp [refsO, hj])⟩
section
variable {P : Pg} {X : Cx} {N : List Str} {sc : Scope} {k : Nat} {cl : Cl} {W : WX}
theorem refs_of : ∀ {es : List (B P)} {rt t t1 : Tr} {os : List Opd}, evOs cl none rt es t = some (.ok os t1) → ∀ j ∈ refsO os, j ∈ refsOf es
  | [], rt, t, t1, os, h, j, hj => by
    simp only [evOs] at h
    cases h
    simp [refsO] at hj
  | b :: r, rt, t, t1, os, h, j, hj => by
    have gen : ∀ (d0 : D → Opd), (∀ d, ∀ os', refsO (d0 d :: os') = refsO os') → (bindR (evB cl rt b t) fun d t1 => bindR (evOs cl none rt r t1) fun os t2 => some (.ok (d0 d :: os) t2)) = some (.ok os t1) → j ∈ refsOf r := by
      intro d0 hd h
      rcases bindR_some h with ⟨d, t2, e1, e2⟩ | ⟨x, t2, e1, e2⟩
      · rcases bindR_some e2 with ⟨os', t3, e3, e4⟩ | ⟨x, t3, e3, e4⟩
        · cases e4
          rw [hd] at hj
          exact refs_of e3 j hj
        · cases e4
      · cases e2
    cases b with
    | rf i =>
      simp only [evOs] at h
      split at h
      · rcases bindR_some h with ⟨os', t3, e3, e4⟩ | ⟨x, t3, e3, e4⟩
        · cases e4
          simp only [refsO, List.mem_cons] at hj
          rcases hj with rfl | hj
          · simp [refsOf]
          · simp only [refsOf, List.mem_cons]; exact .inr (refs_of e3 j hj)
        · cases e4
      · cases h
    | dp a =>
      simp only [evOs] at h
      split at h
      · split at h
        · rename_i hc
          exact absurd hc.1 (by simp)
        · cases h
      · cases h
    | _ =>
      simp only [refsOf]
      exact gen .val (fun _ _ => rfl) (by simpa only [evOs] using h)
theorem s_for (ok : SOk P X N sc k cl W) {tg : Tg} {it : Itr P} {es : List (B P)} {body : List (S P)} {tg' iter : Expr} {x : List Stmt} {xs : List Expr} {pos : Pos} {n : Nat} {pr : List Nat} (hsh : it.sh sc tg' iter = some xs) (ho : out (pr ++ refsOf es) (tgS tg) = true) (htg : chkTg N sc tg tg' = true) (hes : chkBs N sc es xs = true)
    (hb : ∀ t r, exSs cl n body t = some r → SVal X W (pr ++ refsOf es) r t (mxSs X x)) {t : Tr} {r : RsS} (he : exS cl n (.for tg it es body) t = some r) : SVal X W pr r t (mxS X (.For tg' iter x [] pos)) := by
  intro σ H F cs cx D s g kp
  simp only [exS] at he
  have hfold : ∀ y, foldedSetIterable iter X.env y = pure y := fun y => fold_of (it.pl _ _ _ _ hsh)
  rcases bindS_some he with ⟨os, t1, e1, e2⟩ | ⟨z, t1, e1, rfl⟩
  case inr =>
    obtain ⟨S, hPI⟩ := it.sound X N sc ok.b.x tg' iter xs hsh
    refine ⟨_, ps_for ok.hp ok.b.x.calm (hPI _ (allPE_mx xs)) pg_mx pss_mx hfold, ?_⟩
    have main : ∀ (G : It → Hp → Prop), tL (xs.map (mx X)) σ H (fun vs H1 => S vs H1 G) := by
      intro G
      have z := os_ex (R := fun vs H1 _ => S vs H1 G) (Q := fun _ _ => True) (evOs_ok es ok.b xs hes).1 e1 (bs_of s g) (hd := none) rfl no_hd fun cls od H' F' cs' l kk s' g' rx => kp.ex z t1 rfl cls od σ H' F' cs' l kk s' g' rx (fun _ _ => rfl) rfl
      rw [tL_ops] at z; exact z
    exact main _
  obtain ⟨ds, q1, e3⟩ := Option.bind_eq_some_iff.mp e2
  obtain ⟨l, q2, hgo0⟩ := Option.bind_eq_some_iff.mp e3
  obtain ⟨S, hPI, hJ⟩ := it.ok X N sc ok.b.x tg' iter xs hsh ds l q2
  refine ⟨_, ps_for ok.hp ok.b.x.calm (hPI _ (allPE_mx xs)) pg_mx pss_mx hfold, ?_⟩
  have main : ∀ (G : It → Hp → Prop), (∀ ws H1 F1 cv cs1, Le F F1 → (∀ a ∈ cx, H1 a = H a) → SR X.K X.mg H1 F1 t1 σ cs1 → Good H1 F1 (cv ++ cs1 ++ cx) → RO X.K X.mg H1 F1 σ none os ws cv → S ws H1 G) → tL (xs.map (mx X)) σ H (fun vs H1 => S vs H1 G) := by
    intro G hG
    have z := os_at (R := fun vs H1 _ => S vs H1 G) (Q := fun _ _ => True) (evOs_ok es ok.b xs hes).1 e1 (bs_of s g) (hd := none) rfl no_hd fun ws H1 F1 cv cs1 l1 k1 s1 g1 ro => hG ws H1 F1 cv cs1 l1 k1 s1 g1 ro
    rw [tL_ops] at z; exact z
  refine main _ fun ws H1 F1 cv cs1 l1 k1 s1 g1 ro => ?_
  clear main
  obtain ⟨J, hJ1, hJ2⟩ := hJ ws
  refine hJ1 H1 F1 (cv ++ cs1 ++ cx) _ (ro.rpe s1 q1 (fun a ha => by simp [ha]) (fun a ha => by simp [ha])) g1 ?_
  refine ⟨fun i m σ' H' => ∃ F' t' cs', i ≤ l.length ∧ m = l.length - i ∧ Le F1 F' ∧ SR X.K X.mg H' F' t' σ' cs' ∧ Good H' F' (cs' ++ (cv ++ cx)) ∧ (∀ a ∈ cv ++ cx, H' a = H1 a) ∧ (∀ j ∈ pr ++ refsOf es, σ'[j]? = σ[j]?) ∧ σ'.length = σ.length ∧ forGo os ds tg (exSs cl n body) (l.drop i) t' = some r, ?_, ?_⟩
  · exact ⟨l.length, F1, t1, cs1, Nat.zero_le _, rfl, Le.refl F1, s1, g1.perm (perm_of fun z => by simp only [List.count_append]; omega), fun _ _ => rfl, fun _ _ => rfl, rfl, by rw [List.drop_zero]; exact hgo0⟩
  rintro i m σ1 H' ⟨F', t', cs', hi, rfl, l', st, g', k', p1, len1, hgo⟩
  have kk : ∀ a ∈ cx, H' a = H a := fun a ha => (k' a (by simp [ha])).trans (k1 a ha)
  have keepO : RO X.K X.mg H' F' σ1 none os ws cv := (ro.keep (H' := H') l' (fun a ha => k' a (by simp [ha])) fun _ e => nomatch e).st fun j hj => p1 j (by simp [refs_of e1 j hj])
  have hop : opdDs t' os = some ds := by
    cases hl : l.drop i with
    | nil =>
      rw [hl] at hgo
      simp only [forGo] at hgo
      split at hgo
      · assumption
      · cases hgo
    | cons x0 r0 =>
      rw [hl] at hgo
      simp only [forGo] at hgo
      split at hgo
      · assumption
      · cases hgo
  obtain ⟨hgo1, hstop⟩ := hJ2 H' F' (cs' ++ (cv ++ cx)) (keepO.rpe st hop (fun a ha => by simp [ha]) (fun a ha => by simp [ha])) g' i
  by_cases hlt : i < l.length
  case neg =>
    have hie : i = l.length := by omega
    subst hie
    rw [List.drop_length] at hgo
    simp only [forGo] at hgo
    rw [if_pos hop] at hgo
    cases hgo
    refine .inl ⟨hstop (Nat.le_refl _), ?_⟩
    exact kp.nx _ rfl σ1 H' F' cs' (l1.trans l') kk st (g'.part (g := cv) (perm_of fun z => by simp only [List.count_append]; omega)) (fun j hj => p1 j (by simp [hj])) len1
  case pos =>
  have hd : l.drop i = l[i] :: l.drop (i + 1) := List.drop_eq_getElem_cons hlt
  rw [hd] at hgo
  simp only [forGo] at hgo
  rw [if_pos hop] at hgo
  obtain ⟨jg, jy⟩ := hgo1 l[i] (by simp [hlt])
  refine .inr ⟨jg, fun σ2 H2 => ∃ F' t' cs', i + 1 ≤ l.length ∧ l.length - (i + 1) = l.length - (i + 1) ∧ Le F1 F' ∧ SR X.K X.mg H2 F' t' σ2 cs' ∧ Good H2 F' (cs' ++ (cv ++ cx)) ∧ (∀ a ∈ cv ++ cx, H2 a = H1 a) ∧ (∀ j ∈ pr ++ refsOf es, σ2[j]? = σ[j]?) ∧ σ2.length = σ.length ∧ forGo os ds tg (exSs cl n body) (l.drop (i + 1)) t' = some r,
    fun σ2 H2 h => ⟨l.length - (i + 1), by omega, h⟩, fun xv H2 hy => ?_⟩
  obtain ⟨F2, l2, g2, k2, rx⟩ := jy xv H2 hy
  cases ea : asg tg l[i] t' with
  | none => rw [ea] at hgo; cases hgo
  | some t3 =>
  rw [ea] at hgo
  have st2 : SR X.K X.mg H2 F2 t' σ1 cs' := st.keep l2 fun a ha => k2 a (by simp [ha])
  refine asg_ok ok.tg tg tg' htg l[i] t' t3 ea xv σ1 H2 F2 cs' (cv ++ cx) [] _ st2 rx (by simpa using g2) fun σ2 cs2 s2 g3 ks lens => ?_
  cases hq : exSs cl n body t3 with
  | none =>
    have hgo : (match exSs cl n body t3 with
      | some (.nx t') => forGo os ds tg (exSs cl n body) (l.drop (i + 1)) t'
      | z => z) = some r := hgo
    rw [hq] at hgo; cases hgo
  | some r2 =>
  have hgo : (match exSs cl n body t3 with
      | some (.nx t') => forGo os ds tg (exSs cl n body) (l.drop (i + 1)) t'
      | z => z) = some r := hgo
  rw [hq] at hgo
  have pp2 : ∀ j ∈ pr ++ refsOf es, σ2[j]? = σ[j]? := fun j hj => (ks j (out_ok ho j hj)).trans (p1 j hj)
  have kc : ∀ a ∈ cv ++ cx, H2 a = H1 a := fun a ha => (k2 a (by simp only [List.mem_append] at *; exact .inr ha)).trans (k' a ha)
  refine hb t3 r2 hq σ2 H2 F2 cs2 (cv ++ cx) _ s2 g3 ⟨fun t4 ee σ3 H3 F3 cs3 l3 k3 s3 g4 p3 len3 => ?_, fun d t4 ee v σ3 H3 F3 cd3 cs3 l3 k3 s3 g4 rd3 p3 len3 => ?_, fun x4 t4 ee cls od σ3 H3 F3 cs3 l3 k3 s3 g4 rx p3 len3 => ?_⟩
  · subst ee
    exact ⟨F3, t4, cs3, hlt, rfl, l'.trans (l2.trans l3), s3, g4, fun a ha => (k3 a ha).trans (kc a ha), fun j hj => (p3 j hj).trans (pp2 j hj), len3.trans (lens.trans len1), hgo⟩
  · subst ee
    cases hgo
    exact kp.rt d t4 rfl v σ3 H3 F3 cd3 cs3 (l1.trans (l'.trans (l2.trans l3))) (fun a ha => (k3 a (by simp [ha])).trans ((kc a (by simp [ha])).trans (k1 a ha))) s3 (g4.part (g := cv) (perm_of fun z => by simp only [List.count_append]; omega)) rd3 (fun j hj => (p3 j (by simp [hj])).trans (pp2 j (by simp [hj]))) (len3.trans (lens.trans len1))
  · subst ee
    cases hgo
    exact kp.ex x4 t4 rfl cls od σ3 H3 F3 cs3 (l1.trans (l'.trans (l2.trans l3))) (fun a ha => (k3 a (by simp [ha])).trans ((kc a (by simp [ha])).trans (k1 a ha))) s3 (g4.part (g := cv) (perm_of fun z => by simp only [List.count_append]; omega)) rx (fun j hj => (p3 j (by simp [hj])).trans (pp2 j (by simp [hj]))) (len3.trans (lens.trans len1))
theorem exS_step (ok : SOk P X N sc k cl W) {n : Nat} (b : S P) (pr : List Nat) (st : Stmt) (hc : chkS N sc pr b st = true) (ih : ∀ (c : List (S P)), sizeOf c < sizeOf b → ∀ (pr : List Nat) (st : List Stmt), chkSs N sc pr c st = true → ∀ t r, exSs cl n c t = some r → SVal X W pr r t (mxSs X st)) (t : Tr) (r : RsS) (he : exS cl n b t = some r) : SVal X W pr r t (mxS X st) := by
  cases b with
  | ex b =>
    obtain ⟨e, pos, rfl⟩ := inv_ex hc
    simp only [chkS, Bool.and_eq_true] at hc
    exact s_ex ok hc.1 hc.2 he
  | set i b =>
    obtain ⟨x, p, e, pos, rfl⟩ := inv_set hc
    exact s_set ok hc he
  | asg g b =>
    obtain ⟨tg, e, pos, rfl⟩ := inv_asg hc
    exact s_asg ok hc he
  | par i j a b => exact s_par ok hc he
  | tx l b =>
    obtain ⟨es, kt, p, e, pos, rfl⟩ := inv_tx hc
    exact s_tx ok hc he
  | put o h v es =>
    obtain ⟨tg, e, pos, rfl⟩ := inv_put hc
    simp only [chkS] at hc
    split at hc
    · rename_i xs hsh
      simp only [Bool.and_eq_true] at hc
      cases h with
      | none => exact s_put0 ok hsh hc.1.2 hc.2 he
      | some i => exact s_put1 ok hsh hc.1.2 hc.2 he
    · cases hc
  | aug o i b =>
    obtain ⟨x, p, op, e, pos, rfl⟩ := inv_aug hc
    exact s_aug ok hc he
  | augA o i f b =>
    obtain ⟨x, p, g, q, op, e, pos, rfl⟩ := inv_augA hc
    exact s_augA ok hc he
  | ret b =>
    obtain ⟨e, pos, rfl⟩ := inv_ret hc
    simp only [chkS] at hc
    exact s_ret ok hc he
  | ret0 =>
    obtain ⟨pos, rfl⟩ := inv_ret0 hc
    exact s_ret0 he
  | pass =>
    obtain ⟨pos, rfl⟩ := inv_pass hc
    exact s_pass he
  | iff c a b =>
    obtain ⟨e, x, y, pos, rfl⟩ := inv_iff hc
    simp only [chkS, Bool.and_eq_true] at hc
    exact s_iff ok hc.1.1 (fun t r h => ih a (by simp only [S.iff.sizeOf_spec]; omega) pr x hc.1.2 t r h) (fun t r h => ih b (by simp only [S.iff.sizeOf_spec]; omega) pr y hc.2 t r h) he
  | «for» tg it es body =>
    obtain ⟨tg', iter, body', pos, rfl⟩ := inv_for hc
    simp only [chkS] at hc
    split at hc
    · rename_i xs hsh
      simp only [Bool.and_eq_true] at hc
      exact s_for ok hsh hc.1.1.1 hc.1.1.2 hc.1.2 (fun t r h => ih body (by simp only [S.for.sizeOf_spec]; omega) (pr ++ refsOf es) body' hc.2 t r h) he
    · cases hc
  | whl c body =>
    obtain ⟨e, body', pos, rfl⟩ := inv_whl hc
    simp only [chkS, Bool.and_eq_true] at hc
    exact s_whl ok hc.1 (fun t r h => ih body (by simp only [S.whl.sizeOf_spec]; omega) pr body' hc.2 t r h) he
  | fg js => simp [chkS] at hc
  | shr i => simp [chkS] at hc
  | unp l i =>
    obtain ⟨tg, e, pos, rfl⟩ := inv_unp hc
    exact s_unp ok hc he
  | no => simp only [exS] at he; cases he
theorem chkSs_cons {N : List Str} {sc : Scope} {pr : List Nat} {b : S P} {bs : List (S P)} {s : Stmt} {sts : List Stmt} (h : ¬ ∃ js, b = .fg js) (h' : ¬ ∃ i, b = .shr i) : chkSs N sc pr (b :: bs) (s :: sts) = (chkS N sc pr b s && chkSs N sc pr bs sts) := by
  cases b <;> first | rfl | exact absurd ⟨_, rfl⟩ h | exact absurd ⟨_, rfl⟩ h'
theorem SR.fgt {K : PySem.W.Frag} {mg : Str → Option Value} {H F : Hp} {σ : L2.St} : ∀ (js : List Nat) {t : Tr} {cs : List Addr}, SR K mg H F t σ cs → ∃ c', SR K mg H F (wipeT t js) σ c' ∧ ∃ r, cs.Perm (r ++ c')
  | [], t, cs, h => ⟨cs, h, [], by simp⟩
  | j :: js, t, cs, h => by
    obtain ⟨c1, h1, r1, p1⟩ := SR.fgt js h
    obtain ⟨c2, h2, r2, p2⟩ := h1.drop (i := j)
    exact ⟨c2, h2, r1 ++ r2, p1.trans (by rw [List.append_assoc]; exact p2.append_left r1)⟩
theorem exSs_aux (ok : SOk P X N sc k cl W) {n : Nat} : ∀ (m : Nat) (b : List (S P)), sizeOf b < m → ∀ (pr : List Nat) (st : List Stmt), chkSs N sc pr b st = true → ∀ t r, exSs cl n b t = some r → SVal X W pr r t (mxSs X st)
  | 0, b, hm, _, _, _, _, _, _ => absurd hm (Nat.not_lt_zero _)
  | m + 1, [], hm, pr, st, hc, t, r, he => by
    cases st with
    | nil =>
      simp only [exSs] at he
      cases he
      intro σ H F cs cx D s g kp
      exact ⟨_, pss_nil, kp.nx _ rfl σ H F cs (Le.refl F) (fun _ _ => rfl) s g (fun _ _ => rfl) rfl⟩
    | cons _ _ => simp [chkSs] at hc
  | m + 1, b :: bs, hm, pr, st, hc, t, r, he => by
    simp only [List.cons.sizeOf_spec] at hm
    by_cases hfg : ∃ js, b = .fg js
    · obtain ⟨js, rfl⟩ := hfg
      simp only [chkSs] at hc
      simp only [exSs, exS] at he
      intro σ H F cs cx D s g kp
      obtain ⟨c', s', q, p⟩ := s.fgt js
      exact exSs_aux ok m bs (by omega) pr st hc _ r he σ H F c' cx D s' (g.part (g := q) (perm_of fun z => by have := p.count_eq z; simp only [List.count_append] at *; omega)) kp
    by_cases hsh : ∃ i, b = .shr i
    · obtain ⟨i, rfl⟩ := hsh
      simp only [chkSs] at hc
      simp only [exSs, exS] at he
      intro σ H F cs cx D s g kp
      cases hi : t[i]? with
      | none => rw [hi] at he; cases he
      | some od =>
        cases od with
        | none => rw [hi] at he; cases he
        | some d =>
          rw [hi] at he
          obtain ⟨v, c1, c2, ev, rp, s2, p⟩ := s.take hi
          have g1 : Good H F (c1 ++ (c2 ++ cx)) := g.perm (perm_of fun z => by have := p.count_eq z; simp only [List.count_append] at *; omega)
          have rf : Rp X.K X.mg H (join F H c1) (frz d) v [] := Rp.frz g1.le_join d v c1 rp fun a ha => join_in ha
          have s3 := SR.put (s2.keep (H' := H) g1.le_join fun _ _ => rfl) (List.getElem?_eq_some_iff.mp hi).1 ev rf
          have l0 := g1.le_join
          exact exSs_aux ok m bs (by omega) pr st hc _ r he σ H (join F H c1) c2 cx D s3 g1.join ⟨fun t' e σ' H2 F2 cs2 l2 k2 s2 g2 p2 len2 => kp.nx t' e σ' H2 F2 cs2 (l0.trans l2) k2 s2 g2 p2 len2, fun d t' e v σ' H2 F2 cd cs2 l2 k2 s2 g2 rd p2 len2 => kp.rt d t' e v σ' H2 F2 cd cs2 (l0.trans l2) k2 s2 g2 rd p2 len2, fun x t' e cls od σ' H2 F2 cs2 l2 k2 s2 g2 rx p2 len2 => kp.ex x t' e cls od σ' H2 F2 cs2 (l0.trans l2) k2 s2 g2 rx p2 len2⟩
    cases st with
    | nil => cases b <;> first | (simp [chkSs] at hc; done) | exact absurd ⟨_, rfl⟩ hfg | exact absurd ⟨_, rfl⟩ hsh
    | cons st sts =>
      rw [chkSs_cons hfg hsh, Bool.and_eq_true] at hc
      simp only [exSs] at he
      intro σ H F cs cx D s g kp
      refine ⟨_, pss_cons ps_mx pss_mx, ?_⟩
      cases hq : exS cl n b t with
      | none => rw [hq] at he; cases he
      | some r1 =>
        rw [hq] at he
        refine exS_step ok b pr st hc.1 (fun c hl pr st hc t r he => exSs_aux ok m c (by omega) pr st hc t r he) t r1 hq σ H F cs cx _ s g ⟨fun t4 ee σ3 H3 F3 cs3 l3 k3 s3 g4 p3 len3 => ?_, fun d t4 ee v σ3 H3 F3 cd3 cs3 l3 k3 s3 g4 rd3 p3 len3 => ?_, fun x4 t4 ee cls od σ3 H3 F3 cs3 l3 k3 s3 g4 rx p3 len3 => ?_⟩
        · subst ee
          refine exSs_aux ok m bs (by omega) pr sts hc.2 t4 r he σ3 H3 F3 cs3 cx D s3 g4 ⟨fun t' e σ' H2 F2 cs2 l2 k2 s2 g2 p2 len2 => ?_, fun d t' e v σ' H2 F2 cd cs2 l2 k2 s2 g2 rd p2 len2 => ?_, fun x t' e cls od σ' H2 F2 cs2 l2 k2 s2 g2 rx p2 len2 => ?_⟩
          · exact kp.nx t' e σ' H2 F2 cs2 (l3.trans l2) (fun a ha => (k2 a ha).trans (k3 a ha)) s2 g2 (fun j hj => (p2 j hj).trans (p3 j hj)) (len2.trans len3)
          · exact kp.rt d t' e v σ' H2 F2 cd cs2 (l3.trans l2) (fun a ha => (k2 a ha).trans (k3 a ha)) s2 g2 rd (fun j hj => (p2 j hj).trans (p3 j hj)) (len2.trans len3)
          · exact kp.ex x t' e cls od σ' H2 F2 cs2 (l3.trans l2) (fun a ha => (k2 a ha).trans (k3 a ha)) s2 g2 rx (fun j hj => (p2 j hj).trans (p3 j hj)) (len2.trans len3)
        · subst ee
          cases he
          exact kp.rt d t4 rfl v σ3 H3 F3 cd3 cs3 l3 k3 s3 g4 rd3 p3 len3
        · subst ee
          cases he
          exact kp.ex x4 t4 rfl cls od σ3 H3 F3 cs3 l3 k3 s3 g4 rx p3 len3
theorem exSs_ok (ok : SOk P X N sc k cl W) {n : Nat} (b : List (S P)) (pr : List Nat) (st : List Stmt) (hc : chkSs N sc pr b st = true) (t : Tr) (r : RsS) (he : exSs cl n b t = some r) : SVal X W pr r t (mxSs X st) :=
  exSs_aux ok (sizeOf b + 1) b (Nat.lt_succ_self _) pr st hc t r he
end
end Ev
end
section
set_option maxRecDepth 100000
set_option maxHeartbeats 4000000
namespace Ev
open PySem PySem.Spec L2
/-- a def: its text, its slots, the slots that may be lent, its code -/
structure Df (P : Pg) where
  d : He.DefD
  N : List Str
  ps : List Str
  pr : List Nat
  body : List (S P)
  dv : List D := []
def outs : List (Bool × D) → Tr → List (Option D)
  | [], _ => []
  | _ :: r, [] => none :: outs r []
  | (l, _) :: r, o :: t => (if l = true then o else none) :: outs r t
def lentOk (pr : List Nat) : Nat → List (Bool × D) → Bool
  | _, [] => true
  | i, (l, _) :: r => (!l || decide (i ∈ pr)) && lentOk pr (i + 1) r
section
variable {P : Pg}
noncomputable def runD (cl : Cl) (fuel : Nat) (d : Df P) (args : List (Bool × D)) : Option CR :=
  if args.length = d.ps.length ∧ lentOk d.pr 0 args = true then match exSs cl fuel d.body ((args.map (·.2)).map some ++ List.replicate (d.N.length - args.length) none) with
    | some (.nx t) => some (.ok .non (outs args t))
    | some (.rt x t) => some (.ok x (outs args t))
    | some (.ex x t) => some (.ex x (outs args t))
    | none => none
  else none
noncomputable def callN (tab : FKey → Option (Df P)) (fuel : Nat) : Nat → Cl
  | 0 => fun _ _ => none
  | n + 1 => fun key args => (tab key).bind fun d => runD (callN tab fuel n) fuel d args
structure DfOk (d : Df P) : Prop where
  sc : FnScope d.N d.ps d.d.scope
  ck : chkSs d.N d.d.scope d.pr d.body d.d.body = true
  df : d.d.kwd = []
  bs : ∀ {K : PySem.W.Frag} {f : Addr} {fd : FuncData}, FunD K d.d.name d.d.qual d.d.params d.d.body d.d.scope (d.d.dvs K) [] f fd → Binds K fd d.ps []
  bsd : ∀ dv ∈ d.dv, ∀ {K : PySem.W.Frag} {mg : Str → Option Value} {f : Addr} {fd : FuncData}, FunD K d.d.name d.d.qual d.d.params d.d.body d.d.scope (d.d.dvs K) [] f fd → ∃ v u, RelV v u ∧ (∀ H F, Rp K mg H F dv v []) ∧ Binds K fd d.ps [u]
  bd : d.d.dfl = [] → ∀ (kV doc pm : Value) (an : Option Addr) (cdv ct : Value) (us : List Value), us.length = d.ps.length → bindArgs (PySem.W.fnOf d.d.name d.d.qual d.d.params d.d.body d.d.scope .none kV doc pm an cdv ct) ⟨us, []⟩ = pure (d.ps.zip us)
/-- what the head tells of the program -/
structure PgOk (P : Pg) (tab : FKey → Option (Df P)) (K : PySem.W.Frag) (mg : Str → Option Value) (w : World) : Prop where
  blt : ∀ x, isBlt x = true → mg x = none
  glob : ∀ x d, P.gl x = some d → ∃ v u, mg x = some u ∧ RelV v u ∧ isF d = true ∧ ∀ H F, Rp K mg H F d v []
  cls : ∀ C A f, P.att C f = true → mg C = some (.ref A) → Cls K A ∧ NoAttr K A f
  def_ : ∀ key d, tab key = some d → DfOk d ∧ ∃ fd, FunD K d.d.name d.d.qual d.d.params d.d.body d.d.scope (d.d.dvs K) [] (He.fAd K key) fd
  fn : ∀ f, P.fn f = true → mg f = some (.ref (He.ga K f)) ∧ (tab (f, none)).isSome = true
  me : ∀ C m, P.mt C m = true → mg C = some (.ref (He.ga K C)) ∧ Cls K (He.ga K C) ∧ Meth K (He.ga K C) m (He.ma K (He.ga K C) m) ∧ (tab (C, some m)).isSome = true
  mak : ∀ C, P.ck C = true → mg C = some (.ref (He.ga K C)) ∧ Mk K (He.ga K C) (He.ma K (He.ga K C) "__init__") ∧ (tab (C, some "__init__")).isSome = true
  dfl : ∀ C dv, P.dk C = some dv → ∀ d, tab (C, some "__init__") = some d → dv ∈ d.dv
  dtab : ∀ x kvs, P.dt x = some kvs → ∃ a, mg x = some (.ref a) ∧ KTab K w a kvs
end
theorem outs_ok {K : PySem.W.Frag} {mg : Str → Option Value} {H F : Hp} : ∀ {args : List (Bool × D)} {vs : List V} {t : Tr} {σ : L2.St} {cs : List Addr}, SR K mg H F t σ cs → args.length = vs.length → (∀ (i : Nat) d v, args[i]? = some (true, d) → vs[i]? = some v → σ[i]? = some (some v)) → ∃ co g, SR K mg H F (outs args t) (vs.map some) co ∧ cs.Perm (g ++ co)
  | [], vs, t, σ, cs, s, hl, hk => by
    cases vs with
    | cons _ _ => simp at hl
    | nil => exact ⟨[], cs, by simp only [outs, List.map_nil, SR]; exact ⟨trivial, trivial⟩, by simp⟩
  | (l, d) :: r, [], t, σ, cs, s, hl, hk => by simp at hl
  | (l, d) :: r, v :: vs, [], σ, cs, s, hl, hk => by
    have e := s.len
    have eσ : σ = [] := by cases σ with | nil => rfl | cons _ _ => simp at e
    subst eσ
    obtain ⟨co, g, h1, h2⟩ := outs_ok (args := r) (vs := vs) (t := []) (σ := []) (cs := cs) s (by simpa using hl) fun i d' v' e1 e2 => by
      have := hk (i + 1) d' v' (by simpa using e1) (by simpa using e2)
      simp at this
    refine ⟨co, g, ?_, h2⟩
    simp only [outs, List.map_cons, SR]
    exact ⟨some v, _, rfl, h1⟩
  | (l, d) :: r, v :: vs, none :: t, σ, cs, s, hl, hk => by
    simp only [SR] at s
    obtain ⟨w, σ', rfl, s⟩ := s
    obtain ⟨co, g, h1, h2⟩ := outs_ok (args := r) (vs := vs) s (by simpa using hl) fun i d' v' e1 e2 => by simpa using hk (i + 1) d' v' (by simpa using e1) (by simpa using e2)
    refine ⟨co, g, ?_, h2⟩
    simp only [outs, List.map_cons, ite_self, SR]
    exact ⟨some v, _, rfl, h1⟩
  | (l, d) :: r, v :: vs, some d0 :: t, σ, cs, s, hl, hk => by
    simp only [SR] at s
    obtain ⟨w, σ', c1, c2, rfl, p, rp, s⟩ := s
    obtain ⟨co, g, h1, h2⟩ := outs_ok (args := r) (vs := vs) s (by simpa using hl) fun i d' v' e1 e2 => by simpa using hk (i + 1) d' v' (by simpa using e1) (by simpa using e2)
    cases l with
    | false =>
      refine ⟨co, c1 ++ g, ?_, perm_of fun z => ?_⟩
      · simp only [outs, List.map_cons, Bool.false_eq_true, if_false, SR]
        exact ⟨some v, _, rfl, h1⟩
      · have a1 := p.count_eq z
        have a2 := h2.count_eq z
        simp only [List.count_append] at *
        omega
    | true =>
      have e := hk 0 d v rfl rfl
      simp at e
      subst e
      refine ⟨c1 ++ co, g, ?_, perm_of fun z => ?_⟩
      · simp only [outs, List.map_cons, if_true, SR]
        exact ⟨w, _, c1, co, rfl, List.Perm.refl _, rp, h1⟩
      · have a1 := p.count_eq z
        have a2 := h2.count_eq z
        simp only [List.count_append] at *
        omega
theorem lentOk_ok {pr : List Nat} : ∀ {i : Nat} {args : List (Bool × D)}, lentOk pr i args = true → ∀ (j : Nat) d, args[j]? = some (true, d) → i + j ∈ pr
  | i, [], _, j, d, h => by simp at h
  | i, (l, d0) :: r, h, j, d, e => by
    simp only [lentOk, Bool.and_eq_true, Bool.or_eq_true, Bool.not_eq_true', decide_eq_true_eq] at h
    cases j with
    | zero =>
      simp at e
      rcases h.1 with h1 | h1
      · rw [e.1] at h1; cases h1
      · simpa using h1
    | succ j =>
      have := lentOk_ok h.2 j d (by simpa using e)
      have e2 : i + (j + 1) = i + 1 + j := by omega
      rw [e2]; exact this
section
variable {P : Pg} {tab : FKey → Option (Df P)} {K : PySem.W.Frag} {mg : Str → Option Value}
theorem fn_level {w : World} (ok : PgOk P tab K mg w) {p : Program} {base : Heap} {fuel : Nat} : ∀ j : Nat, ∀ key d, tab key = some d → ∀ fd, FunD K d.d.name d.d.qual d.d.params d.d.body d.d.scope (d.d.dvs K) [] (He.fAd K key) fd →
    FnOk p w K mg base (L2.CX p w) (2 * j) (He.fAd K key) fd d.ps (spOf K mg (callN tab fuel j key))
  | 0, key, d, hd, fd, F => by
    have no : ∀ vs H Q E, spOf K mg (callN tab fuel 0 key) vs H Q E → False := fun vs H Q E ⟨_, _, _, _, _, _, _, h, _⟩ => by cases h
    exact ⟨fun vs H Q E h => (no vs H Q E h).elim, fun A outer s H args us vs Q E _ _ _ _ h => (no vs H Q E h).elim⟩
  | j + 1, key, d, hd, fd, F => by
    obtain ⟨dok, _⟩ := ok.def_ key d hd
    have ih := fn_level ok (p := p) (base := base) (fuel := fuel) j
    have e2 : 2 * (j + 1) = (2 * j + 1) + 1 := by omega
    rw [e2]
    refine F.ok dok.sc (fun vs H Q E h => ?_) (fun cdv A outer s H vs Q E hr h => ?_)
    · obtain ⟨F1, args, c, cx, r, rp, g, h1, _⟩ := h
      have h1 : runD (callN tab fuel j) fuel d args = some r := by
        simp only [callN, hd] at h1; exact h1
      unfold runD at h1
      split at h1
      · rename_i hc
        have := rp.length
        rw [List.length_map] at this
        omega
      · cases h1
    · obtain ⟨F1, args, c, cx, r, rp, g, h1, hpost⟩ := h
      have h1 : runD (callN tab fuel j) fuel d args = some r := by
        simp only [callN, hd] at h1; exact h1
      unfold runD at h1
      split at h1
      case isFalse => cases h1
      case isTrue hc =>
      obtain ⟨hc1, hc2⟩ := hc
      have hlen := rp.length
      rw [List.length_map] at hlen
      generalize hX : cxOf (L2.CX p w) p w K mg base d.N d.d.qual d.d.scope (He.fAd K key) cdv A outer s H E = X
      have xK : X.K = K := by subst hX; rfl
      have xmg : X.mg = mg := by subst hX; rfl
      have sok : SOk P X d.N d.d.scope (2 * j) (callN tab fuel j) (fun cls od _ H => E cls od H) := by
        subst hX
        refine ⟨⟨⟨rfl, rfl, dok.sc.nd, rfl, by have := hr.units0; have := hr.un; show _ < cLine; show (A.deeper _).units + 66 < cLine; omega, ok.blt, ok.glob, ok.cls, ok.dtab⟩, ⟨hr, fun f hf => ?_, fun C m hm => ?_, fun C hm => ?_, fun C dv hm hk => ?_⟩, ?_⟩, ?_, ⟨rfl, rfl, dok.sc.nd, fun x hx => ⟨hx, .inl rfl⟩⟩, dok.sc.kind⟩
        · obtain ⟨h2, h3⟩ := ok.fn f hf
          obtain ⟨d2, hd2⟩ := Option.isSome_iff_exists.mp h3
          obtain ⟨dok2, fd2, F2⟩ := ok.def_ _ d2 hd2
          exact ⟨_, fd2, d2.ps, ih _ d2 hd2 fd2 F2, h2, F2.kp, dok2.bs F2⟩
        · obtain ⟨h2, h3, h4, h5⟩ := ok.me C m hm
          obtain ⟨d2, hd2⟩ := Option.isSome_iff_exists.mp h5
          obtain ⟨dok2, fd2, F2⟩ := ok.def_ _ d2 hd2
          exact ⟨_, _, fd2, d2.ps, h2, ih _ d2 hd2 fd2 F2, h3, h4, dok2.bs F2⟩
        · obtain ⟨h2, h3, h5⟩ := ok.mak C hm
          obtain ⟨d2, hd2⟩ := Option.isSome_iff_exists.mp h5
          obtain ⟨dok2, fd2, F2⟩ := ok.def_ _ d2 hd2
          exact ⟨_, _, fd2, d2.ps, h2, ih _ d2 hd2 fd2 F2, h3, dok2.bs F2⟩
        · obtain ⟨h2, h3, h5⟩ := ok.mak C hm
          obtain ⟨d2, hd2⟩ := Option.isSome_iff_exists.mp h5
          obtain ⟨dok2, fd2, F2⟩ := ok.def_ _ d2 hd2
          exact ⟨_, _, fd2, d2.ps, h2, ih _ d2 hd2 fd2 F2, h3, dok2.bs F2, dok2.bsd dv (ok.dfl C dv hk d2 hd2) F2⟩
        · exact takes_of rfl rfl rfl rfl
        · exact passes_of rfl
      cases hq : exSs (callN tab fuel j) fuel d.body ((args.map (·.2)).map some ++ List.replicate (d.N.length - args.length) none) with
      | none => rw [hq] at h1; cases h1
      | some rs =>
        rw [hq] at h1
        have sv := exSs_ok sok d.body d.pr d.d.body dok.ck _ rs hq
        have st0 : SR K mg H F1 ((args.map (·.2)).map some ++ List.replicate (d.N.length - args.length) none) (L2.start d.N vs) c := by
          have := SR.start rp (d.N.length - args.length)
          rw [show L2.start d.N vs = vs.map some ++ List.replicate (d.N.length - args.length) none from by unfold L2.start; rw [hlen]]
          exact this
        refine ⟨mxSs X d.d.body, by rw [← hX]; exact pss_mx, ?_⟩
        have oo : ∀ (t' : Tr) (σ' : L2.St) (H' F' : Hp) (cs' : List Addr), SR X.K X.mg H' F' t' σ' cs' → (∀ i ∈ d.pr, σ'[i]? = (L2.start d.N vs)[i]?) → ∃ co g, SR K mg H' F' (outs args t') (vs.map some) co ∧ cs'.Perm (g ++ co) := by
          intro t' σ' H' F' cs' s' hp
          rw [xK, xmg] at s'
          refine outs_ok s' hlen fun i d' v e1 e3 => ?_
          have hi := lentOk_ok hc2 i d' e1
          rw [Nat.zero_add] at hi
          rw [hp i hi]
          unfold L2.start
          have hlt : i < vs.length := (List.getElem?_eq_some_iff.mp e3).1
          rw [List.getElem?_append_left (by simpa using hlt), List.getElem?_map, e3]; rfl
        refine sv (L2.start d.N vs) H F1 c cx _ (by rw [xK, xmg]; exact st0) g ⟨fun t' ee σ' H' F' cs' l kk s' g' hp hl => ?_, fun d' t' ee v σ' H' F' cd cs' l kk s' g' rd hp hl => ?_, fun x t' ee cls od σ' H' F' cs' l kk s' g' rx hp hl => ?_⟩
        · subst ee
          cases h1
          obtain ⟨co, gg, so, pp⟩ := oo t' σ' H' F' cs' s' hp
          exact hpost .non H' F' [] co l kk (g'.part (g := gg) (perm_of fun z => by have := pp.count_eq z; simp only [List.count_append, List.count_nil] at *; omega)) (by simp only [Rp]; exact ⟨trivial, trivial⟩) so
        · subst ee
          cases h1
          obtain ⟨co, gg, so, pp⟩ := oo t' σ' H' F' cs' s' hp
          rw [xK, xmg] at rd
          exact hpost v H' F' cd co l kk (g'.part (g := gg) (perm_of fun z => by have := pp.count_eq z; simp only [List.count_append] at *; omega)) rd so
        · subst ee
          cases h1
          obtain ⟨co, gg, so, pp⟩ := oo t' σ' H' F' cs' s' hp
          rw [xK, xmg] at rx
          exact hpost cls od H' F' co l kk (g'.part (g := gg) (perm_of fun z => by have := pp.count_eq z; simp only [List.count_append] at *; omega)) rx so
end
end Ev
end
section
set_option maxRecDepth 100000
set_option maxHeartbeats 4000000
/-! list(reversed(a list)) -/
namespace RT
open PySem PySem.Spec PyProof.Rows
section
variable {prog : Program} {w : World} {A : Around} {s : Shared} {R : Result → Shared → Prop}
theorem extend_rev {it l : Addr} {items : Array Value} (hh : A.in1.handled = none) (hit : s.heap.IsRevIter it l ((items.size : Int) - 1)) (hl : s.heap.IsList l items) (hne : l ≠ it) (hn : items.size ≤ sizeLine) (S : Addr) (hSi : S ≠ it) (hSl : S ≠ l) (res : Value) (c₀ : Nat) (hS : s.heap.get? S = some { cls := .type "list", data := .seq #[] c₀ })
    (hR : ∀ h' tk acc' c', (∀ b o, b ≠ S → b ≠ it → s.heap.get? b = some o → h'.get? b = some o) → h'.get? S = some { cls := .type "list", dict := none, data := .seq acc' c', slots := #[] } → ItemsOf (fun i v => items[items.size - 1 - i]? = some v) acc' items.size → R (.ok (.ret res)) { s with heap := h', toks := tk }) :
    wpAny (model prog w) A.in1 (Builtin.List.listExtendWith (.ref S) (.ref it) res)
      (fun fin s' => match fin with | .done f => R (.ok f) s' | .again c' => c'.quiet = true ∧ codeAny (model prog w) A c' R s') (fun e s' => R (.error e) s') s := by
  have W := (Walks.listRev (prog := prog) (w := w) (A := A.in1) hh it l hne items).toS
  have hSf : S ∉ [it, l] := by simp only [List.mem_cons, List.not_mem_nil, or_false, not_or]; exact ⟨hSi, hSl⟩
  have hT : s.TypeIs (.ref it) "list_reverseiterator" := hit.typeIs
  have h1 : Builtin.List.listSameRef (.ref S) (.ref it) = false := by simp [Builtin.List.listSameRef, hSi]
  unfold Builtin.List.listExtendWith
  refine wpAny_bind (wpAny_typeOf hT ?_)
  rw [if_neg (by rw [h1]; decide)]
  refine wpAny_bind (wpAny_pyIter_revIter (s := s) hit ?_)
  refine wpAny_bind (wpAny_holding ?_)
  unfold Builtin.List.listLengthHint
  refine wpAny_bind (wpAny_specialOf hT nolen_lri ?_)
  show wpAny _ A.in1 (specialOf (Value.ref it) (Str.ofString "__length_hint__") >>= _) _ _ _
  refine wpAny_bind (wpAny_specialOf hT hint_lri ?_)
  generalize hid : ("list_reverseiterator.__length_hint__" : String) = id0
  wp_delta
  rw [show splitId id0 = some ("list_reverseiterator", "__length_hint__") from by subst hid; decide +kernel]
  subst hid
  refine wpAny_bind (wpAny_isInstance (b := true) hT (by rw [isSubtype_type]; kernel_rfl) ?_)
  refine wpAny_pure ?_
  rw [if_neg (by decide)]
  have e0 : ((items.size : Nat) : Int) - 1 - ((0 : Nat) : Int) = (items.size : Int) - 1 := by omega
  refine wpAny_pure ⟨plainId_quiet F.plain_extend_loop _, codeAny_extend_loopS W hn _ hSf _ items.size 0 _ _ _ rfl (Nat.zero_le _) ⟨Nat.zero_le _, by rw [e0]; exact hit, hl⟩ hS (ItemsOf.nil _) fun s' acc' c' hm hS' hacc => ?_⟩
  rw [Moved.eq_with hm]
  refine hR s'.heap s'.toks acc' c' (fun b o hb hb2 e => hm.heap b o (fun hmem => ?_) e) hS' hacc
  rcases List.mem_cons.mp hmem with e' | hmem
  · exact hb e'
  · exact hb2 (List.mem_singleton.mp hmem)
theorem init_rev {it l : Addr} {items : Array Value} (hh : A.in1.handled = none) (hit : s.heap.IsRevIter it l ((items.size : Int) - 1)) (hl : s.heap.IsList l items) (hne : l ≠ it) (hn : items.size ≤ sizeLine) (S : Addr) (hSi : S ≠ it) (hSl : S ≠ l) (hS : s.heap.get? S = some { cls := .type "list", data := .seq #[] })
    (hR : ∀ h' tk acc' c', (∀ b o, b ≠ S → b ≠ it → s.heap.get? b = some o → h'.get? b = some o) → h'.get? S = some { cls := .type "list", dict := none, data := .seq acc' c', slots := #[] } → ItemsOf (fun i v => items[items.size - 1 - i]? = some v) acc' items.size → R (.ok (.ret .none)) { s with heap := h', toks := tk }) :
    wpAny (model prog w) A.in1 (Builtin.«list.__init__» ⟨[.ref S, .ref it], []⟩)
      (fun fin s' => match fin with | .done f => R (.ok f) s' | .again c' => c'.quiet = true ∧ codeAny (model prog w) A c' R s') (fun e s' => R (.error e) s') s := by
  show wpAny _ A.in1 (do let old ← Builtin.List.listItems (.ref S); Builtin.List.listUpdate (.ref S) (fun _ => #[]); letGo old.toList.reverse; Builtin.List.listExtendWith (.ref S) (.ref it) .none) _ _ s
  refine wpAny_bind ?_
  unfold Builtin.List.listItems
  refine wpAny_bind (wpAny_seqItems hS rfl (wpAny_pure ?_))
  show wpAny _ A.in1 (updateSeq S (fun _ => #[]) >>= fun _ => letGo (#[] : Array Value).toList.reverse >>= fun _ => Builtin.List.listExtendWith (.ref S) (.ref it) .none) _ _ s
  refine wpAny_bind (wpAny_updateSeq hS rfl ?_)
  have hS₂ := Heap.get?_update_self (Obj.mapSeq (fun _ => (#[] : Array Value))) hS rfl
  have oth : ∀ b o, b ≠ S → s.heap.get? b = some o → (s.heap.update S (Obj.mapSeq (fun _ => (#[] : Array Value)))).get? b = some o :=
    fun b o hb e => (Heap.get?_update_other _ _ (Ne.symm hb)).trans e
  refine wpAny_bind (wpAny_letGo ?_)
  have hit2 : (s.heap.update S (Obj.mapSeq (fun _ => (#[] : Array Value)))).IsRevIter it l ((items.size : Int) - 1) := hit.at fun o e => oth _ o hSi.symm e
  have hl2 : (s.heap.update S (Obj.mapSeq (fun _ => (#[] : Array Value)))).IsList l items := hl.at fun o e => oth _ o hSl.symm e
  refine extend_rev hh hit2 hl2 hne hn S hSi hSl .none _ hS₂ fun h' tk acc' c' hk hS' hacc => ?_
  exact hR h' tk acc' c' (fun b o hb hb2 e => hk b o hb hb2 (oth b o hb e)) hS' hacc
end
theorem call_list_rev {prog : Program} {w : World} {A : Around} {E : Value → Shared → Prop} {s : Shared} {it l : Addr} {items : Array Value} {Q : Value → Shared → Prop} (hh : A.handled = none) (hit : s.heap.IsRevIter it l ((items.size : Int) - 1)) (hl : s.heap.IsList l items) (hne : l ≠ it) (hn : items.size ≤ sizeLine)
    (hQ : ∀ h' tk acc' c', (∀ b o, b ≠ it → s.heap.get? b = some o → h'.get? b = some o) → h'.get? s.heap.objs.size = some { cls := .type "list", dict := none, data := .seq acc' c', slots := #[] } → ItemsOf (fun i v => items[items.size - 1 - i]? = some v) acc' items.size → Q (.ref s.heap.objs.size) { s with heap := h', toks := tk }) :
    wpAny (model prog w) A (call (.type "list") [.ref it]) Q E s := by
  refine callType_codes (Q₁ := fun obj s₁ => obj = .ref s.heap.objs.size ∧ s₁ = { s with heap := s.heap.push { cls := .type "list", data := .seq #[] } }) PySem.F.called_list (PySem.F.typeCall_list_1 _) PySem.F.entry_list_init
    (code_list_new _ ⟨rfl, rfl⟩) fun obj s₁ h₁ => ?_
  obtain ⟨rfl, rfl⟩ := h₁
  have hS : (s.heap.push { cls := .type "list", data := .seq #[] }).get? s.heap.objs.size = some { cls := .type "list", data := .seq #[] } := Heap.get?_push_size _ rfl
  obtain ⟨oi, hoi, _⟩ := id hit
  obtain ⟨ol, hol, _⟩ := id hl
  have hit1 : (s.heap.push { cls := .type "list", data := .seq #[] }).IsRevIter it l ((items.size : Int) - 1) := hit.at fun o e => Heap.get?_push_of_some _ e
  refine ⟨⟨_, hS, rfl⟩, PySem.F.args_list_init_2 _ _, init_rev (A := A.in1) hh hit1 (hl.push _) hne hn _ (Nat.ne_of_gt (Heap.lt_size hoi)) (Nat.ne_of_gt (Heap.lt_size hol)) hS (fun h' tk acc' c' hk hS' hacc => ?_)⟩
  exact ⟨rfl, hQ h' tk acc' c' (fun b o hb e => hk b o (Nat.ne_of_lt (Heap.lt_size e)) hb (Heap.get?_push_of_some _ e)) hS' hacc⟩
end RT
namespace L2
open PySem PySem.Spec PyProof.Rows
def tLstRev (K : PySem.W.Frag) (te : TE) : TE := fun σ H Q => te σ H fun x H1 => ∃ (a : Addr) (xs : List V), x = .ref a ∧ SqL K H1 a xs ∧ ∀ p, H1 p = none → Q (.ref p) (upd H1 p (.lst xs.reverse))
section
variable {X : Cx}
theorem pe_listRev {e : Expr} {te : TE} {p p2 pos pos2 : Pos} (hc : X.calm = true) (hg : Gl X "list") (hm : X.mg "list" = none) (hg2 : Gl X "reversed") (hm2 : X.mg "reversed" = none) (he : PE X e te)
    (hs : starEach [e] X.env = (false, eval e X.env) :: starEach [] X.env := by rfl)
    (hs2 : starEach [.Call (.Name "reversed" p2) [e] [] pos2] X.env = (false, eval (.Call (.Name "reversed" p2) [e] [] pos2) X.env) :: starEach [] X.env := by rfl) :
    PE X (.Call (.Name "list" p) [.Call (.Name "reversed" p2) [e] [] pos2] [] pos) (tLstRev X.K te) := by
  refine ⟨fun pins s σ H Q I h => ?_⟩
  refine Call_ (ld_blt I hg hm PyProof.Rows.boot_list (PyProof.Rows.callWith_type1 (args_cons (Call_ (ld_blt I hg2 hm2 PyProof.Rows.boot_reversed (PyProof.Rows.callWith_type1 (args_cons (thn (he.run pins s σ H _ I h) fun u s1 ⟨v, H1, I1, r1, q1⟩ => args_nil ?_) hs) hs rfl))) hs2) hs2 rfl))
  obtain ⟨a, xs, ev, hq, q⟩ := q1
  subst ev
  obtain rfl : u = Value.ref a := r1
  obtain ⟨its, rv, p', hz⟩ := I1.list hq
  refine call_reversed_list p'.isList (args_nil ?_)
  have k0 : ∀ b o, s1.heap.get? b = some o → (s1.heap.push (revObj a ((its.toArray.size : Int) - 1))).get? b = some o := fun b o e => Heap.get?_push_of_some _ e
  have I2 : Inv X pins σ H1 { s1 with heap := s1.heap.push (revObj a ((its.toArray.size : Int) - 1)) } := I1.kept (t' := s1.toks) k0
  have fp := I1.fpOk (H' := H1) (b := s1.heap.objs.size) (Nat.le_refl _) (I1.hok.fresh (Nat.le_refl _))
  have hl := p'.isList
  obtain ⟨ol, hol, _⟩ := id hl
  have hne : a ≠ s1.heap.objs.size := Nat.ne_of_lt (Heap.lt_size hol)
  have hn : its.toArray.size ≤ sizeLine := by rw [List.size_toArray, ← rv.length]; exact hz
  refine RT.call_list_rev (s := { s1 with heap := s1.heap.push (revObj a ((its.toArray.size : Int) - 1)) }) (I1.ok.hd hc) ⟨_, Heap.get?_push_size _ rfl, rfl, rfl⟩ (hl.push _) hne hn fun h' tk acc c hk hS hi => ?_
  have hT : (s1.heap.push (revObj a ((its.toArray.size : Int) - 1))).objs.size ≤ (s1.heap.push (revObj a ((its.toArray.size : Int) - 1))).objs.size := Nat.le_refl _
  have hfp : ∀ b ∈ [s1.heap.objs.size], FpOk X pins H1 b := fun b hb => by
    have e : b = s1.heap.objs.size := by simpa using hb
    rw [e]; exact fp
  have I3 := I2.turnedNew (t' := tk) (h' := h') (T := (s1.heap.push (revObj a ((its.toArray.size : Int) - 1))).objs.size) (ob := .lst xs.reverse) (fun b o hb e => hk b o (by simpa using hb) e) hfp hT ?_
  · exact ⟨.ref _, _, I3, rfl, q _ (I2.hok.fresh (Nat.le_refl _))⟩
  · refine ⟨by rw [List.length_reverse]; exact hz, acc.toList, c, RT.vals_rev rv hi, ?_⟩
    rw [Array.toArray_toList]
    exact hS
end
end L2
end
section
set_option maxRecDepth 100000
set_option maxHeartbeats 4000000
namespace Ev
open PySem PySem.Spec L2
variable {P : Pg}
/-! ### built-in functions -/
def lenF : List D → Option D
  | [.lst _ xs] => some (.int xs.length)
  | [.tup xs] => some (.int xs.length)
  | [.scr xs] => some (.int xs.length)
  | [.str z] => if z.length ≤ sizeLine then some (.int z.length) else none
  | _ => none
theorem Rps.len {K : PySem.W.Frag} {mg : Str → Option Value} {H F : Hp} {xs : List D} {vs : List V} {c : List Addr} (r : Rps K mg H F xs vs c) : (xs.length : Int) = vs.length := by rw [r.length]
def opLen : Opr P := opB "len" "len" 1 lenF (by decide) (by kernel_rfl) (by decide) (by decide) (by
  intro X N sc ok ds d h
  refine ⟨_, call_len, fun vs H F c Q r g k => ?_⟩
  match ds, h with
  | [.lst o xs], h =>
    cases h
    obtain ⟨v, cd, rfl, r, _⟩ := r.one
    obtain ⟨a, vs, cs, rfl, q, rs, _⟩ := r.lstE g.sub
    exact ⟨_, xs.length, rfl, .inl ⟨vs, .inl q, rs.length⟩, k.int g⟩
  | [.tup xs], h =>
    cases h
    obtain ⟨v, cd, rfl, r, _⟩ := r.one
    obtain ⟨a, vs, rfl, q, rs⟩ := r.tupE g.sub
    exact ⟨_, xs.length, rfl, .inr ⟨vs, q, rs.length⟩, k.int g⟩
  | [.scr xs], h =>
    cases h
    obtain ⟨v, cd, rfl, r, _⟩ := r.one
    simp only [Rp] at r
    obtain ⟨a, rfl, q, _⟩ := r
    exact ⟨_, xs.length, rfl, .inl ⟨_, g.sub.sqL q, by rw [List.length_map]⟩, k.int g⟩
  | [.str z], h =>
    simp only [lenF] at h
    split at h
    · rename_i hz
      cases h
      obtain ⟨v, cd, rfl, r, _⟩ := r.one
      rw [r.strE]
      exact ⟨_, z.length, rfl, ⟨hz, rfl⟩, k.int g⟩
    · cases h)
def absF : List D → Option D
  | [.int i] => some (.int (if i < 0 then -i else i))
  | _ => none
def opAbs : Opr P := opB "abs" "abs" 1 absF (by decide) (by kernel_rfl) (by decide) (by decide) (by
  intro X N sc ok ds d h
  refine ⟨_, call_abs, fun vs H F c Q r g k => ?_⟩
  match ds, h with
  | [.int i], h =>
    cases h
    obtain ⟨v, cd, rfl, r, _⟩ := r.one
    rw [r.intE]
    exact ⟨i, rfl, k.int g⟩)
/-! ### list(reversed(x)) -/
def shLR (sc : Scope) : Expr → Option (List Expr)
  | .Call (.Name y _) [.Call (.Name z _) [e] [] _] [] _ => if y = "list" ∧ z = "reversed" ∧ glB sc "list" = true ∧ glB sc "reversed" = true ∧ plainX e = true then some [e] else none
  | _ => none
theorem shLR_some {sc : Scope} {e : Expr} {es : List Expr} (h : shLR sc e = some es) : ∃ p q a p2 p3, e = .Call (.Name "list" p) [.Call (.Name "reversed" q) [a] [] p2] [] p3 ∧ es = [a] ∧ glB sc "list" = true ∧ glB sc "reversed" = true ∧ plainX a = true := by
  unfold shLR at h
  split at h
  · split at h
    · rename_i hc
      obtain ⟨rfl, rfl, h1, h2, h3⟩ := hc
      exact ⟨_, _, _, _, _, rfl, (Option.some.inj h).symm, h1, h2, h3⟩
    · cases h
  · cases h
def revF : List D → Option D
  | [.lst _ xs] => if isFs xs = true then some (.lst true xs.reverse) else none
  | [.scr xs] => some (.lst true (xs.map D.int).reverse)
  | _ => none
theorem Rps.rev {K : PySem.W.Frag} {mg : Str → Option Value} {H F : Hp} : ∀ {xs : List D} {vs : List V}, Rps K mg H F xs vs [] → Rps K mg H F xs.reverse vs.reverse []
  | [], vs, h => by
    simp only [Rps] at h
    rw [h.1]; simp only [List.reverse_nil, Rps]; exact ⟨trivial, trivial⟩
  | d :: r, vs, h => by
    simp only [Rps] at h
    obtain ⟨v, w, c1, c2, rfl, e, h1, h2⟩ := h
    obtain ⟨rfl, rfl⟩ := List.append_eq_nil_iff.mp e.symm
    rw [List.reverse_cons, List.reverse_cons]
    have z : Rps K mg H F [d] [v] ([] ++ []) := by
      simp only [Rps]
      exact ⟨v, [], [], [], rfl, rfl, h1, rfl, rfl⟩
    exact Rps.append (c1 := []) (c2 := []) h2.rev z
def opListRev : Opr P where
  f := revF
  sh := shLR
  ok := by
    intro X N sc ok e es he ds d hd
    obtain ⟨p, q, a, p2, p3, rfl, rfl, h1, h2, h3⟩ := shLR_some he
    have hh : HasOp X (.Call (.Name "list" p) [.Call (.Name "reversed" q) [a] [] p2] [] p3) [a] (R1of fun x H1 Q => ∃ (a : Addr) (xs : List V), x = .ref a ∧ SqL X.K H1 a xs ∧ ∀ p, H1 p = none → Q (.ref p) (upd H1 p (.lst xs.reverse))) :=
      hasOp1 fun ta pt => pe_listRev ok.calm (ok.gl h1) (ok.blt _ (by decide)) (ok.gl h2) (ok.blt _ (by decide)) pt (star_cons h3)
    refine ⟨_, hh, hasT_of hh (fun _ => rfl), fun vs H F c Q r g k => ?_⟩
    match ds, hd with
    | [.lst o xs], hd =>
      simp only [revF] at hd
      split at hd
      · rename_i hf
        cases hd
        obtain ⟨v, cd, rfl, r, _⟩ := r.one
        obtain ⟨b, vs, cs, rfl, q, rs, _⟩ := r.lstE g.sub
        exact ⟨b, vs, rfl, .inl q, fun p hp => k.lst g hp (rs.flat hf).rev⟩
      · cases hd
    | [.scr xs], hd =>
      cases hd
      obtain ⟨v, cd, rfl, r, _⟩ := r.one
      simp only [Rp] at r
      obtain ⟨b, rfl, q, _⟩ := r
      exact ⟨b, _, rfl, g.sub.sqL q, fun p hp => k.lst g hp (Rps.intsOf xs).rev⟩
  pl := by
    intro sc e es he
    obtain ⟨p, q, a, p2, p3, rfl, _⟩ := shLR_some he
    rfl
  sound := by
    intro X N sc ok e es he
    obtain ⟨p, q, a, p2, p3, rfl, rfl, h1, h2, h3⟩ := shLR_some he
    have hh : HasOp X (.Call (.Name "list" p) [.Call (.Name "reversed" q) [a] [] p2] [] p3) [a] (R1of fun x H1 Q => ∃ (a : Addr) (xs : List V), x = .ref a ∧ SqL X.K H1 a xs ∧ ∀ p, H1 p = none → Q (.ref p) (upd H1 p (.lst xs.reverse))) :=
      hasOp1 fun ta pt => pe_listRev ok.calm (ok.gl h1) (ok.blt _ (by decide)) (ok.gl h2) (ok.blt _ (by decide)) pt (star_cons h3)
    exact ⟨_, hh, hasT_of hh (fun _ => rfl)⟩
/-! ### x[i] of values -/
def shIx (_ : Scope) : Expr → Option (List Expr)
  | .Subscript e i _ => if plainX i = true then some [e, i] else none
  | _ => none
theorem shIx_some {sc : Scope} {e : Expr} {es : List Expr} (h : shIx sc e = some es) : ∃ a i pos, e = .Subscript a i pos ∧ es = [a, i] ∧ plainX i = true := by
  unfold shIx at h
  split at h
  · split at h
    · rename_i hc
      exact ⟨_, _, _, rfl, (Option.some.inj h).symm, hc⟩
    · cases h
  · cases h
def ixF : List D → Option D
  | [.lst _ xs, .int i] => (atI xs i).bind fun d => if isF d = true then some d else none
  | [.tup xs, .int i] => (atI xs i).bind fun d => if isF d = true then some d else none
  | [.scr xs, .int i] => (atI xs i).map .int
  | [.str z, .int i] => if z.length ≤ sizeLine then (atI z.cps.toList i).map fun c => .str ⟨#[c]⟩ else none
  | _ => none
def opIx : Opr P where
  f := ixF
  sh := shIx
  ok := by
    intro X N sc ok e es he ds d hd
    obtain ⟨a, i, pos, rfl, rfl, h1⟩ := shIx_some he
    match ds, hd with
    | [.lst o xs, .int j], hd =>
      have hh : HasOp X (.Subscript a i pos) [a, i] _ := hasOp2 fun ta tb p q => pe_ix ix_list p q (plainIx h1)
      refine ⟨_, hh, hasT_of hh (fun _ => rfl), fun vs H F c Q r g k => ?_⟩
      obtain ⟨y, e1, e2⟩ := Option.bind_eq_some_iff.mp hd
      split at e2
      · rename_i hf
        cases e2
        obtain ⟨x, w, ca, cb, rfl, r1, _, r2, _⟩ := r.two
        obtain ⟨b, vs, cs, rfl, q, rs, _⟩ := r1.lstE g.sub
        obtain ⟨n, h3, h4⟩ := atI_of rs.length e1
        obtain ⟨v1, c1, z1, z2, _⟩ := rs.get h3
        exact ⟨b, vs, j, v1, rfl, r2.intE, .inl q, h4 v1 z1, k.flat g (z2.flat hf)⟩
      · cases e2
    | [.scr xs, .int j], hd =>
      have hh : HasOp X (.Subscript a i pos) [a, i] _ := hasOp2 fun ta tb p q => pe_ix ix_list p q (plainIx h1)
      refine ⟨_, hh, hasT_of hh (fun _ => rfl), fun vs H F c Q r g k => ?_⟩
      obtain ⟨y, e1, rfl⟩ := Option.map_eq_some_iff.mp hd
      obtain ⟨x, w, ca, cb, rfl, r1, _, r2, _⟩ := r.two
      simp only [Rp] at r1
      obtain ⟨b, rfl, q, _⟩ := r1
      obtain ⟨n, h3, h4⟩ := atI_of (ys := xs.map V.int) (by rw [List.length_map]) e1
      exact ⟨b, _, j, .int y, rfl, r2.intE, g.sub.sqL q, h4 _ (by rw [List.getElem?_map, h3]; rfl), k.int g⟩
    | [.str z, .int j], hd =>
      have hh : HasOp X (.Subscript a i pos) [a, i] _ := hasOp2 fun ta tb p q => pe_ix ix_str p q (plainIx h1)
      refine ⟨_, hh, hasT_of hh (fun _ => rfl), fun vs H F c Q r g k => ?_⟩
      simp only [ixF] at hd
      split at hd
      · rename_i hz
        obtain ⟨y, e1, rfl⟩ := Option.map_eq_some_iff.mp hd
        obtain ⟨x, w, ca, cb, rfl, r1, _, r2, _⟩ := r.two
        exact ⟨z, j, y, r1.strE, r2.intE, hz, e1, k.str g⟩
      · cases hd
    | [.tup xs, .int j], hd =>
      have hh : HasOp X (.Subscript a i pos) [a, i] _ := hasOp2 fun ta tb p q => pe_ix ix_tup p q (plainIx h1)
      refine ⟨_, hh, hasT_of hh (fun _ => rfl), fun vs H F c Q r g k => ?_⟩
      obtain ⟨y, e1, e2⟩ := Option.bind_eq_some_iff.mp hd
      split at e2
      · rename_i hf
        cases e2
        obtain ⟨x, w, ca, cb, rfl, r1, _, r2, _⟩ := r.two
        obtain ⟨b, vs, rfl, q, rs⟩ := r1.tupE g.sub
        obtain ⟨n, h3, h4⟩ := atI_of rs.length e1
        obtain ⟨v1, c1, z1, z2, _⟩ := rs.get h3
        exact ⟨b, vs, j, v1, rfl, r2.intE, q, h4 v1 z1, k.flat g (z2.flat hf)⟩
      · cases e2
  pl := by
    intro sc e es he
    obtain ⟨a, i, pos, rfl, _⟩ := shIx_some he
    rfl
  sound := by
    intro X N sc ok e es he
    obtain ⟨a, i, pos, rfl, rfl, h1⟩ := shIx_some he
    have hh : HasOp X (.Subscript a i pos) [a, i] _ := hasOp2 fun ta tb p q => pe_ix ix_list p q (plainIx h1)
    exact ⟨_, hh, hasT_of hh (fun _ => rfl)⟩
end Ev
end
section
set_option maxRecDepth 100000
set_option maxHeartbeats 4000000
namespace Ev
open PySem PySem.Spec L2
variable {P : Pg}
/-! ### methods of lists -/
def lstB : D → Bool
  | .lst _ _ => true
  | .scr _ => true
  | _ => false
theorem lst_mid (K : PySem.W.Frag) (mg : Str → Option Value) (d : D) (h : lstB d = true) (x : V) (H F : Hp) (c : List Addr) (r : Rp K mg H F d x c) (l : Le F H) : tyV K "list" x H := by
  cases d with
  | lst o xs =>
    obtain ⟨a, vs, cs, rfl, q, _⟩ := r.lstE l
    exact .inl ⟨rfl, vs, .inl q⟩
  | scr xs =>
    simp only [Rp] at r
    obtain ⟨a, rfl, q, _⟩ := r
    exact .inl ⟨rfl, _, l.sqL q⟩
  | _ => simp [lstB] at h
/-- x.m(..) on one line -/
def shM (m : Str) (n : Nat) (_ : Scope) : Expr → Option (Expr × List Expr)
  | .Call (.Attribute o m' apos) as [] pos => if m' = m ∧ as.length = n ∧ plainX o = true ∧ as.all plainX = true ∧ (apos.endLine == pos.line) = true then some (o, as) else none
  | _ => none
theorem shM_some {m : Str} {n : Nat} {sc : Scope} {e x : Expr} {ys : List Expr} (h : shM m n sc e = some (x, ys)) : ∃ apos pos, e = .Call (.Attribute x m apos) ys [] pos ∧ ys.length = n ∧ plainX x = true ∧ ys.all plainX = true ∧ (apos.endLine == pos.line) = true := by
  unfold shM at h
  split at h
  · split at h
    · rename_i hc
      obtain ⟨rfl, h1, h2, h3, h4⟩ := hc
      cases h
      exact ⟨_, _, rfl, h1, h2, h3, h4⟩
    · cases h
  · cases h
/-- a method's rule as operands one by one -/
theorem hasM_bm {X : Cx} {T id : String} {name : Str} {r : V → List V → Hp → VK → Prop} {x : Expr} {ys : List Expr} {apos pos : Pos} (pa : PlainAttrs T) (slot : Slot T name id) (hty : typeOf (.builtin id) = pure (.type "method_descriptor")) (hm : MtR X id r)
    (hx : plainX x = true) (hy : ys.all plainX = true) (hl : (apos.endLine == pos.line) = true) (hn : ys.length < 29) :
    HasM X (.Call (.Attribute x name apos) ys [] pos) x ys (tyV X.K T) (fun vs H Q => match vs with
      | [] => False
      | v :: ws => r v ws H Q) := by
  intro t ts p1 p2
  cases ys with
  | nil =>
    cases p2
    exact pe_bm0 pa slot hty hm p1 (base_of hx) hl
  | cons e es =>
    have hy' := hy
    rw [List.all_cons, Bool.and_eq_true] at hy'
    have z := pe_bm pa slot hty hm p1 (pa_all p2 hy) (base_of hx) (by
      have h1 := noStar (env := X.env) (pos := pos) hy
      have h2 : (backTo pos (starEach (e :: es) X.env)).all (fun x => !x.1) = true := by
        rw [List.all_eq_not_any_not]
        have : (fun (x : Bool × Sem Value) => !(!x.1)) = (·.1) := by funext x; simp
        simp only [this, h1]; rfl
      rw [h2]
      simp only [List.length_cons] at hn
      simp [keywordEach, backToKw]
      omega) hl (star_cons hy'.1) (noStar hy'.2)
    have e2 : (fun (σ : L2.St) (H : Hp) (Q : VK) => t σ H fun v H1 => tyV X.K T v H1 ∧ tOps ts (fun vs H2 Q => match v :: vs with
      | [] => False
      | v :: ws => r v ws H2 Q) σ H1 Q) = tBM X.K T r t (tL ts) := by
      funext σ H Q
      unfold tBM
      congr 1
      funext v H1
      rw [tL_ops]
    rw [e2]
    exact z
def mutM (id : String) (name : Str) (n : Nat) (r : V → List V → Hp → VK → Prop) (f : D → List D → Option (D × D)) (slot : Slot "list" name id) (hty : typeOf (.builtin id) = pure (.type "method_descriptor")) (hm : ∀ X : Cx, MtR X id r) (hn : n < 29)
    (h : ∀ (X : Cx) (d : D) (ds : List D) (a d' : D), f d ds = some (a, d') → ∀ (x : V) (ws : List V) (H F : Hp) (c cd cw : List Addr) (Q : VK), Rp X.K X.mg H F d x cd → Rps X.K X.mg H F ds ws cw → Good H F (cd ++ cw ++ c) →
      (∀ v H' F' cr cd', Le F F' → (∀ b ∈ c, H' b = H b) → Good H' F' (cr ++ cd' ++ c) → Rp X.K X.mg H' F' a v cr → Rp X.K X.mg H' F' d' x cd' → Q v H') → r x ws H Q) : Mut P where
  f := f
  hd := lstB
  Mid := fun K => tyV K "list"
  sh := shM name n
  mid := lst_mid
  pl := by
    intro sc e x ys he
    obtain ⟨_, _, rfl, _⟩ := shM_some he
    rfl
  sound := by
    intro X N sc ok e x ys he
    obtain ⟨apos, pos, rfl, h1, h2, h3, h4⟩ := shM_some he
    exact ⟨_, hasM_bm PySem.F.plainAttrs_list slot hty (hm X) h2 h3 h4 (by omega)⟩
  ok := by
    intro X N sc ok e x ys he d ds a d' hf
    obtain ⟨apos, pos, rfl, h1, h2, h3, h4⟩ := shM_some he
    exact ⟨_, hasM_bm PySem.F.plainAttrs_list slot hty (hm X) h2 h3 h4 (by omega), fun v ws H F c cd cw Q r1 r2 g k => h X d ds a d' hf v ws H F c cd cw Q r1 r2 g k⟩
def appF : D → List D → Option (D × D)
  | .lst true xs, [y] => if xs.length < sizeLine then some (.non, .lst true (xs ++ [y])) else none
  | _, _ => none
/-- an owned list rewritten -/
theorem lst_write {K : PySem.W.Frag} {mg : Str → Option Value} {H F : Hp} {a : Addr} {vs : List V} {xs : List D} {c cx : List Addr} (g : Good H F (a :: (c ++ cx))) (r : Rps K mg H F xs vs c) :
    Good (upd H a (.lst vs)) F (a :: (c ++ cx)) ∧ (∀ b ∈ cx, upd H a (.lst vs) b = H b) ∧ Rp K mg (upd H a (.lst vs)) F (.lst true xs) (.ref a) (a :: c) := by
  have nd := (List.nodup_cons.mp g.nd).1
  have ku : ∀ b ∈ c ++ cx, upd H a (.lst vs) b = H b := fun b hb => upd_ne fun e => nd (e ▸ hb)
  refine ⟨g.write (by simp), fun b hb => ku b (by simp [hb]), ?_⟩
  simp only [Rp]
  exact ⟨a, vs, c, rfl, upd_same, Rps.keep (Le.refl F) _ _ _ r fun b hb => ku b (by simp [hb]), rfl⟩
def mAppend : Mut P := mutM "list.append" "append" 1 rAppend appF PySem.F.slot_list_append PySem.F.type_list_append (fun _ => mt_append) (by decide) (by
  intro X d ds a d' hf x ws H F c cd cw Q r1 r2 g k
  match d, ds, hf with
  | .lst true xs, [y], hf =>
    simp only [appF] at hf
    split at hf
    · rename_i hl
      cases hf
      simp only [Rp] at r1
      obtain ⟨p, vs, c', rfl, hH, rs, rfl⟩ := r1
      have r2' := r2
      simp only [Rps] at r2
      obtain ⟨v, w, c1, c2, rfl, rfl, ry, rfl, rfl⟩ := r2
      refine ⟨p, vs, v, rfl, rfl, hH, by rw [← rs.length]; exact hl, ?_⟩
      have g2 : Good H F (p :: ((c' ++ (c1 ++ [])) ++ c)) := g.perm (perm_of fun z => by simp only [List.count_append, List.count_cons, List.count_nil]; omega)
      obtain ⟨g3, k3, r3⟩ := lst_write g2 (rs.append r2')
      refine k .non _ F [] (p :: (c' ++ (c1 ++ []))) (Le.refl F) k3 (by simpa using g3) (by simp only [Rp]; exact ⟨trivial, trivial⟩) r3
    · cases hf)
def popF : D → List D → Option (D × D)
  | .lst true xs, [] => (xs[xs.length - 1]?).map fun y => (y, .lst true xs.dropLast)
  | _, _ => none
theorem Rps.split {K : PySem.W.Frag} {mg : Str → Option Value} {H F : Hp} : ∀ {xs : List D} {vs : List V} {c : List Addr} {y : D}, Rps K mg H F xs vs c → xs[xs.length - 1]? = some y → ∃ v c1 c2, vs[vs.length - 1]? = some v ∧ Rp K mg H F y v c2 ∧ Rps K mg H F xs.dropLast vs.dropLast c1 ∧ c = c1 ++ c2
  | [], vs, c, y, h, e => by simp at e
  | [d], vs, c, y, h, e => by
    simp at e
    subst e
    simp only [Rps] at h
    obtain ⟨v, w, c1, c2, rfl, rfl, r, rfl, rfl⟩ := h
    exact ⟨v, [], c1, rfl, r, by simp only [List.dropLast_singleton, Rps]; exact ⟨trivial, trivial⟩, by simp⟩
  | d :: d2 :: r, vs, c, y, h, e => by
    rw [Rps] at h
    obtain ⟨v, w, c1, c2, rfl, rfl, r1, r2⟩ := h
    have hw : w.length = r.length + 1 := by rw [← r2.length]; rfl
    obtain ⟨v', c3, c4, h1, h2, h3, h4⟩ := Rps.split r2 (y := y) (by simpa using e)
    cases w with
    | nil => simp at hw
    | cons v2 w =>
      refine ⟨v', c1 ++ c3, c4, by simpa using h1, h2, ?_, by rw [h4, List.append_assoc]⟩
      show Rps K mg H F (d :: (d2 :: r).dropLast) (v :: (v2 :: w).dropLast) _
      rw [Rps]
      exact ⟨v, _, c1, c3, rfl, rfl, r1, h3⟩
def mPop : Mut P := mutM "list.pop" "pop" 0 rPop popF PySem.F.slot_list_pop PySem.F.type_list_pop (fun _ => mt_pop) (by decide) (by
  intro X d ds a d' hf x ws H F c cd cw Q r1 r2 g k
  match d, ds, hf with
  | .lst true xs, [], hf =>
    obtain ⟨y, h1, h2⟩ := Option.map_eq_some_iff.mp hf
    cases h2
    simp only [Rp] at r1
    obtain ⟨p, vs, c', rfl, hH, rs, rfl⟩ := r1
    simp only [Rps] at r2
    obtain ⟨rfl, rfl⟩ := r2
    obtain ⟨v, c1, c2, e1, ry, rd, rfl⟩ := rs.split h1
    refine ⟨p, vs, v, rfl, rfl, hH, e1, ?_⟩
    have g2 : Good H F (p :: (c1 ++ (c2 ++ c))) := g.perm (perm_of fun z => by simp only [List.count_append, List.count_cons, List.count_nil]; omega)
    obtain ⟨g3, k3, r3⟩ := lst_write g2 rd
    refine k v _ F c2 (p :: c1) (Le.refl F) (fun b hb => k3 b (by simp [hb])) (g3.perm (perm_of fun z => by simp only [List.count_append, List.count_cons]; omega)) (Rp.keep (Le.refl F) _ _ _ ry fun b hb => k3 b (by simp [hb])) r3)
/-! ### l[i] = v -/
def shPutI (_ : Scope) : Expr → Option (List Expr)
  | .Subscript o i _ => if plainX i = true then some [o, i] else none
  | _ => none
theorem shPutI_some {sc : Scope} {e : Expr} {es : List Expr} (h : shPutI sc e = some es) : ∃ o i pos, e = .Subscript o i pos ∧ es = [o, i] ∧ plainX i = true := by
  unfold shPutI at h
  split at h
  · split at h
    · rename_i hc
      exact ⟨_, _, _, rfl, (Option.some.inj h).symm, hc⟩
    · cases h
  · cases h
def putIF : D → List D → D → Option D
  | .lst true xs, [.int k], y => (ixN xs.length k).map fun j => .lst true (xs.set j y)
  | _, _, _ => none
theorem swI {o i v : Expr} {p2 : Pos} {env : Env} : swappedStores [.Subscript o i p2] v env = pure none := rfl
theorem swS {o i v : Expr} {p2 : Pos} {l : Nat} {env : Env} : swapsWithSole [.Subscript o i p2] v l env = pure false := by
  unfold swapsWithSole
  cases v <;> rfl
theorem ps_putI {X : Cx} {o i v : Expr} {p2 pos : Pos} {tv : TE} {ts : List TE} (h : plainX i = true) (hv : PE X v tv) (ht : AllPE X [o, i] ts) :
    PS X (.Assign [.Subscript o i p2] v pos) (fun D σ H => tv σ H fun y H1 => tL ts σ H1 fun vs H2 => (match vs with
      | [x, k] => rSetL x k y H2 fun H3 => D.nx σ H3
      | _ => False)) := by
  cases ht with
  | cons p1 ht =>
    cases ht with
    | cons p3 ht =>
      cases ht
      exact ps_asg hv (pg_sub p1 p3 set_list (sub_assign h)) swS swI (by rfl)
def putI : Put P where
  f := putIF
  sh := shPutI
  sound := by
    intro X N sc ok e es he
    obtain ⟨o, i, p2, rfl, rfl, h⟩ := shPutI_some he
    refine ⟨fun vs y H2 Q => (match vs with
      | [x, k] => rSetL x k y H2 Q
      | _ => False), fun v pos tv ts hv ht => ps_putI h hv ht⟩
  ok := by
    intro X N sc ok e es he d ds y d' hf
    obtain ⟨o, i, p2, rfl, rfl, h⟩ := shPutI_some he
    refine ⟨fun vs y H2 Q => (match vs with
      | [x, k] => rSetL x k y H2 Q
      | _ => False), fun v pos tv ts hv ht => ?_, fun x ws yv H F c cd cw cy Q r1 r2 ry g k => ?_⟩
    · exact ps_putI h hv ht
    · match d, ds, hf with
      | .lst true xs, [.int kk], hf =>
        obtain ⟨j, hj, rfl⟩ := Option.map_eq_some_iff.mp hf
        simp only [Rp] at r1
        obtain ⟨p, vs, c', rfl, hH, rs, rfl⟩ := r1
        simp only [Rps] at r2
        obtain ⟨w, w', c1, c2, rfl, rfl, rk, rfl, rfl⟩ := r2
        refine ⟨p, vs, kk, j, rfl, rk.intE, hH, by rw [← rs.length]; exact hj, ?_⟩
        obtain ⟨c6, g6, rs6, p6⟩ := Rps.setD (q := j) rs (ixN_seq hj).2.1 ry
        have g2 : Good H F (p :: (c6 ++ c)) := g.part (g := g6 ++ c1) (perm_of fun z => by
          have := p6.count_eq z
          simp only [List.count_append, List.count_cons, List.count_nil] at *
          omega)
        obtain ⟨g3, k3, r3⟩ := lst_write g2 rs6
        exact k _ (p :: c6) k3 (by simpa using g3) r3
end Ev
end
section
set_option maxRecDepth 100000
set_option maxHeartbeats 4000000
namespace Ev
open PySem PySem.Spec L2
variable {P : Pg}
/-! ### walks -/
def shIt (_ : Scope) (_ e : Expr) : Option (List Expr) := if plainX e = true then some [e] else none
theorem shIt_some {sc : Scope} {tg e : Expr} {es : List Expr} (h : shIt sc tg e = some es) : es = [e] ∧ plainX e = true := by
  unfold shIt at h
  split at h
  · rename_i hc; exact ⟨(Option.some.inj h).symm, hc⟩
  · cases h
def itLF : List D → Option (List D)
  | [.lst _ xs] => if isFs xs = true then some xs else none
  | [.scr xs] => some (xs.map .int)
  | [.tup xs] => if isFs xs = true then some xs else none
  | _ => none
def sL (K : PySem.W.Frag) : List V → Hp → (It → Hp → Prop) → Prop := fun vs H R => match vs with
  | [x] => ∃ a, x = .ref a ∧ (∃ xs, SqL K H a xs) ∧ R (Itl K a) H
  | _ => False
def sT (K : PySem.W.Frag) : List V → Hp → (It → Hp → Prop) → Prop := fun vs H R => match vs with
  | [x] => ∃ a, x = .ref a ∧ (∃ xs, SqT K H a xs) ∧ R (Itt K a) H
  | _ => False
def jOf (f : Addr → It) : List V → It
  | [.ref a] => f a
  | _ => f 0
theorem flat_at {K : PySem.W.Frag} {mg : Str → Option Value} {H F : Hp} {xs : List D} {vs : List V} {cs : List Addr} (r : Rps K mg H F xs vs cs) (hf : isFs xs = true) {i : Nat} {d : D} (e : xs[i]? = some d) : ∃ v, vs[i]? = some v ∧ Rp K mg H F d v [] := by
  obtain ⟨v, c1, h1, h2, _⟩ := (r.flat hf).get e
  have : c1 = [] := by
    cases c1 with
    | nil => rfl
    | cons a _ => rename_i h; have := h a (by simp); simp at this
  subst this
  exact ⟨v, h1, h2⟩
def itList : Itr P where
  f := itLF
  sh := shIt
  pl := by
    intro sc tg e es he
    exact (shIt_some he).2
  sound := by
    intro X N sc ok tg e es he
    obtain ⟨rfl, h⟩ := shIt_some he
    refine ⟨sL X.K, fun ts ht => ?_⟩
    cases ht with
    | cons p1 ht => cases ht; exact pi_list p1
  ok := by
    intro X N sc ok tg e es he ds l hl
    obtain ⟨rfl, h⟩ := shIt_some he
    match ds, hl with
    | [.lst o xs], hl =>
      simp only [itLF] at hl
      split at hl
      case isFalse => cases hl
      case isTrue hf =>
      cases hl
      refine ⟨sL X.K, fun ts ht => ?_, fun vs => ⟨jOf (Itl X.K) vs, fun H F c R r g hR => ?_, fun H F c r g i => ⟨fun d hd => ?_, fun hi => ?_⟩⟩⟩
      · cases ht with
        | cons p1 ht => cases ht; exact pi_list p1
      · obtain ⟨v, cd, rfl, r, _⟩ := r.one
        obtain ⟨a, vs, cs, rfl, q, rs, _⟩ := r.lstE g.sub
        exact ⟨a, rfl, ⟨vs, .inl q⟩, hR⟩
      · obtain ⟨v, cd, rfl, r, _⟩ := r.one
        obtain ⟨a, vs, cs, rfl, q, rs, _⟩ := r.lstE g.sub
        obtain ⟨w, z1, z2⟩ := flat_at rs hf hd
        refine ⟨⟨vs, w, .inl q, z1⟩, fun x H' hy => ⟨F, Le.refl F, ?_⟩⟩
        obtain ⟨rfl, hy⟩ := hy
        have := hy vs (.inl q)
        rw [z1] at this; cases this
        exact ⟨g, fun _ _ => rfl, z2⟩
      · obtain ⟨v, cd, rfl, r, _⟩ := r.one
        obtain ⟨a, vs, cs, rfl, q, rs, _⟩ := r.lstE g.sub
        exact ⟨vs, .inl q, by rw [← rs.length]; exact hi⟩
    | [.scr xs], hl =>
      cases hl
      refine ⟨sL X.K, fun ts ht => ?_, fun vs => ⟨jOf (Itl X.K) vs, fun H F c R r g hR => ?_, fun H F c r g i => ⟨fun d hd => ?_, fun hi => ?_⟩⟩⟩
      · cases ht with
        | cons p1 ht => cases ht; exact pi_list p1
      · obtain ⟨v, cd, rfl, r, _⟩ := r.one
        simp only [Rp] at r
        obtain ⟨a, rfl, q, _⟩ := r
        exact ⟨a, rfl, ⟨_, g.sub.sqL q⟩, hR⟩
      · obtain ⟨v, cd, rfl, r, _⟩ := r.one
        simp only [Rp] at r
        obtain ⟨a, rfl, q, _⟩ := r
        obtain ⟨w, z1, z2⟩ := flat_at (K := X.K) (mg := X.mg) (H := H) (F := F) (Rps.intsOf xs) (by
          rw [isFs_all]; simp [isF]) hd
        refine ⟨⟨_, w, g.sub.sqL q, z1⟩, fun x H' hy => ⟨F, Le.refl F, ?_⟩⟩
        obtain ⟨rfl, hy⟩ := hy
        have := hy _ (g.sub.sqL q)
        rw [z1] at this; cases this
        exact ⟨g, fun _ _ => rfl, z2⟩
      · obtain ⟨v, cd, rfl, r, _⟩ := r.one
        simp only [Rp] at r
        obtain ⟨a, rfl, q, _⟩ := r
        exact ⟨_, g.sub.sqL q, by simpa using hi⟩
    | [.tup xs], hl =>
      simp only [itLF] at hl
      split at hl
      case isFalse => cases hl
      case isTrue hf =>
      cases hl
      refine ⟨sT X.K, fun ts ht => ?_, fun vs => ⟨jOf (Itt X.K) vs, fun H F c R r g hR => ?_, fun H F c r g i => ⟨fun d hd => ?_, fun hi => ?_⟩⟩⟩
      · cases ht with
        | cons p1 ht => cases ht; exact pi_tup p1
      · obtain ⟨v, cd, rfl, r, _⟩ := r.one
        obtain ⟨a, vs, rfl, q, rs⟩ := r.tupE g.sub
        exact ⟨a, rfl, ⟨vs, q⟩, hR⟩
      · obtain ⟨v, cd, rfl, r, _⟩ := r.one
        obtain ⟨a, vs, rfl, q, rs⟩ := r.tupE g.sub
        obtain ⟨w, z1, z2⟩ := flat_at rs hf hd
        refine ⟨⟨vs, w, q, z1⟩, fun x H' hy => ⟨F, Le.refl F, ?_⟩⟩
        obtain ⟨rfl, hy⟩ := hy
        have := hy vs q
        rw [z1] at this; cases this
        exact ⟨g, fun _ _ => rfl, z2⟩
      · obtain ⟨v, cd, rfl, r, _⟩ := r.one
        obtain ⟨a, vs, rfl, q, rs⟩ := r.tupE g.sub
        exact ⟨vs, q, by rw [← rs.length]; exact hi⟩
/-! range(..) -/
def rngL (lo : Int) (n : Nat) : List D := (List.range n).map fun i : Nat => .int (lo + (i : Int))
theorem rngL_get {lo : Int} {n i : Nat} {d : D} (h : (rngL lo n)[i]? = some d) : i < n ∧ d = .int (lo + (i : Int)) := by
  unfold rngL at h
  rw [List.getElem?_map] at h
  obtain ⟨j, e1, e2⟩ := Option.map_eq_some_iff.mp h
  obtain ⟨h1, h2⟩ := List.getElem?_eq_some_iff.mp e1
  rw [List.getElem_range] at h2
  rw [List.length_range] at h1
  subst h2
  exact ⟨h1, e2.symm⟩
def shFn (x : Str) (n : Nat) (sc : Scope) (_ : Expr) : Expr → Option (List Expr)
  | .Call (.Name y _) as [] _ => if y = x ∧ as.length = n ∧ glB sc x = true ∧ as.all plainX = true ∧ n ≠ 0 then some as else none
  | _ => none
theorem shFn_some {x : Str} {n : Nat} {sc : Scope} {tg e : Expr} {es : List Expr} (h : shFn x n sc tg e = some es) : ∃ p pos, e = .Call (.Name x p) es [] pos ∧ es.length = n ∧ glB sc x = true ∧ es.all plainX = true ∧ n ≠ 0 := by
  unfold shFn at h
  split at h
  · split at h
    · rename_i hc
      obtain ⟨rfl, h1⟩ := hc
      cases h
      exact ⟨_, _, rfl, h1⟩
    · cases h
  · cases h
theorem starOf {env : Env} : ∀ {es : List Expr}, es.all plainX = true → starEach es env = es.map fun e => (false, eval e env)
  | [], _ => rfl
  | e :: es, h => by
    rw [List.all_cons, Bool.and_eq_true] at h
    rw [star_cons h.1, starOf h.2]; rfl
def rng1F : List D → Option (List D)
  | [.int j] => if -(2 ^ 62) ≤ j ∧ j < 2 ^ 62 then some (rngL 0 j.toNat) else none
  | _ => none
def sR1 : List V → Hp → (It → Hp → Prop) → Prop := fun vs H1 R => ∃ j : Int, vs = [.int j] ∧ -(2 ^ 62) ≤ j ∧ j < 2 ^ 62 ∧ R (L2.Itr 0 j.toNat) H1
def jR1 : List V → It
  | [.int j] => L2.Itr 0 j.toNat
  | _ => L2.Itr 0 0
theorem call_plain1 {x : Str} {p pos : Pos} {es : List Expr} (h : es.length ≠ 0) : plainX (.Call (.Name x p) es [] pos) = true := by
  cases es with
  | nil => exact absurd rfl h
  | cons _ _ => rfl
theorem pi_r1 {X : Cx} {N : List Str} {sc : Scope} (ok : XOk P X N sc) {tg : Expr} {p pos : Pos} {es : List Expr} (hl : es.length = 1) (h1 : glB sc "range" = true) (h2 : es.all plainX = true) {ts : List TE} (ht : AllPE X es ts) : PI X tg (.Call (.Name "range" p) es [] pos) (fun σ H R => tL ts σ H fun vs H1 => sR1 vs H1 R) := by
  match es, hl, ht with
  | [a], _, ht => exact pi_range1 (ok.gl h1) (ok.blt _ (by decide)) (pa_all ht h2) (starOf h2)
def itRng1 : Itr P where
  f := rng1F
  sh := shFn "range" 1
  pl := by
    intro sc tg e es he
    obtain ⟨p, pos, rfl, hl, h1, h2, h3⟩ := shFn_some he
    exact call_plain1 (by omega)
  sound := by
    intro X N sc ok tg e es he
    obtain ⟨p, pos, rfl, hl, h1, h2, h3⟩ := shFn_some he
    exact ⟨sR1, fun ts ht => pi_r1 ok hl h1 h2 ht⟩
  ok := by
    intro X N sc ok tg e es he ds l hf
    obtain ⟨p, pos, rfl, hl, h1, h2, h3⟩ := shFn_some he
    match ds, hf with
    | [.int j], hf =>
      simp only [rng1F] at hf
      split at hf
      case isFalse => cases hf
      case isTrue hb =>
      cases hf
      refine ⟨sR1, fun ts ht => pi_r1 ok hl h1 h2 ht, fun vs => ⟨jR1 vs, fun H F c R r g hR => ?_, fun H F c r g i => ⟨fun d hd => ?_, fun hi => ?_⟩⟩⟩
      · obtain ⟨v, cd, rfl, r, _⟩ := r.one
        have r := r.intE
        subst r
        exact ⟨j, rfl, hb.1, hb.2, hR⟩
      · obtain ⟨v, cd, rfl, r, _⟩ := r.one
        have r := r.intE
        subst r
        obtain ⟨h4, rfl⟩ := rngL_get hd
        refine ⟨h4, fun x H' hy => ⟨F, Le.refl F, ?_⟩⟩
        obtain ⟨rfl, rfl⟩ := hy
        exact ⟨g, fun _ _ => rfl, by simp only [Rp]; exact ⟨trivial, trivial⟩⟩
      · obtain ⟨v, cd, rfl, r, _⟩ := r.one
        have r := r.intE
        subst r
        show j.toNat ≤ i
        simp [rngL] at hi
        omega
def rng2F : List D → Option (List D)
  | [.int i, .int j] => if -(2 ^ 62) ≤ i ∧ i < 2 ^ 62 ∧ -(2 ^ 62) ≤ j ∧ j < 2 ^ 62 then some (rngL i (j - i).toNat) else none
  | _ => none
def sR2 : List V → Hp → (It → Hp → Prop) → Prop := fun vs H1 R => ∃ i j : Int, vs = [.int i, .int j] ∧ (-(2 ^ 62) ≤ i ∧ i < 2 ^ 62 ∧ -(2 ^ 62) ≤ j ∧ j < 2 ^ 62) ∧ R (L2.Itr i (j - i).toNat) H1
def jR2 : List V → It
  | [.int i, .int j] => L2.Itr i (j - i).toNat
  | _ => L2.Itr 0 0
theorem pi_r2 {X : Cx} {N : List Str} {sc : Scope} (ok : XOk P X N sc) {tg : Expr} {p pos : Pos} {es : List Expr} (hl : es.length = 2) (h1 : glB sc "range" = true) (h2 : es.all plainX = true) {ts : List TE} (ht : AllPE X es ts) : PI X tg (.Call (.Name "range" p) es [] pos) (fun σ H R => tL ts σ H fun vs H1 => sR2 vs H1 R) := by
  match es, hl, ht with
  | [a, b], _, ht =>
    have h2' := h2
    rw [List.all_cons, Bool.and_eq_true] at h2'
    exact pi_range2 (ok.gl h1) (ok.blt _ (by decide)) (pa_all ht h2) (starOf h2) (starOf h2'.2)
def itRng2 : Itr P where
  f := rng2F
  sh := shFn "range" 2
  pl := by
    intro sc tg e es he
    obtain ⟨p, pos, rfl, hl, h1, h2, h3⟩ := shFn_some he
    exact call_plain1 (by omega)
  sound := by
    intro X N sc ok tg e es he
    obtain ⟨p, pos, rfl, hl, h1, h2, h3⟩ := shFn_some he
    exact ⟨sR2, fun ts ht => pi_r2 ok hl h1 h2 ht⟩
  ok := by
    intro X N sc ok tg e es he ds l hf
    obtain ⟨p, pos, rfl, hl, h1, h2, h3⟩ := shFn_some he
    match ds, hf with
    | [.int i0, .int j], hf =>
      simp only [rng2F] at hf
      split at hf
      case isFalse => cases hf
      case isTrue hb =>
      cases hf
      refine ⟨sR2, fun ts ht => pi_r2 ok hl h1 h2 ht, fun vs => ⟨jR2 vs, fun H F c R r g hR => ?_, fun H F c r g i => ⟨fun d hd => ?_, fun hi => ?_⟩⟩⟩
      · obtain ⟨v, w, ca, cb, rfl, r1, _, r2, _⟩ := r.two
        have r1 := r1.intE
        have r2 := r2.intE
        subst r1 r2
        exact ⟨i0, j, rfl, hb, hR⟩
      · obtain ⟨v, w, ca, cb, rfl, r1, _, r2, _⟩ := r.two
        have r1 := r1.intE
        have r2 := r2.intE
        subst r1 r2
        obtain ⟨h4, rfl⟩ := rngL_get hd
        refine ⟨h4, fun x H' hy => ⟨F, Le.refl F, ?_⟩⟩
        obtain ⟨rfl, rfl⟩ := hy
        exact ⟨g, fun _ _ => rfl, by simp only [Rp]; exact ⟨trivial, trivial⟩⟩
      · obtain ⟨v, w, ca, cb, rfl, r1, _, r2, _⟩ := r.two
        have r1 := r1.intE
        have r2 := r2.intE
        subst r1 r2
        show (j - i0).toNat ≤ i
        simp [rngL] at hi
        omega
/-! zip of two lists, of two tuples -/
def shZip (sc : Scope) (tg : Expr) : Expr → Option (List Expr)
  | .Call (.Name y _) as [] _ => match tg with
    | .Tuple .. => if y = "zip" ∧ as.length = 2 ∧ glB sc "zip" = true ∧ as.all plainX = true then some as else none
    | _ => none
  | _ => none
theorem shZip_some {sc : Scope} {tg e : Expr} {es : List Expr} (h : shZip sc tg e = some es) : ∃ p pos a b el k q, tg = .Tuple el k q ∧ e = .Call (.Name "zip" p) es [] pos ∧ es = [a, b] ∧ glB sc "zip" = true ∧ es.all plainX = true := by
  unfold shZip at h
  split at h
  · split at h
    · split at h
      · rename_i hc
        obtain ⟨rfl, h1, h2, h3⟩ := hc
        cases h
        match es, h1 with
        | [a, b], _ => exact ⟨_, _, a, b, _, _, _, rfl, rfl, rfl, h2, h3⟩
      · cases h
    · cases h
  · cases h
def zipD (xs ys : List D) : List D := (xs.zip ys).map fun p => .tup [p.1, p.2]
def zipF : List D → Option (List D)
  | [.lst _ xs, .lst _ ys] => if isFs xs = true ∧ isFs ys = true then some (zipD xs ys) else none
  | [.tup xs, .tup ys] => if isFs xs = true ∧ isFs ys = true then some (zipD xs ys) else none
  | _ => none
def sZ (K : PySem.W.Frag) : List V → Hp → (It → Hp → Prop) → Prop := fun vs H1 R => ∃ a b xs ys, vs = [.ref a, .ref b] ∧ ((SqL K H1 a xs ∧ SqL K H1 b ys ∧ R (Itz K a b) H1) ∨ (SqT K H1 a xs ∧ SqT K H1 b ys ∧ R (RZ.ItzT K a b) H1))
def jZ (f : Addr → Addr → It) : List V → It
  | [.ref a, .ref b] => f a b
  | _ => f 0 0
theorem zipD_get {xs ys : List D} {i : Nat} {d : D} (h : (zipD xs ys)[i]? = some d) : ∃ x y, xs[i]? = some x ∧ ys[i]? = some y ∧ d = .tup [x, y] := by
  unfold zipD at h
  rw [List.getElem?_map] at h
  obtain ⟨p, e1, e2⟩ := Option.map_eq_some_iff.mp h
  obtain ⟨x, y⟩ := p
  rw [List.getElem?_zip_eq_some] at e1
  exact ⟨x, y, e1.1, e1.2, e2.symm⟩
theorem zip_new {K : PySem.W.Frag} {mg : Str → Option Value} {H F : Hp} {c : List Addr} {x y : D} {v w : V} {T : Addr} (g : Good H F c) (hT : H T = none) (r1 : Rp K mg H F x v []) (r2 : Rp K mg H F y w []) :
    ∃ F', Le F F' ∧ Good (upd H T (.tup [v, w])) F' c ∧ (∀ a ∈ c, upd H T (.tup [v, w]) a = H a) ∧ Rp K mg (upd H T (.tup [v, w])) F' (.tup [x, y]) (.ref T) [] := by
  obtain ⟨g2, k2, l2⟩ := g.newF (o := .tup [v, w]) hT
  refine ⟨_, l2, g2, k2, ?_⟩
  simp only [Rp, Rps]
  exact ⟨T, [v, w], rfl, SqT.of upd_same, v, [w], [], [], rfl, rfl, Rp.keep l2 _ _ _ r1 (fun a ha => by simp at ha), w, [], [], [], rfl, rfl, Rp.keep l2 _ _ _ r2 (fun a ha => by simp at ha), rfl, rfl⟩
theorem pi_z {X : Cx} {N : List Str} {sc : Scope} (ok : XOk P X N sc) {el : List Expr} {k : Nat} {q p pos : Pos} {a b : Expr} (h1 : glB sc "zip" = true) (h2 : [a, b].all plainX = true) {ts : List TE} (ht : AllPE X [a, b] ts) : PI X (.Tuple el k q) (.Call (.Name "zip" p) [a, b] [] pos) (fun σ H R => tL ts σ H fun vs H1 => sZ X.K vs H1 R) := by
  have h2' := h2
  rw [List.all_cons, Bool.and_eq_true] at h2'
  exact RZ.pi_zipA (ok.gl h1) (ok.blt _ (by decide)) (pa_all ht h2) (star_cons h2'.1) (noStar h2'.2)
def itZip : Itr P where
  f := zipF
  sh := shZip
  pl := by
    intro sc tg e es he
    obtain ⟨p, pos, a, b, el, k, q, rfl, rfl, rfl, h1, h2⟩ := shZip_some he
    rfl
  sound := by
    intro X N sc ok tg e es he
    obtain ⟨p, pos, a, b, el, k, q, rfl, rfl, rfl, h1, h2⟩ := shZip_some he
    exact ⟨sZ X.K, fun ts ht => pi_z ok h1 h2 ht⟩
  ok := by
    intro X N sc ok tg e es he ds l hf
    obtain ⟨p, pos, a, b, el, k, q, rfl, rfl, rfl, h1, h2⟩ := shZip_some he
    match ds, hf with
    | [.lst o xs, .lst o' ys], hf =>
      simp only [zipF] at hf
      split at hf
      case isFalse => cases hf
      case isTrue hb =>
      cases hf
      refine ⟨sZ X.K, fun ts ht => pi_z ok h1 h2 ht, fun vs => ⟨jZ (Itz X.K) vs, fun H F c R r g hR => ?_, fun H F c r g i => ⟨fun d hd => ?_, fun hi => ?_⟩⟩⟩
      · obtain ⟨v, w, ca, cb, rfl, r1, _, r2, _⟩ := r.two
        obtain ⟨a1, vs1, _, rfl, q1, rs1, _⟩ := r1.lstE g.sub
        obtain ⟨a2, vs2, _, rfl, q2, rs2, _⟩ := r2.lstE g.sub
        exact ⟨a1, a2, vs1, vs2, rfl, .inl ⟨.inl q1, .inl q2, hR⟩⟩
      · obtain ⟨v, w, ca, cb, rfl, r1, _, r2, _⟩ := r.two
        obtain ⟨a1, vs1, _, rfl, q1, rs1, _⟩ := r1.lstE g.sub
        obtain ⟨a2, vs2, _, rfl, q2, rs2, _⟩ := r2.lstE g.sub
        obtain ⟨x, y, e1, e2, rfl⟩ := zipD_get hd
        obtain ⟨v1, z1, z2⟩ := flat_at rs1 hb.1 e1
        obtain ⟨v2, z3, z4⟩ := flat_at rs2 hb.2 e2
        refine ⟨⟨vs1, vs2, v1, v2, .inl q1, .inl q2, z1, z3⟩, fun u H' hy => ?_⟩
        obtain ⟨T, x', y', rfl, hT, rfl, h5, h6⟩ := hy
        have h5 := h5 vs1 (.inl q1)
        have h6 := h6 vs2 (.inl q2)
        rw [z1] at h5; cases h5
        rw [z3] at h6; cases h6
        exact zip_new g hT z2 z4
      · obtain ⟨v, w, ca, cb, rfl, r1, _, r2, _⟩ := r.two
        obtain ⟨a1, vs1, _, rfl, q1, rs1, _⟩ := r1.lstE g.sub
        obtain ⟨a2, vs2, _, rfl, q2, rs2, _⟩ := r2.lstE g.sub
        refine ⟨vs1, vs2, .inl q1, .inl q2, ?_⟩
        rw [← rs1.length, ← rs2.length]
        simp [zipD] at hi
        omega
    | [.tup xs, .tup ys], hf =>
      simp only [zipF] at hf
      split at hf
      case isFalse => cases hf
      case isTrue hb =>
      cases hf
      refine ⟨sZ X.K, fun ts ht => pi_z ok h1 h2 ht, fun vs => ⟨jZ (RZ.ItzT X.K) vs, fun H F c R r g hR => ?_, fun H F c r g i => ⟨fun d hd => ?_, fun hi => ?_⟩⟩⟩
      · obtain ⟨v, w, ca, cb, rfl, r1, _, r2, _⟩ := r.two
        obtain ⟨a1, vs1, rfl, q1, rs1⟩ := r1.tupE g.sub
        obtain ⟨a2, vs2, rfl, q2, rs2⟩ := r2.tupE g.sub
        exact ⟨a1, a2, vs1, vs2, rfl, .inr ⟨q1, q2, hR⟩⟩
      · obtain ⟨v, w, ca, cb, rfl, r1, _, r2, _⟩ := r.two
        obtain ⟨a1, vs1, rfl, q1, rs1⟩ := r1.tupE g.sub
        obtain ⟨a2, vs2, rfl, q2, rs2⟩ := r2.tupE g.sub
        obtain ⟨x, y, e1, e2, rfl⟩ := zipD_get hd
        obtain ⟨v1, z1, z2⟩ := flat_at rs1 hb.1 e1
        obtain ⟨v2, z3, z4⟩ := flat_at rs2 hb.2 e2
        refine ⟨⟨vs1, vs2, v1, v2, q1, q2, z1, z3⟩, fun u H' hy => ?_⟩
        obtain ⟨T, x', y', rfl, hT, rfl, h5, h6⟩ := hy
        have h5 := h5 vs1 q1
        have h6 := h6 vs2 q2
        rw [z1] at h5; cases h5
        rw [z3] at h6; cases h6
        exact zip_new g hT z2 z4
      · obtain ⟨v, w, ca, cb, rfl, r1, _, r2, _⟩ := r.two
        obtain ⟨a1, vs1, rfl, q1, rs1⟩ := r1.tupE g.sub
        obtain ⟨a2, vs2, rfl, q2, rs2⟩ := r2.tupE g.sub
        refine ⟨vs1, vs2, q1, q2, ?_⟩
        rw [← rs1.length, ← rs2.length]
        simp [zipD] at hi
        omega
/-! ### op= of ints -/
def augI (op : Operator) (g : Int → Int → Int) (h : ∀ X : Cx, PIp X op (ipI g)) : Aug P where
  op := op
  f := fun d y => match d, y with
    | .int i, .int j => some (.int (g i j))
    | _, _ => none
  ok := by
    intro X N sc ok d y d' hf
    match d, y, hf with
    | .int i, .int j, hf =>
      cases hf
      refine ⟨_, h X, fun x yv H F c cd cy Q r1 r2 gd k => ⟨i, j, r1.intE, r2.intE, ?_⟩⟩
      exact k _ H F [] (Le.refl F) (fun _ _ => rfl) (gd.part (g := cd ++ cy) (perm_of fun z => by simp only [List.count_append, List.count_nil]; omega)) (by simp only [Rp]; exact ⟨trivial, trivial⟩)
def augAdd : Aug P := augI .Add (fun i j => i + j) fun _ => ip_add
def augSub : Aug P := augI .Sub (fun i j => i - j) fun _ => ip_sub
/-! ### isinstance of a built-in type -/
def tyD : D → Option String
  | .non => some "NoneType"
  | .bl _ => some "bool"
  | .int _ => some "int"
  | .str _ => some "str"
  | .lst _ _ => some "list"
  | .tup _ => some "tuple"
  | .dic _ _ _ => some "dict"
  | _ => none
theorem tyX_of {K : PySem.W.Frag} {mg : Str → Option Value} {H F : Hp} {d : D} {t : String} {v : V} {c : List Addr} (h : tyD d = some t) (r : Rp K mg H F d v c) (l : Le F H) : TyX K H v (.type t) := by
  cases d with
  | non => cases h; rw [r.nonE]; exact .base .non
  | bl b => cases h; rw [r.blE]; exact .base (.bl b)
  | int b => cases h; rw [r.intE]; exact .base (.int b)
  | str b => cases h; rw [r.strE]; exact .base (.str b)
  | lst o xs =>
    cases h
    obtain ⟨a, vs, cs, rfl, q, _⟩ := r.lstE l
    rcases q with q | ⟨o, q⟩
    · exact .base (.lst q)
    · exact .base (.frz q)
  | tup xs =>
    cases h
    obtain ⟨a, vs, rfl, q, _⟩ := r.tupE l
    rcases q with q | ⟨o, its, n, h1, h2, _⟩
    · rcases q with q | ⟨o, q⟩
      · exact .base (.tup q)
      · exact .fTuple q
    · exact .kTuple h1 h2
  | dic o ks xs =>
    cases h
    cases o with
    | true =>
      simp only [Rp] at r
      obtain ⟨a, vs, c', rfl, _, _, q, _⟩ := r
      exact .base (.dK q)
    | false =>
      simp only [Rp] at r
      obtain ⟨a, vs, rfl, _, _, q, _⟩ := r
      exact .base (.dK (l _ _ q))
  | _ => cases h
def isiF : List D → Option D
  | [d, .ty n] => (tyD d).bind fun t => (kitB t n).map .bl
  | _ => none
def opIsi : Opr P := opB "isinstance" "isinstance" 2 isiF (by decide) (by kernel_rfl) (by decide) (by decide) (by
  intro X N sc ok ds d h
  refine ⟨_, call_isi, fun vs H F c Q r g k => ?_⟩
  match ds, h with
  | [d0, .ty n], h =>
    obtain ⟨t, h1, h2⟩ := Option.bind_eq_some_iff.mp h
    obtain ⟨b, h3, rfl⟩ := Option.map_eq_some_iff.mp h2
    obtain ⟨v, w, ca, cb, rfl, r1, _, r2, _⟩ := r.two
    simp only [Rp] at r2
    obtain ⟨rfl, _⟩ := r2
    exact ⟨v, .ty n, _, _, b, rfl, .ty n, tyX_of h1 r1 g.sub, kit_ty h3, k.bl g⟩)
end Ev
end
section
set_option maxRecDepth 100000
set_option maxHeartbeats 4000000
namespace Ev
open PySem PySem.Spec L2
variable {P : Pg}
/-! ### list(x), tuple(x), int(x) -/
def listF : List D → Option D
  | [.lst _ xs] => if isFs xs = true then some (.lst true xs) else none
  | [.tup xs] => if isFs xs = true then some (.lst true xs) else none
  | [.scr xs] => some (.lst true (xs.map D.int))
  | _ => none
def opList : Opr P := opTy "list" "list" 1 listF (by decide) (by kernel_rfl) (by decide) (by decide) (by
  intro X N sc ok ds d h
  refine ⟨_, call_list_of, fun vs H F c Q r g k => ?_⟩
  match ds, h with
  | [.lst o xs], h =>
    simp only [listF] at h
    split at h
    · rename_i hf
      cases h
      obtain ⟨v, cd, rfl, r, _⟩ := r.one
      obtain ⟨a, vs, cs, rfl, q, rs, _⟩ := r.lstE g.sub
      exact ⟨a, vs, rfl, .inl (.inl q), fun p hp => k.lst g hp (rs.flat hf)⟩
    · cases h
  | [.tup xs], h =>
    simp only [listF] at h
    split at h
    · rename_i hf
      cases h
      obtain ⟨v, cd, rfl, r, _⟩ := r.one
      obtain ⟨a, vs, rfl, q, rs⟩ := r.tupE g.sub
      exact ⟨a, vs, rfl, .inr q, fun p hp => k.lst g hp (rs.flat hf)⟩
    · cases h
  | [.scr xs], h =>
    cases h
    obtain ⟨v, cd, rfl, r, _⟩ := r.one
    simp only [Rp] at r
    obtain ⟨a, rfl, q, _⟩ := r
    exact ⟨a, _, rfl, .inl (g.sub.sqL q), fun p hp => k.lst g hp (Rps.intsOf xs)⟩)
def tupleF : List D → Option D
  | [.lst _ xs] => if isFs xs = true then some (.tup xs) else none
  | [.tup xs] => if isFs xs = true then some (.tup xs) else none
  | _ => none
def opTuple : Opr P := opTy "tuple" "tuple" 1 tupleF (by decide) (by kernel_rfl) (by decide) (by decide) (by
  intro X N sc ok ds d h
  refine ⟨_, call_tuple_of, fun vs H F c Q r g k => ?_⟩
  match ds, h with
  | [.lst o xs], h =>
    simp only [tupleF] at h
    split at h
    · rename_i hf
      cases h
      obtain ⟨v, cd, rfl, r, _⟩ := r.one
      obtain ⟨a, vs, cs, rfl, q, rs, _⟩ := r.lstE g.sub
      exact ⟨a, vs, rfl, .inl ⟨.inl q, fun p hp => k.tup g hp (rs.flat hf)⟩⟩
    · cases h
  | [.tup xs], h =>
    simp only [tupleF] at h
    split at h
    · rename_i hf
      cases h
      obtain ⟨v, cd, rfl, r, _⟩ := r.one
      have r0 : Rp X.K X.mg H F (.tup xs) v [] := r.flat (by simpa only [isF] using hf)
      obtain ⟨a, vs, rfl, q, rs⟩ := r0.tupE g.sub
      exact ⟨a, vs, rfl, .inr ⟨q, k.flat g r0⟩⟩
    · cases h)
def intF : List D → Option D
  | [.int i] => some (.int i)
  | [.bl b] => some (.int (if b then 1 else 0))
  | _ => none
def opInt : Opr P := opTy "int" "int" 1 intF (by decide) (by kernel_rfl) (by decide) (by decide) (by
  intro X N sc ok ds d h
  refine ⟨_, call_int1, fun vs H F c Q r g k => ?_⟩
  match ds, h with
  | [.int i], h =>
    cases h
    obtain ⟨v, cd, rfl, r, _⟩ := r.one
    rw [r.intE]
    exact .inl ⟨i, rfl, k.int g⟩
  | [.bl b], h =>
    cases h
    obtain ⟨v, cd, rfl, r, _⟩ := r.one
    rw [r.blE]
    exact .inr ⟨b, rfl, k.int g⟩)
/-! ### max, min, sum, all, any, sorted, divmod -/
def max2F : List D → Option D
  | [.int i, .int j] => some (.int (if j > i then j else i))
  | _ => none
def opMax2 : Opr P := opB "max" "max" 2 max2F (by decide) (by kernel_rfl) (by decide) (by decide) (by
  intro X N sc ok ds d h
  refine ⟨_, call_max2 ok.calm, fun vs H F c Q r g k => ?_⟩
  match ds, h with
  | [.int i, .int j], h =>
    cases h
    obtain ⟨v, w, ca, cb, rfl, r1, _, r2, _⟩ := r.two
    rw [r1.intE, r2.intE]
    exact ⟨i, j, rfl, k.int g⟩)
def min2F : List D → Option D
  | [.int i, .int j] => some (.int (if j < i then j else i))
  | _ => none
def opMin2 : Opr P := opB "min" "min" 2 min2F (by decide) (by kernel_rfl) (by decide) (by decide) (by
  intro X N sc ok ds d h
  refine ⟨_, call_min2 ok.calm, fun vs H F c Q r g k => ?_⟩
  match ds, h with
  | [.int i, .int j], h =>
    cases h
    obtain ⟨v, w, ca, cb, rfl, r1, _, r2, _⟩ := r.two
    rw [r1.intE, r2.intE]
    exact ⟨i, j, rfl, k.int g⟩)
/-- a list of ints -/
def intsD : List D → Option (List Int)
  | [] => some []
  | .int i :: r => (intsD r).map fun z => i :: z
  | _ => none
theorem intsD_some : ∀ {xs : List D} {ns : List Int}, intsD xs = some ns → xs = ns.map D.int
  | [], ns, h => by cases h; rfl
  | .int i :: r, ns, h => by
    obtain ⟨z, h1, rfl⟩ := Option.map_eq_some_iff.mp h
    rw [intsD_some h1]; rfl
  | .non :: _, _, h => by simp [intsD] at h
  | .bl _ :: _, _, h => by simp [intsD] at h
  | .str _ :: _, _, h => by simp [intsD] at h
  | .tup _ :: _, _, h => by simp [intsD] at h
  | .lst _ _ :: _, _, h => by simp [intsD] at h
  | .dic _ _ _ :: _, _, h => by simp [intsD] at h
  | .ins _ _ _ _ :: _, _, h => by simp [intsD] at h
  | .fn _ :: _, _, h => by simp [intsD] at h
  | .ty _ :: _, _, h => by simp [intsD] at h
  | .scr _ :: _, _, h => by simp [intsD] at h
theorem intsD_map : ∀ ns : List Int, intsD (ns.map D.int) = some ns
  | [] => rfl
  | n :: ns => by rw [List.map_cons, intsD, intsD_map ns]; rfl
def blsD : List D → Option (List Bool)
  | [] => some []
  | .bl i :: r => (blsD r).map fun z => i :: z
  | _ => none
theorem blsD_some : ∀ {xs : List D} {ns : List Bool}, blsD xs = some ns → xs = ns.map D.bl
  | [], ns, h => by cases h; rfl
  | .bl i :: r, ns, h => by
    obtain ⟨z, h1, rfl⟩ := Option.map_eq_some_iff.mp h
    rw [blsD_some h1]; rfl
  | .non :: _, _, h => by simp [blsD] at h
  | .int _ :: _, _, h => by simp [blsD] at h
  | .str _ :: _, _, h => by simp [blsD] at h
  | .tup _ :: _, _, h => by simp [blsD] at h
  | .lst _ _ :: _, _, h => by simp [blsD] at h
  | .dic _ _ _ :: _, _, h => by simp [blsD] at h
  | .ins _ _ _ _ :: _, _, h => by simp [blsD] at h
  | .fn _ :: _, _, h => by simp [blsD] at h
  | .ty _ :: _, _, h => by simp [blsD] at h
  | .scr _ :: _, _, h => by simp [blsD] at h
theorem blsD_map : ∀ ns : List Bool, blsD (ns.map D.bl) = some ns
  | [] => rfl
  | n :: ns => by rw [List.map_cons, blsD, blsD_map ns]; rfl
def onInts (f : List Int → Option D) : List D → Option D
  | [.lst _ xs] => (intsD xs).bind f
  | _ => none
def onBls (f : List Bool → Option D) : List D → Option D
  | [.lst _ xs] => (blsD xs).bind f
  | _ => none
theorem onInts_ok {K : PySem.W.Frag} {mg : Str → Option Value} {H F : Hp} {c : List Addr} {f : List Int → Option D} {ds : List D} {d : D} {vs : List V} (h : onInts f ds = some d) (r : RpE K mg H F c ds vs) (l : Le F H) : ∃ a ns, vs = [.ref a] ∧ SqL K H a (ns.map V.int) ∧ f ns = some d := by
  match ds, h with
  | [.lst o xs], h =>
    obtain ⟨ns, h1, h2⟩ := Option.bind_eq_some_iff.mp h
    obtain ⟨v, cd, rfl, r, _⟩ := r.one
    obtain ⟨a, vs, cs, rfl, q, rs, _⟩ := r.lstE l
    rw [intsD_some h1] at rs
    rw [rs.ints] at q
    exact ⟨a, ns, rfl, .inl q, h2⟩
theorem onBls_ok {K : PySem.W.Frag} {mg : Str → Option Value} {H F : Hp} {c : List Addr} {f : List Bool → Option D} {ds : List D} {d : D} {vs : List V} (h : onBls f ds = some d) (r : RpE K mg H F c ds vs) (l : Le F H) : ∃ a ns, vs = [.ref a] ∧ SqL K H a (ns.map V.bl) ∧ f ns = some d := by
  match ds, h with
  | [.lst o xs], h =>
    obtain ⟨ns, h1, h2⟩ := Option.bind_eq_some_iff.mp h
    obtain ⟨v, cd, rfl, r, _⟩ := r.one
    obtain ⟨a, vs, cs, rfl, q, rs, _⟩ := r.lstE l
    rw [blsD_some h1] at rs
    rw [rs.bls] at q
    exact ⟨a, ns, rfl, .inl q, h2⟩
def opSum : Opr P := opB "sum" "sum" 1 (onInts fun ns => some (.int ns.sum)) (by decide) (by kernel_rfl) (by decide) (by decide) (by
  intro X N sc ok ds d h
  refine ⟨_, cr_sum ok.calm, fun vs H F c Q r g k => ?_⟩
  obtain ⟨a, ns, rfl, q, e⟩ := onInts_ok h r g.sub
  cases e
  exact ⟨a, ns, rfl, q, k.int g⟩)
def opAll : Opr P := opB "all" "all" 1 (onBls fun ns => some (.bl (ns.all id))) (by decide) (by kernel_rfl) (by decide) (by decide) (by
  intro X N sc ok ds d h
  refine ⟨_, cr_all ok.calm, fun vs H F c Q r g k => ?_⟩
  obtain ⟨a, ns, rfl, q, e⟩ := onBls_ok h r g.sub
  cases e
  exact ⟨a, ns, rfl, q, k.bl g⟩)
def opAny : Opr P := opB "any" "any" 1 (onBls fun ns => some (.bl (ns.any id))) (by decide) (by kernel_rfl) (by decide) (by decide) (by
  intro X N sc ok ds d h
  refine ⟨_, cr_any ok.calm, fun vs H F c Q r g k => ?_⟩
  obtain ⟨a, ns, rfl, q, e⟩ := onBls_ok h r g.sub
  cases e
  exact ⟨a, ns, rfl, q, k.bl g⟩)
def maxI : List Int → Option Int
  | [] => none
  | x :: r => some (r.foldl (fun a b => if a < b then b else a) x)
def minI : List Int → Option Int
  | [] => none
  | x :: r => some (r.foldl (fun a b => if b < a then b else a) x)
theorem maxI_fold : ∀ (r : List Int) (x : Int), let m := r.foldl (fun a b => if a < b then b else a) x; (m = x ∨ m ∈ r) ∧ x ≤ m ∧ ∀ y ∈ r, y ≤ m
  | [], x => ⟨.inl rfl, Int.le_refl x, by simp⟩
  | y :: r, x => by
    obtain ⟨h1, h2, h3⟩ := maxI_fold r (if x < y then y else x)
    simp only [List.foldl_cons]
    refine ⟨?_, ?_, ?_⟩
    · rcases h1 with h1 | h1
      · rw [h1]; split
        · exact .inr (by simp)
        · exact .inl rfl
      · exact .inr (by simp [h1])
    · have : x ≤ (if x < y then y else x) := by split <;> omega
      exact Int.le_trans this h2
    · intro z hz
      rcases List.mem_cons.mp hz with rfl | hz
      · have : z ≤ (if x < z then z else x) := by split <;> omega
        exact Int.le_trans this h2
      · exact h3 z hz
theorem minI_fold : ∀ (r : List Int) (x : Int), let m := r.foldl (fun a b => if b < a then b else a) x; (m = x ∨ m ∈ r) ∧ m ≤ x ∧ ∀ y ∈ r, m ≤ y
  | [], x => ⟨.inl rfl, Int.le_refl x, by simp⟩
  | y :: r, x => by
    obtain ⟨h1, h2, h3⟩ := minI_fold r (if y < x then y else x)
    simp only [List.foldl_cons]
    refine ⟨?_, ?_, ?_⟩
    · rcases h1 with h1 | h1
      · rw [h1]; split
        · exact .inr (by simp)
        · exact .inl rfl
      · exact .inr (by simp [h1])
    · have : (if y < x then y else x) ≤ x := by split <;> omega
      exact Int.le_trans h2 this
    · intro z hz
      rcases List.mem_cons.mp hz with rfl | hz
      · have : (if z < x then z else x) ≤ z := by split <;> omega
        exact Int.le_trans h2 this
      · exact h3 z hz
theorem maxI_some {ns : List Int} {m : Int} (h : maxI ns = some m) : m ∈ ns ∧ ∀ y ∈ ns, y ≤ m := by
  cases ns with
  | nil => cases h
  | cons x r =>
    cases h
    obtain ⟨h1, h2, h3⟩ := maxI_fold r x
    refine ⟨by rcases h1 with h1 | h1 <;> simp [h1], fun y hy => ?_⟩
    rcases List.mem_cons.mp hy with rfl | hy
    · exact h2
    · exact h3 y hy
theorem minI_some {ns : List Int} {m : Int} (h : minI ns = some m) : m ∈ ns ∧ ∀ y ∈ ns, m ≤ y := by
  cases ns with
  | nil => cases h
  | cons x r =>
    cases h
    obtain ⟨h1, h2, h3⟩ := minI_fold r x
    refine ⟨by rcases h1 with h1 | h1 <;> simp [h1], fun y hy => ?_⟩
    rcases List.mem_cons.mp hy with rfl | hy
    · exact h2
    · exact h3 y hy
def opMax1 : Opr P := opB "max" "max" 1 (onInts fun ns => (maxI ns).map D.int) (by decide) (by kernel_rfl) (by decide) (by decide) (by
  intro X N sc ok ds d h
  refine ⟨_, cr_max ok.calm, fun vs H F c Q r g k => ?_⟩
  obtain ⟨a, ns, rfl, q, e⟩ := onInts_ok h r g.sub
  obtain ⟨m, h1, rfl⟩ := Option.map_eq_some_iff.mp e
  obtain ⟨h2, h3⟩ := maxI_some h1
  refine ⟨a, ns, rfl, q, List.length_pos_of_mem h2, fun m' h4 h5 => ?_⟩
  rw [show m' = m from Int.le_antisymm (h3 m' h4) (h5 m h2)]
  exact k.int g)
def opMin1 : Opr P := opB "min" "min" 1 (onInts fun ns => (minI ns).map D.int) (by decide) (by kernel_rfl) (by decide) (by decide) (by
  intro X N sc ok ds d h
  refine ⟨_, cr_min ok.calm, fun vs H F c Q r g k => ?_⟩
  obtain ⟨a, ns, rfl, q, e⟩ := onInts_ok h r g.sub
  obtain ⟨m, h1, rfl⟩ := Option.map_eq_some_iff.mp e
  obtain ⟨h2, h3⟩ := minI_some h1
  refine ⟨a, ns, rfl, q, List.length_pos_of_mem h2, fun m' h4 h5 => ?_⟩
  rw [show m' = m from Int.le_antisymm (h5 m h2) (h3 m' h4)]
  exact k.int g)
/-- ints in order -/
def insI (x : Int) : List Int → List Int
  | [] => [x]
  | y :: r => if x ≤ y then x :: y :: r else y :: insI x r
def sortI : List Int → List Int
  | [] => []
  | x :: r => insI x (sortI r)
theorem insI_perm (x : Int) : ∀ l : List Int, (insI x l).Perm (x :: l)
  | [] => .refl _
  | y :: r => by
    unfold insI
    split
    · exact .refl _
    · exact ((insI_perm x r).cons y).trans (.swap x y r)
theorem sortI_perm : ∀ l : List Int, (sortI l).Perm l
  | [] => .refl _
  | x :: r => (insI_perm x (sortI r)).trans ((sortI_perm r).cons x)
theorem insI_sorted (x : Int) : ∀ l : List Int, l.Pairwise (· ≤ ·) → (insI x l).Pairwise (· ≤ ·)
  | [], _ => by simp [insI]
  | y :: r, h => by
    rw [List.pairwise_cons] at h
    unfold insI
    split
    · rename_i hx
      refine List.pairwise_cons.mpr ⟨fun z hz => ?_, List.pairwise_cons.mpr h⟩
      rcases List.mem_cons.mp hz with rfl | hz
      · exact hx
      · have := h.1 z hz; omega
    · refine List.pairwise_cons.mpr ⟨fun z hz => ?_, insI_sorted x r h.2⟩
      rcases List.mem_cons.mp ((insI_perm x r).mem_iff.mp hz) with rfl | hz
      · omega
      · exact h.1 z hz
theorem sortI_sorted : ∀ l : List Int, (sortI l).Pairwise (· ≤ ·)
  | [] => List.Pairwise.nil
  | x :: r => insI_sorted x _ (sortI_sorted r)
theorem sorted_one : ∀ {l m : List Int}, l.Perm m → l.Pairwise (· ≤ ·) → m.Pairwise (· ≤ ·) → l = m
  | [], m, p, _, _ => (List.nil_perm.mp p).symm
  | x :: l, [], p, _, _ => by have := p.length_eq; simp at this
  | x :: l, y :: m, p, h, k => by
    have e : x = y := by
      rw [List.pairwise_cons] at h k
      have h1 : x ∈ y :: m := p.subset (by simp)
      have h2 : y ∈ x :: l := p.symm.subset (by simp)
      rcases List.mem_cons.mp h1 with e | h1
      · exact e
      rcases List.mem_cons.mp h2 with e | h2
      · exact e.symm
      have := h.1 y h2; have := k.1 x h1; omega
    subst e
    rw [List.pairwise_cons] at h k
    rw [sorted_one (List.perm_cons x |>.mp p) h.2 k.2]
def opSorted : Opr P := opB "sorted" "sorted" 1 (onInts fun ns => some (.lst true ((sortI ns).map D.int))) (by decide) (by kernel_rfl) (by decide) (by decide) (by
  intro X N sc ok ds d h
  refine ⟨_, cr_sortedI, fun vs H F c Q r g k => ?_⟩
  obtain ⟨a, ns, rfl, q, e⟩ := onInts_ok h r g.sub
  cases e
  refine ⟨a, ns, rfl, q, fun ns' p h1 h2 hp => ?_⟩
  rw [sorted_one (h1.trans (sortI_perm ns).symm) h2 (sortI_sorted ns)]
  exact k.lst g hp (Rps.intsOf _))
def divmodF : List D → Option D
  | [.int i, .int j] => if 0 < j ∧ j < 2 ^ 64 then some (.tup [.int (i / j), .int (i % j)]) else none
  | _ => none
theorem pylong_ok {i j : Int} (h : j < 2 ^ 64) (h0 : 0 < j) : Builtin.divisionGoesByPylong i j = false := by
  have h1 : j.natAbs.log2 < 64 := PySem.Flt.log2_lt_of (by decide) (by omega)
  unfold Builtin.divisionGoesByPylong
  have e : (j == 0) = false := by simp; omega
  simp only [e, Bool.false_eq_true, if_false, Bool.and_eq_false_iff, decide_eq_false_iff_not]
  left; omega
def opDivmod : Opr P := opB "divmod" "divmod" 2 divmodF (by decide) (by kernel_rfl) (by decide) (by decide) (by
  intro X N sc ok ds d h
  refine ⟨_, call_divmodW, fun vs H F c Q r g k => ?_⟩
  match ds, h with
  | [.int i, .int j], h =>
    simp only [divmodF] at h
    split at h
    · rename_i hj
      cases h
      obtain ⟨v, w, ca, cb, rfl, r1, _, r2, _⟩ := r.two
      rw [r1.intE, r2.intE]
      refine ⟨i, j, rfl, ⟨hj.1, pylong_ok hj.2 hj.1⟩, fun p hp => k.tup g hp (vs := [.int (i / j), .int (i % j)]) ?_⟩
      simp only [Rps, Rp]
      exact ⟨_, _, [], [], rfl, rfl, ⟨rfl, rfl⟩, _, _, [], [], rfl, rfl, ⟨rfl, rfl⟩, rfl, rfl⟩
    · cases h)
end Ev
end
section
set_option maxRecDepth 100000
set_option maxHeartbeats 4000000
namespace Ev
open PySem PySem.Spec L2
variable {P : Pg}
/-! ### x[lo:], x[:hi], x[::-1] -/
def slLoF : List D → Option D
  | [d, .int i] => slG (some i) none d
  | _ => none
def slHiF : List D → Option D
  | [d, .int i] => slG none (some i) d
  | _ => none
def shSlLo (_ : Scope) : Expr → Option (List Expr)
  | .Subscript e (.Slice (some lo) none none _) _ => some [e, lo]
  | _ => none
def shSlHi (_ : Scope) : Expr → Option (List Expr)
  | .Subscript e (.Slice none (some hi) none _) _ => some [e, hi]
  | _ => none
theorem shSlLo_some {sc : Scope} {e : Expr} {es : List Expr} (h : shSlLo sc e = some es) : ∃ a lo p2 pos, e = .Subscript a (.Slice (some lo) none none p2) pos ∧ es = [a, lo] := by
  unfold shSlLo at h
  split at h
  · exact ⟨_, _, _, _, rfl, (Option.some.inj h).symm⟩
  · cases h
theorem shSlHi_some {sc : Scope} {e : Expr} {es : List Expr} (h : shSlHi sc e = some es) : ∃ a lo p2 pos, e = .Subscript a (.Slice none (some lo) none p2) pos ∧ es = [a, lo] := by
  unfold shSlHi at h
  split at h
  · exact ⟨_, _, _, _, rfl, (Option.some.inj h).symm⟩
  · cases h
def rLo (r : V → Option Int → Option Int → Hp → VK → Prop) : R2 := fun x y H Q => ∃ i, y = .int i ∧ r x (some i) none H Q
def rHi (r : V → Option Int → Option Int → Hp → VK → Prop) : R2 := fun x y H Q => ∃ i, y = .int i ∧ r x none (some i) H Q
theorem hasLo {X : Cx} {r : V → Option Int → Option Int → Hp → VK → Prop} (hr : SlR X r) {a lo : Expr} {p2 pos : Pos} : HasOp X (.Subscript a (.Slice (some lo) none none p2) pos) [a, lo] (R2of (rLo r)) :=
  hasOp2 fun ta tb p q => pe_slice hr p (po_some q) po_none
theorem hasHi {X : Cx} {r : V → Option Int → Option Int → Hp → VK → Prop} (hr : SlR X r) {a lo : Expr} {p2 pos : Pos} : HasOp X (.Subscript a (.Slice none (some lo) none p2) pos) [a, lo] (R2of (rHi r)) :=
  hasOp2 fun ta tb p q => pe_slice hr p po_none (po_some q)
theorem noSlR {X : Cx} : SlR X (fun _ _ _ _ _ => False) := fun _ _ _ _ _ _ _ _ _ _ _ _ _ _ _ _ _ h => h.elim
def opSlLo : Opr P where
  f := slLoF
  sh := shSlLo
  ok := by
    intro X N sc ok e es he ds d hd
    obtain ⟨a, lo, p2, pos, rfl, rfl⟩ := shSlLo_some he
    match ds, hd with
    | [x, .int i], hd =>
      obtain ⟨r, hr, k⟩ := slG_ok (X := X) hd
      refine ⟨_, hasLo hr, hasT_of (hasLo hr) (fun _ => rfl), fun vs H F c Q rr g kk => ?_⟩
      obtain ⟨v, w, ca, cb, rfl, r1, _, r2, _⟩ := rr.two
      exact ⟨i, r2.intE, k v H F c ca Q r1 g kk⟩
  pl := by
    intro sc e es he
    obtain ⟨a, lo, p2, pos, rfl, rfl⟩ := shSlLo_some he
    rfl
  sound := by
    intro X N sc ok e es he
    obtain ⟨a, lo, p2, pos, rfl, rfl⟩ := shSlLo_some he
    exact ⟨_, hasLo noSlR, hasT_of (hasLo noSlR) (fun _ => rfl)⟩
def opSlHi : Opr P where
  f := slHiF
  sh := shSlHi
  ok := by
    intro X N sc ok e es he ds d hd
    obtain ⟨a, lo, p2, pos, rfl, rfl⟩ := shSlHi_some he
    match ds, hd with
    | [x, .int i], hd =>
      obtain ⟨r, hr, k⟩ := slG_ok (X := X) hd
      refine ⟨_, hasHi hr, hasT_of (hasHi hr) (fun _ => rfl), fun vs H F c Q rr g kk => ?_⟩
      obtain ⟨v, w, ca, cb, rfl, r1, _, r2, _⟩ := rr.two
      exact ⟨i, r2.intE, k v H F c ca Q r1 g kk⟩
  pl := by
    intro sc e es he
    obtain ⟨a, lo, p2, pos, rfl, rfl⟩ := shSlHi_some he
    rfl
  sound := by
    intro X N sc ok e es he
    obtain ⟨a, lo, p2, pos, rfl, rfl⟩ := shSlHi_some he
    exact ⟨_, hasHi noSlR, hasT_of (hasHi noSlR) (fun _ => rfl)⟩
def shRev (_ : Scope) : Expr → Option (List Expr)
  | .Subscript e (.Slice none none (some (.UnaryOp .USub (.Constant (.int i) _ _) _)) _) _ => if i = 1 then some [e] else none
  | _ => none
theorem shRev_some {sc : Scope} {e : Expr} {es : List Expr} (h : shRev sc e = some es) : ∃ a k p1 p2 p3 pos, e = .Subscript a (.Slice none none (some (.UnaryOp .USub (.Constant (.int 1) k p1) p2)) p3) pos ∧ es = [a] := by
  unfold shRev at h
  split at h
  · split at h
    · rename_i hi
      subst hi
      exact ⟨_, _, _, _, _, _, rfl, (Option.some.inj h).symm⟩
    · cases h
  · cases h
def opRevS : Opr P where
  f := revF
  sh := shRev
  ok := by
    intro X N sc ok e es he ds d hd
    obtain ⟨a, k, p1, p2, p3, pos, rfl, rfl⟩ := shRev_some he
    have hh : HasOp X (.Subscript a (.Slice none none (some (.UnaryOp .USub (.Constant (.int 1) k p1) p2)) p3) pos) [a] (R1of fun x H1 Q => ∃ (a : Addr) (xs : List V), x = .ref a ∧ SqL X.K H1 a xs ∧ ∀ p, H1 p = none → Q (.ref p) (upd H1 p (.lst xs.reverse))) :=
      hasOp1 fun ta pt => pe_revL pt
    refine ⟨_, hh, hasT_of hh (fun _ => rfl), fun vs H F c Q r g k => ?_⟩
    match ds, hd with
    | [.lst o xs], hd =>
      simp only [revF] at hd
      split at hd
      · rename_i hf
        cases hd
        obtain ⟨v, cd, rfl, r, _⟩ := r.one
        obtain ⟨b, vs, cs, rfl, q, rs, _⟩ := r.lstE g.sub
        exact ⟨b, vs, rfl, .inl q, fun p hp => k.lst g hp (rs.flat hf).rev⟩
      · cases hd
    | [.scr xs], hd =>
      cases hd
      obtain ⟨v, cd, rfl, r, _⟩ := r.one
      simp only [Rp] at r
      obtain ⟨b, rfl, q, _⟩ := r
      exact ⟨b, _, rfl, g.sub.sqL q, fun p hp => k.lst g hp (Rps.intsOf xs).rev⟩
  pl := by
    intro sc e es he
    obtain ⟨a, k, p1, p2, p3, pos, rfl, rfl⟩ := shRev_some he
    rfl
  sound := by
    intro X N sc ok e es he
    obtain ⟨a, k, p1, p2, p3, pos, rfl, rfl⟩ := shRev_some he
    have hh : HasOp X (.Subscript a (.Slice none none (some (.UnaryOp .USub (.Constant (.int 1) k p1) p2)) p3) pos) [a] (R1of fun x H1 Q => ∃ (a : Addr) (xs : List V), x = .ref a ∧ SqL X.K H1 a xs ∧ ∀ p, H1 p = none → Q (.ref p) (upd H1 p (.lst xs.reverse))) :=
      hasOp1 fun ta pt => pe_revL pt
    exact ⟨_, hh, hasT_of hh (fun _ => rfl)⟩
/-! ### enumerate of a list -/
def shEn (sc : Scope) (tg : Expr) : Expr → Option (List Expr)
  | .Call (.Name y _) as [] _ => match tg with
    | .Tuple .. => if y = "enumerate" ∧ as.length = 1 ∧ glB sc "enumerate" = true ∧ as.all plainX = true then some as else none
    | _ => none
  | _ => none
theorem shEn_some {sc : Scope} {tg e : Expr} {es : List Expr} (h : shEn sc tg e = some es) : ∃ p pos a el k q, tg = .Tuple el k q ∧ e = .Call (.Name "enumerate" p) es [] pos ∧ es = [a] ∧ glB sc "enumerate" = true ∧ es.all plainX = true := by
  unfold shEn at h
  split at h
  · split at h
    · split at h
      · rename_i hc
        obtain ⟨rfl, h1, h2, h3⟩ := hc
        cases h
        match es, h1 with
        | [a], _ => exact ⟨_, _, a, _, _, _, rfl, rfl, rfl, h2, h3⟩
      · cases h
    · cases h
  · cases h
def enumFrom {α : Type} : Nat → List α → List (Int × α)
  | _, [] => []
  | n, x :: r => ((n : Int), x) :: enumFrom (n + 1) r
theorem enum_get {α : Type} : ∀ {xs : List α} {n i : Nat} {p : Int × α}, (enumFrom n xs)[i]? = some p → xs[i]? = some p.2 ∧ p.1 = ((n + i : Nat) : Int)
  | [], n, i, p, h => by simp [enumFrom] at h
  | x :: r, n, 0, p, h => by simp [enumFrom] at h; subst h; simp
  | x :: r, n, i + 1, p, h => by
    have := enum_get (xs := r) (n := n + 1) (i := i) (p := p) (by simpa [enumFrom] using h)
    refine ⟨by simpa using this.1, ?_⟩
    rw [this.2]; congr 1; omega
theorem enum_len {α : Type} : ∀ (xs : List α) (n : Nat), (enumFrom n xs).length = xs.length
  | [], _ => rfl
  | _ :: r, n => by simp [enumFrom, enum_len r]
def enumD (xs : List D) : List D := (enumFrom 0 xs).map fun p => .tup [.int p.1, p.2]
def enF : List D → Option (List D)
  | [.lst _ xs] => if isFs xs = true then some (enumD xs) else none
  | _ => none
def sE (K : PySem.W.Frag) : List V → Hp → (It → Hp → Prop) → Prop := fun vs H1 R => ∃ a xs, vs = [.ref a] ∧ SqL K H1 a xs ∧ R (Ite K a) H1
theorem enumD_get {xs : List D} {i : Nat} {d : D} (h : (enumD xs)[i]? = some d) : ∃ x, xs[i]? = some x ∧ d = .tup [.int (i : Nat), x] := by
  unfold enumD at h
  rw [List.getElem?_map] at h
  obtain ⟨p, e1, e2⟩ := Option.map_eq_some_iff.mp h
  obtain ⟨h1, h2⟩ := enum_get e1
  refine ⟨p.2, h1, ?_⟩
  rw [← e2, h2, Nat.zero_add]
theorem pi_e {X : Cx} {N : List Str} {sc : Scope} (ok : XOk P X N sc) {el : List Expr} {k : Nat} {q p pos : Pos} {a : Expr} (h1 : glB sc "enumerate" = true) (h2 : [a].all plainX = true) {ts : List TE} (ht : AllPE X [a] ts) : PI X (.Tuple el k q) (.Call (.Name "enumerate" p) [a] [] pos) (fun σ H R => tL ts σ H fun vs H1 => sE X.K vs H1 R) := by
  have h2' := h2
  rw [List.all_cons, Bool.and_eq_true] at h2'
  exact pi_enum (ok.gl h1) (ok.blt _ (by decide)) (pa_all ht h2) (star_cons h2'.1)
def itEnum : Itr P where
  f := enF
  sh := shEn
  pl := by
    intro sc tg e es he
    obtain ⟨p, pos, a, el, k, q, rfl, rfl, rfl, h1, h2⟩ := shEn_some he
    rfl
  sound := by
    intro X N sc ok tg e es he
    obtain ⟨p, pos, a, el, k, q, rfl, rfl, rfl, h1, h2⟩ := shEn_some he
    exact ⟨sE X.K, fun ts ht => pi_e ok h1 h2 ht⟩
  ok := by
    intro X N sc ok tg e es he ds l hf
    obtain ⟨p, pos, a, el, k, q, rfl, rfl, rfl, h1, h2⟩ := shEn_some he
    match ds, hf with
    | [.lst o xs], hf =>
      simp only [enF] at hf
      split at hf
      case isFalse => cases hf
      case isTrue hb =>
      cases hf
      refine ⟨sE X.K, fun ts ht => pi_e ok h1 h2 ht, fun vs => ⟨jOf (Ite X.K) vs, fun H F c R r g hR => ?_, fun H F c r g i => ⟨fun d hd => ?_, fun hi => ?_⟩⟩⟩
      · obtain ⟨v, cd, rfl, r1, _⟩ := r.one
        obtain ⟨a1, vs1, _, rfl, q1, rs1, _⟩ := r1.lstE g.sub
        exact ⟨a1, vs1, rfl, .inl q1, hR⟩
      · obtain ⟨v, cd, rfl, r1, _⟩ := r.one
        obtain ⟨a1, vs1, _, rfl, q1, rs1, _⟩ := r1.lstE g.sub
        obtain ⟨x, e1, rfl⟩ := enumD_get hd
        obtain ⟨v1, z1, z2⟩ := flat_at rs1 hb e1
        refine ⟨⟨vs1, v1, .inl q1, z1⟩, fun u H' hy => ?_⟩
        obtain ⟨T, x', rfl, hT, rfl, h5⟩ := hy
        have h5 := h5 vs1 (.inl q1)
        rw [z1] at h5; cases h5
        exact zip_new g hT (by simp only [Rp]; exact ⟨trivial, trivial⟩) z2
      · obtain ⟨v, cd, rfl, r1, _⟩ := r.one
        obtain ⟨a1, vs1, _, rfl, q1, rs1, _⟩ := r1.lstE g.sub
        refine ⟨vs1, .inl q1, ?_⟩
        rw [← rs1.length]
        simp [enumD, enum_len] at hi
        omega
/-! ### list methods -/
def extF : D → List D → Option (D × D)
  | .lst true xs, [.lst true ys] => if isFs ys = true ∧ xs.length + ys.length ≤ sizeLine then some (.non, .lst true (xs ++ ys)) else none
  | _, _ => none
def revMF : D → List D → Option (D × D)
  | .lst true xs, [] => if isFs xs = true then some (.non, .lst true xs.reverse) else none
  | _, _ => none
def mReverse : Mut P := mutM "list.reverse" "reverse" 0 rReverse revMF PySem.F.slot_list_reverse PySem.F.type_list_reverse (fun _ => mt_reverse) (by decide) (by
  intro X d ds a d' hf x ws H F c cd cw Q r1 r2 g k
  match d, ds, hf with
  | .lst true xs, [], hf =>
    simp only [revMF] at hf
    split at hf
    · rename_i hl
      cases hf
      simp only [Rp] at r1
      obtain ⟨p, vs, c', rfl, hH, rs, rfl⟩ := r1
      simp only [Rps] at r2
      obtain ⟨rfl, rfl⟩ := r2
      refine ⟨p, vs, rfl, rfl, hH, ?_⟩
      have g2 : Good H F (p :: ([] ++ c)) := g.sublist (by simp)
      obtain ⟨g3, k3, r3⟩ := lst_write g2 (rs.flat hl).rev
      exact k .non _ F [] [p] (Le.refl F) k3 (by simpa using g3) (by simp only [Rp]; exact ⟨trivial, trivial⟩) r3
    · cases hf)
def clrF : D → List D → Option (D × D)
  | .lst true xs, [] => some (.non, .lst true [])
  | _, _ => none
def mClear : Mut P := mutM "list.clear" "clear" 0 rClear clrF PySem.F.slot_list_clear PySem.F.type_list_clear (fun _ => mt_clear) (by decide) (by
  intro X d ds a d' hf x ws H F c cd cw Q r1 r2 g k
  match d, ds, hf with
  | .lst true xs, [], hf =>
    cases hf
    simp only [Rp] at r1
    obtain ⟨p, vs, c', rfl, hH, rs, rfl⟩ := r1
    simp only [Rps] at r2
    obtain ⟨rfl, rfl⟩ := r2
    refine ⟨p, vs, rfl, rfl, hH, ?_⟩
    have g2 : Good H F (p :: ([] ++ c)) := g.sublist (by simp)
    obtain ⟨g3, k3, r3⟩ := lst_write (xs := []) (vs := []) g2 (by simp only [Rps]; exact ⟨trivial, trivial⟩)
    exact k .non _ F [] [p] (Le.refl F) k3 (by simpa using g3) (by simp only [Rp]; exact ⟨trivial, trivial⟩) r3)
def mExtend : Mut P := mutM "list.extend" "extend" 1 rExtend extF PySem.F.slot_list_extend PySem.F.type_list_extend (fun _ => mt_extend) (by decide) (by
  intro X d ds a d' hf x ws H F c cd cw Q r1 r2 g k
  match d, ds, hf with
  | .lst true xs, [.lst true ys], hf =>
    simp only [extF] at hf
    split at hf
    · rename_i hl
      cases hf
      simp only [Rp] at r1
      obtain ⟨p, vs, c', rfl, hH, rs, rfl⟩ := r1
      rw [Rps] at r2
      obtain ⟨w, w2, c1, c2, rfl, rfl, ry, r3⟩ := r2
      simp only [Rps] at r3
      obtain ⟨rfl, rfl⟩ := r3
      simp only [Rp] at ry
      obtain ⟨b, zs, cs, rfl, hb, rz, rfl⟩ := ry
      refine ⟨p, b, vs, zs, rfl, rfl, hH, hb, by rw [← rs.length, ← rz.length]; exact hl.2, ?_⟩
      have g2 : Good H F (p :: ((c' ++ []) ++ c)) := by
        refine g.sublist ?_
        simp only [List.append_nil, List.cons_append, List.append_assoc]
        exact ((List.sublist_append_right (b :: cs) c).append_left c').cons_cons p
      obtain ⟨g3, k3, r3⟩ := lst_write g2 (rs.append (rz.flat hl.1))
      exact k .non _ F [] (p :: (c' ++ [])) (Le.refl F) k3 (by simpa using g3) (by simp only [Rp]; exact ⟨trivial, trivial⟩) r3
    · cases hf)
end Ev
end
section
set_option maxRecDepth 100000
set_option maxHeartbeats 4000000
namespace Ev
open PySem PySem.Spec L2
variable {P : Pg}
/-! ### dicts: in, a store, a display of one -/
theorem Rp.dicE {K : PySem.W.Frag} {mg : Str → Option Value} {H F : Hp} {o : Bool} {ks : List Key} {xs : List D} {v : V} {cd : List Addr} (h : Rp K mg H F (.dic o ks xs) v cd) (l : Le F H) : ∃ a vs cs, v = .ref a ∧ ks.length = xs.length ∧ ks.Nodup ∧ H a = some (.dK (ks.zip vs)) ∧ Rps K mg H F xs vs cs ∧ ∀ b ∈ cs, b ∈ cd := by
  cases o with
  | true =>
    simp only [Rp] at h
    obtain ⟨a, vs, c', rfl, h1, h2, h3, h4, rfl⟩ := h
    exact ⟨a, vs, c', rfl, h1, h2, h3, h4, fun b hb => by simp [hb]⟩
  | false =>
    simp only [Rp] at h
    obtain ⟨a, vs, rfl, h1, h2, h3, h4⟩ := h
    exact ⟨a, vs, cd, rfl, h1, h2, l _ _ h3, h4, fun b hb => hb⟩
def hasK (ks : List Key) (k : Key) : Bool := ks.any fun g => decide (g = k)
theorem hasK_cons (g : Key) (ks : List Key) (k : Key) : hasK (g :: ks) k = (decide (g = k) || hasK ks k) := rfl
theorem hasK_iff {ks : List Key} {k : Key} : hasK ks k = true ↔ k ∈ ks := by
  unfold hasK
  rw [List.any_eq_true]
  constructor
  · rintro ⟨g, hg, e⟩
    exact of_decide_eq_true e ▸ hg
  · exact fun h => ⟨k, h, by simp⟩
theorem valV_has {vs : List V} {k : Key} : ∀ {ks : List Key} {ws : List V}, ks.length = ws.length → (valV (ks.zip ws) k).isSome = hasK ks k
  | [], ws, h => by simp [valV, hasK]
  | g :: ks, [], h => by simp at h
  | g :: ks, w :: ws, h => by
    rw [List.zip_cons_cons]
    by_cases e : g = k
    · subst e; rw [valV_pos rfl, hasK_cons]; simp
    · rw [valV_neg e, valV_has (vs := vs) (by simpa using h), hasK_cons]
      simp [e]
def dinF (neg : Bool) : D → D → Option D
  | k, .dic _ ks xs => (keyD k).map fun kk => .bl (if neg then !hasK ks kk else hasK ks kk)
  | _, _ => none
theorem keyD_V {K : PySem.W.Frag} {mg : Str → Option Value} {H F : Hp} {k : D} {kk : Key} {v : V} {c : List Addr} (h : keyD k = some kk) (r : Rp K mg H F k v c) : v = kV kk := by
  cases k <;> simp [keyD] at h
  · subst h; rw [r.intE]; rfl
  · subst h; rw [r.strE]; rfl
def rDIn (neg : Bool) : R2 := fun y x H Q => ∃ a o, x = .ref a ∧ DGet H a y o ∧ Q (.bl (if neg then !o.isSome else o.isSome)) H
def opDin (neg : Bool) : Opr P where
  f := f2 (dinF neg)
  sh := shCmp (if neg then .NotIn else .In)
  ok := by
    intro X N sc ok e es he ds d hd
    obtain ⟨a, b, rfl, hf⟩ := f2_some hd
    obtain ⟨l, r, pos, rfl, h1, h2, rfl⟩ := shCmp_some he
    have hu := ok.units
    have e1 : HasOp X (.Compare l [if neg then .NotIn else .In] [r] pos) [l, r] (R2of (rDIn neg)) := hasOp2 fun ta tb p q => by
      cases neg
      · exact pe_cmp (pc_din (by omega) p q) (marks h2)
      · exact pe_cmp (pc_dnotin (by omega) p q) (marks h2)
    have e2 : HasOpT X (.Compare l [if neg then .NotIn else .In] [r] pos) [l, r] (R2of (rDIn neg)) := hasOp2T fun ta tb p q => by
      cases neg
      · exact pt_cmp (pc_din (by omega) p q) (marks h2)
      · exact pt_cmp (pc_dnotin (by omega) p q) (marks h2)
    refine ⟨_, e1, e2, two_end fun y x H F c ca cb Q ra _ rb _ g k => ?_⟩
    match b, hf with
    | .dic o ks xs, hf =>
      obtain ⟨kk, hk, rfl⟩ := Option.map_eq_some_iff.mp hf
      obtain ⟨p, vs, cs, rfl, q1, q2, q3, q4, _⟩ := rb.dicE g.sub
      rw [keyD_V hk ra]
      refine ⟨p, _, rfl, DGet.k q3, ?_⟩
      rw [valV_has (vs := vs) (q1.trans q4.length)]
      exact k.bl g
  pl := by
    intro sc e es he
    obtain ⟨l, r, pos, rfl, h1, h2, rfl⟩ := shCmp_some he
    rfl
  sound := by
    intro X N sc ok e es he
    obtain ⟨l, r, pos, rfl, h1, h2, rfl⟩ := shCmp_some he
    have hu := ok.units
    have e1 : HasOp X (.Compare l [if neg then .NotIn else .In] [r] pos) [l, r] (R2of (rDIn neg)) := hasOp2 fun ta tb p q => by
      cases neg
      · exact pe_cmp (pc_din (by omega) p q) (marks h2)
      · exact pe_cmp (pc_dnotin (by omega) p q) (marks h2)
    have e2 : HasOpT X (.Compare l [if neg then .NotIn else .In] [r] pos) [l, r] (R2of (rDIn neg)) := hasOp2T fun ta tb p q => by
      cases neg
      · exact pt_cmp (pc_din (by omega) p q) (marks h2)
      · exact pt_cmp (pc_dnotin (by omega) p q) (marks h2)
    exact ⟨_, e1, e2⟩
/-! in, not in a list of data -/
def inDO : D → D → Option Bool := fun a b => match toPy a, toPy b with
  | some p, some (.list ps) => if SeqAt.shaped p = true ∧ SeqAt.shaped (.list ps) = true then some (ps.any fun z => PyData.eqv z p) else none
  | _, _ => none
theorem inDO_some {a b : D} {r : Bool} (h : inDO a b = some r) : ∃ p ps, toPy a = some p ∧ toPy b = some (.list ps) ∧ SeqAt.shaped p = true ∧ SeqAt.shaped (.list ps) = true ∧ r = ps.any fun z => PyData.eqv z p := by
  unfold inDO at h
  split at h
  · rename_i p ps e1 e2
    split at h
    · rename_i hc
      cases h
      exact ⟨p, ps, e1, e2, hc.1, hc.2, rfl⟩
    · cases h
  · cases h
theorem two_inD : Two P (fun X r => OpR X (compareOp .In) r) (fun a b => (inDO a b).map D.bl) := by
  intro X N sc ok a b d h
  obtain ⟨r, e, rfl⟩ := Option.map_eq_some_iff.mp h
  obtain ⟨p, ps, e1, e2, s1, s2, rfl⟩ := inDO_some e
  have := ok.units
  exact ⟨_, op_inD (by omega), fun x y H F c ca cb Q ra _ rb _ g k => ⟨p, ps, dp_of g.sub _ _ _ _ ra e1, dp_of g.sub _ _ _ _ rb e2, s1, s2, k.bl g⟩⟩
theorem two_ninD : Two P (fun X r => OpR X (compareOp .NotIn) r) (fun a b => (inDO a b).map fun r => D.bl (!r)) := by
  intro X N sc ok a b d h
  obtain ⟨r, e, rfl⟩ := Option.map_eq_some_iff.mp h
  obtain ⟨p, ps, e1, e2, s1, s2, rfl⟩ := inDO_some e
  have := ok.units
  exact ⟨_, op_notInD (by omega), fun x y H F c ca cb Q ra _ rb _ g k => ⟨p, ps, dp_of g.sub _ _ _ _ ra e1, dp_of g.sub _ _ _ _ rb e2, s1, s2, k.bl g⟩⟩
def opInD : Opr P := opCmp .In (fun a b => (inDO a b).map D.bl) two_inD
def opNotInD : Opr P := opCmp .NotIn (fun a b => (inDO a b).map fun r => D.bl (!r)) two_ninD
/-- len of a dict -/
def lenDF : List D → Option D
  | [.dic _ ks _] => some (.int ks.length)
  | _ => none
def opLenD : Opr P := opB "len" "len" 1 lenDF (by decide) (by kernel_rfl) (by decide) (by decide) (by
  intro X N sc ok ds d h
  refine ⟨_, call_lenD, fun vs H F c Q r g k => ?_⟩
  match ds, h with
  | [.dic o ks xs], h =>
    cases h
    obtain ⟨v, cd, rfl, r, _⟩ := r.one
    obtain ⟨p, vs, cs, rfl, q1, q2, q3, q4, _⟩ := r.dicE g.sub
    refine ⟨p, _, rfl, q3, ?_⟩
    have e : (ks.zip vs).length = ks.length := by rw [List.length_zip, ← q4.length, ← q1, Nat.min_self]
    rw [e]
    exact k.int g)
/-! d[k] = v -/
def idxK (ks : List Key) (k : Key) : Nat := ks.findIdx fun g => decide (g = k)
def putDk (ks : List Key) (k : Key) : List Key := if hasK ks k = true then ks else ks ++ [k]
def putDv {α : Type} (ks : List Key) (xs : List α) (k : Key) (y : α) : List α := if hasK ks k = true then xs.set (idxK ks k) y else xs ++ [y]
theorem idx_set {v : V} {k : Key} : ∀ {ks : List Key} {vs : List V}, ks.length = vs.length → ks.Nodup → k ∈ ks → (ks.zip vs).map (fun kv => if kv.1 = k then (kv.1, v) else kv) = ks.zip (vs.set (idxK ks k) v)
  | [], vs, h, _, hk => by simp at hk
  | g :: ks, [], h, _, _ => by simp at h
  | g :: ks, w :: ws, h, hn, hk => by
    rw [List.nodup_cons] at hn
    by_cases e : g = k
    · subst e
      have hz : ∀ p ∈ ks.zip ws, (if p.1 = g then (p.1, v) else p) = p := fun p hp => by
        rw [if_neg]
        intro e2
        exact hn.1 (e2 ▸ (List.of_mem_zip hp).1)
      rw [show idxK (g :: ks) g = 0 from by simp [idxK, List.findIdx_cons], List.zip_cons_cons, List.map_cons, if_pos rfl, List.map_congr_left hz, List.set_cons_zero, List.zip_cons_cons, List.map_id']
    · have hk' : k ∈ ks := by
        rcases List.mem_cons.mp hk with e2 | e2
        · exact absurd e2.symm e
        · exact e2
      rw [show idxK (g :: ks) k = idxK ks k + 1 from by simp [idxK, List.findIdx_cons, e], List.zip_cons_cons, List.map_cons, if_neg e, idx_set (by simpa using h) hn.2 hk', List.set_cons_succ, List.zip_cons_cons]
theorem putK_zip {k : Key} {v : V} {ks : List Key} {vs : List V} (hl : ks.length = vs.length) (hn : ks.Nodup) : putK (ks.zip vs) k v = (putDk ks k).zip (putDv ks vs k v) := by
  unfold putK putDk putDv
  have e : (ks.zip vs).any (fun kv => decide (kv.1 = k)) = hasK ks k := by
    rw [Bool.eq_iff_iff, List.any_eq_true, hasK_iff]
    constructor
    · rintro ⟨p, hp, h⟩
      rw [decide_eq_true_iff] at h
      exact h ▸ (List.of_mem_zip hp).1
    · intro h
      obtain ⟨i, hi, e⟩ := List.mem_iff_getElem.mp h
      refine ⟨(ks[i], vs[i]'(by omega)), ?_, by simp [e]⟩
      exact List.mem_iff_getElem.mpr ⟨i, by simp; omega, by simp⟩
  rw [e]
  cases h : hasK ks k with
  | true =>
    simp only [if_true]
    exact idx_set hl hn (hasK_iff.mp h)
  | false =>
    simp only [Bool.false_eq_true, if_false]
    rw [List.zip_append hl]; rfl
def putDF : D → List D → D → Option D
  | .dic true ks xs, [k], y => (keyD k).bind fun kk => if ks.length < sizeLine then some (.dic true (putDk ks kk) (putDv ks xs kk y)) else none
  | _, _, _ => none
theorem swD {o i v : Expr} {p2 : Pos} {l : Nat} {env : Env} : swapsWith v (some (.Subscript o i p2)) l env = pure false := by
  unfold swapsWith
  cases v <;> rfl
def rDPut : List V → V → Hp → (Hp → Prop) → Prop := fun vs y H Q => match vs with
  | [x, k] => ∃ a H', x = .ref a ∧ DPut H a k y H' ∧ Q H'
  | _ => False
theorem ps_putD {X : Cx} (hu : X.A.units + 1 < cLine) {o i v : Expr} {p2 pos : Pos} {tv : TE} {ts : List TE} (hv : PE X v tv) (ht : AllPE X [o, i] ts) :
    PS X (.Assign [.Subscript o i p2] v pos) (fun D σ H => tv σ H fun y H1 => tL ts σ H1 fun vs H2 => rDPut vs y H2 fun H3 => D.nx σ H3) := by
  cases ht with
  | cons p1 ht =>
    cases ht with
    | cons p3 ht =>
      cases ht
      exact ps_dput hu p1 p3 hv swD
theorem putDv_len {α : Type} {ks : List Key} {xs : List α} {k : Key} {y : α} (h : ks.length = xs.length) : (putDk ks k).length = (putDv ks xs k y).length := by
  unfold putDk putDv
  split
  · rw [List.length_set]; exact h
  · simp [h]
theorem putDk_nodup {ks : List Key} {k : Key} (h : ks.Nodup) : (putDk ks k).Nodup := by
  unfold putDk
  split
  · exact h
  · rename_i hk
    refine List.nodup_append.mpr ⟨h, by simp, fun a ha b hb => ?_⟩
    simp at hb; subst hb
    exact fun e => hk (hasK_iff.mpr (e ▸ ha))
def putD : Put P where
  f := putDF
  sh := shPutI
  sound := by
    intro X N sc ok e es he
    obtain ⟨o, i, p2, rfl, rfl, h⟩ := shPutI_some he
    have hu := ok.units
    exact ⟨rDPut, fun v pos tv ts hv ht => ps_putD (by omega) hv ht⟩
  ok := by
    intro X N sc ok e es he d ds y d' hf
    obtain ⟨o, i, p2, rfl, rfl, h⟩ := shPutI_some he
    have hu := ok.units
    refine ⟨rDPut, fun v pos tv ts hv ht => ps_putD (by omega) hv ht, fun x ws yv H F c cd cw cy Q r1 r2 ry g k => ?_⟩
    match d, ds, hf with
    | .dic true ks xs, [kd], hf =>
      obtain ⟨kk, hk, hf⟩ := Option.bind_eq_some_iff.mp hf
      split at hf
      case isFalse => cases hf
      case isTrue hl =>
      cases hf
      simp only [Rp] at r1
      obtain ⟨p, vs, c', rfl, q1, q2, hH, rs, rfl⟩ := r1
      rw [Rps] at r2
      obtain ⟨w, w', c1, c2, rfl, rfl, rk, r3⟩ := r2
      simp only [Rps] at r3
      obtain ⟨rfl, rfl⟩ := r3
      have hw := keyD_V hk rk
      subst hw
      have el : (ks.zip vs).length = ks.length := by rw [List.length_zip, ← rs.length, ← q1, Nat.min_self]
      refine ⟨p, _, rfl, DPut.k hH (by rw [el]; exact hl), ?_⟩
      rw [putK_zip (q1.trans rs.length) q2]
      have main : ∃ c6 g6, Rps X.K X.mg H F (putDv ks xs kk y) (putDv ks vs kk yv) c6 ∧ (c' ++ cy).Perm (g6 ++ c6) := by
        unfold putDv
        cases hm : hasK ks kk with
        | true =>
          simp only [if_true]
          have hi : idxK ks kk < ks.length := List.findIdx_lt_length_of_exists ⟨kk, hasK_iff.mp hm, by simp⟩
          obtain ⟨c6, g6, rs6, p6⟩ := Rps.setD (q := idxK ks kk) rs (by rw [← q1]; exact hi) ry
          exact ⟨c6, g6, rs6, (List.perm_append_comm).trans p6⟩
        | false =>
          simp only [Bool.false_eq_true, if_false]
          refine ⟨c' ++ (cy ++ []), [], rs.append ?_, by simp⟩
          rw [Rps]
          exact ⟨yv, [], cy, [], rfl, rfl, ry, by simp only [Rps]; exact ⟨trivial, trivial⟩⟩
      obtain ⟨c6, g6, rs6, p6⟩ := main
      have g2 : Good H F (p :: (c6 ++ c)) := g.part (g := g6 ++ c1) (perm_of fun z => by
        have := p6.count_eq z
        simp only [List.count_append, List.count_cons, List.count_nil] at *
        omega)
      have nd := (List.nodup_cons.mp g2.nd).1
      have ku : ∀ b ∈ c6 ++ c, upd H p (.dK ((putDk ks kk).zip (putDv ks vs kk yv))) b = H b := fun b hb => upd_ne fun e => nd (e ▸ hb)
      refine k _ (p :: c6) (fun b hb => ku b (by simp [hb])) (by simpa using g2.write (by simp)) ?_
      simp only [Rp]
      exact ⟨p, _, c6, rfl, putDv_len q1, putDk_nodup q2, upd_same, Rps.keep (Le.refl F) _ _ _ rs6 fun b hb => ku b (by simp [hb]), rfl⟩
end Ev
end
section
set_option maxRecDepth 100000
set_option maxHeartbeats 4000000
namespace Ev
open PySem PySem.Spec L2
variable {P : Pg}
/-! ### x.f = v -/
def shPutA (f : Str) (_ : Scope) : Expr → Option (List Expr)
  | .Attribute o g _ => if g = f then some [o] else none
  | _ => none
theorem shPutA_some {f : Str} {sc : Scope} {e : Expr} {es : List Expr} (h : shPutA f sc e = some es) : ∃ o pos, e = .Attribute o f pos ∧ es = [o] := by
  unfold shPutA at h
  split at h
  · split at h
    · rename_i hc
      subst hc
      exact ⟨_, _, rfl, (Option.some.inj h).symm⟩
    · cases h
  · cases h
def putAF (P : Pg) (f : Str) : D → List D → D → Option D
  | .ins true C fs xs, [], y => if P.att C f = true ∧ fs.length < 900 then match idxOf f fs with
    | some q => some (.ins true C fs (xs.set q y))
    | none => some (.ins true C (fs ++ [f]) (xs ++ [y])) else none
  | _, _, _ => none
theorem swA {o v : Expr} {f : Str} {p2 : Pos} {l : Nat} {env : Env} : swapsWith v (some (.Attribute o f p2)) l env = pure false := by
  unfold swapsWith
  cases v <;> rfl
theorem putF_new {f : Str} {v : V} : ∀ {fs : List Str} {vs : List V}, idxOf f fs = none → fs.length = vs.length → putF f v (fs.zip vs) = (fs ++ [f]).zip (vs ++ [v])
  | [], [], _, _ => rfl
  | [], _ :: _, _, hl => by simp at hl
  | g :: fs, [], h, hl => by simp at hl
  | g :: fs, w :: vs, h, hl => by
    by_cases e : g = f
    · subst e; simp [idxOf] at h
    · simp only [idxOf, if_neg e] at h
      have h1 := Option.map_eq_none_iff.mp h
      rw [List.zip_cons_cons]
      show (if g = f then (g, v) :: fs.zip vs else (g, w) :: putF f v (fs.zip vs)) = _
      rw [if_neg e, putF_new h1 (by simpa using hl)]; rfl
theorem ins_write {K : PySem.W.Frag} {mg : Str → Option Value} {H F : Hp} {a A : Addr} {dx : Addr} {C : Str} {fs : List Str} {vs : List V} {xs : List D} {c cx : List Addr} (hA : mg C = some (.ref A)) (hl : fs.length = xs.length) (g : Good H F (a :: (c ++ cx))) (r : Rps K mg H F xs vs c) :
    Good (upd H a (.ins A dx (fs.zip vs))) F (a :: (c ++ cx)) ∧ (∀ b ∈ cx, upd H a (.ins A dx (fs.zip vs)) b = H b) ∧ Rp K mg (upd H a (.ins A dx (fs.zip vs))) F (.ins true C fs xs) (.ref a) (a :: c) := by
  have nd := (List.nodup_cons.mp g.nd).1
  have ku : ∀ b ∈ c ++ cx, upd H a (.ins A dx (fs.zip vs)) b = H b := fun b hb => upd_ne fun e => nd (e ▸ hb)
  refine ⟨g.write (by simp), fun b hb => ku b (by simp [hb]), ?_⟩
  simp only [Rp]
  exact ⟨a, A, dx, vs, c, rfl, hA, hl, upd_same, Rps.keep (Le.refl F) _ _ _ r fun b hb => ku b (by simp [hb]), rfl⟩
theorem idxOf_lt' {f : Str} : ∀ {fs : List Str} {q : Nat}, idxOf f fs = some q → q < fs.length
  | [], _, h => by simp [idxOf] at h
  | g :: fs, q, h => by
    by_cases e : g = f
    · simp only [idxOf, if_pos e] at h; cases h; simp
    · simp only [idxOf, if_neg e] at h
      obtain ⟨q', h1, rfl⟩ := Option.map_eq_some_iff.mp h
      have := idxOf_lt' h1
      simp only [List.length_cons]; omega
def rFld (K : PySem.W.Frag) (f : Str) (vs : List V) (y : V) (H : Hp) (Q : Hp → Prop) : Prop := match vs with
  | [x] => ∃ a C dx fs, x = .ref a ∧ H a = some (.ins C dx fs) ∧ Cls K C ∧ NoAttr K C f ∧ fs.length < 1000 ∧ Q (upd H a (.ins C dx (putF f y fs)))
  | _ => False
theorem ps_putA {X : Cx} {o v : Expr} {f : Str} {p2 pos : Pos} {tv : TE} {ts : List TE} (hv : PE X v tv) (ht : AllPE X [o] ts) :
    PS X (.Assign [.Attribute o f p2] v pos) (fun D σ H => tv σ H fun y H1 => tL ts σ H1 fun vs H2 => rFld X.K f vs y H2 fun H3 => D.nx σ H3) := by
  cases ht with
  | cons p1 ht =>
    cases ht
    exact ps_fld p1 hv swA
def putA (f : Str) : Put P where
  f := putAF P f
  sh := shPutA f
  sound := by
    intro X N sc ok e es he
    obtain ⟨o, p2, rfl, rfl⟩ := shPutA_some he
    exact ⟨fun vs y H2 Q => rFld X.K f vs y H2 Q, fun v pos tv ts hv ht => ps_putA hv ht⟩
  ok := by
    intro X N sc ok e es he d ds y d' hf
    obtain ⟨o, p2, rfl, rfl⟩ := shPutA_some he
    refine ⟨fun vs y H2 Q => rFld X.K f vs y H2 Q, fun v pos tv ts hv ht => ps_putA hv ht, fun x ws yv H F c cd cw cy Q r1 r2 ry g k => ?_⟩
    match d, ds, hf with
    | .ins true C fs xs, [], hf =>
      simp only [putAF] at hf
      split at hf
      case isFalse => cases hf
      case isTrue hc =>
      simp only [Rp] at r1
      obtain ⟨a, A, dx, vs, c', rfl, hA, hlen, hH, rs, rfl⟩ := r1
      simp only [Rps] at r2
      obtain ⟨rfl, rfl⟩ := r2
      obtain ⟨y1, y2⟩ := ok.cls C A f hc.1 hA
      have hvl : fs.length = vs.length := by rw [hlen, rs.length]
      refine ⟨a, A, dx, _, rfl, hH, y1, y2, by rw [List.length_zip]; omega, ?_⟩
      split at hf
      · rename_i q hq
        cases hf
        have hqlt : q < xs.length := by rw [← hlen]; exact idxOf_lt' hq
        obtain ⟨c6, g6, rs6, p6⟩ := Rps.setD (q := q) rs hqlt ry
        rw [putF_zip hq hvl]
        have g2 : Good H F (a :: (c6 ++ c)) := g.part (g := g6) (perm_of fun z => by
          have := p6.count_eq z
          simp only [List.count_append, List.count_cons, List.count_nil] at *
          omega)
        obtain ⟨g3, k3, r3⟩ := ins_write (dx := dx) (fs := fs) hA (by rw [List.length_set]; exact hlen) g2 rs6
        exact k _ (a :: c6) k3 (by simpa using g3) r3
      · rename_i hq
        cases hf
        rw [putF_new hq hvl]
        have ra := rs.append (show Rps X.K X.mg H F [y] [yv] (cy ++ []) by simp only [Rps]; exact ⟨yv, [], cy, [], rfl, rfl, ry, rfl, rfl⟩)
        have g2 : Good H F (a :: ((c' ++ (cy ++ [])) ++ c)) := g.perm (perm_of fun z => by simp only [List.count_append, List.count_cons, List.count_nil]; omega)
        obtain ⟨g3, k3, r3⟩ := ins_write (dx := dx) (fs := fs ++ [f]) hA (by simp [hlen]) g2 ra
        exact k _ (a :: (c' ++ (cy ++ []))) k3 (by simpa using g3) r3
end Ev
end
section
set_option maxRecDepth 100000
set_option maxHeartbeats 4000000
namespace Ev
open PySem PySem.Spec L2
variable {P : Pg}
/-! ### a walk of reversed(l) -/
def shRw (sc : Scope) (_ : Expr) : Expr → Option (List Expr)
  | .Call (.Name y _) as [] _ => if y = "reversed" ∧ as.length = 1 ∧ glB sc "reversed" = true ∧ as.all plainX = true then some as else none
  | _ => none
theorem shRw_some {sc : Scope} {tg e : Expr} {es : List Expr} (h : shRw sc tg e = some es) : ∃ p pos a, e = .Call (.Name "reversed" p) es [] pos ∧ es = [a] ∧ glB sc "reversed" = true ∧ es.all plainX = true := by
  unfold shRw at h
  split at h
  · split at h
    · rename_i hc
      obtain ⟨rfl, h1, h2, h3⟩ := hc
      cases h
      match es, h1 with
      | [a], _ => exact ⟨_, _, a, rfl, rfl, h2, h3⟩
    · cases h
  · cases h
def rwF : List D → Option (List D)
  | [.lst _ xs] => if isFs xs = true then some xs.reverse else none
  | _ => none
def sRw (K : PySem.W.Frag) : List V → Hp → (It → Hp → Prop) → Prop := fun vs H1 R => match vs with
  | [v] => ∃ (a : Addr) (xs : List V), v = .ref a ∧ ((SqL K H1 a xs ∧ R (Itv K a xs.length) H1) ∨ (SqT K H1 a xs ∧ R (RT.ItvT K a xs.length) H1))
  | _ => False
theorem pi_rw {X : Cx} {N : List Str} {sc : Scope} (ok : XOk P X N sc) {tg : Expr} {p pos : Pos} {a : Expr} (h1 : glB sc "reversed" = true) (h2 : [a].all plainX = true) {ts : List TE} (ht : AllPE X [a] ts) : PI X tg (.Call (.Name "reversed" p) [a] [] pos) (fun σ H R => tL ts σ H fun vs H1 => sRw X.K vs H1 R) := by
  have h2' := h2
  rw [List.all_cons, Bool.and_eq_true] at h2'
  cases ht with
  | cons p1 ht =>
    cases ht
    exact RT.pi_revA (tg := tg) (p := p) (pos := pos) (ok.gl h1) (ok.blt _ (by decide)) p1 (star_cons h2'.1)
def itRev : Itr P where
  f := rwF
  sh := shRw
  pl := by
    intro sc tg e es he
    obtain ⟨p, pos, a, rfl, rfl, h1, h2⟩ := shRw_some he
    rfl
  sound := by
    intro X N sc ok tg e es he
    obtain ⟨p, pos, a, rfl, rfl, h1, h2⟩ := shRw_some he
    exact ⟨sRw X.K, fun ts ht => pi_rw ok h1 h2 ht⟩
  ok := by
    intro X N sc ok tg e es he ds l hf
    obtain ⟨p, pos, a, rfl, rfl, h1, h2⟩ := shRw_some he
    match ds, hf with
    | [.lst o xs], hf =>
      simp only [rwF] at hf
      split at hf
      case isFalse => cases hf
      case isTrue hb =>
      cases hf
      refine ⟨sRw X.K, fun ts ht => pi_rw ok h1 h2 ht, fun vs => ⟨jOf (fun a => Itv X.K a xs.length) vs, fun H F c R r g hR => ?_, fun H F c r g i => ⟨fun d hd => ?_, fun hi => ?_⟩⟩⟩
      · obtain ⟨v, cd, rfl, r1, _⟩ := r.one
        obtain ⟨a1, vs1, _, rfl, q1, rs1, _⟩ := r1.lstE g.sub
        exact ⟨a1, vs1, rfl, .inl ⟨.inl q1, by rw [← rs1.length]; exact hR⟩⟩
      · obtain ⟨v, cd, rfl, r1, _⟩ := r.one
        obtain ⟨a1, vs1, _, rfl, q1, rs1, _⟩ := r1.lstE g.sub
        have hi : i < xs.length := by
          have := (List.getElem?_eq_some_iff.mp hd).1
          simpa using this
        rw [List.getElem?_reverse hi] at hd
        obtain ⟨w, z1, z2⟩ := flat_at rs1 hb hd
        refine ⟨⟨hi, vs1, w, .inl q1, z1⟩, fun x H' hy => ⟨F, Le.refl F, ?_⟩⟩
        obtain ⟨rfl, hy⟩ := hy
        have := hy vs1 (.inl q1)
        rw [z1] at this; cases this
        exact ⟨g, fun _ _ => rfl, z2⟩
      · obtain ⟨v, cd, rfl, r1, _⟩ := r.one
        obtain ⟨a1, vs1, _, rfl, q1, rs1, _⟩ := r1.lstE g.sub
        show xs.length ≤ i
        simpa using hi
end Ev
end
section
set_option maxRecDepth 100000
set_option maxHeartbeats 4000000
namespace Ev
open PySem PySem.Spec L2
/-- a law that comes to True -/
theorem sp_law {K : PySem.W.Frag} {mg : Str → Option Value} {H : Hp} {a : Addr} {ns : List Int} {cl1 : List (Bool × D) → Option CR} {o : List (Option D)} (h : cl1 [(false, .scr ns)] = some (.ok (.bl true) o)) (hS : SqL K H a (ns.map V.int)) :
    spOf K mg cl1 [.ref a] H (fun v _ => v = .bl true) (fun _ _ _ => False) := by
  refine ⟨H, [(false, .scr ns)], [], [], _, ?_, Good.nil (Le.refl H), h, fun v H' F' cd co l k g r s => r.blE⟩
  simp only [List.map_cons, List.map_nil, Rps, Rp]
  exact ⟨_, [], [], [], rfl, rfl, ⟨a, rfl, hS, rfl⟩, rfl, rfl⟩
/-- nothing comes out of the law -/
theorem cx_false {p : Program} {w : World} {H : Hp} {s : Shared} {e : Value} {s' : Shared} (h : L2.CX p w [] H s (fun _ _ _ => False) e s') : False := by
  obtain ⟨_, _, _, _, _, _, _, _, _, _, _, _, h⟩ := h
  exact h
section
variable {P : Pg} {ds : List (Df P)} {K : PySem.W.Frag} {h : Heap} {mg : Str → Option Value} {fa : List He.Fa} {fn : List He.DefD}
def tabOf (ds : List (Df P)) (k : FKey) : Option (Df P) := ds.find? fun d => decide (d.d.at_ = k)
theorem tab_mem {k : FKey} {d : Df P} (e : tabOf ds k = some d) : d ∈ ds ∧ d.d.at_ = k := by
  unfold tabOf at e
  exact ⟨List.mem_of_find?_eq_some e, by simpa using List.find?_some e⟩
/-- the facts of a program without classes and constants -/
theorem pg_of (X : K.In h) (G : h.Ns mainGlobals mg) (c : He.SaysD fa fn K) (hfn : fn = ds.map (·.d)) (hds : ∀ d ∈ ds, DfOk d) (hgl : P.gl = fun _ => none) (hatt : ∀ C f, P.att C f = false) (hmt : ∀ C f, P.mt C f = false) (hck : ∀ C, P.ck C = false) (hdk : ∀ C, P.dk C = none) (hdt : ∀ x, P.dt x = none) {w : World}
    (hfa : ∀ f, P.fn f = true → He.Fa.glo f ∈ fa ∧ (tabOf ds (f, none)).isSome = true) (hfree : ∀ x ∈ bltNames, He.Fa.free x ∈ fa) : PgOk P (tabOf ds) K mg w := by
  have fact : ∀ f ∈ fa, f.ok K = true := fun f hf => by
    obtain ⟨i, hi, e⟩ := List.mem_iff_getElem.mp hf
    exact c.fact i (by rw [List.getElem?_eq_getElem hi, e])
  refine ⟨fun x hx => ?_, fun x d e => ?_, fun C A f e => ?_, fun key d e => ?_, fun f hf => ?_, fun C m e => ?_, fun C e => ?_, fun C dv e => ?_, fun x kvs e => ?_⟩
  · exact He.free_ok X G (fact _ (hfree x (by
      unfold isBlt at hx
      exact List.contains_iff_mem.mp hx)))
  · rw [hgl] at e; cases e
  · rw [hatt] at e; cases e
  · obtain ⟨hm, hk⟩ := tab_mem e
    refine ⟨hds d hm, ?_⟩
    have hm2 : d.d ∈ fn := by rw [hfn]; exact List.mem_map_of_mem hm
    obtain ⟨i, hi, e2⟩ := List.mem_iff_getElem.mp hm2
    obtain ⟨fd, F⟩ := c.def_ i (d := d.d) (by rw [List.getElem?_eq_getElem hi, e2])
    refine ⟨fd, ?_⟩
    have d2 := (hds d hm).df
    have e4 : d.d.kws K = [] := by unfold He.DefD.kws; rw [d2]; rfl
    rw [e4, hk] at F
    exact F
  · obtain ⟨h1, h2⟩ := hfa f hf
    exact ⟨He.glo_ok X G (fact _ h1), h2⟩
  · rw [hmt] at e; cases e
  · rw [hck] at e; cases e
  · rw [hdk] at e; cases e
  · rw [hdt] at e; cases e
/-- the end of a law's row -/
theorem walkW {row : PySem.W.OpenLaw} {kk : Nat} {q : Program} {loose : List Str} {XP : (Str → Option Value) → Heap → Prop} {d0 : DefRec} {x : Str} {nn : Nat} {fuel j : Nat} {dl : Df P} {SD : World → Heap → PySem.W.Frag → Prop}
    (hn : row.most = some nn) (hn2 : nn ≤ sizeLine) (hdf : d0.params.defaults = []) (hr : Room kk callerA) (hkk : kk = 2 * j) (hname : d0.name = ("law" : Str))
    (hpg : ∀ (w : World) (K : PySem.W.Frag) (h : Heap) (mg : Str → Option Value), K.In h → h.Ns mainGlobals mg → SD w h K → PgOk P (tabOf ds) K mg w)
    (hlaw : P.fn "law" = true) (htab : tabOf ds ("law", none) = some dl) (hps : dl.ps = [x]) (hdfl : dl.d.dfl = [])
    (ht : ∀ ns : List Int, ∃ o, callN (tabOf ds) fuel j ("law", none) [(false, .scr ns)] = some (.ok (.bl true) o)) :
    PySem.W.WalkO q loose XP (fun w h => ∃ K : PySem.W.Frag, K.In h ∧ SD w h K) row.row.toRowW d0 [] (fun f vs => PySem.call f vs) := by
  refine Att.attach_call hn hdf fun w _ sB mg _ fA _ _ _ _ aS _ ns G Y _ _ _ hmg hob his hle hg => ?_
  obtain ⟨K, KX, c⟩ := Y
  have ok := hpg w K _ mg KX G.T.g c
  obtain ⟨dok, fd, F⟩ := ok.def_ _ dl htab
  have e1 : fA = He.ga K "law" := by
    have z := (ok.fn "law" hlaw).1
    rw [hname] at hmg
    rw [hmg] at z
    simpa using z
  have hb : ∀ (s : Shared) (u : Value), BindsTo s fd ⟨[u], []⟩ [(x, u)] := fun s u => by
    have F' := F
    have e3 : dl.d.dvs K = [] := by unfold He.DefD.dvs; rw [hdfl]; rfl
    rw [e3] at F'
    have z := FunD.bindsA (ps := dl.ps) F' (dok.bd hdfl) s [u] (by rw [hps]; rfl)
    rw [hps] at z
    exact z
  subst e1
  refine law_call (CX := L2.CX row.prog w) (sp := spOf K mg (callN (tabOf ds) fuel j ("law", none))) KX G.T.g G.T.b G.T.builtins G.T.nolimit hg hob his (Nat.le_trans hle hn2) hr (fun base _ _ => ?_) hb (fun H _ hS => ?_) fun H e s' z => cx_false z
  · have z := fn_level ok (p := row.prog) (base := base) (fuel := fuel) j _ dl htab fd F
    rw [hkk, ← hps]
    exact z
  · obtain ⟨o, ho⟩ := ht ns
    exact sp_law ho hS
end
end Ev
end
section
set_option maxRecDepth 100000
set_option maxHeartbeats 4000000
namespace Ev
open PySem PySem.Spec L2
section
variable {P : Pg} {ds : List (Df P)} {K : PySem.W.Frag} {h : Heap} {mg : Str → Option Value} {fa : List He.Fa} {fn : List He.DefD}
/-- the facts of a program with classes and constants -/
theorem pg_ofC (X : K.In h) (G : h.Ns mainGlobals mg) (c : He.SaysD fa fn K) (hfn : fn = ds.map (·.d)) (hds : ∀ d ∈ ds, DfOk d)
    (hgl : ∀ x d, P.gl x = some d → (∃ i, d = .int i ∧ He.Fa.int x i ∈ fa) ∨ (∃ z, d = .str z ∧ He.Fa.str x z ∈ fa) ∨ (d = .fn x ∧ He.Fa.glo x ∈ fa))
    (hatt : ∀ C f, P.att C f = true → He.Fa.glo C ∈ fa ∧ He.Fa.cls C ∈ fa ∧ He.Fa.noat C f ∈ fa)
    (hmt : ∀ C m, P.mt C m = true → He.Fa.glo C ∈ fa ∧ He.Fa.cls C ∈ fa ∧ He.Fa.meth C m ∈ fa ∧ (tabOf ds (C, some m)).isSome = true)
    (hck : ∀ C, P.ck C = true → He.Fa.glo C ∈ fa ∧ He.Fa.mkr C ∈ fa ∧ (tabOf ds (C, some "__init__")).isSome = true)
    (hdk : ∀ C dv, P.dk C = some dv → ∀ d, tabOf ds (C, some "__init__") = some d → dv ∈ d.dv)
    (hfa : ∀ f, P.fn f = true → He.Fa.glo f ∈ fa ∧ (tabOf ds (f, none)).isSome = true) (hfree : ∀ x ∈ bltNames, He.Fa.free x ∈ fa) {w : World} (hdt : ∀ x kvs, P.dt x = some kvs → ∃ a, mg x = some (.ref a) ∧ KTab K w a kvs) : PgOk P (tabOf ds) K mg w := by
  have fact : ∀ f ∈ fa, f.ok K = true := fun f hf => by
    obtain ⟨i, hi, e⟩ := List.mem_iff_getElem.mp hf
    exact c.fact i (by rw [List.getElem?_eq_getElem hi, e])
  refine ⟨fun x hx => ?_, fun x d e => ?_, fun C A f e hA => ?_, fun key d e => ?_, fun f hf => ?_, fun C m e => ?_, fun C e => ?_, hdk, hdt⟩
  · exact He.free_ok X G (fact _ (hfree x (by
      unfold isBlt at hx
      exact List.contains_iff_mem.mp hx)))
  · rcases hgl x d e with ⟨i, rfl, hf⟩ | ⟨z, rfl, hf⟩ | ⟨rfl, hf⟩
    · obtain ⟨t, ht⟩ := He.int_ok X G (fact _ hf)
      exact ⟨.int i, _, ht, ⟨t, rfl⟩, rfl, fun H F => by simp [Rp]⟩
    · obtain ⟨t, ht⟩ := He.str_ok X G (fact _ hf)
      exact ⟨.str z, _, ht, ⟨t, rfl⟩, rfl, fun H F => by simp [Rp]⟩
    · have z := He.glo_ok X G (fact _ hf)
      exact ⟨.ref (He.ga K x), _, z, rfl, rfl, fun H F => by simp only [Rp]; exact ⟨⟨_, rfl, z⟩, trivial⟩⟩
  · obtain ⟨h1, h2, h3⟩ := hatt C f e
    have z := He.glo_ok X G (fact _ h1)
    rw [hA] at z
    cases z
    exact ⟨He.cls_ok (fact _ h2), He.noat_ok (fact _ h3)⟩
  · obtain ⟨hm, hk⟩ := tab_mem e
    refine ⟨hds d hm, ?_⟩
    have hm2 : d.d ∈ fn := by rw [hfn]; exact List.mem_map_of_mem hm
    obtain ⟨i, hi, e2⟩ := List.mem_iff_getElem.mp hm2
    obtain ⟨fd, F⟩ := c.def_ i (d := d.d) (by rw [List.getElem?_eq_getElem hi, e2])
    refine ⟨fd, ?_⟩
    have d2 := (hds d hm).df
    have e4 : d.d.kws K = [] := by unfold He.DefD.kws; rw [d2]; rfl
    rw [e4, hk] at F
    exact F
  · obtain ⟨h1, h2⟩ := hfa f hf
    exact ⟨He.glo_ok X G (fact _ h1), h2⟩
  · obtain ⟨h1, h2, h3, h4⟩ := hmt C m e
    exact ⟨He.glo_ok X G (fact _ h1), He.cls_ok (fact _ h2), He.meth_ok (fact _ h3), h4⟩
  · obtain ⟨h1, h2, h3⟩ := hck C e
    exact ⟨He.glo_ok X G (fact _ h1), He.mkr_ok (fact _ h2), h3⟩
/-- a written dict of the top, from what the head tells -/
theorem nsIn_none {K : PySem.W.Frag} {w : World} {a : Addr} {es : Array DictEntry} {n : Nat} {ks : List Str} (D : KDict K w a es n) (h : es.toList.map He.keyOf = He.keysIn w.params ks) {z : Str} (hz : z ∉ ks) : PySem.W.nsIn K a z = some none := by
  unfold PySem.W.nsIn
  rw [D.at_]
  have key : ∀ (l : List DictEntry) (ks : List Str), l.map He.keyOf = He.keysIn w.params ks → z ∉ ks → l.find? (·.key.isStr z) = none ∧ l.any (·.refKey) = false := by
    intro l
    induction l with
    | nil => intro ks _ _; exact ⟨rfl, rfl⟩
    | cons e l ih =>
      intro ks h hz
      cases ks with
      | nil => cases h
      | cons k ks =>
        have h1 : He.keyOf e :: l.map He.keyOf = some (k, PyData.keyHash w.params k) :: He.keysIn w.params ks := h
        injection h1 with h2 h3
        obtain ⟨i1, i2⟩ := ih ks h3 (fun hm => hz (List.mem_cons_of_mem _ hm))
        unfold He.keyOf at h2
        split at h2
        · rename_i x t q
          have h4 := Option.some.inj h2
          have h5 := (Prod.mk.inj h4).1
          subst h5
          have e1 : e.key.isStr z = false := by
            rw [q]
            cases hb : (Value.str x t).isStr z with
            | false => rfl
            | true =>
              have : x = z := by simpa [Value.isStr] using hb
              exact absurd (List.mem_cons.mpr (.inl this.symm)) hz
          have e2 : e.refKey = false := by
            unfold DictEntry.refKey
            rw [q]
          rw [List.find?_cons, e1, List.any_cons, e2, i2]
          exact ⟨i1, rfl⟩
        · cases h2
  obtain ⟨h1, h2⟩ := key es.toList ks h hz
  show (match es.toList.find? (·.key.isStr z) with
    | some e => some (some e.val)
    | none => if es.toList.any (·.refKey) then none else some none) = some none
  rw [h1, h2]; rfl
theorem ktab_of {K : PySem.W.Frag} {w : World} {a : Addr} {kvs : List (Str × Str)} (h : He.dicW K a = some (He.keysIn w.params (kvs.map (·.1)))) (hv : He.valsB K a (kvs.map fun p => (p.1, He.Dv.str p.2)) = true) : KTab K w a kvs := by
  obtain ⟨es, n, D⟩ := He.dicW_ok h
  refine ⟨es, n, D, fun z y hz => ?_, fun z hz => ?_⟩
  · have hm : (z, y) ∈ kvs := by
      have : ∀ l : List (Str × Str), l.lookup z = some y → (z, y) ∈ l := by
        intro l
        induction l with
        | nil => intro h; cases h
        | cons p l ih =>
          obtain ⟨p1, p2⟩ := p
          intro h
          rw [List.lookup_cons] at h
          cases hb : z == p1 with
          | true =>
            rw [hb] at h
            have e1 : z = p1 := beq_iff_eq.mp hb
            have e2 : p2 = y := Option.some.inj h
            rw [e1, e2]; exact List.mem_cons_self
          | false =>
            rw [hb] at h
            exact List.mem_cons_of_mem _ (ih h)
      exact this kvs hz
    obtain ⟨u, hu, r⟩ := He.valsB_ok hv (List.mem_map_of_mem (f := fun p : Str × Str => (p.1, He.Dv.str p.2)) hm)
    obtain ⟨t, rfl⟩ := (show ∃ t, u = .str y t from r)
    exact ⟨t, hu⟩
  · have hd : es.toList.map He.keyOf = He.keysIn w.params (kvs.map (·.1)) := by
      have h' := h
      unfold He.dicW at h'
      rw [D.at_] at h'
      have h2 : (match decide (("dict" : String) = "dict") && ((#[] : Array (Option Value)).isEmpty && !(a == sysModules)) with
        | true => some (es.toList.map He.keyOf)
        | false => none) = some (He.keysIn w.params (kvs.map (·.1))) := h'
      rw [D.low] at h2
      exact Option.some.inj h2
    refine nsIn_none D hd fun hm => ?_
    obtain ⟨p, hp, e⟩ := List.mem_map.mp hm
    have : ∀ l : List (Str × Str), l.lookup z = none → ∀ p ∈ l, p.1 ≠ z := by
      intro l
      induction l with
      | nil => intro _ p hp; cases hp
      | cons q l ih =>
        intro h p hp
        obtain ⟨q1, q2⟩ := q
        rw [List.lookup_cons] at h
        cases hb : z == q1 with
        | true => rw [hb] at h; cases h
        | false =>
          rw [hb] at h
          rcases List.mem_cons.mp hp with rfl | hp
          · intro e2
            have e3 : q1 = z := e2
            rw [e3] at hb
            simp at hb
          · exact ih h p hp
    exact this kvs hz p hp e
def tabsOf (dtN : List (Str × List (Str × Str))) : List He.Tab := dtN.map fun p => (fun K => He.ga K p.1, p.2.map (·.1))
def exOf (dtN : List (Str × List (Str × Str))) (K : PySem.W.Frag) : Bool := dtN.all fun p => He.valsB K (He.ga K p.1) (p.2.map fun q => (q.1, He.Dv.str q.2))
theorem lookup_mem' {α : Type} {x : Str} {y : α} : ∀ {l : List (Str × α)}, l.lookup x = some y → (x, y) ∈ l
  | [], h => by cases h
  | (p1, p2) :: l, h => by
    rw [List.lookup_cons] at h
    cases hb : x == p1 with
    | true =>
      rw [hb] at h
      have e1 : x = p1 := beq_iff_eq.mp hb
      have e2 : p2 = y := Option.some.inj h
      rw [e1, e2]; exact List.mem_cons_self
    | false =>
      rw [hb] at h
      exact List.mem_cons_of_mem _ (lookup_mem' h)
theorem dts_of {dtN : List (Str × List (Str × Str))} {w : World} (X : K.In h) (G : h.Ns mainGlobals mg) (c : He.SaysT fa fn (tabsOf dtN) w K) (hex : exOf dtN K = true) (hglo : ∀ p ∈ dtN, He.Fa.glo p.1 ∈ fa) (x : Str) (kvs : List (Str × Str)) (e : dtN.lookup x = some kvs) : ∃ a, mg x = some (.ref a) ∧ KTab K w a kvs := by
  have hm := lookup_mem' e
  refine ⟨He.ga K x, He.glo_ok X G (c.d.facts (hglo _ hm)), ?_⟩
  have e1 : (tabsOf dtN).map (fun t => He.dicW K (t.1 K)) = (tabsOf dtN).map fun t => some (He.keysIn w.params t.2) := congrArg (fun z : He.AlT => z.2) c
  have e2 := List.map_inj_left.mp e1 (fun K => He.ga K x, kvs.map (·.1)) (List.mem_map_of_mem (f := fun p : Str × List (Str × Str) => ((fun K => He.ga K p.1, p.2.map (·.1)) : He.Tab)) hm)
  exact ktab_of e2 (List.all_eq_true.mp hex _ hm)
end
end Ev
end
section
set_option maxRecDepth 100000
set_option maxHeartbeats 4000000
namespace Ev
open PySem PySem.Spec L2
variable {P : Pg}
/-! ### operations, one by one -/
@[simp] theorem f_sub (a b : Int) : (opSub : Opr P).f [.int a, .int b] = some (.int (a - b)) := rfl
@[simp] theorem f_add (a b : Int) : (opAdd : Opr P).f [.int a, .int b] = some (.int (a + b)) := rfl
@[simp] theorem f_neg (a : Int) : (opNeg : Opr P).f [.int a] = some (.int (-a)) := rfl
@[simp] theorem f_and (a b : Int) : (opAnd : Opr P).f [.int a, .int b] = some (.int (Builtin.bitAnd a b)) := rfl
@[simp] theorem f_or (a b : Int) : (opOr : Opr P).f [.int a, .int b] = some (.int (Builtin.bitOr a b)) := rfl
@[simp] theorem f_xor (a b : Int) : (opXor : Opr P).f [.int a, .int b] = some (.int (Builtin.bitXor a b)) := rfl
theorem f_mod {a b : Int} (h : 0 < b) : (opMod : Opr P).f [.int a, .int b] = some (.int (a % b)) := by
  show (if cMod a b = true then some (D.int (a % b)) else none) = _
  rw [if_pos (by simpa [cMod] using h)]
theorem f_div {a b : Int} (h : 0 < b) (h2 : b < 2 ^ 64) : (opDiv : Opr P).f [.int a, .int b] = some (.int (a / b)) := by
  show (if cDiv a b = true then some (D.int (a / b)) else none) = _
  rw [if_pos (by simp [cDiv]; omega)]
theorem f_mul {a b : Int} (h : a.natAbs < 2 ^ 64 ∨ b.natAbs < 2 ^ 64) : (opMul : Opr P).f [.int a, .int b] = some (.int (a * b)) := by
  show (if a.natAbs < 2 ^ 64 ∨ b.natAbs < 2 ^ 64 then some (D.int (a * b)) else none) = _
  rw [if_pos h]
theorem f_pow {a b : Int} (h : 0 ≤ b) (h2 : b ≤ 1000000) (h3 : a.natAbs < 2 ^ 64) : (opPow : Opr P).f [.int a, .int b] = some (.int (a ^ b.toNat)) := by
  show (if cPow a b = true then some (D.int (a ^ b.toNat)) else none) = _
  rw [if_pos (by simp [cPow]; omega)]
theorem f_shl {a b : Int} (h : 0 ≤ b) (h2 : b ≤ 1000000) (h3 : a.natAbs < 2 ^ 64) : (opShl : Opr P).f [.int a, .int b] = some (.int (a * 2 ^ b.toNat)) := by
  show (if cPow a b = true then some (D.int (a * 2 ^ b.toNat)) else none) = _
  rw [if_pos (by simp [cPow]; omega)]
theorem f_shr {a b : Int} (h : 0 ≤ b) : (opShr : Opr P).f [.int a, .int b] = some (.int (a / 2 ^ b.toNat)) := by
  show (if cShr a b = true then some (D.int (a / 2 ^ b.toNat)) else none) = _
  rw [if_pos (by simpa [cShr] using h)]
@[simp] theorem f_lt (a b : Int) : (opLt : Opr P).f [.int a, .int b] = some (.bl (decide (a < b))) := rfl
@[simp] theorem f_le (a b : Int) : (opLe : Opr P).f [.int a, .int b] = some (.bl (decide (a ≤ b))) := rfl
@[simp] theorem f_gt (a b : Int) : (opGt : Opr P).f [.int a, .int b] = some (.bl (decide (b < a))) := rfl
@[simp] theorem f_ge (a b : Int) : (opGe : Opr P).f [.int a, .int b] = some (.bl (decide (b ≤ a))) := rfl
@[simp] theorem eqD_ii (a b : Int) : eqD (.int a) (.int b) = some (decide (a = b)) := by
  simp [eqD, toPy, SeqAt.shaped, PyData.eqv, PyData.canLay0, PyData.depth]
  rfl
theorem f_eqD {a b : D} {r : Bool} (h : eqD a b = some r) : (opEq : Opr P).f [a, b] = some (.bl r) := by
  show (eqD a b).map _ = _
  rw [h]; rfl
theorem f_neD {a b : D} {r : Bool} (h : eqD a b = some r) : (opNe : Opr P).f [a, b] = some (.bl (!r)) := by
  show (eqD a b).map _ = _
  rw [h]; rfl
@[simp] theorem f_eq (a b : Int) : (opEq : Opr P).f [.int a, .int b] = some (.bl (decide (a = b))) := f_eqD (eqD_ii a b)
@[simp] theorem f_ne (a b : Int) : (opNe : Opr P).f [.int a, .int b] = some (.bl (!decide (a = b))) := f_neD (eqD_ii a b)
@[simp] theorem f_abs (a : Int) : (opAbs : Opr P).f [.int a] = some (.int (if a < 0 then -a else a)) := rfl
@[simp] theorem f_lenL (o : Bool) (xs : List D) : (opLen : Opr P).f [.lst o xs] = some (.int xs.length) := rfl
@[simp] theorem f_lenT (xs : List D) : (opLen : Opr P).f [.tup xs] = some (.int xs.length) := rfl
@[simp] theorem isFs_ints (xs : List Int) : isFs (xs.map D.int) = true := by rw [isFs_all]; simp [isF]
@[simp] theorem isF_int (i : Int) : isF (.int i) = true := rfl
@[simp] theorem isF_bl (i : Bool) : isF (.bl i) = true := rfl
@[simp] theorem isF_str (i : Str) : isF (.str i) = true := rfl
theorem toPys_ints : ∀ xs : List Int, toPys (xs.map D.int) = some (xs.map PyData.int)
  | [] => rfl
  | x :: xs => by
    simp only [List.map_cons, toPys, toPy, toPys_ints xs]
theorem lay_ints : ∀ xs : List Int, PyData.canLayAll0 (xs.map PyData.int) = true ∧ PyData.depthAll (xs.map PyData.int) = 0
  | [] => by simp [PyData.canLayAll0, PyData.depthAll]
  | x :: xs => by
    obtain ⟨h1, h2⟩ := lay_ints xs
    simp [PyData.canLayAll0, PyData.depthAll, PyData.canLay0, PyData.depth, h1, h2]
theorem shaped_ints (xs : List Int) : SeqAt.shaped (.list (xs.map PyData.int)) = true := by
  obtain ⟨h1, h2⟩ := lay_ints xs
  simp [SeqAt.shaped, PyData.canLay0, PyData.depth, h1, h2]
theorem eqD_nil {o : Bool} (xs : List Int) : eqD (.lst o (xs.map D.int)) (.lst true []) = some xs.isEmpty := by
  have h1 := shaped_ints xs
  have h2 := shaped_ints []
  simp only [eqD, toPy, toPys_ints, toPys, Option.map_some, h1]
  rw [if_pos ⟨trivial, h2⟩]
  cases xs with
  | nil => simp [PyData.eqv, PyData.eqvAll]
  | cons x xs => simp [PyData.eqv, PyData.eqvAll]
theorem f_ne_nil {o : Bool} (xs : List Int) : (opNe : Opr P).f [.lst o (xs.map D.int), .lst true []] = some (.bl (!xs.isEmpty)) := f_neD (eqD_nil xs)
theorem atI_last {α : Type} (xs : List α) (c : α) : atI (xs ++ [c]) (-1) = some c := by
  unfold atI ixN
  rw [if_neg (by omega), if_pos (by simp; omega)]
  show (xs ++ [c])[((-1 : Int) + ((xs ++ [c]).length : Int)).toNat]? = some c
  have : ((-1 : Int) + ((xs ++ [c]).length : Int)).toNat = xs.length := by simp; omega
  rw [this]
  simp
theorem getI_last {o : Bool} (xs : List D) (c : D) : getI (.lst o (xs ++ [c])) (.int (-1)) = some c := atI_last xs c
theorem getI_at {o : Bool} {xs : List D} {i : Int} (h : 0 ≤ i) (h2 : i < xs.length) : getI (.lst o xs) (.int i) = xs[i.toNat]? := by
  show atI xs i = _
  unfold atI ixN
  rw [if_pos h, if_pos h2]; rfl
theorem popF_last {xs : List D} (c : D) : popF (.lst true (xs ++ [c])) [] = some (c, .lst true xs) := by
  have : (xs ++ [c])[(xs ++ [c]).length - 1]? = some c := by simp
  show Option.map (fun y => (y, D.lst true (xs ++ [c]).dropLast)) (xs ++ [c])[(xs ++ [c]).length - 1]? = _
  rw [this]
  simp
/-! ### statements, one by one -/
section
variable {cl : Cl} {n : Nat} {t t1 t' rt : Tr} {r : List (S P)}
theorem ss_nil : exSs cl n ([] : List (S P)) t = some (.nx t) := by simp only [exSs]
theorem ss_nx {s : S P} (h : exS cl n s t = some (.nx t')) : exSs cl n (s :: r) t = exSs cl n r t' := by simp only [exSs, h]
theorem ss_rt {s : S P} {d : D} (h : exS cl n s t = some (.rt d t')) : exSs cl n (s :: r) t = some (.rt d t') := by simp only [exSs, h]
theorem s_set' {i : Nat} {b : B P} {d : D} (h : evB cl (noRt t) b t = some (.ok d t1)) (hi : i < t1.length) : exS cl n (.set i b) t = some (.nx (t1.set i (some d))) := by
  simp only [exS, h, bindS]; rw [if_pos hi]
theorem s_ret' {b : B P} {d : D} (h : evB cl (noRt t) b t = some (.ok d t1)) : exS cl n (.ret b) t = some (.rt d t1) := by simp only [exS, h, bindS]
theorem s_t {c : B P} {a b : List (S P)} (h : evB cl (noRt t) c t = some (.ok (.bl true) t1)) : exS cl n (.iff c a b) t = exSs cl n a t1 := by simp only [exS, h, bindS]
theorem s_f {c : B P} {a b : List (S P)} (h : evB cl (noRt t) c t = some (.ok (.bl false) t1)) : exS cl n (.iff c a b) t = exSs cl n b t1 := by simp only [exS, h, bindS]
theorem s_ex' {b : B P} {d : D} (h : evB cl (noRt t) b t = some (.ok d t1)) : exS cl n (.ex b) t = some (.nx t1) := by simp only [exS, h, bindS]
theorem b_pu {a : A P} {d : D} (h : evA t rt a = some d) (hf : isF d = true ∨ shares a = false) : evB cl rt (.pu a) t = some (.ok d t) := by
  simp only [evB, h, Option.bind_some]; rw [if_pos hf]
/-- x[i] = v, x a name's list -/
theorem s_putI {i : Nat} {v : B P} {k : A P} {y : D} {xs : List D} {kk : Int} {j : Nat} (h : evB cl (noRt t) v t = some (.ok y t1)) (h1 : t1[i]? = some (some (.lst true xs))) (h2 : evA t1 (noRt t) k = some (.int kk)) (h3 : ixN xs.length kk = some j) :
    exS cl n (.put putI none v [.rf i, .pu k]) t = some (.nx (t1.set i (some (.lst true (xs.set j y))))) := by
  have e : evOs cl none (noRt t) [.rf i, .pu k] t1 = some (.ok [.ref i, .val (.int kk)] t1) := by
    simp [evOs, h1, evB, h2, bindR, isF]
  simp only [exS, h, bindS, e, h1, valsOf, Option.map_some]
  show (putIF (.lst true xs) [.int kk] y).map _ = _
  simp [putIF, h3]
/-- abs(x[k].pop()), x a name's list -/
theorem b_popAbs {i : Nat} {xs : List D} {ys : List D} {c : Int} (h1 : t[i]? = some (some (.lst true (.lst true (ys ++ [.int c]) :: xs)))) (hr : t.length = rt.length) (hrn : rt[i]? = some none) :
    evB cl rt (.q opAbs [.mut mPop (some i) [.dp (.ix (.v i) (.c (.int 0)))]] : B P) t = some (.ok (.int (if c < 0 then -c else c)) (t.set i (some (.lst true (.lst true ys :: xs))))) := by
  have hi : i < rt.length := (List.getElem?_eq_some_iff.mp hrn).1
  have hi2 : i < t.length := by omega
  have lk : look (t.set i none) (rt.set i (some (.lst true (.lst true (ys ++ [.int c]) :: xs)))) i = some (.lst true (.lst true (ys ++ [.int c]) :: xs)) := by
    unfold look
    rw [List.getElem?_set_self hi2, List.getElem?_set_self hi]
  have e1 : evA (t.set i none) (rt.set i (some (.lst true (.lst true (ys ++ [.int c]) :: xs)))) (.ix (.v i) (.c (.int 0)) : A P) = some (.lst true (ys ++ [.int c])) := by
    simp [evA, lk, getI, atI, ixN]
  have e2 : pth (t.set i none) (rt.set i (some (.lst true (.lst true (ys ++ [.int c]) :: xs)))) (.ix (.v i) (.c (.int 0)) : A P) = some (i, [.ix 0]) := by
    simp [pth, evA, lk, stpOf, ixN]
  have e3 : evB cl rt (.mut mPop (some i) [.dp (.ix (.v i) (.c (.int 0)))] : B P) t = some (.ok (.int c) (t.set i (some (.lst true (.lst true ys :: xs))))) := by
    simp only [evB, h1, hdD, e1]
    rw [if_pos (by rfl)]
    simp only [evOs, e1, e2]
    rw [if_pos ⟨trivial, by simp [List.getElem?_set_self hi2]⟩]
    simp only [bindR, valsOf, getP, getS]
    simp [mPop, mutM, popF_last, putP, getS, setS]
  have e4 : evOs cl none rt [(.mut mPop (some i) [.dp (.ix (.v i) (.c (.int 0)))] : B P)] t = some (.ok [.val (.int c)] (t.set i (some (.lst true (.lst true ys :: xs))))) := by simp [evOs, e3, bindR]
  rw [evB, e4]
  simp [bindR, opdDs, opdD]
/-- a call of a def by values and lent names -/
theorem b_call {f : Str} {es : List (B P)} {os : List Opd} {args : List (Bool × D)} {t2 t3 : Tr} {d : D} {o : List (Option D)} (h1 : evOs cl none rt es t = some (.ok os t1)) (h2 : lend none os t1 = some (args, t2)) (h3 : cl (f, none) args = some (.ok d o)) (h4 : giveB os o t2 none = some (t3, none)) :
    evB cl rt (.call (.glob f) none es) t = some (.ok d t3) := by
  simp only [evB, rcvOk, if_true, resF, Option.bind_some, h1, bindR, callK, h2, Option.bind_some, fkey, backF, h3, backR, h4, noW, Option.map_some]
open Classical in
/-- a comprehension whose turns leave the slots as they were -/
theorem lcGo_pure {own : List Nat} {os : List Opd} {ds : List D} {one : D → Tr → Option (Rs (Option D))} {p : D → Option D} (hos : opdDs t os = some ds) : ∀ (l acc : List D), (∀ x ∈ l, ∃ t', one x t = some (.ok (p x) t') ∧ wipeT t' own = t) → acc.length + l.length ≤ sizeLine →
    lcGo own os ds one l acc t = some (.ok (acc ++ l.filterMap p) t)
  | [], acc, _, _ => by simp [lcGo, hos]
  | x :: l, acc, h, hl => by
    obtain ⟨t', h1, h2⟩ := h x (by simp)
    simp only [List.length_cons] at hl
    simp only [lcGo]
    rw [if_pos hos, h1]
    cases e : p x with
    | none =>
      simp only [h2]
      rw [lcGo_pure hos l acc (fun y hy => h y (by simp [hy])) (by omega)]
      simp [e]
    | some d =>
      simp only [h2]
      rw [if_pos (by omega), lcGo_pure hos l (acc ++ [d]) (fun y hy => h y (by simp [hy])) (by simp; omega)]
      simp [e]
/-- a loop by what stays true -/
theorem forGo_inv {os : List Opd} {ds : List D} {tg : Tg} {one : Tr → Option RsS} {I : List D → Tr → Prop} (hos : ∀ pre t, I pre t → opdDs t os = some ds) : ∀ (l pre : List D) (t : Tr), I pre t → (∀ x ∈ l, ∀ pre t, I pre t → ∃ t', (asg tg x t).bind one = some (.nx t') ∧ I (pre ++ [x]) t') →
    ∃ t', forGo os ds tg one l t = some (.nx t') ∧ I (pre ++ l) t'
  | [], pre, t, h, _ => ⟨t, by simp only [forGo]; rw [if_pos (hos pre t h)], by simpa using h⟩
  | x :: l, pre, t, h, k => by
    obtain ⟨t1, h1, h2⟩ := k x (by simp) pre t h
    obtain ⟨t2, h3, h4⟩ := forGo_inv hos l (pre ++ [x]) t1 h2 fun y hy => k y (by simp [hy])
    refine ⟨t2, ?_, by simpa using h4⟩
    simp only [forGo]
    rw [if_pos (hos pre t h), h1]
    exact h3
theorem forGo_split {os : List Opd} {ds : List D} {tg : Tg} {one : Tr → Option RsS} {I : List D → Tr → Prop} {L : List D} (hos : ∀ pre t, I pre t → opdDs t os = some ds) (k : ∀ pre x post, L = pre ++ x :: post → ∀ t, I pre t → ∃ t', (asg tg x t).bind one = some (.nx t') ∧ I (pre ++ [x]) t') : ∀ (l pre : List D) (t : Tr), L = pre ++ l → I pre t →
    ∃ t', forGo os ds tg one l t = some (.nx t') ∧ I L t'
  | [], pre, t, e, h => ⟨t, by simp only [forGo]; rw [if_pos (hos pre t h)], by rw [e]; simpa using h⟩
  | x :: l, pre, t, e, h => by
    obtain ⟨t1, h1, h2⟩ := k pre x l e t h
    obtain ⟨t2, h3, h4⟩ := forGo_split hos k l (pre ++ [x]) t1 (by rw [e]; simp) h2
    refine ⟨t2, ?_, h4⟩
    simp only [forGo]
    rw [if_pos (hos pre t h), h1]
    exact h3
/-- x.append(e), x a name's list -/
theorem s_app {i : Nat} {b : B P} {d : D} {xs : List D} (h : evB cl (noRt t) b t = some (.ok d t1)) (h0 : t[i]? = some (some (.lst true xs))) (h1 : t1[i]? = some (some (.lst true xs))) (hl : xs.length < sizeLine) (eo : ∀ rt t, evOs cl none rt [b] t = bindR (evB cl rt b t) fun d t1 => some (.ok [.val d] t1)) :
    exS cl n (.ex (.mut mAppend none [.rf i, b])) t = some (.nx (t1.set i (some (.lst true (xs ++ [d]))))) := by
  refine s_ex' (d := .non) ?_
  rw [evB]
  simp only [hdD, h0, Option.join_some]
  rw [if_pos (by rfl)]
  simp only [evOs, h0]
  rw [eo, h]
  simp only [bindR, h1, valsOf, Option.map_some]
  show ((appF (.lst true xs) [d]).map _) = _
  simp [appF, hl]
theorem s_for' {tg : Tg} {it : Itr P} {es : List (B P)} {body : List (S P)} {os : List Opd} {ds l : List D} (h1 : evOs cl none (noRt t) es t = some (.ok os t1)) (h2 : opdDs t1 os = some ds) (h3 : it.f ds = some l) : exS cl n (.for tg it es body) t = forGo os ds tg (exSs cl n body) l t1 := by
  simp only [exS, h1, bindS, h2, h3, Option.bind_some]
/-- a def that returns -/
theorem call_rt {tab : FKey → Option (Df P)} {fuel k : Nat} {key : FKey} {args : List (Bool × D)} {df : Df P} {t0 : Tr} {x : D} (h1 : tab key = some df) (h2 : args.length = df.ps.length) (h3 : lentOk df.pr 0 args = true) (h0 : (args.map (·.2)).map some ++ List.replicate (df.N.length - args.length) none = t0)
    (h4 : exSs (callN tab fuel k) fuel df.body t0 = some (.rt x t)) : callN tab fuel (k + 1) key args = some (.ok x (outs args t)) := by
  subst h0
  show (tab key).bind (fun d => runD (callN tab fuel k) fuel d args) = _
  rw [h1]
  simp only [Option.bind_some, runD]
  rw [if_pos ⟨h2, h3⟩, h4]
end
end Ev
end
section
set_option maxRecDepth 100000
set_option maxHeartbeats 4000000
namespace Ev
open PySem PySem.Spec L2
/-! ### frozen data -/
inductive Q where
  | non | bl (b : Bool) | int (i : Int) | str (x : Str)
  | tup (xs : List Q) | lst (xs : List Q)
mutual
def eQ : Q → D
  | .non => .non
  | .bl b => .bl b
  | .int i => .int i
  | .str x => .str x
  | .tup xs => .tup (eQs xs)
  | .lst xs => .lst false (eQs xs)
def eQs : List Q → List D
  | [] => []
  | d :: r => eQ d :: eQs r
end
theorem eQs_map : ∀ xs : List Q, eQs xs = xs.map eQ
  | [] => rfl
  | x :: xs => by simp only [eQs, List.map_cons, eQs_map xs]
mutual
theorem isF_eQ : ∀ q : Q, isF (eQ q) = true
  | .non => rfl
  | .bl _ => rfl
  | .int _ => rfl
  | .str _ => rfl
  | .tup xs => by simp only [eQ, isF, isFs_eQs xs]
  | .lst xs => by simp only [eQ, isF, isFs_eQs xs]; rfl
theorem isFs_eQs : ∀ q : List Q, isFs (eQs q) = true
  | [] => rfl
  | x :: xs => by simp only [eQs, isFs, isF_eQ x, isFs_eQs xs]; rfl
end
/-! ### from values to trees -/
section
variable {α β γ δ : Type}
abbrev eI : Int → D := D.int
abbrev eB : Bool → D := D.bl
abbrev eS : Str → D := D.str
abbrev eN : Unit → D := fun _ => .non
abbrev eScr : List Int → D := D.scr
def eO (e : α → D) : Option α → D
  | none => .non
  | some a => e a
abbrev eL (o : Bool) (e : α → D) (xs : List α) : D := .lst o (xs.map e)
abbrev eT1 (e1 : α → D) (p : α) : D := .tup [e1 p]
abbrev eT2 (e1 : α → D) (e2 : β → D) (p : α × β) : D := .tup [e1 p.1, e2 p.2]
abbrev eT3 (e1 : α → D) (e2 : β → D) (e3 : γ → D) (p : α × β × γ) : D := .tup [e1 p.1, e2 p.2.1, e3 p.2.2]
abbrev eT4 (e1 : α → D) (e2 : β → D) (e3 : γ → D) (e4 : δ → D) (p : α × β × γ × δ) : D := .tup [e1 p.1, e2 p.2.1, e3 p.2.2.1, e4 p.2.2.2]
abbrev eF2 (e1 : α → D) (e2 : β → D) (p : α × β) : D := .lst true [e1 p.1, e2 p.2]
abbrev eF3 (e1 : α → D) (e2 : β → D) (e3 : γ → D) (p : α × β × γ) : D := .lst true [e1 p.1, e2 p.2.1, e3 p.2.2]
abbrev eF4 (e1 : α → D) (e2 : β → D) (e3 : γ → D) (e4 : δ → D) (p : α × β × γ × δ) : D := .lst true [e1 p.1, e2 p.2.1, e3 p.2.2.1, e4 p.2.2.2]
/-- frozen throughout -/
def Fz (e : α → D) : Prop := ∀ a, isF (e a) = true
theorem fzI : Fz eI := fun _ => rfl
theorem fzB : Fz eB := fun _ => rfl
theorem fzS : Fz eS := fun _ => rfl
theorem fzN : Fz eN := fun _ => rfl
theorem fzQ : Fz eQ := isF_eQ
theorem fzScr : Fz eScr := fun _ => rfl
theorem isFs_map {e : α → D} (h : Fz e) (xs : List α) : isFs (xs.map e) = true := by
  rw [isFs_all, List.all_map]; exact List.all_eq_true.mpr fun a _ => h a
theorem fzL {e : α → D} (h : Fz e) : Fz (eL false e) := fun xs => by simp only [isF, isFs_map h]; rfl
theorem fzO {e : α → D} (h : Fz e) : Fz (eO e)
  | none => rfl
  | some a => h a
theorem fzT1 {e1 : α → D} (h1 : Fz e1) : Fz (eT1 e1) := fun p => by simp only [isF, isFs, h1 _]; rfl
theorem fzT2 {e1 : α → D} {e2 : β → D} (h1 : Fz e1) (h2 : Fz e2) : Fz (eT2 e1 e2) := fun p => by simp only [isF, isFs, h1 _, h2 _]; rfl
theorem fzT3 {e1 : α → D} {e2 : β → D} {e3 : γ → D} (h1 : Fz e1) (h2 : Fz e2) (h3 : Fz e3) : Fz (eT3 e1 e2 e3) := fun p => by simp only [isF, isFs, h1 _, h2 _, h3 _]; rfl
theorem fzT4 {e1 : α → D} {e2 : β → D} {e3 : γ → D} {e4 : δ → D} (h1 : Fz e1) (h2 : Fz e2) (h3 : Fz e3) (h4 : Fz e4) : Fz (eT4 e1 e2 e3 e4) := fun p => by simp only [isF, isFs, h1 _, h2 _, h3 _, h4 _]; rfl
/-- freezing -/
def Fr (e e' : α → D) : Prop := ∀ a, frz (e a) = e' a
theorem frzs_map {e e' : α → D} (h : Fr e e') : ∀ xs : List α, frzs (xs.map e) = xs.map e'
  | [] => rfl
  | x :: xs => by simp only [List.map_cons, frzs, h x, frzs_map h xs]
theorem frOf {e : α → D} (h : Fz e) : Fr e e := fun a => frz_isF _ (h a)
theorem frL {o : Bool} {e e' : α → D} (h : Fr e e') : Fr (eL o e) (eL false e') := fun xs => by simp only [frz, frzs_map h]
theorem frO {e e' : α → D} (h : Fr e e') : Fr (eO e) (eO e')
  | none => rfl
  | some a => h a
theorem frT2 {e1 e1' : α → D} {e2 e2' : β → D} (h1 : Fr e1 e1') (h2 : Fr e2 e2') : Fr (eT2 e1 e2) (eT2 e1' e2') := fun p => by simp only [frz, frzs, h1 _, h2 _]
theorem frT3 {e1 e1' : α → D} {e2 e2' : β → D} {e3 e3' : γ → D} (h1 : Fr e1 e1') (h2 : Fr e2 e2') (h3 : Fr e3 e3') : Fr (eT3 e1 e2 e3) (eT3 e1' e2' e3') := fun p => by simp only [frz, frzs, h1 _, h2 _, h3 _]
end
/-! ### operations on values -/
def modO (a b : Int) : Option Int := if 0 < b then some (a % b) else none
def divO (a b : Int) : Option Int := if 0 < b ∧ b < 2 ^ 64 then some (a / b) else none
def mulO (a b : Int) : Option Int := if a.natAbs < 2 ^ 64 ∨ b.natAbs < 2 ^ 64 then some (a * b) else none
def powO (a b : Int) : Option Int := if 0 ≤ b ∧ b ≤ 1000000 ∧ a.natAbs < 2 ^ 64 then some (a ^ b.toNat) else none
def shlO (a b : Int) : Option Int := if 0 ≤ b ∧ b ≤ 1000000 ∧ a.natAbs < 2 ^ 64 then some (a * 2 ^ b.toNat) else none
def shrO (a b : Int) : Option Int := if 0 ≤ b then some (a / 2 ^ b.toNat) else none
def absI (a : Int) : Int := if a < 0 then -a else a
def ixO {α : Type} (xs : List α) (i : Int) : Option α := atI xs i
def appO {α : Type} (xs : List α) (x : α) : Option (List α) := if xs.length < sizeLine then some (xs ++ [x]) else none
def popO {α : Type} (xs : List α) : Option (α × List α) := (xs[xs.length - 1]?).map fun y => (y, xs.dropLast)
def putO {α : Type} (xs : List α) (i : Int) (y : α) : Option (List α) := (ixN xs.length i).map fun j => xs.set j y
def rng (a b : Int) : List Int := (List.range (b - a).toNat).map fun i : Nat => a + (i : Int)
def rngO (a b : Int) : Option (List Int) := if -(2 ^ 62) ≤ a ∧ a < 2 ^ 62 ∧ -(2 ^ 62) ≤ b ∧ b < 2 ^ 62 then some (rng a b) else none
def lenO {α : Type} (xs : List α) : Option Int := if xs.length ≤ sizeLine then some (xs.length : Int) else none
def catO {α : Type} (xs ys : List α) : Option (List α) := if xs.length + ys.length ≤ sizeLine then some (xs ++ ys) else none
def repO {α : Type} (xs : List α) (k : Int) : Option (List α) := if -(2 ^ 63) ≤ k ∧ k < 2 ^ 63 ∧ xs.length * k.toNat ≤ sizeLine then some (List.replicate k.toNat xs).flatten else none
def eqS (a b : Str) : Option Bool := eqD (.str a) (.str b)
def ixQ : Q → Int → Option Q
  | .tup xs, i => atI xs i
  | .lst xs, i => atI xs i
  | _, _ => none
def lenQ : Q → Option Int
  | .tup xs => some xs.length
  | .lst xs => some xs.length
  | _ => none
def eqQ (a b : Q) : Option Bool := eqD (eQ a) (eQ b)
def tyQ : Q → String
  | .non => "NoneType"
  | .bl _ => "bool"
  | .int _ => "int"
  | .str _ => "str"
  | .lst _ => "list"
  | .tup _ => "tuple"
def isiQ (q : Q) (n : String) : Option Bool := kitB (tyQ q) n
def asI : Q → Option Int
  | .int i => some i
  | _ => none
def asS : Q → Option Str
  | .str i => some i
  | _ => none
def asB : Q → Option Bool
  | .bl i => some i
  | _ => none
def asL : Q → Option (List Q)
  | .lst i => some i
  | _ => none
def asT : Q → Option (List Q)
  | .tup i => some i
  | _ => none
def asX : Q → Option (List Q)
  | .tup i => some i
  | .lst i => some i
  | _ => none
def un1 : Q → Option Q
  | .tup [a] => some a
  | _ => none
def un2 : Q → Option (Q × Q)
  | .tup [a, b] => some (a, b)
  | _ => none
def un3 : Q → Option (Q × Q × Q)
  | .tup [a, b, c] => some (a, b, c)
  | _ => none
def un4 : Q → Option (Q × Q × Q × Q)
  | .tup [a, b, c, d] => some (a, b, c, d)
  | _ => none
def un5 : Q → Option (Q × Q × Q × Q × Q)
  | .tup [a, b, c, d, e] => some (a, b, c, d, e)
  | _ => none
section
variable {α β σ ρ : Type}
def gdO (b : Bool) : Option Unit := if b = true then some () else none
/-- where a block ends -/
inductive Ctl (σ ρ : Type) where
  | nx (s : σ)
  | rt (v : ρ)
def forO (f : σ → α → Option σ) : List α → σ → Option σ
  | [], s => some s
  | x :: r, s => Option.bind (f s x) fun s' => forO f r s'
def forC (f : σ → α → Option (Ctl σ ρ)) : List α → σ → Option (Ctl σ ρ)
  | [], s => some (.nx s)
  | x :: r, s => Option.bind (f s x) fun c => match c with
    | .nx s' => forC f r s'
    | .rt v => some (.rt v)
def whO (c : σ → Option Bool) (f : σ → Option σ) : Nat → σ → Option σ
  | 0, _ => none
  | n + 1, s => Option.bind (c s) fun b => if b = true then Option.bind (f s) fun s' => whO c f n s' else some s
def whC (c : σ → Option Bool) (f : σ → Option (Ctl σ ρ)) : Nat → σ → Option (Ctl σ ρ)
  | 0, _ => none
  | n + 1, s => Option.bind (c s) fun b => if b = true then Option.bind (f s) fun k => (match k with
    | .nx s' => whC c f n s'
    | .rt v => some (.rt v)) else some (.nx s)
def mapO' (f : α → Option β) : List α → Option (List β)
  | [] => some []
  | x :: r => Option.bind (f x) fun y => Option.bind (mapO' f r) fun ys => some (y :: ys)
def mapO (f : α → Option β) (xs : List α) : Option (List β) := if xs.length ≤ sizeLine then mapO' f xs else none
def filO' (f : α → Option (Option β)) : List α → Option (List β)
  | [] => some []
  | x :: r => Option.bind (f x) fun y => Option.bind (filO' f r) fun ys => some (match y with
    | some z => z :: ys
    | none => ys)
def filO (f : α → Option (Option β)) (xs : List α) : Option (List β) := if xs.length ≤ sizeLine then filO' f xs else none
def mapS' (f : σ → α → Option (β × σ)) : List α → σ → Option (List β × σ)
  | [], s => some ([], s)
  | x :: r, s => Option.bind (f s x) fun y => Option.bind (mapS' f r y.2) fun ys => some (y.1 :: ys.1, ys.2)
def mapS (f : σ → α → Option (β × σ)) (xs : List α) (s : σ) : Option (List β × σ) := if xs.length ≤ sizeLine then mapS' f xs s else none
def filS' (f : σ → α → Option (Option β × σ)) : List α → σ → Option (List β × σ)
  | [], s => some ([], s)
  | x :: r, s => Option.bind (f s x) fun y => Option.bind (filS' f r y.2) fun ys => some ((match y.1 with
    | some z => z :: ys.1
    | none => ys.1), ys.2)
def filS (f : σ → α → Option (Option β × σ)) (xs : List α) (s : σ) : Option (List β × σ) := if xs.length ≤ sizeLine then filS' f xs s else none
theorem nt {b : Bool} (h : b = false) : ¬ b = true := by rw [h]; exact Bool.false_ne_true
theorem bd {m : Option α} {f : α → Option β} {r : β} (h : Option.bind m f = some r) : ∃ a, m = some a ∧ f a = some r := Option.bind_eq_some_iff.mp h
end
/-! ### operations: from the evaluator's to the values' -/
section
variable {P : Pg} {α β γ : Type}
theorem g_mod {a b c : Int} (h : modO a b = some c) : (opMod : Opr P).f [.int a, .int b] = some (.int c) := by
  unfold modO at h; split at h
  · cases h; exact f_mod (by assumption)
  · cases h
theorem g_div {a b c : Int} (h : divO a b = some c) : (opDiv : Opr P).f [.int a, .int b] = some (.int c) := by
  unfold divO at h; split at h
  · rename_i h1; cases h; exact f_div h1.1 h1.2
  · cases h
theorem g_mul {a b c : Int} (h : mulO a b = some c) : (opMul : Opr P).f [.int a, .int b] = some (.int c) := by
  unfold mulO at h; split at h
  · rename_i h1; cases h; exact f_mul h1
  · cases h
theorem g_pow {a b c : Int} (h : powO a b = some c) : (opPow : Opr P).f [.int a, .int b] = some (.int c) := by
  unfold powO at h; split at h
  · rename_i h1; cases h; exact f_pow h1.1 h1.2.1 h1.2.2
  · cases h
theorem g_shl {a b c : Int} (h : shlO a b = some c) : (opShl : Opr P).f [.int a, .int b] = some (.int c) := by
  unfold shlO at h; split at h
  · rename_i h1; cases h; exact f_shl h1.1 h1.2.1 h1.2.2
  · cases h
theorem g_shr {a b c : Int} (h : shrO a b = some c) : (opShr : Opr P).f [.int a, .int b] = some (.int c) := by
  unfold shrO at h; split at h
  · rename_i h1; cases h; exact f_shr h1
  · cases h
theorem g_eq {a b : D} {c : Bool} (h : eqD a b = some c) : (opEq : Opr P).f [a, b] = some (.bl c) := f_eqD h
theorem g_ne {a b : D} {c : Bool} (h : eqD a b = some c) : (opNe : Opr P).f [a, b] = some (.bl (!c)) := f_neD h
theorem g_eqI (a b : Int) : (opEq : Opr P).f [.int a, .int b] = some (.bl (decide (a = b))) := f_eq a b
theorem g_neI (a b : Int) : (opNe : Opr P).f [.int a, .int b] = some (.bl (!decide (a = b))) := f_ne a b
theorem atI_map {f : α → β} {xs : List α} {i : Int} {x : α} (h : atI xs i = some x) : atI (xs.map f) i = some (f x) := by
  unfold atI at h ⊢
  obtain ⟨j, h1, h2⟩ := Option.bind_eq_some_iff.mp h
  rw [List.length_map, h1]
  simp [h2]
/-- x[i] in pure code -/
theorem i_L {o : Bool} {e : α → D} {xs : List α} {i : Int} {x : α} (h : ixO xs i = some x) : getI (eL o e xs) (.int i) = some (e x) := atI_map h
theorem i_Scr {xs : List Int} {i : Int} {x : Int} (h : ixO xs i = some x) : (opIx : Opr P).f [.scr xs, .int i] = some (.int x) := by
  show Option.map D.int (atI xs i) = _
  rw [show atI xs i = some x from h]; rfl
theorem i_Q {q : Q} {i : Int} {x : Q} (h : ixQ q i = some x) : getI (eQ q) (.int i) = some (eQ x) := by
  cases q <;> simp only [ixQ] at h <;> first | (cases h; done) | skip
  all_goals
    simp only [eQ, getI, eQs_map]
    exact atI_map h
/-- x[i] of values -/
theorem j_L {o : Bool} {e : α → D} {xs : List α} {i : Int} {x : α} (he : Fz e) (h : ixO xs i = some x) : (opIx : Opr P).f [eL o e xs, .int i] = some (e x) := by
  show (atI (xs.map e) i).bind _ = _
  rw [atI_map (show atI xs i = some x from h)]
  simp [he x]
theorem j_Q {q : Q} {i : Int} {x : Q} (h : ixQ q i = some x) : (opIx : Opr P).f [eQ q, .int i] = some (eQ x) := by
  cases q <;> simp only [ixQ] at h <;> first | (cases h; done) | skip
  all_goals
    show (atI (eQs _) i).bind _ = _
    rw [eQs_map, atI_map h]
    simp [isF_eQ x]
theorem l_L {o : Bool} {e : α → D} {xs : List α} : (opLen : Opr P).f [eL o e xs] = some (.int (xs.length : Int)) := by
  show some (D.int ((xs.map e).length : Int)) = _
  rw [List.length_map]
theorem l_Q {q : Q} {i : Int} (h : lenQ q = some i) : (opLen : Opr P).f [eQ q] = some (.int i) := by
  cases q <;> simp only [lenQ] at h <;> cases h
  all_goals
    show some (D.int ((eQs _).length : Int)) = _
    rw [eQs_map, List.length_map]
theorem g_isiQ {q : Q} {n : String} {b : Bool} (h : isiQ q n = some b) : (opIsi : Opr P).f [eQ q, .ty n] = some (.bl b) := by
  have e : tyD (eQ q) = some (tyQ q) := by cases q <;> rfl
  show (tyD (eQ q)).bind _ = _
  rw [e]
  show (kitB (tyQ q) n).map _ = _
  rw [show kitB (tyQ q) n = some b from h]; rfl
theorem g_cat {o o' : Bool} {e : α → D} {xs ys zs : List α} (he : Fz e) (h : catO xs ys = some zs) : (opAdd : Opr P).f [eL o e xs, eL o' e ys] = some (eL true e zs) := by
  unfold catO at h; split at h
  · rename_i h1
    cases h
    show addF (.lst o (xs.map e)) (.lst o' (ys.map e)) = _
    simp only [addF, isFs_map he, List.length_map]
    rw [if_pos ⟨trivial, trivial, h1⟩, eL, List.map_append]
  · cases h
theorem g_rep {e : α → D} {xs zs : List α} {k : Int} (he : Fz e) (h : repO xs k = some zs) : (opMul : Opr P).f [eL true e xs, .int k] = some (eL true e zs) := by
  unfold repO at h; split at h
  · rename_i h1
    cases h
    show mulF (.lst true (xs.map e)) (.int k) = _
    simp only [mulF, isFs_map he, List.length_map]
    rw [if_pos ⟨trivial, h1.1, h1.2.1, h1.2.2⟩, eL, List.map_flatten, List.map_replicate]
  · cases h
theorem inFl_int (a : Int) : ∀ xs : List Int, inFl (.int a) (xs.map D.int) = decide (a ∈ xs)
  | [] => rfl
  | x :: xs => by
    have h := inFl_int a xs
    simp only [inFl] at h
    rw [inFl, List.map_cons, List.any_cons, h]
    show ((x == a) || decide (a ∈ xs)) = _
    by_cases e : x = a
    · simp [e]
    · have e' : ¬ a = x := fun k => e k.symm
      simp [e, e']
theorem flat_ints : ∀ xs : List Int, (xs.map D.int).all flatD = true
  | [] => rfl
  | x :: xs => by simp only [List.map_cons, List.all_cons, flat_ints xs]; rfl
theorem g_inI {a : Int} {o : Bool} {xs : List Int} : (opIn : Opr P).f [.int a, eL o eI xs] = some (.bl (decide (a ∈ xs))) := by
  show inF false (.int a) (.lst o (xs.map D.int)) = _
  simp only [inF, flat_ints, inFl_int]
  rfl
theorem g_ninI {a : Int} {o : Bool} {xs : List Int} : (opNotIn : Opr P).f [.int a, eL o eI xs] = some (.bl (!decide (a ∈ xs))) := by
  show inF true (.int a) (.lst o (xs.map D.int)) = _
  simp only [inF, flat_ints, inFl_int]
  rfl
theorem r_Scr {xs : List Int} : (opListRev : Opr P).f [.scr xs] = some (eL true eI xs.reverse) := by
  show some (D.lst true (xs.map D.int).reverse) = _
  rw [eL, List.map_reverse]
theorem r_L {o : Bool} {e : α → D} {xs : List α} (he : Fz e) : (opListRev : Opr P).f [eL o e xs] = some (eL true e xs.reverse) := by
  show revF [.lst o (xs.map e)] = _
  simp only [revF, isFs_map he, if_true]
  rw [eL, List.map_reverse]
/-! walks -/
theorem w_rng2 {a b : Int} {xs : List Int} (h : rngO a b = some xs) : (itRng2 : Itr P).f [.int a, .int b] = some (xs.map eI) := by
  unfold rngO at h; split at h
  · rename_i h1
    cases h
    show rng2F [.int a, .int b] = _
    simp only [rng2F]
    rw [if_pos h1]
    simp [rng, rngL, eI, Function.comp_def]
  · cases h
theorem w_rng1 {b : Int} {xs : List Int} (h : rngO 0 b = some xs) : (itRng1 : Itr P).f [.int b] = some (xs.map eI) := by
  unfold rngO at h; split at h
  · rename_i h1
    cases h
    show rng1F [.int b] = _
    simp only [rng1F]
    rw [if_pos ⟨h1.2.2.1, h1.2.2.2⟩]
    simp [rng, rngL, eI, Function.comp_def]
  · cases h
theorem w_L {o : Bool} {e : α → D} {xs : List α} (he : Fz e) : (itList : Itr P).f [eL o e xs] = some (xs.map e) := by
  show itLF [.lst o (xs.map e)] = _
  simp only [itLF, isFs_map he, if_true]
theorem w_Scr {xs : List Int} : (itList : Itr P).f [eScr xs] = some (xs.map eI) := rfl
theorem w_Q {q : Q} {xs : List Q} (h : asL q = some xs) : (itList : Itr P).f [eQ q] = some (xs.map eQ) := by
  cases q <;> simp only [asL] at h <;> cases h
  show itLF [.lst false (eQs _)] = _
  simp only [itLF, eQs_map, isFs_map fzQ, if_true]
theorem w_QT {q : Q} {xs : List Q} (h : asT q = some xs) : (itList : Itr P).f [eQ q] = some (xs.map eQ) := by
  cases q <;> simp only [asT] at h <;> cases h
  show itLF [.tup (eQs _)] = _
  simp only [itLF, eQs_map, isFs_map fzQ, if_true]
theorem w_X {q : Q} {xs : List Q} (h : asX q = some xs) : (itList : Itr P).f [eQ q] = some (xs.map eQ) := by
  cases q <;> simp only [asX] at h <;> cases h
  · exact w_QT rfl
  · exact w_Q rfl
theorem w_zip {o o' : Bool} {e : α → D} {e' : β → D} {xs : List α} {ys : List β} (he : Fz e) (he' : Fz e') : (itZip : Itr P).f [eL o e xs, eL o' e' ys] = some ((xs.zip ys).map (eT2 e e')) := by
  show zipF [.lst o (xs.map e), .lst o' (ys.map e')] = _
  simp only [zipF, isFs_map he, isFs_map he']
  rw [if_pos ⟨trivial, trivial⟩, zipD, List.zip_map, List.map_map]
  rfl
/-! mutation -/
theorem m_app {e : α → D} {xs ys : List α} {x : α} (h : appO xs x = some ys) : (mAppend : Mut P).f (eL true e xs) [e x] = some (.non, eL true e ys) := by
  unfold appO at h; split at h
  · rename_i h1
    cases h
    show appF (.lst true (xs.map e)) [e x] = _
    simp [appF, h1]
  · cases h
theorem m_pop {e : α → D} {xs ys : List α} {x : α} (h : popO xs = some (x, ys)) : (mPop : Mut P).f (eL true e xs) [] = some (e x, eL true e ys) := by
  show Option.map (fun y => (y, D.lst true (xs.map e).dropLast)) ((xs.map e)[(xs.map e).length - 1]?) = _
  obtain ⟨y, h1, h2⟩ := Option.map_eq_some_iff.mp h
  cases h2
  rw [List.length_map, List.getElem?_map, h1, List.dropLast_eq_take, List.dropLast_eq_take]
  simp [List.map_take]
theorem m_put {e : α → D} {xs ys : List α} {i : Int} {x : α} (h : putO xs i x = some ys) : (putI : Put P).f (eL true e xs) [.int i] (e x) = some (eL true e ys) := by
  obtain ⟨j, h1, rfl⟩ := Option.map_eq_some_iff.mp h
  show putIF (.lst true (xs.map e)) [.int i] (e x) = _
  simp [putIF, h1]
/-! coercions -/
theorem c_I {q : Q} {i : Int} (h : asI q = some i) : eQ q = .int i := by cases q <;> simp only [asI] at h <;> cases h <;> rfl
theorem c_S {q : Q} {i : Str} (h : asS q = some i) : eQ q = .str i := by cases q <;> simp only [asS] at h <;> cases h <;> rfl
theorem c_B {q : Q} {i : Bool} (h : asB q = some i) : eQ q = .bl i := by cases q <;> simp only [asB] at h <;> cases h <;> rfl
theorem c_L {q : Q} {i : List Q} (h : asL q = some i) : eQ q = eL false eQ i := by cases q <;> simp only [asL] at h <;> cases h <;> simp only [eQ, eQs_map]
theorem c_2 {q : Q} {p : Q × Q} (h : un2 q = some p) : eQ q = eT2 eQ eQ p := by
  unfold un2 at h; split at h <;> cases h; rfl
theorem c_3 {q : Q} {p : Q × Q × Q} (h : un3 q = some p) : eQ q = eT3 eQ eQ eQ p := by
  unfold un3 at h; split at h <;> cases h; rfl
theorem c_4 {q : Q} {p : Q × Q × Q × Q} (h : un4 q = some p) : eQ q = eT4 eQ eQ eQ eQ p := by
  unfold un4 at h; split at h <;> cases h; rfl
end
/-! ### pure code -/
section
variable {P : Pg} {t rt : Tr}
theorem a1 {o : Opr P} {a : A P} {x z : D} (ha : evA t rt a = some x) (hf : o.f [x] = some z) : evA t rt (.p o [a]) = some z := by
  simp only [evA, evAs, ha, Option.bind_some, hf]
theorem a2 {o : Opr P} {a b : A P} {x y z : D} (ha : evA t rt a = some x) (hb : evA t rt b = some y) (hf : o.f [x, y] = some z) : evA t rt (.p o [a, b]) = some z := by
  simp only [evA, evAs, ha, hb, Option.bind_some, hf]
theorem a3 {o : Opr P} {a b c : A P} {x y w z : D} (ha : evA t rt a = some x) (hb : evA t rt b = some y) (hc : evA t rt c = some w) (hf : o.f [x, y, w] = some z) : evA t rt (.p o [a, b, c]) = some z := by
  simp only [evA, evAs, ha, hb, hc, Option.bind_some, hf]
theorem aix {a b : A P} {x y z : D} (ha : evA t rt a = some x) (hb : evA t rt b = some y) (hf : getI x y = some z) : evA t rt (.ix a b) = some z := by
  simp only [evA, ha, hb, hf]
theorem aeq {a : A P} {x y : D} (ha : evA t rt a = some x) (h : x = y) : evA t rt a = some y := h ▸ ha
theorem anot {a : A P} {b : Bool} (ha : evA t rt a = some (.bl b)) : evA t rt (.not a) = some (.bl (!b)) := by simp only [evA, ha]
/-- lists of operands -/
theorem as0 : evAs t rt ([] : List (A P)) = some [] := rfl
theorem as1 {a : A P} {r : List (A P)} {x : D} {y : List D} (ha : evA t rt a = some x) (hr : evAs t rt r = some y) : evAs t rt (a :: r) = some (x :: y) := by simp only [evAs, ha, hr]
theorem atup {es : List (A P)} {ds : List D} (h : evAs t rt es = some ds) (h2 : isFs ds = true) (h3 : Nat.blt ds.length 1000 = true) : evA t rt (.tup es) = some (.tup ds) := by
  simp only [evA, h, Option.bind_some]; rw [if_pos ⟨h2, by have := Nat.le_of_ble_eq_true h3; unfold sizeLine; omega⟩]
theorem alst {es : List (A P)} {ds : List D} (h : evAs t rt es = some ds) (h2 : isFs ds = true) (h3 : Nat.blt ds.length 1000 = true) : evA t rt (.lst es) = some (.lst true ds) := by
  simp only [evA, h, Option.bind_some]; rw [if_pos ⟨h2, by have := Nat.le_of_ble_eq_true h3; unfold sizeLine; omega⟩]
theorem is1 {d : D} {r : List D} (h : isF d = true) (hr : isFs r = true) : isFs (d :: r) = true := by simp only [isFs, h, hr]; rfl
/-- and, or -/
theorem and1 {a : A P} {b : Bool} (h : evA t rt a = some (.bl b)) : evAnd t rt [a] = some (.bl b) := by simp [evAnd, h, isF]
theorem and2 {a b : A P} {r : List (A P)} {x y : Bool} (h : evA t rt a = some (.bl x)) (hr : evAnd t rt (b :: r) = some (.bl y)) : evAnd t rt (a :: b :: r) = some (.bl (x && y)) := by
  rw [evAnd, h]; cases x <;> simp [hr]; simp
theorem andp {a b : A P} {r : List (A P)} {x c : Bool} {m : Option Bool} (h : evA t rt a = some (.bl x)) (hr : ∀ y, m = some y → evAnd t rt (b :: r) = some (.bl y)) (hc : (if x = true then m else some false) = some c) : evAnd t rt (a :: b :: r) = some (.bl c) := by
  rw [evAnd, h]
  · cases x
    · simp at hc; simp [hc]
    · simp at hc; simp [hr c hc]
  · simp
theorem aand {es : List (A P)} {d : D} (h : evAnd t rt es = some d) : evA t rt (.and es) = some d := by simpa only [evA] using h
theorem or1 {a : A P} {b : Bool} (h : evA t rt a = some (.bl b)) : evOr t rt [a] = some (.bl b) := by simp [evOr, h, isF]
theorem or2 {a b : A P} {r : List (A P)} {x y : Bool} (h : evA t rt a = some (.bl x)) (hr : evOr t rt (b :: r) = some (.bl y)) : evOr t rt (a :: b :: r) = some (.bl (x || y)) := by
  rw [evOr, h]; cases x <;> simp [hr]; simp
theorem orp {a b : A P} {r : List (A P)} {x c : Bool} {m : Option Bool} (h : evA t rt a = some (.bl x)) (hr : ∀ y, m = some y → evOr t rt (b :: r) = some (.bl y)) (hc : (if x = true then some true else m) = some c) : evOr t rt (a :: b :: r) = some (.bl c) := by
  rw [evOr, h]
  · cases x
    · simp at hc; simp [hr c hc]
    · simp at hc; simp [hc]
  · simp
theorem aor {es : List (A P)} {d : D} (h : evOr t rt es = some d) : evA t rt (.or es) = some d := by simpa only [evA] using h
theorem aite {c a b : A P} {x : Bool} {d : D} (hc : evA t rt c = some (.bl x)) (ha : x = true → evA t rt a = some d) (hb : x = false → evA t rt b = some d) (hf : isF d = true) : evA t rt (.ite c a b) = some d := by
  simp only [evA, hc]
  cases x
  · simp [hb rfl, hf]
  · simp [ha rfl, hf]
end
/-! ### code with effects -/
section
variable {P : Pg} {cl : Cl} {t t1 t2 t3 rt : Tr}
theorem blift {α : Type} {e : α → D} {b : B P} {x y : α} (h : some x = some y) (p : evB cl rt b t = some (.ok (e x) t1)) : evB cl rt b t = some (.ok (e y) t1) := by cases h; exact p
theorem bnm {i : Nat} {d d' : D} (h : t[i]? = some (some d)) (hf : frz d = d') : evB cl rt (.nm i : B P) t = some (.ok d' (t.set i (some d'))) := by
  simp only [evB, h, hf]
theorem bmv {i : Nat} {d : D} (h : t[i]? = some (some d)) : evB cl rt (.mv i : B P) t = some (.ok d (t.set i none)) := by
  simp only [evB, h]
theorem bq {o : Opr P} {es : List (B P)} {os : List Opd} {ds : List D} {d : D} (h : evOs cl none rt es t = some (.ok os t1)) (h2 : opdDs t1 os = some ds) (h3 : o.f ds = some d) : evB cl rt (.q o es) t = some (.ok d t1) := by
  simp only [evB, h, bindR, h2, Option.bind_some, h3, Option.map_some]
theorem btup {es : List (B P)} {os : List Opd} {ds : List D} (h : evOs cl none rt es t = some (.ok os t1)) (h2 : valsOf os = some ds) (h3 : Nat.blt ds.length 1000 = true) : evB cl rt (.tup es) t = some (.ok (.tup ds) t1) := by
  simp only [evB, h, bindR, h2, Option.bind_some]; rw [if_pos (by have := Nat.le_of_ble_eq_true h3; unfold sizeLine; omega)]
theorem blst {es : List (B P)} {os : List Opd} {ds : List D} (h : evOs cl none rt es t = some (.ok os t1)) (h2 : valsOf os = some ds) (h3 : Nat.blt ds.length 1000 = true) : evB cl rt (.lst es) t = some (.ok (.lst true ds) t1) := by
  simp only [evB, h, bindR, h2, Option.bind_some]; rw [if_pos (by have := Nat.le_of_ble_eq_true h3; unfold sizeLine; omega)]
theorem bnot {a : B P} {b : Bool} (h : evB cl rt a t = some (.ok (.bl b) t1)) : evB cl rt (.not a) t = some (.ok (.bl (!b)) t1) := by
  simp only [evB, h, bindR]
theorem eo0 {h : Option Nat} : evOs cl h rt ([] : List (B P)) t = some (.ok [] t) := by simp only [evOs]
theorem eor {h : Option Nat} {i : Nat} {r : List (B P)} {d : D} {os : List Opd} (h1 : t[i]? = some (some d)) (hr : evOs cl h rt r t = some (.ok os t2)) : evOs cl h rt (.rf i :: r) t = some (.ok (.ref i :: os) t2) := by
  simp only [evOs, h1, hr, bindR]
theorem eov {h : Option Nat} {b : B P} {r : List (B P)} {d : D} {os : List Opd} (hb : evB cl rt b t = some (.ok d t1)) (hr : evOs cl h rt r t1 = some (.ok os t2)) : evOs cl h rt (b :: r) t = some (.ok (.val d :: os) t2) := by
  have e : evOs cl h rt (b :: r) t = bindR (evB cl rt b t) fun d t1 => bindR (evOs cl h rt r t1) fun os t2 => some (.ok (.val d :: os) t2) := by
    cases b <;> first | (simp only [evOs]; done) | (simp [evB] at hb; done)
  rw [e, hb]
  simp only [bindR, hr]
theorem eod {i : Nat} {a : A P} {r : List (B P)} {st : List Stp} {d : D} {os : List Opd} (h1 : pth t rt a = some (i, st)) (h2 : evA t rt a = some d) (h3 : (t[i]?.join).isNone = true) (hr : evOs cl (some i) rt r t = some (.ok os t2)) : evOs cl (some i) rt (.dp a :: r) t = some (.ok (.dp i st :: os) t2) := by
  simp only [evOs, h1, h2]
  rw [if_pos ⟨trivial, h3⟩]
  simp only [hr, bindR]
/-- and, or of code with effects; they leave the state -/
theorem band1 {a : B P} {d : D} (h : evB cl rt a t = some (.ok d t1)) : evAn cl rt [a] t = some (.ok d t1) := by simpa only [evAn] using h
theorem band2 {a b : B P} {r : List (B P)} {x c : Bool} {m : Option Bool} (h : evB cl rt a t = some (.ok (.bl x) t1)) (hr : ∀ y, m = some y → evAn cl rt (b :: r) t1 = some (.ok (.bl y) t1)) (hc : (if x = true then m else some false) = some c) : evAn cl rt (a :: b :: r) t = some (.ok (.bl c) t1) := by
  have e : evAn cl rt (a :: b :: r) t = bindR (evB cl rt a t) fun d t1 => match d with
    | .bl true => evAn cl rt (b :: r) t1
    | .bl false => some (.ok (.bl false) t1)
    | _ => none := by
      first
        | (rw [evAn]; rfl; exact fun h => by cases h)
        | (rw [evAn]; exact fun h => by cases h)
  rw [e, h]
  cases x
  · simp at hc; simp [bindR, hc]
  · simp at hc; simp [bindR, hr c hc]
theorem band {es : List (B P)} {d : D} (h : evAn cl rt es t = some (.ok d t1)) : evB cl rt (.and es) t = some (.ok d t1) := by simpa only [evB] using h
theorem bor1 {a : B P} {d : D} (h : evB cl rt a t = some (.ok d t1)) : evOn cl rt [a] t = some (.ok d t1) := by simpa only [evOn] using h
theorem bor2 {a b : B P} {r : List (B P)} {x c : Bool} {m : Option Bool} (h : evB cl rt a t = some (.ok (.bl x) t1)) (hr : ∀ y, m = some y → evOn cl rt (b :: r) t1 = some (.ok (.bl y) t1)) (hc : (if x = true then some true else m) = some c) : evOn cl rt (a :: b :: r) t = some (.ok (.bl c) t1) := by
  have e : evOn cl rt (a :: b :: r) t = bindR (evB cl rt a t) fun d t1 => match d with
    | .bl false => evOn cl rt (b :: r) t1
    | .bl true => some (.ok (.bl true) t1)
    | _ => none := by
      first
        | (rw [evOn]; rfl; exact fun h => by cases h)
        | (rw [evOn]; exact fun h => by cases h)
  rw [e, h]
  cases x
  · simp at hc; simp [bindR, hr c hc]
  · simp at hc; simp [bindR, hc]
theorem bor {es : List (B P)} {d : D} (h : evOn cl rt es t = some (.ok d t1)) : evB cl rt (.or es) t = some (.ok d t1) := by simpa only [evB] using h
/-- a call by values and lent names -/
theorem bcall {f : Str} {es : List (B P)} {os : List Opd} {args : List (Bool × D)} {d : D} {o : List (Option D)} (h1 : evOs cl none rt es t = some (.ok os t1)) (h2 : lend none os t1 = some (args, t2)) (h3 : cl (f, none) args = some (.ok d o)) (h4 : giveB os o t2 none = some (t3, none)) :
    evB cl rt (.call (.glob f) none es) t = some (.ok d t3) := b_call h1 h2 h3 h4
/-- a method of a built-in type that changes a name's object -/
theorem bmut {o : Mut P} {i : Nat} {es : List (B P)} {os : List Opd} {ds : List D} {d d' x : D} (h1 : evOs cl none rt es t = some (.ok os t1)) (h0 : ∃ d0, t[i]? = some (some d0) ∧ o.hd d0 = true) (h2 : t1[i]? = some (some d)) (h3 : valsOf os = some ds) (h4 : o.f d ds = some (x, d')) :
    evB cl rt (.mut o none (.rf i :: es)) t = some (.ok x (t1.set i (some d'))) := by
  obtain ⟨d0, e1, e2⟩ := h0
  simp only [evB, hdD, e1, Option.join_some, hdOk]
  rw [if_pos e2]
  simp only [evOs, e1, h1, bindR, h2, h3, h4, Option.map_some]
/-- .. of an object on a path -/
theorem bmutP {o : Mut P} {i : Nat} {a : A P} {es : List (B P)} {st : List Stp} {os : List Opd} {ds : List D} {d0 dr d d' x d0' : D} (h0 : t[i]? = some (some d0)) (hr : evA (t.set i none) (rt.set i (some d0)) a = some dr) (hh : o.hd dr = true)
    (h1 : evOs cl (some i) (rt.set i (some d0)) (.dp a :: es) (t.set i none) = some (.ok (.dp i st :: os) t1)) (h2 : getP d0 st = some d) (h3 : valsOf os = some ds) (h4 : o.f d ds = some (x, d')) (h5 : putP d0 st d' = some d0') :
    evB cl rt (.mut o (some i) (.dp a :: es)) t = some (.ok x (t1.set i (some d0'))) := by
  simp only [evB, h0, hdD, hr, hdOk]
  rw [if_pos hh]
  simp only [h1, bindR, h2, h3, h4, h5, ne_eq, not_true, if_false, Option.bind_some, Option.map_some]
end
end Ev
end
section
set_option maxRecDepth 100000
set_option maxHeartbeats 4000000
namespace Ev
open PySem PySem.Spec L2
/-! ### blocks -/
/-- where a block comes to -/
def Bk {P : Pg} (cl : Cl) (n : Nat) (ss : List (S P)) (t : Tr) (q : RsS → Prop) : Prop := ∃ r, exSs cl n ss t = some r ∧ q r
/-- .. a block that may end -/
def QC {σ ρ : Type} (E : σ → Tr) (qr : ρ → RsS → Prop) (w : Ctl σ ρ) (z : RsS) : Prop := match w with
  | .nx s => z = .nx (E s)
  | .rt v => (∀ t, z ≠ .nx t) ∧ qr v z
section
variable {P : Pg} {cl : Cl} {n : Nat} {t t1 t2 t' rt : Tr} {r : List (S P)} {q q1 : RsS → Prop}
theorem k_nil (h : q (.nx t)) : Bk cl n ([] : List (S P)) t q := ⟨_, ss_nil, h⟩
theorem k_nx {s : S P} (h : exS cl n s t = some (.nx t')) (k : Bk cl n r t' q) : Bk cl n (s :: r) t q := by
  obtain ⟨z, h1, h2⟩ := k
  exact ⟨z, (ss_nx h).trans h1, h2⟩
theorem k_rt {s : S P} {d : D} (h : exS cl n s t = some (.rt d t')) (k : q (.rt d t')) : Bk cl n (s :: r) t q := ⟨_, ss_rt h, k⟩
theorem k_shr {i : Nat} {d d' : D} (h : t[i]? = some (some d)) (hf : frz d = d') (ht : t.set i (some d') = t') (k : Bk cl n r t' q) : Bk cl n (.shr i :: r) t q := k_nx (by subst hf; simp only [exS, h, ht]) k
theorem k_fg {js : List Nat} (h : wipeT t js = t') (k : Bk cl n r t' q) : Bk cl n (.fg js :: r) t q := k_nx (by simp only [exS, h]) k
theorem exSs_app : ∀ (a b : List (S P)) (t : Tr), exSs cl n (a ++ b) t = match exSs cl n a t with
    | some (.nx t') => exSs cl n b t'
    | z => z
  | [], b, t => by simp only [List.nil_append, exSs]
  | s :: a, b, t => by
    simp only [List.cons_append, exSs]
    split
    · rename_i t2 h2
      rw [exSs_app a b t2]
    · rename_i h2
      split
      · rename_i t3 e
        rw [e] at h2
        exact absurd rfl (h2 t3)
      · rfl
theorem k_iff {c : B P} {a b : List (S P)} {x : Bool} (h : evB cl (noRt t) c t = some (.ok (.bl x) t1)) (k : Bk cl n ((if x = true then a else b) ++ r) t1 q) : Bk cl n (.iff c a b :: r) t q := by
  obtain ⟨z, h1, h2⟩ := k
  refine ⟨z, ?_, h2⟩
  rw [exSs_app] at h1
  cases x
  · simp only [Bool.false_eq_true, if_false] at h1
    simp only [exSs, s_f h]
    exact h1
  · simp only [if_true] at h1
    simp only [exSs, s_t h]
    exact h1
theorem k_ifT {c : B P} {a b : List (S P)} {x : Bool} (h : evB cl (noRt t) c t = some (.ok (.bl x) t1)) (hx : x = true) (k : Bk cl n (a ++ r) t1 q) : Bk cl n (.iff c a b :: r) t q := by
  subst hx; exact k_iff h k
theorem k_ifF {c : B P} {a b : List (S P)} {x : Bool} (h : evB cl (noRt t) c t = some (.ok (.bl x) t1)) (hx : x = false) (k : Bk cl n (b ++ r) t1 q) : Bk cl n (.iff c a b :: r) t q := by
  subst hx; exact k_iff h k
/-- both ways meet -/
theorem k_if {c : B P} {a b : List (S P)} {x : Bool} (h : evB cl (noRt t) c t = some (.ok (.bl x) t1)) (ha : x = true → Bk cl n a t1 fun z => z = .nx t2) (hb : x = false → Bk cl n b t1 fun z => z = .nx t2) (k : Bk cl n r t2 q) : Bk cl n (.iff c a b :: r) t q := by
  refine k_nx (t' := t2) ?_ k
  cases x
  · obtain ⟨z, h1, rfl⟩ := hb rfl
    exact (s_f h).trans h1
  · obtain ⟨z, h1, rfl⟩ := ha rfl
    exact (s_t h).trans h1
/-- .. or end -/
theorem k_ifC {σ ρ : Type} {c : B P} {a b : List (S P)} {x : Bool} {E : σ → Tr} {qr : ρ → RsS → Prop} {w : Ctl σ ρ} (h : evB cl (noRt t) c t = some (.ok (.bl x) t1))
    (ha : x = true → Bk cl n a t1 fun z => QC E qr w z)
    (hb : x = false → Bk cl n b t1 fun z => QC E qr w z)
    (kn : ∀ s, w = .nx s → Bk cl n r (E s) q) (kr : ∀ v, w = .rt v → ∀ z, (∀ t, z ≠ .nx t) → qr v z → q z) : Bk cl n (.iff c a b :: r) t q := by
  have e : ∃ z, exS cl n (.iff c a b) t = some z ∧ (QC E qr w z) := by
    cases x
    · obtain ⟨z, h1, h2⟩ := hb rfl
      exact ⟨z, (s_f h).trans h1, h2⟩
    · obtain ⟨z, h1, h2⟩ := ha rfl
      exact ⟨z, (s_t h).trans h1, h2⟩
  obtain ⟨z, e1, e2⟩ := e
  cases w with
  | nx s => cases e2; exact k_nx e1 (kn s rfl)
  | rt v =>
    refine ⟨z, ?_, kr v rfl z e2.1 e2.2⟩
    simp only [exSs, e1]
    split
    · rename_i t' h'
      cases h'
      exact absurd rfl (e2.1 _)
    · rfl
/-! statements -/
theorem sset {i : Nat} {b : B P} {d : D} (h : evB cl (noRt t) b t = some (.ok d t1)) (hi : Nat.blt i t1.length = true) (e : t1.set i (some d) = t') : exS cl n (.set i b) t = some (.nx t') := by
  subst e; exact s_set' h (Nat.le_of_ble_eq_true hi)
theorem sex {b : B P} {d : D} (h : evB cl (noRt t) b t = some (.ok d t1)) : exS cl n (.ex b) t = some (.nx t1) := s_ex' h
theorem sasg {g : Tg} {b : B P} {d : D} (h : evB cl (noRt t) b t = some (.ok d t1)) (e : asg g d t1 = some t') : exS cl n (.asg g b) t = some (.nx t') := by
  simp only [exS, h, bindS, e, Option.map_some]
theorem stx {l : List (Tx P)} {b : B P} {ds : List D} (h : evB cl (noRt t) b t = some (.ok (.tup ds) t1)) (e : txs l ds t1 = some t') : exS cl n (.tx l b) t = some (.nx t') := by
  simp only [exS, h, bindS, e, Option.map_some]
theorem spar {i j : Nat} {a b : B P} {d e : D} {os : List Opd} (h : evOs cl none (noRt t) [a, b] t = some (.ok os t1)) (h2 : valsOf os = some [d, e]) (hi : Nat.blt i t1.length = true) (hj : Nat.blt j t1.length = true) (et : (t1.set i (some d)).set j (some e) = t') : exS cl n (.par i j a b) t = some (.nx t') := by
  simp only [exS, h, bindS, h2]; rw [if_pos ⟨Nat.le_of_ble_eq_true hi, Nat.le_of_ble_eq_true hj⟩, et]
theorem sput {o : Put P} {v : B P} {es : List (B P)} {i : Nat} {y d d' : D} {os : List Opd} {ds : List D} (h : evB cl (noRt t) v t = some (.ok y t1)) (h1 : evOs cl none (noRt t) (.rf i :: es) t1 = some (.ok (.ref i :: os) t2)) (h2 : t2[i]? = some (some d)) (h3 : valsOf os = some ds) (h4 : o.f d ds y = some d') (e : t2.set i (some d') = t') :
    exS cl n (.put o none v (.rf i :: es)) t = some (.nx t') := by
  subst e
  simp only [exS, h, bindS, h1, h2, h3, h4, Option.map_some]
theorem sputP {o : Put P} {v : B P} {es : List (B P)} {i : Nat} {a : A P} {y d0 d d' d0' : D} {st : List Stp} {os : List Opd} {ds : List D} (h : evB cl (noRt t) v t = some (.ok y t1)) (h0 : t1[i]? = some (some d0)) (h1 : evOs cl (some i) ((noRt t).set i (some d0)) (.dp a :: es) (t1.set i none) = some (.ok (.dp i st :: os) t2)) (h2 : getP d0 st = some d) (h3 : valsOf os = some ds) (h4 : o.f d ds y = some d') (h5 : putP d0 st d' = some d0') (e : t2.set i (some d0') = t') :
    exS cl n (.put o (some i) v (.dp a :: es)) t = some (.nx t') := by
  subst e
  simp only [exS, h, bindS, h0, h1, h2, h3, h4, h5, ne_eq, not_true, if_false, Option.bind_some, Option.map_some]
theorem saug {o : Aug P} {i : Nat} {b : B P} {d0 y d d' : D} (h0 : t[i]? = some (some d0)) (h : evB cl (noRt t) b t = some (.ok y t1)) (h1 : t1[i]? = some (some d)) (h2 : o.f d y = some d') (e : t1.set i (some d') = t') : exS cl n (.aug o i b) t = some (.nx t') := by
  subst e
  simp only [exS, h0, h, bindS, h1, h2, Option.map_some]
theorem sret {b : B P} {d : D} (h : evB cl (noRt t) b t = some (.ok d t1)) : exS cl n (.ret b) t = some (.rt d t1) := s_ret' h
theorem sret0 : exS cl n (.ret0 : S P) t = some (.rt .non t) := by simp only [exS]
theorem spass : exS cl n (.pass : S P) t = some (.nx t) := by simp only [exS]
/-! loops -/
theorem forO_ok {α σ : Type} {os : List Opd} {ds : List D} {tg : Tg} {body : List (S P)} {e : α → D} {E : σ → Tr} {f : σ → α → Option σ} (hos : ∀ s, opdDs (E s) os = some ds)
    (hb : ∀ s x s', f s x = some s' → ∃ t2, asg tg (e x) (E s) = some t2 ∧ Bk cl n body t2 fun z => z = .nx (E s')) : ∀ (xs : List α) (s s' : σ), forO f xs s = some s' → forGo os ds tg (exSs cl n body) (xs.map e) (E s) = some (.nx (E s'))
  | [], s, s', h => by
    cases h
    simp only [List.map_nil, forGo]; rw [if_pos (hos s)]
  | x :: xs, s, s', h => by
    obtain ⟨s1, h1, h2⟩ := bd h
    obtain ⟨t2, a1, z, a2, rfl⟩ := hb s x s1 h1
    simp only [List.map_cons, forGo]
    rw [if_pos (hos s), a1, Option.bind_some, a2]
    exact forO_ok hos hb xs s1 s' h2
theorem k_for {α σ : Type} {os : List Opd} {ds : List D} {tg : Tg} {it : Itr P} {es : List (B P)} {body : List (S P)} {e : α → D} (E : σ → Tr) {f : σ → α → Option σ} {xs : List α} {s0 s1 : σ} (h : forO f xs s0 = some s1)
    (h1 : evOs cl none (noRt t) es t = some (.ok os (E s0))) (h2 : opdDs (E s0) os = some ds) (h3 : it.f ds = some (xs.map e)) (hos : ∀ s, opdDs (E s) os = some ds)
    (hb : ∀ s x s', f s x = some s' → ∃ t2, asg tg (e x) (E s) = some t2 ∧ Bk cl n body t2 fun z => z = .nx (E s')) (k : Bk cl n r (E s1) q) : Bk cl n (.for tg it es body :: r) t q :=
  k_nx ((s_for' h1 h2 h3).trans (forO_ok hos hb xs s0 s1 h)) k
theorem forC_ok {α σ ρ : Type} {os : List Opd} {ds : List D} {tg : Tg} {body : List (S P)} {e : α → D} {E : σ → Tr} {f : σ → α → Option (Ctl σ ρ)} {qr : ρ → RsS → Prop} (hos : ∀ s, opdDs (E s) os = some ds)
    (hb : ∀ s x w, f s x = some w → ∃ t2, asg tg (e x) (E s) = some t2 ∧ Bk cl n body t2 fun z => QC E qr w z) : ∀ (xs : List α) (s : σ) (w : Ctl σ ρ), forC f xs s = some w → ∃ z, forGo os ds tg (exSs cl n body) (xs.map e) (E s) = some z ∧ QC E qr w z
  | [], s, w, h => by
    cases h
    refine ⟨_, ?_, rfl⟩
    simp only [List.map_nil, forGo]; rw [if_pos (hos s)]
  | x :: xs, s, w, h => by
    obtain ⟨w1, h1, h2⟩ := bd h
    obtain ⟨t2, a1, z, a2, a3⟩ := hb s x w1 h1
    cases w1 with
    | nx s1 =>
      cases a3
      obtain ⟨z, b1, b2⟩ := forC_ok hos hb xs s1 w h2
      refine ⟨z, ?_, b2⟩
      simp only [List.map_cons, forGo]
      rw [if_pos (hos s), a1, Option.bind_some, a2]
      exact b1
    | rt v =>
      cases h2
      refine ⟨z, ?_, a3⟩
      simp only [List.map_cons, forGo]
      rw [if_pos (hos s), a1, Option.bind_some, a2]
      split
      · rename_i t' h'
        cases h'
        exact absurd rfl (a3.1 _)
      · rfl
theorem k_forC {α σ ρ : Type} {os : List Opd} {ds : List D} {tg : Tg} {it : Itr P} {es : List (B P)} {body : List (S P)} {e : α → D} (E : σ → Tr) {f : σ → α → Option (Ctl σ ρ)} {qr : ρ → RsS → Prop} {xs : List α} {s0 : σ} {w : Ctl σ ρ} (h : forC f xs s0 = some w)
    (h1 : evOs cl none (noRt t) es t = some (.ok os (E s0))) (h2 : opdDs (E s0) os = some ds) (h3 : it.f ds = some (xs.map e)) (hos : ∀ s, opdDs (E s) os = some ds)
    (hb : ∀ s x w, f s x = some w → ∃ t2, asg tg (e x) (E s) = some t2 ∧ Bk cl n body t2 fun z => QC E qr w z) (kn : ∀ s, w = .nx s → Bk cl n r (E s) q) (kr : ∀ v, w = .rt v → ∀ z, (∀ t, z ≠ .nx t) → qr v z → q z) : Bk cl n (.for tg it es body :: r) t q := by
  obtain ⟨z, a1, a2⟩ := forC_ok (n := n) hos hb xs s0 w h
  have e1 := (s_for' (n := n) h1 h2 h3).trans a1
  cases w with
  | nx s => cases a2; exact k_nx e1 (kn s rfl)
  | rt v =>
    refine ⟨z, ?_, kr v rfl z a2.1 a2.2⟩
    simp only [exSs, e1]
    split
    · rename_i t' h'
      cases h'
      exact absurd rfl (a2.1 _)
    · rfl
theorem whO_ok {σ : Type} {c : B P} {body : List (S P)} {E : σ → Tr} {g : σ → Option Bool} {f : σ → Option σ} (hc : ∀ s b, g s = some b → evB cl (noRt (E s)) c (E s) = some (.ok (.bl b) (E s)))
    (hb : ∀ s s', f s = some s' → Bk cl n body (E s) fun z => z = .nx (E s')) : ∀ (m : Nat) (s s' : σ), whO g f m s = some s' → whGo (fun t => evB cl (noRt t) c t) (exSs cl n body) m (E s) = some (.nx (E s'))
  | 0, s, s', h => by cases h
  | m + 1, s, s', h => by
    obtain ⟨b, h1, h2⟩ := bd h
    have e := hc s b h1
    cases b with
    | false =>
      simp only [Bool.false_eq_true, if_false] at h2
      cases h2
      simp only [whGo, e]
    | true =>
      simp only [if_true] at h2
      obtain ⟨s1, h3, h4⟩ := bd h2
      obtain ⟨z, h5, rfl⟩ := hb s s1 h3
      simp only [whGo, e, h5]
      exact whO_ok hc hb m s1 s' h4
theorem k_wh {σ : Type} {c : B P} {body : List (S P)} (E : σ → Tr) {g : σ → Option Bool} {f : σ → Option σ} {s0 s1 : σ} (h : whO g f n s0 = some s1) (h0 : t = E s0) (hc : ∀ s b, g s = some b → evB cl (noRt (E s)) c (E s) = some (.ok (.bl b) (E s)))
    (hb : ∀ s s', f s = some s' → Bk cl n body (E s) fun z => z = .nx (E s')) (k : Bk cl n r (E s1) q) : Bk cl n (.whl c body :: r) t q := by
  subst h0
  refine k_nx (t' := E s1) ?_ k
  simp only [exS]
  exact whO_ok hc hb n s0 s1 h
theorem whC_ok {σ ρ : Type} {c : B P} {body : List (S P)} {E : σ → Tr} {g : σ → Option Bool} {f : σ → Option (Ctl σ ρ)} {qr : ρ → RsS → Prop} (hc : ∀ s b, g s = some b → evB cl (noRt (E s)) c (E s) = some (.ok (.bl b) (E s)))
    (hb : ∀ s w, f s = some w → Bk cl n body (E s) fun z => QC E qr w z) : ∀ (m : Nat) (s : σ) (w : Ctl σ ρ), whC g f m s = some w → ∃ z, whGo (fun t => evB cl (noRt t) c t) (exSs cl n body) m (E s) = some z ∧ QC E qr w z
  | 0, s, w, h => by cases h
  | m + 1, s, w, h => by
    obtain ⟨b, h1, h2⟩ := bd h
    have e := hc s b h1
    cases b with
    | false =>
      simp only [Bool.false_eq_true, if_false] at h2
      cases h2
      exact ⟨_, by simp only [whGo, e], rfl⟩
    | true =>
      simp only [if_true] at h2
      obtain ⟨w1, h3, h4⟩ := bd h2
      obtain ⟨z, h5, h6⟩ := hb s w1 h3
      cases w1 with
      | nx s1 =>
        cases h6
        obtain ⟨z, b1, b2⟩ := whC_ok hc hb m s1 w h4
        exact ⟨z, by simp only [whGo, e, h5]; exact b1, b2⟩
      | rt v =>
        cases h4
        refine ⟨z, ?_, h6⟩
        simp only [whGo, e, h5]
        split
        · rename_i t' h'
          cases h'
          exact absurd rfl (h6.1 _)
        · rfl
theorem k_whC {σ ρ : Type} {c : B P} {body : List (S P)} (E : σ → Tr) {g : σ → Option Bool} {f : σ → Option (Ctl σ ρ)} {qr : ρ → RsS → Prop} {s0 : σ} {w : Ctl σ ρ} (h : whC g f n s0 = some w) (h0 : t = E s0) (hc : ∀ s b, g s = some b → evB cl (noRt (E s)) c (E s) = some (.ok (.bl b) (E s)))
    (hb : ∀ s w, f s = some w → Bk cl n body (E s) fun z => QC E qr w z) (kn : ∀ s, w = .nx s → Bk cl n r (E s) q) (kr : ∀ v, w = .rt v → ∀ z, (∀ t, z ≠ .nx t) → qr v z → q z) : Bk cl n (.whl c body :: r) t q := by
  subst h0
  obtain ⟨z, a1, a2⟩ := whC_ok hc hb n s0 w h
  have e1 : exS cl n (.whl c body) (E s0) = some z := by simp only [exS]; exact a1
  cases w with
  | nx s => cases a2; exact k_nx e1 (kn s rfl)
  | rt v =>
    refine ⟨z, ?_, kr v rfl z a2.1 a2.2⟩
    simp only [exSs, e1]
    split
    · rename_i t' h'
      cases h'
      exact absurd rfl (a2.1 _)
    · rfl
/-! ### comprehensions -/
/-- one turn -/
noncomputable def oneLc (cl : Cl) (rt : Tr) (elt : B P) (tg : Tg) (ow : List Nat) (ifs : List (B P)) (x : D) (t2 : Tr) : Option (Rs (Option D)) :=
  (asg tg x t2).bind fun t3 => bindR (evIf cl (wipeT rt ow) ifs t3) fun b t4 => if b = true then bindR (evB cl (wipeT rt ow) elt t4) fun d t5 => some (.ok (some d) t5) else some (.ok none t4)
theorem lc_go {α β σ : Type} {os : List Opd} {ds : List D} {ow : List Nat} {one : D → Tr → Option (Rs (Option D))} {e : α → D} {e' : β → D} {E : σ → Tr} {f : σ → α → Option (Option β × σ)} (hos : ∀ s, opdDs (E s) os = some ds)
    (hb : ∀ s x y s', f s x = some (y, s') → ∃ t2, one (e x) (E s) = some (.ok (y.map e') t2) ∧ wipeT t2 ow = E s') : ∀ (xs : List α) (acc : List D) (s s' : σ) (ys : List β), acc.length + xs.length ≤ sizeLine → filS' f xs s = some (ys, s') → lcGo ow os ds one (xs.map e) acc (E s) = some (.ok (acc ++ ys.map e') (E s'))
  | [], acc, s, s', ys, hl, h => by
    cases h
    simp only [List.map_nil, lcGo, List.append_nil]; rw [if_pos (hos s)]
  | x :: xs, acc, s, s', ys, hl, h => by
    obtain ⟨⟨y, s1⟩, h1, h2⟩ := bd h
    obtain ⟨⟨zs, s2⟩, h3, h4⟩ := bd h2
    obtain ⟨t2, a1, a2⟩ := hb s x y s1 h1
    simp only [List.length_cons] at hl
    simp only [List.map_cons, lcGo]
    rw [if_pos (hos s), a1]
    cases y with
    | none =>
      cases h4
      simp only [Option.map_none, a2]
      exact lc_go hos hb xs acc s1 s2 zs (by omega) h3
    | some b =>
      cases h4
      simp only [Option.map_some, a2]
      rw [if_pos (by omega), lc_go hos hb xs (acc ++ [e' b]) s1 s2 zs (by simp; omega) h3]
      simp
theorem blcS {α β σ : Type} {elt : B P} {tg : Tg} {own : List (Str × Nat)} {it : Itr P} {es ifs : List (B P)} {os : List Opd} {ds : List D} {e : α → D} {e' : β → D} (E : σ → Tr) {f : σ → α → Option (Option β × σ)} {xs : List α} {ys : List β} {s0 s1 : σ} (h : filS f xs s0 = some (ys, s1))
    (h1 : evOs cl none rt es t = some (.ok os t1)) (h0 : wipeT t1 (own.map (·.2)) = E s0) (h2 : opdDs t1 os = some ds) (h3 : it.f ds = some (xs.map e)) (hos : ∀ s, opdDs (E s) os = some ds)
    (hb : ∀ s x y s', f s x = some (y, s') → ∃ t2, oneLc cl rt elt tg (own.map (·.2)) ifs (e x) (E s) = some (.ok (y.map e') t2) ∧ wipeT t2 (own.map (·.2)) = E s') :
    evB cl rt (.lc elt tg own it es ifs) t = some (.ok (eL true e' ys) (E s1)) := by
  unfold filS at h
  split at h
  · rename_i hl
    have z := lc_go (ow := own.map (·.2)) (os := os) (ds := ds) hos hb xs [] s0 s1 ys (by simpa using hl) h
    simp only [evB, h1, h2, Option.bind_some, h3, h0]
    unfold oneLc at z
    rw [z]
    simp
  · cases h
theorem filS_of_mapS' {α β σ : Type} {f : σ → α → Option (β × σ)} : ∀ (xs : List α) (s : σ), filS' (fun s x => Option.bind (f s x) fun p => some (some p.1, p.2)) xs s = mapS' f xs s
  | [], s => rfl
  | x :: xs, s => by
    simp only [filS', mapS']
    cases f s x with
    | none => rfl
    | some p => simp only [Option.bind_some, filS_of_mapS' xs p.2]
theorem filS_of_filO' {α β : Type} {f : α → Option (Option β)} : ∀ (xs : List α), filS' (fun (_ : Unit) x => Option.bind (f x) fun p => some (p, ())) xs () = Option.bind (filO' f xs) fun ys => some (ys, ())
  | [] => rfl
  | x :: xs => by
    simp only [filS', filO']
    cases f x with
    | none => rfl
    | some p =>
      simp only [Option.bind_some, filS_of_filO' xs]
      cases filO' f xs with
      | none => rfl
      | some ys => rfl
theorem filO_of_mapO' {α β : Type} {f : α → Option β} : ∀ (xs : List α), filO' (fun x => Option.bind (f x) fun p => some (some p)) xs = mapO' f xs
  | [] => rfl
  | x :: xs => by
    simp only [filO', mapO']
    cases f x with
    | none => rfl
    | some p => simp only [Option.bind_some, filO_of_mapO' xs]
theorem one_m {b' : Bool} {elt : B P} {tg : Tg} {ow : List Nat} {x d : D} (ha : asg tg x t = some t1) (he : evB cl (wipeT rt ow) elt t1 = some (.ok d t2)) : oneLc cl rt elt tg ow [] x t = some (.ok (some d) t2) := by
  simp only [oneLc, ha, Option.bind_some, evIf, bindR, if_true, he]
theorem one_t {elt c : B P} {tg : Tg} {ow : List Nat} {x d : D} {t3 : Tr} (ha : asg tg x t = some t1) (hc : evB cl (wipeT rt ow) c t1 = some (.ok (.bl true) t2)) (he : evB cl (wipeT rt ow) elt t2 = some (.ok d t3)) : oneLc cl rt elt tg ow [c] x t = some (.ok (some d) t3) := by
  simp only [oneLc, ha, Option.bind_some, evIf, hc, bindR, if_true, he]
theorem one_f {elt c : B P} {tg : Tg} {ow : List Nat} {x : D} (ha : asg tg x t = some t1) (hc : evB cl (wipeT rt ow) c t1 = some (.ok (.bl false) t2)) : oneLc cl rt elt tg ow [c] x t = some (.ok none t2) := by
  simp only [oneLc, ha, Option.bind_some, evIf, hc, bindR, Bool.false_eq_true, if_false]
/-- pure comprehensions -/
theorem blcM {α β : Type} {elt : B P} {tg : Tg} {own : List (Str × Nat)} {it : Itr P} {es : List (B P)} {os : List Opd} {ds : List D} {e : α → D} {e' : β → D} {f : α → Option β} {xs : List α} {ys : List β} (h : mapO f xs = some ys)
    (h1 : evOs cl none rt es t = some (.ok os t1)) (h0 : wipeT t1 (own.map (·.2)) = t') (h2 : opdDs t1 os = some ds) (h3 : it.f ds = some (xs.map e)) (h4 : opdDs t' os = some ds)
    (hb : ∀ x y, f x = some y → ∃ t2 t3, asg tg (e x) t' = some t2 ∧ evB cl (wipeT rt (own.map (·.2))) elt t2 = some (.ok (e' y) t3) ∧ wipeT t3 (own.map (·.2)) = t') :
    evB cl rt (.lc elt tg own it es []) t = some (.ok (eL true e' ys) t') := by
  unfold mapO at h
  split at h
  · rename_i hl
    refine blcS (fun (_ : Unit) => t') (f := fun (_ : Unit) x => Option.bind (Option.bind (f x) fun p => some (some p)) fun p => some (p, ())) (xs := xs) (s0 := ()) (s1 := ()) ?_ h1 h0 h2 h3 (fun _ => h4) fun s x y s' hf => ?_
    · unfold filS
      rw [if_pos hl, filS_of_filO' (f := fun x => Option.bind (f x) fun p => some (some p)), filO_of_mapO', h]; rfl
    · obtain ⟨a, e1, e2⟩ := bd hf
      obtain ⟨b, e3, e4⟩ := bd e1
      cases e4
      cases e2
      obtain ⟨t2, t3, k1, k2, k3⟩ := hb x b e3
      exact ⟨t3, one_m (b' := true) k1 k2, k3⟩
  · cases h
theorem blcF {α β : Type} {elt c : B P} {tg : Tg} {own : List (Str × Nat)} {it : Itr P} {es : List (B P)} {os : List Opd} {ds : List D} {e : α → D} {e' : β → D} {g : α → Option Bool} {f : α → Option β} {xs : List α} {ys : List β}
    (h : filO (fun x => Option.bind (g x) fun b => if b = true then Option.bind (f x) fun y => some (some y) else some none) xs = some ys)
    (h1 : evOs cl none rt es t = some (.ok os t1)) (h0 : wipeT t1 (own.map (·.2)) = t') (h2 : opdDs t1 os = some ds) (h3 : it.f ds = some (xs.map e)) (h4 : opdDs t' os = some ds)
    (hb : ∀ x b, g x = some b → ∃ t2, asg tg (e x) t' = some t2 ∧ evB cl (wipeT rt (own.map (·.2))) c t2 = some (.ok (.bl b) t2) ∧ wipeT t2 (own.map (·.2)) = t' ∧ ∀ y, f x = some y → evB cl (wipeT rt (own.map (·.2))) elt t2 = some (.ok (e' y) t2)) :
    evB cl rt (.lc elt tg own it es [c]) t = some (.ok (eL true e' ys) t') := by
  unfold filO at h
  split at h
  · rename_i hl
    refine blcS (fun (_ : Unit) => t') (f := fun (_ : Unit) x => Option.bind (Option.bind (g x) fun b => if b = true then Option.bind (f x) fun y => some (some y) else some none) fun p => some (p, ())) (xs := xs) (s0 := ()) (s1 := ()) ?_ h1 h0 h2 h3 (fun _ => h4) fun s x y s' hf => ?_
    · unfold filS
      rw [if_pos hl, filS_of_filO' (f := fun x => Option.bind (g x) fun b => if b = true then Option.bind (f x) fun y => some (some y) else some none), h]; rfl
    · obtain ⟨a, e1, e2⟩ := bd hf
      obtain ⟨b, e3, e4⟩ := bd e1
      cases e2
      obtain ⟨t2, k1, k2, k3, k4⟩ := hb x b e3
      cases b with
      | false => simp only [Bool.false_eq_true, if_false] at e4; cases e4; exact ⟨t2, one_f k1 k2, k3⟩
      | true =>
        simp only [if_true] at e4
        obtain ⟨z, e5, e6⟩ := bd e4
        cases e6
        exact ⟨t2, one_t k1 k2 (k4 z e5), k3⟩
  · cases h
/-- a def -/
def fin (args : List (Bool × D)) : RsS → CR
  | .nx t => .ok .non (outs args t)
  | .rt d t => .ok d (outs args t)
  | .ex x t => .ex x (outs args t)
theorem k_def {tab : FKey → Option (Df P)} {fuel k : Nat} {key : FKey} {args : List (Bool × D)} {df : Df P} {t0 : Tr} {c : CR} (h1 : tab key = some df) (h2 : args.length = df.ps.length) (h3 : lentOk df.pr 0 args = true)
    (h0 : (args.map (·.2)).map some ++ List.replicate (df.N.length - args.length) none = t0) (h4 : Bk (callN tab fuel k) fuel df.body t0 fun z => fin args z = c) : callN tab fuel (k + 1) key args = some c := by
  subst h0
  obtain ⟨z, e1, e2⟩ := h4
  show (tab key).bind (fun d => runD (callN tab fuel k) fuel d args) = _
  rw [h1]
  simp only [Option.bind_some, runD]
  rw [if_pos ⟨h2, h3⟩, e1]
  cases z <;> exact congrArg some e2
end
end Ev
end
section
set_option maxRecDepth 100000
set_option maxHeartbeats 4000000
namespace Ev
open PySem PySem.Spec L2
/-! ### more operations on values -/
def boI (b : Bool) : Int := if b then 1 else 0
def imax (i j : Int) : Int := if j > i then j else i
def imin (i j : Int) : Int := if j < i then j else i
def divmodO (a b : Int) : Option (Int × Int) := if 0 < b ∧ b < 2 ^ 64 then some (a / b, a % b) else none
def cutSO (z : Str) (lo hi : Option Int) : Option Str := if z.length ≤ sizeLine then some (cutS z lo hi) else none
section
variable {κ ν : Type} [DecidableEq κ]
def dhas : List (κ × ν) → κ → Bool
  | [], _ => false
  | p :: r, k => decide (p.1 = k) || dhas r k
def dget : List (κ × ν) → κ → Option ν
  | [], _ => none
  | p :: r, k => if p.1 = k then some p.2 else dget r k
def dset : List (κ × ν) → κ → ν → List (κ × ν)
  | [], k, v => [(k, v)]
  | p :: r, k, v => if p.1 = k then (p.1, v) :: r else p :: dset r k v
def dput (kvs : List (κ × ν)) (k : κ) (v : ν) : Option (List (κ × ν)) := if kvs.length < sizeLine then some (dset kvs k v) else none
abbrev eDk (kf : κ → Key) (o : Bool) (e : ν → D) (kvs : List (κ × ν)) : D := .dic o (kvs.map fun p => kf p.1) (kvs.map fun p => e p.2)
def Kf (kf : κ → Key) : Prop := ∀ a b, kf a = kf b → a = b
end
abbrev kI : Int → Key := Sum.inl
abbrev kS : Str → Key := Sum.inr
theorem kfI : Kf kI := fun _ _ h => Sum.inl.inj h
theorem kfS : Kf kS := fun _ _ h => Sum.inr.inj h
section
variable {P : Pg} {α β γ : Type}
theorem t_list {o : Bool} {e : α → D} {xs : List α} (he : Fz e) : (opList : Opr P).f [eL o e xs] = some (eL true e xs) := by
  show listF [.lst o (xs.map e)] = _
  simp only [listF, isFs_map he, if_true]
theorem t_listS {xs : List Int} : (opList : Opr P).f [eScr xs] = some (eL true eI xs) := rfl
theorem t_listQ {q : Q} {xs : List Q} (h : asX q = some xs) : (opList : Opr P).f [eQ q] = some (eL true eQ xs) := by
  cases q <;> simp only [asX] at h <;> cases h
  · show listF [.tup (eQs _)] = _
    simp only [listF, eQs_map, isFs_map fzQ, if_true]
  · show listF [.lst false (eQs _)] = _
    simp only [listF, eQs_map, isFs_map fzQ, if_true]
theorem t_tupQ {o : Bool} {xs : List Q} : (opTuple : Opr P).f [eL o eQ xs] = some (eQ (.tup xs)) := by
  show tupleF [.lst o (xs.map eQ)] = _
  simp only [tupleF, isFs_map fzQ, if_true, eQ, eQs_map]
theorem t_tupI {o : Bool} {xs : List Int} : (opTuple : Opr P).f [eL o eI xs] = some (eQ (.tup (xs.map Q.int))) := by
  show tupleF [.lst o (xs.map eI)] = _
  simp only [tupleF, isFs_map fzI, if_true, eQ, eQs_map, List.map_map]
  rfl
theorem t_tupS {o : Bool} {xs : List Str} : (opTuple : Opr P).f [eL o eS xs] = some (eQ (.tup (xs.map Q.str))) := by
  show tupleF [.lst o (xs.map eS)] = _
  simp only [tupleF, isFs_map fzS, if_true, eQ, eQs_map, List.map_map]
  rfl
theorem t_tupX {q : Q} {xs : List Q} (h : asX q = some xs) : (opTuple : Opr P).f [eQ q] = some (eQ (.tup xs)) := by
  cases q <;> simp only [asX] at h <;> cases h
  · show tupleF [.tup (eQs _)] = _
    simp only [tupleF, eQs_map, isFs_map fzQ, if_true, eQ]
  · show tupleF [.lst false (eQs _)] = _
    simp only [tupleF, eQs_map, isFs_map fzQ, if_true, eQ]
theorem g_inD {a b : D} {c : Bool} (h : inDO a b = some c) : (opInD : Opr P).f [a, b] = some (.bl c) := by
  show (inDO a b).map _ = _
  rw [h]; rfl
theorem g_ninD {a b : D} {c : Bool} (h : inDO a b = some c) : (opNotInD : Opr P).f [a, b] = some (.bl (!c)) := by
  show (inDO a b).map _ = _
  rw [h]; rfl
theorem isNon_O {e : α → D} (h : ∀ a, isNonD (e a) = false) : ∀ x : Option α, isNonD (eO e x) = x.isNone
  | none => rfl
  | some a => h a
theorem g_is {e : α → D} {x : Option α} (h : ∀ a, isNonD (e a) = false) : (opIs : Opr P).f [eO e x, .non] = some (.bl x.isNone) := by
  show isF' false (eO e x) .non = _
  rw [← isNon_O h]
  cases x <;> rfl
theorem g_isn {e : α → D} {x : Option α} (h : ∀ a, isNonD (e a) = false) : (opIsNot : Opr P).f [eO e x, .non] = some (.bl (!x.isNone)) := by
  show isF' true (eO e x) .non = _
  rw [← isNon_O h]
  cases x <;> rfl
theorem t_max1 {o : Bool} {ns : List Int} {m : Int} (h : maxI ns = some m) : (opMax1 : Opr P).f [eL o eI ns] = some (.int m) := by
  show (intsD (ns.map D.int)).bind _ = _
  rw [intsD_map, Option.bind_some, h]; rfl
theorem t_min1 {o : Bool} {ns : List Int} {m : Int} (h : minI ns = some m) : (opMin1 : Opr P).f [eL o eI ns] = some (.int m) := by
  show (intsD (ns.map D.int)).bind _ = _
  rw [intsD_map, Option.bind_some, h]; rfl
theorem t_sum {o : Bool} {ns : List Int} : (opSum : Opr P).f [eL o eI ns] = some (.int ns.sum) := by
  show (intsD (ns.map D.int)).bind _ = _
  rw [intsD_map]; rfl
theorem t_sorted {o : Bool} {ns : List Int} : (opSorted : Opr P).f [eL o eI ns] = some (eL true eI (sortI ns)) := by
  show (intsD (ns.map D.int)).bind _ = _
  rw [intsD_map]; rfl
theorem t_all {o : Bool} {ns : List Bool} : (opAll : Opr P).f [eL o eB ns] = some (.bl (ns.all id)) := by
  show (blsD (ns.map D.bl)).bind _ = _
  rw [blsD_map]; rfl
theorem t_any {o : Bool} {ns : List Bool} : (opAny : Opr P).f [eL o eB ns] = some (.bl (ns.any id)) := by
  show (blsD (ns.map D.bl)).bind _ = _
  rw [blsD_map]; rfl
theorem t_divmod {a b : Int} {p : Int × Int} (h : divmodO a b = some p) : (opDivmod : Opr P).f [.int a, .int b] = some (eT2 eI eI p) := by
  unfold divmodO at h
  split at h
  · rename_i hc
    cases h
    show divmodF [.int a, .int b] = _
    simp only [divmodF, hc, and_self, if_true]
  · cases h
theorem slG_L {o : Bool} {e : α → D} {xs : List α} {lo hi : Option Int} (he : Fz e) : slG lo hi (eL o e xs) = some (eL true e (cutL xs lo hi)) := by
  simp only [slG, isFs_map he, if_true, cut_map]
theorem slG_S {z y : Str} {lo hi : Option Int} (h : cutSO z lo hi = some y) : slG lo hi (.str z) = some (.str y) := by
  unfold cutSO at h
  split at h
  · rename_i hc; cases h; simp only [slG, hc, if_true]
  · cases h
theorem t_lo {d z : D} {i : Int} (h : slG (some i) none d = some z) : (opSlLo : Opr P).f [d, .int i] = some z := h
theorem t_hi {d z : D} {i : Int} (h : slG none (some i) d = some z) : (opSlHi : Opr P).f [d, .int i] = some z := h
theorem t_rev {o : Bool} {e : α → D} {xs : List α} (he : Fz e) : (opRevS : Opr P).f [eL o e xs] = some (eL true e xs.reverse) := by
  show revF [.lst o (xs.map e)] = _
  simp only [revF, isFs_map he, if_true]
  rw [eL, List.map_reverse]
theorem enum_map (f : α → β) : ∀ (xs : List α) (n : Nat), enumFrom n (xs.map f) = (enumFrom n xs).map fun p => (p.1, f p.2)
  | [], _ => rfl
  | x :: r, n => by simp only [List.map_cons, enumFrom, enum_map f r]
theorem w_en {o : Bool} {e : α → D} {xs : List α} (he : Fz e) : (itEnum : Itr P).f [eL o e xs] = some ((enumFrom 0 xs).map (eT2 eI e)) := by
  show enF [.lst o (xs.map e)] = _
  simp only [enF, isFs_map he, if_true, enumD, enum_map, List.map_map]
  rfl
theorem m_ext {e : α → D} {xs ys zs : List α} (he : Fz e) (h : catO xs ys = some zs) : (mExtend : Mut P).f (eL true e xs) [eL true e ys] = some (.non, eL true e zs) := by
  unfold catO at h; split at h
  · rename_i h1
    cases h
    show extF (.lst true (xs.map e)) [.lst true (ys.map e)] = _
    simp only [extF, isFs_map he, List.length_map]
    rw [if_pos ⟨trivial, h1⟩, eL, List.map_append]
  · cases h
theorem m_rev {e : α → D} {xs : List α} (he : Fz e) : (mReverse : Mut P).f (eL true e xs) [] = some (.non, eL true e xs.reverse) := by
  show revMF (.lst true (xs.map e)) [] = _
  simp only [revMF, isFs_map he, if_true]
  rw [eL, List.map_reverse]
theorem m_clr {e : α → D} {xs : List α} : (mClear : Mut P).f (eL true e xs) [] = some (.non, eL true e ([] : List α)) := rfl
theorem ach {t rt : Tr} {o1 o2 : CmpOp} {a b c : A P} {x y z : Int} (ha : evA t rt a = some (.int x)) (hb : evA t rt b = some (.int y)) (hc : evA t rt c = some (.int z)) : evA t rt (.ch o1 o2 a b c) = some (.bl (cmpB o1 x y && cmpB o2 y z)) := by
  simp only [evA, ha, hb, hc]
  cases cmpB o1 x y <;> simp
theorem aslc {t rt : Tr} {a b c : A P} {d z : D} {i j : Int} (ha : evA t rt a = some d) (hb : evA t rt b = some (.int i)) (hc : evA t rt c = some (.int j)) (h : slG (some i) (some j) d = some z) : evA t rt (.slc a b c) = some z := by
  simp only [evA, ha, hb, hc, h]
/-! dicts -/
section
variable {κ ν : Type} [DecidableEq κ] {kf : κ → Key} {o : Bool} {e : ν → D}
theorem dhas_K (hk : Kf kf) (k : κ) : ∀ kvs : List (κ × ν), hasK (kvs.map fun p => kf p.1) (kf k) = dhas kvs k
  | [] => rfl
  | p :: r => by
    rw [List.map_cons, hasK_cons, dhas_K hk k r, dhas]
    by_cases h : p.1 = k
    · simp [h]
    · have : ¬ kf p.1 = kf k := fun z => h (hk _ _ z)
      simp [h, this]
theorem dget_K (hk : Kf kf) (k : κ) : ∀ kvs : List (κ × ν), valD (kvs.map fun p => kf p.1) (kvs.map fun p => e p.2) (kf k) = (dget kvs k).map e
  | [] => rfl
  | p :: r => by
    have ih := dget_K hk k r
    unfold valD at ih ⊢
    rw [List.map_cons, List.map_cons, List.zip_cons_cons, List.find?_cons, dget]
    by_cases h : p.1 = k
    · simp [h]
    · have : ¬ kf p.1 = kf k := fun z => h (hk _ _ z)
      simp only [this, decide_false, h, if_false, ih]
theorem i_D {t : D} {k : κ} {v : ν} {kvs : List (κ × ν)} (hk : Kf kf) (ht : keyD t = some (kf k)) (h : dget kvs k = some v) : getI (eDk kf o e kvs) t = some (e v) := by
  cases t <;> simp [keyD] at ht
  all_goals
    simp only [getI, keyD, ht, Option.bind_some, List.length_map, if_true, dget_K hk, h, Option.map_some]
theorem g_din {t : D} {k : κ} {kvs : List (κ × ν)} (hk : Kf kf) (ht : keyD t = some (kf k)) : (opDin false : Opr P).f [t, eDk kf o e kvs] = some (.bl (dhas kvs k)) := by
  show (keyD t).map _ = _
  rw [ht]
  simp [dhas_K hk]
theorem g_dnin {t : D} {k : κ} {kvs : List (κ × ν)} (hk : Kf kf) (ht : keyD t = some (kf k)) : (opDin true : Opr P).f [t, eDk kf o e kvs] = some (.bl (!dhas kvs k)) := by
  show (keyD t).map _ = _
  rw [ht]
  simp [dhas_K hk]
theorem l_D {kvs : List (κ × ν)} : (opLenD : Opr P).f [eDk kf o e kvs] = some (.int (kvs.length : Int)) := by
  show some (D.int ((kvs.map _).length : Int)) = _
  rw [List.length_map]
theorem dset_K (hk : Kf kf) (k : κ) (v : ν) : ∀ kvs : List (κ × ν), (dset kvs k v).map (fun p => kf p.1) = putDk (kvs.map fun p => kf p.1) (kf k) ∧ (dset kvs k v).map (fun p => e p.2) = putDv (kvs.map fun p => kf p.1) (kvs.map fun p => e p.2) (kf k) (e v)
  | [] => ⟨rfl, rfl⟩
  | p :: r => by
    obtain ⟨h1, h2⟩ := dset_K hk k v r
    unfold putDk putDv at *
    by_cases h : p.1 = k
    · have hh : hasK ((p :: r).map fun p => kf p.1) (kf k) = true := by rw [List.map_cons, hasK_cons, h]; simp
      rw [hh, dset, if_pos h]
      simp only [if_true, List.map_cons, true_and]
      have hi : idxK (kf p.1 :: r.map fun p => kf p.1) (kf k) = 0 := by simp [idxK, List.findIdx_cons, h]
      rw [hi]; rfl
    · have hn : ¬ kf p.1 = kf k := fun z => h (hk _ _ z)
      have hh : hasK ((p :: r).map fun p => kf p.1) (kf k) = hasK (r.map fun p => kf p.1) (kf k) := by rw [List.map_cons, hasK_cons]; simp [hn]
      have hi : idxK (kf p.1 :: r.map fun p => kf p.1) (kf k) = idxK (r.map fun p => kf p.1) (kf k) + 1 := by simp [idxK, List.findIdx_cons, hn]
      rw [hh, dset, if_neg h]
      simp only [List.map_cons, h1, h2, hi]
      cases hasK (r.map fun p => kf p.1) (kf k) <;> simp
theorem m_dput {t : D} {k : κ} {v : ν} {kvs kvs' : List (κ × ν)} (hk : Kf kf) (ht : keyD t = some (kf k)) (h : dput kvs k v = some kvs') : (putD : Put P).f (eDk kf true e kvs) [t] (e v) = some (eDk kf true e kvs') := by
  unfold dput at h
  split at h
  · rename_i hc
    cases h
    show putDF (.dic true (kvs.map fun p => kf p.1) (kvs.map fun p => e p.2)) [t] (e v) = _
    obtain ⟨h1, h2⟩ := dset_K (e := e) hk k v kvs
    simp only [putDF, ht, Option.bind_some, List.length_map, hc, if_true, eDk, h1, h2]
  · cases h
theorem fzD (he : Fz e) : Fz (eDk kf false e) := fun kvs => by
  show isF (.dic false (kvs.map fun p => kf p.1) (kvs.map fun p => e p.2)) = true
  simp only [isF]
  have : (kvs.map fun p => e p.2) = (kvs.map (·.2)).map e := by simp [Function.comp_def]
  rw [this, isFs_map he]; rfl
theorem frD {e' : ν → D} (he : Fr e e') : Fr (eDk kf o e) (eDk kf false e') := fun kvs => by
  show frz (.dic o (kvs.map fun p => kf p.1) (kvs.map fun p => e p.2)) = _
  simp only [frz]
  have h1 : (kvs.map fun p => e p.2) = (kvs.map (·.2)).map e := by simp [Function.comp_def]
  have h2 : (kvs.map fun p => e' p.2) = (kvs.map (·.2)).map e' := by simp [Function.comp_def]
  rw [h1, frzs_map he, eDk, h2]
end
/-! statements -/
section
variable {cl : Cl} {n : Nat} {t t1 t' : Tr} {r : List (S P)} {q : RsS → Prop}
theorem beqv {b : B P} {rt : Tr} {x y : D} (p : evB cl rt b t = some (.ok x t1)) (h : x = y) : evB cl rt b t = some (.ok y t1) := h ▸ p
theorem sunp {l : List Tg} {i : Nat} {xs : List D} (h : t[i]? = some (some (.lst true xs))) (hf : isFs xs = true) (e : asgs l xs t = some t') : exS cl n (.unp l i : S P) t = some (.nx t') := by
  simp only [exS, h, hf, if_true, e, Option.map_some]
end
end
end Ev
end
section
set_option maxRecDepth 100000
set_option maxHeartbeats 4000000
namespace Ev
open PySem PySem.Spec L2
/-! ### and, or whose later parts change the state -/
variable {P : Pg} {cl : Cl} {t t1 t2 t3 rt : Tr} {σ : Type}
theorem band2S {a b : B P} {r : List (B P)} {x : Bool} (E : σ → Tr) (s0 : σ) {m : Option (Bool × σ)} {c : Bool × σ} (h : evB cl rt a t = some (.ok (.bl x) (E s0))) (hr : ∀ y, m = some y → evAn cl rt (b :: r) (E s0) = some (.ok (.bl y.1) (E y.2))) (hc : (if x = true then m else some (false, s0)) = some c) : evAn cl rt (a :: b :: r) t = some (.ok (.bl c.1) (E c.2)) := by
  have e : evAn cl rt (a :: b :: r) t = bindR (evB cl rt a t) fun d t1 => match d with
    | .bl true => evAn cl rt (b :: r) t1
    | .bl false => some (.ok (.bl false) t1)
    | _ => none := by
      first
        | (rw [evAn]; rfl; exact fun h => by cases h)
        | (rw [evAn]; exact fun h => by cases h)
  rw [e, h]
  cases x
  · simp at hc; subst hc; simp [bindR]
  · simp at hc; simp [bindR, hr c hc]
theorem bor2S {a b : B P} {r : List (B P)} {x : Bool} (E : σ → Tr) (s0 : σ) {m : Option (Bool × σ)} {c : Bool × σ} (h : evB cl rt a t = some (.ok (.bl x) (E s0))) (hr : ∀ y, m = some y → evOn cl rt (b :: r) (E s0) = some (.ok (.bl y.1) (E y.2))) (hc : (if x = true then some (true, s0) else m) = some c) : evOn cl rt (a :: b :: r) t = some (.ok (.bl c.1) (E c.2)) := by
  have e : evOn cl rt (a :: b :: r) t = bindR (evB cl rt a t) fun d t1 => match d with
    | .bl false => evOn cl rt (b :: r) t1
    | .bl true => some (.ok (.bl true) t1)
    | _ => none := by
      first
        | (rw [evOn]; rfl; exact fun h => by cases h)
        | (rw [evOn]; exact fun h => by cases h)
  rw [e, h]
  cases x
  · simp at hc; simp [bindR, hr c hc]
  · simp at hc; subst hc; simp [bindR]
end Ev
end
section
set_option maxRecDepth 100000
set_option maxHeartbeats 4000000
namespace Ev
open PySem PySem.Spec L2
/-! ### instances: fields, methods, making -/
section
variable {P : Pg} {t rt : Tr}
theorem w_rev {α : Type} {o : Bool} {e : α → D} {xs : List α} (he : Fz e) : (itRev : Itr P).f [eL o e xs] = some (xs.reverse.map e) := by
  show rwF [.lst o (xs.map e)] = _
  simp only [rwF, isFs_map he, if_true, List.map_reverse]
theorem zip_look {f : Str} : ∀ {fs : List Str} {xs : List D} {q : Nat} {d : D}, idxOf f fs = some q → xs[q]? = some d → (fs.zip xs).lookup f = some d
  | [], xs, q, d, h, _ => by simp [idxOf] at h
  | g :: fs, [], q, d, h, hd => by simp at hd
  | g :: fs, x :: xs, q, d, h, hd => by
    rw [List.zip_cons_cons, List.lookup_cons]
    by_cases e : g = f
    · simp only [idxOf, if_pos e] at h
      cases h
      rw [e, beq_self_eq_true]; simpa using hd
    · simp only [idxOf, if_neg e] at h
      obtain ⟨q', h1, rfl⟩ := Option.map_eq_some_iff.mp h
      rw [show (f == g) = false from beq_eq_false_iff_ne.mpr fun z => e z.symm]
      exact zip_look h1 (by simpa using hd)
theorem aatt {a : A P} {f : Str} {o : Bool} {C : Str} {fs : List Str} {xs : List D} {q : Nat} {d : D} (h : evA t rt a = some (.ins o C fs xs)) (hat : P.att C f = true) (hq : idxOf f fs = some q) (hd : xs[q]? = some d) : evA t rt (.att a f) = some d := by
  simp only [evA, h, Option.bind_some, getA]
  rw [if_pos hat, zip_look hq hd]
theorem m_putA {f C : Str} {fs : List Str} {xs : List D} {q : Nat} {y : D} (hat : P.att C f = true) (hl : Nat.blt fs.length 900 = true) (hq : idxOf f fs = some q) : (putA f : Put P).f (.ins true C fs xs) [] y = some (.ins true C fs (xs.set q y)) := by
  simp only [putA, putAF]
  rw [if_pos ⟨hat, Nat.le_of_ble_eq_true hl⟩, hq]
theorem m_putN {f C : Str} {fs : List Str} {xs : List D} {y : D} (hat : P.att C f = true) (hl : Nat.blt fs.length 900 = true) (hq : idxOf f fs = none) : (putA f : Put P).f (.ins true C fs xs) [] y = some (.ins true C (fs ++ [f]) (xs ++ [y])) := by
  simp only [putA, putAF]
  rw [if_pos ⟨hat, Nat.le_of_ble_eq_true hl⟩, hq]
end
section
variable {P : Pg} {cl : Cl} {t t1 t2 t3 rt : Tr}
theorem isC_m {C m : Str} {fs : List Str} {o : Bool} {xs : List D} (h : fs.contains m = false) : isC C m (.ins o C fs xs) = true := by
  show decide (C = C ∧ m ∉ fs) = true
  refine decide_eq_true ⟨rfl, fun k => ?_⟩
  rw [List.contains_iff_mem.mpr k] at h; cases h
/-- a method's call -/
theorem bmeth {C m : Str} {es : List (B P)} {os : List Opd} {args : List (Bool × D)} {d d0 : D} {l : Bool} {o : List (Option D)} {d1 : D} (h00 : hdD cl rt es t = some d1) (h0 : isC C m d1 = true) (h1 : evOs cl none rt es t = some (.ok os t1)) (h2 : lend none os t1 = some ((l, d0) :: args, t2)) (hc : isC C m d0 = true) (h3 : cl (C, some m) ((l, d0) :: args) = some (.ok d o)) (h4 : giveB os o t2 none = some (t3, none)) :
    evB cl rt (.call (.meth C m) none es) t = some (.ok d t3) := by
  simp only [evB]
  rw [h00, if_pos (show rcvOk (.meth C m) (some d1) = true from h0)]
  simp only [resF, h1, bindR, callK, h2, Option.bind_some, fkey]
  rw [if_pos hc]
  simp only [Option.bind_some, backF, h3, backR, h4, noW, Option.map_some]
/-- an instance made -/
theorem bmkd {C : Str} {dv : D} {es : List (B P)} {os : List Opd} {args : List (Bool × D)} {d : D} {o : List (Option D)} (h1 : evOs cl none rt es t = some (.ok os t1)) (h2 : lend none os t1 = some (args, t2)) (h3 : cl (C, some "__init__") ((true, .ins true C [] []) :: (args ++ [(false, dv)])) = some (.ok .non (some d :: o))) (h4 : giveB os o.dropLast t2 none = some (t3, none)) (h5 : o ≠ []) :
    evB cl rt (.call (.mkd C dv) none es) t = some (.ok d t3) := by
  cases o with
  | nil => exact absurd rfl h5
  | cons x r =>
    have e : cutO (cl (C, some "__init__") (((true, .ins true C [] []) :: args) ++ [(false, dv)])) = some (.ok .non (some d :: (x :: r).dropLast)) := by
      rw [List.cons_append, h3]; rfl
    simp only [evB, rcvOk, if_true, resF, Option.bind_some, h1, bindR, callK, h2, Option.bind_some, fkey, backF, e, backM, h4, noW, Option.map_some]
theorem bmk {C : Str} {es : List (B P)} {os : List Opd} {args : List (Bool × D)} {d : D} {o : List (Option D)} (h1 : evOs cl none rt es t = some (.ok os t1)) (h2 : lend none os t1 = some (args, t2)) (h3 : cl (C, some "__init__") ((true, .ins true C [] []) :: args) = some (.ok .non (some d :: o))) (h4 : giveB os o t2 none = some (t3, none)) :
    evB cl rt (.call (.mk C) none es) t = some (.ok d t3) := by
  simp only [evB, rcvOk, if_true, resF, Option.bind_some, h1, bindR, callK, h2, Option.bind_some, fkey, backF, h3, backM, h4, noW, Option.map_some]
end
end Ev
end
section
set_option maxRecDepth 100000
set_option maxHeartbeats 4000000
namespace Ev
open PySem PySem.Spec L2
/-! ### a partial value that is there and is so -/
def Ok {α : Type} (m : Option α) (p : α → Prop) : Prop := ∃ a, m = some a ∧ p a
section
variable {α β σ ρ : Type}
theorem ok_some {a : α} {p : α → Prop} (h : p a) : Ok (some a) p := ⟨a, rfl, h⟩
theorem ok_bind {m : Option α} {f : α → Option β} {p : α → Prop} {q : β → Prop} (h : Ok m p) (k : ∀ a, p a → Ok (f a) q) : Ok (Option.bind m f) q := by
  obtain ⟨a, rfl, ha⟩ := h
  exact k a ha
theorem ok_eq {m : Option α} {a : α} {p : α → Prop} (h : m = some a) (k : p a) : Ok m p := ⟨a, h, k⟩
theorem ok_is {m : Option α} {a : α} (h : Ok m fun r => r = a) : m = some a := by obtain ⟨b, e, rfl⟩ := h; exact e
theorem ok_mono {m : Option α} {p q : α → Prop} (h : Ok m p) (k : ∀ a, p a → q a) : Ok m q := by
  obtain ⟨a, e, ha⟩ := h; exact ⟨a, e, k a ha⟩
theorem ok_iff {c : Prop} [Decidable c] {m n : Option α} {p : α → Prop} (h1 : c → Ok m p) (h2 : ¬ c → Ok n p) : Ok (if c then m else n) p := by
  split
  · exact h1 (by assumption)
  · exact h2 (by assumption)
theorem ok_mod {a b : Int} {p : Int → Prop} (hb : 0 < b) (h : 0 ≤ a % b → a % b < b → p (a % b)) : Ok (modO a b) p :=
  ⟨a % b, by unfold modO; rw [if_pos hb], h (Int.emod_nonneg _ (by omega)) (Int.emod_lt_of_pos _ hb)⟩
theorem modO_eq {a b : Int} (hb : 0 < b) : modO a b = some (a % b) := by unfold modO; rw [if_pos hb]
theorem divO_eq {a b : Int} (hb : 0 < b) (h : b < 2 ^ 64) : divO a b = some (a / b) := by unfold divO; rw [if_pos ⟨hb, h⟩]
theorem mulO_eq {a b : Int} (h : a.natAbs < 2 ^ 64 ∨ b.natAbs < 2 ^ 64) : mulO a b = some (a * b) := by unfold mulO; rw [if_pos h]
theorem powO_eq {a b : Int} (h : 0 ≤ b) (h2 : b ≤ 1000000) (h3 : a.natAbs < 2 ^ 64) : powO a b = some (a ^ b.toNat) := by unfold powO; rw [if_pos ⟨h, h2, h3⟩]
theorem shlO_eq {a b : Int} (h : 0 ≤ b) (h2 : b ≤ 1000000) (h3 : a.natAbs < 2 ^ 64) : shlO a b = some (a * 2 ^ b.toNat) := by unfold shlO; rw [if_pos ⟨h, h2, h3⟩]
theorem shrO_eq {a b : Int} (h : 0 ≤ b) : shrO a b = some (a / 2 ^ b.toNat) := by unfold shrO; rw [if_pos h]
theorem rngO_eq {a b : Int} (h1 : -(2 ^ 62) ≤ a) (h2 : a < 2 ^ 62) (h3 : -(2 ^ 62) ≤ b) (h4 : b < 2 ^ 62) : rngO a b = some (rng a b) := by unfold rngO; rw [if_pos ⟨h1, h2, h3, h4⟩]
theorem appO_eq {xs : List α} {x : α} (h : xs.length < sizeLine) : appO xs x = some (xs ++ [x]) := by unfold appO; rw [if_pos h]
theorem catO_eq {xs ys : List α} (h : xs.length + ys.length ≤ sizeLine) : catO xs ys = some (xs ++ ys) := by unfold catO; rw [if_pos h]
theorem sz : sizeLine = 16777216 := by decide
theorem ixO_at {xs : List α} {i : Int} (h : 0 ≤ i) (h2 : i < xs.length) : ixO xs i = some (xs[i.toNat]'(by omega)) := by
  unfold ixO atI ixN
  rw [if_pos h, if_pos h2, Option.bind_some]
  exact List.getElem?_eq_getElem (by omega)
theorem ixO_nat {xs : List α} {n : Nat} {x : α} (h : xs[n]? = some x) : ixO xs (n : Int) = some x := by
  have := (List.getElem?_eq_some_iff.mp h).1
  unfold ixO atI ixN
  rw [if_pos (by omega), if_pos (by omega), Option.bind_some]
  simpa using h
theorem ixO_last {xs : List α} {x : α} : ixO (xs ++ [x]) (-1) = some x := atI_last xs x
theorem popO_last {xs : List α} {x : α} : popO (xs ++ [x]) = some (x, xs) := by simp [popO]
theorem eqD_ints {o o' : Bool} (xs ys : List Int) : eqD (eL o eI xs) (eL o' eI ys) = some (decide (xs = ys)) := by
  have h1 := shaped_ints xs
  have h2 := shaped_ints ys
  have e : ∀ xs ys : List Int, PyData.eqvAll (xs.map PyData.int) (ys.map PyData.int) = decide (xs = ys) := by
    intro xs
    induction xs with
    | nil => intro ys; cases ys <;> simp [PyData.eqvAll]
    | cons x xs ih =>
      intro ys
      cases ys with
      | nil => simp [PyData.eqvAll]
      | cons y ys =>
        rw [List.map_cons, List.map_cons, PyData.eqvAll, ih ys]
        by_cases h : x = y <;> simp [PyData.eqv, h]
  show eqD (.lst o (xs.map D.int)) (.lst o' (ys.map D.int)) = _
  simp only [eqD, toPy, toPys_ints, Option.map_some, h1, h2, and_self, if_true, PyData.eqv]
  rw [e]
theorem rng_mem {a b x : Int} : x ∈ rng a b ↔ a ≤ x ∧ x < b := by
  simp only [rng, List.mem_map, List.mem_range]
  constructor
  · rintro ⟨i, h, rfl⟩; omega
  · intro h; exact ⟨(x - a).toNat, by omega, by omega⟩
theorem rng_length {a b : Int} : (rng a b).length = (b - a).toNat := by simp [rng]
theorem rng_get {a b : Int} {i : Nat} (h : i < (b - a).toNat) : (rng a b)[i]? = some (a + i) := by simp [rng, h]
end
/-! equality of data -/
mutual
def Q.py : Q → PyData
  | .non => .none
  | .bl b => .bool b
  | .int i => .int i
  | .str x => .str x
  | .tup xs => .tuple (Q.pys xs)
  | .lst xs => .list (Q.pys xs)
def Q.pys : List Q → List PyData
  | [] => []
  | x :: r => x.py :: Q.pys r
end
mutual
theorem toPy_eQ : ∀ q : Q, toPy (eQ q) = some q.py
  | .non => rfl
  | .bl _ => rfl
  | .int _ => rfl
  | .str _ => rfl
  | .tup xs => by simp only [eQ, toPy, toPys_eQs xs, Option.map_some, Q.py]
  | .lst xs => by simp only [eQ, toPy, toPys_eQs xs, Option.map_some, Q.py]
theorem toPys_eQs : ∀ q : List Q, toPys (eQs q) = some (Q.pys q)
  | [] => rfl
  | x :: xs => by simp only [eQs, toPys, toPy_eQ x, toPys_eQs xs, Q.pys]
end
mutual
/-- no truths in it -/
def Q.nb : Q → Bool
  | .bl _ => false
  | .tup xs => Q.nbs xs
  | .lst xs => Q.nbs xs
  | _ => true
def Q.nbs : List Q → Bool
  | [] => true
  | x :: r => x.nb && Q.nbs r
end
mutual
def Q.beq : Q → Q → Bool
  | .non, .non => true
  | .bl a, .bl b => a == b
  | .int a, .int b => a == b
  | .str a, .str b => a == b
  | .tup a, .tup b => Q.beqs a b
  | .lst a, .lst b => Q.beqs a b
  | _, _ => false
def Q.beqs : List Q → List Q → Bool
  | [], [] => true
  | x :: r, y :: t => x.beq y && Q.beqs r t
  | _, _ => false
end
mutual
theorem Q.beq_iff : ∀ a b : Q, a.beq b = true ↔ a = b
  | .non, b => by cases b <;> simp [Q.beq]
  | .bl x, b => by cases b <;> simp [Q.beq]
  | .int x, b => by cases b <;> simp [Q.beq]
  | .str x, b => by cases b <;> simp [Q.beq]
  | .tup x, b => by cases b <;> simp [Q.beq, Q.beqs_iff]
  | .lst x, b => by cases b <;> simp [Q.beq, Q.beqs_iff]
theorem Q.beqs_iff : ∀ a b : List Q, Q.beqs a b = true ↔ a = b
  | [], b => by cases b <;> simp [Q.beqs]
  | x :: r, b => by cases b <;> simp [Q.beqs, Q.beq_iff x, Q.beqs_iff r]
end
instance : DecidableEq Q := fun a b => decidable_of_iff _ (Q.beq_iff a b)
mutual
theorem Q.eqv : ∀ a b : Q, a.nb = true → b.nb = true → PyData.eqv a.py b.py = a.beq b
  | .non, b, _, h => by cases b <;> simp [Q.nb] at h <;> rfl
  | .bl x, b, h, _ => by simp [Q.nb] at h
  | .int x, b, _, h => by cases b <;> simp [Q.nb] at h <;> rfl
  | .str x, b, _, h => by cases b <;> simp [Q.nb] at h <;> rfl
  | .tup x, b, h, h2 => by
    cases b <;> first | (simp [Q.nb] at h2; done) | rfl | skip
    all_goals
      simp only [Q.nb] at h h2
      simp only [Q.py, PyData.eqv, Q.beq]
    exact Q.eqvs _ _ h h2
  | .lst x, b, h, h2 => by
    cases b <;> first | (simp [Q.nb] at h2; done) | rfl | skip
    all_goals
      simp only [Q.nb] at h h2
      simp only [Q.py, PyData.eqv, Q.beq]
    exact Q.eqvs _ _ h h2
theorem Q.eqvs : ∀ a b : List Q, Q.nbs a = true → Q.nbs b = true → PyData.eqvAll (Q.pys a) (Q.pys b) = Q.beqs a b
  | [], b, _, _ => by cases b <;> rfl
  | x :: r, b, h, h2 => by
    cases b with
    | nil => rfl
    | cons y t =>
      simp only [Q.nbs, Bool.and_eq_true] at h h2
      simp only [Q.pys, PyData.eqvAll, Q.beqs, Q.eqv x y h.1 h2.1, Q.eqvs r t h.2 h2.2]
end
/-- data that may be compared -/
def Q.gd (q : Q) : Bool := q.nb && SeqAt.shaped q.py
theorem eqD_gd {a b : Q} {d e : D} (h1 : toPy d = some a.py) (h2 : toPy e = some b.py) (ha : a.gd = true) (hb : b.gd = true) : eqD d e = some (decide (a = b)) := by
  unfold Q.gd at ha hb
  rw [Bool.and_eq_true] at ha hb
  simp only [eqD, h1, h2, ha.2, hb.2, and_self, if_true, Q.eqv a b ha.1 hb.1]
  congr 1
  rw [Bool.eq_iff_iff, Q.beq_iff, decide_eq_true_iff]
theorem eqQ_gd {a b : Q} (ha : a.gd = true) (hb : b.gd = true) : eqD (eQ a) (eQ b) = some (decide (a = b)) := eqD_gd (toPy_eQ a) (toPy_eQ b) ha hb
theorem toPys_map {α : Type} {e : α → D} {q : α → Q} (h : ∀ a, toPy (e a) = some (q a).py) : ∀ xs : List α, toPys (xs.map e) = some (Q.pys (xs.map q))
  | [] => rfl
  | x :: xs => by simp only [List.map_cons, toPys, h x, toPys_map h xs, Q.pys]
theorem toPy_L {α : Type} {e : α → D} {q : α → Q} {o : Bool} (h : ∀ a, toPy (e a) = some (q a).py) (xs : List α) : toPy (eL o e xs) = some (Q.lst (xs.map q)).py := by
  simp only [toPy, toPys_map h xs, Option.map_some, Q.py]
theorem toPy_T2 {α β : Type} {e1 : α → D} {e2 : β → D} {q1 : α → Q} {q2 : β → Q} (h1 : ∀ a, toPy (e1 a) = some (q1 a).py) (h2 : ∀ a, toPy (e2 a) = some (q2 a).py) (p : α × β) : toPy (eT2 e1 e2 p) = some (Q.tup [q1 p.1, q2 p.2]).py := by
  simp only [toPy, toPys, h1, h2, Option.map_some, Q.py, Q.pys]
theorem toPy_I (i : Int) : toPy (eI i) = some (Q.int i).py := rfl
theorem toPy_S (i : Str) : toPy (eS i) = some (Q.str i).py := rfl
mutual
def Q.dp : Nat → Q → Bool
  | _, .bl _ => false
  | _, .str x => PyData.strOk x
  | 0, .tup _ => false
  | 0, .lst _ => false
  | n + 1, .tup xs => Q.dps n xs
  | n + 1, .lst xs => Q.dps n xs
  | _, _ => true
def Q.dps : Nat → List Q → Bool
  | _, [] => true
  | n, x :: r => x.dp n && Q.dps n r
end
mutual
theorem Q.dp_ok : ∀ (n : Nat) (q : Q), q.dp n = true → q.nb = true ∧ q.py.canLay0 = true ∧ q.py.depth ≤ n
  | n, .non, _ => by simp [Q.nb, Q.py, PyData.canLay0, PyData.depth]
  | n, .bl b, h => by simp [Q.dp] at h
  | n, .int i, _ => by simp [Q.nb, Q.py, PyData.canLay0, PyData.depth]
  | n, .str i, h => by
    simp only [Q.dp] at h
    simp [Q.nb, Q.py, PyData.canLay0, PyData.depth, h]
  | 0, .tup xs, h => by simp [Q.dp] at h
  | 0, .lst xs, h => by simp [Q.dp] at h
  | n + 1, .tup xs, h => by
    simp only [Q.dp] at h
    obtain ⟨h1, h2, h3⟩ := Q.dps_ok n xs h
    simp only [Q.nb, Q.py, PyData.canLay0, PyData.depth]
    exact ⟨h1, h2, by omega⟩
  | n + 1, .lst xs, h => by
    simp only [Q.dp] at h
    obtain ⟨h1, h2, h3⟩ := Q.dps_ok n xs h
    simp only [Q.nb, Q.py, PyData.canLay0, PyData.depth]
    exact ⟨h1, h2, by omega⟩
theorem Q.dps_ok : ∀ (n : Nat) (q : List Q), Q.dps n q = true → Q.nbs q = true ∧ PyData.canLayAll0 (Q.pys q) = true ∧ PyData.depthAll (Q.pys q) ≤ n
  | n, [], _ => by simp [Q.nbs, Q.pys, PyData.canLayAll0, PyData.depthAll]
  | n, x :: r, h => by
    simp only [Q.dps, Bool.and_eq_true] at h
    obtain ⟨h1, h2, h3⟩ := Q.dp_ok n x h.1
    obtain ⟨k1, k2, k3⟩ := Q.dps_ok n r h.2
    simp only [Q.nbs, Q.pys, PyData.canLayAll0, PyData.depthAll, h1, h2, k1, k2, Bool.and_self, true_and]
    omega
end
theorem Q.gd_of {n : Nat} {q : Q} (h : q.dp n = true) (hn : n ≤ 64) : q.gd = true := by
  obtain ⟨h1, h2, h3⟩ := Q.dp_ok n q h
  unfold Q.gd SeqAt.shaped
  rw [h1, h2, decide_eq_true (by omega : q.py.depth ≤ 64)]; rfl
theorem Q.dps_all {n : Nat} : ∀ {xs : List Q}, (∀ x ∈ xs, x.dp n = true) → Q.dps n xs = true
  | [], _ => rfl
  | x :: xs, h => by
    rw [Q.dps, h x (by simp), Q.dps_all (xs := xs) fun y hy => h y (List.mem_cons_of_mem _ hy)]; rfl
theorem eqLQ {o o' : Bool} {xs ys : List Q} (h1 : ∀ x ∈ xs, x.dp 60 = true) (h2 : ∀ x ∈ ys, x.dp 60 = true) : eqD (eL o eQ xs) (eL o' eQ ys) = some (decide (xs = ys)) := by
  have e := eqD_gd (toPy_L (o := o) (q := fun x => x) toPy_eQ xs) (toPy_L (o := o') (q := fun x => x) toPy_eQ ys) (Q.gd_of (n := 61) (by simp only [List.map_id', Q.dp]; exact Q.dps_all h1) (by decide)) (Q.gd_of (n := 61) (by simp only [List.map_id', Q.dp]; exact Q.dps_all h2) (by decide))
  rw [e]
  simp
section
variable {α β σ ρ : Type}
/-! loops -/
theorem ok_forO' {f : σ → α → Option σ} {L : List α} {I : List α → σ → Prop} (step : ∀ pre x post s, L = pre ++ x :: post → I pre s → Ok (f s x) (I (pre ++ [x]))) : ∀ (l pre : List α) (s : σ), L = pre ++ l → I pre s → Ok (forO f l s) (I L)
  | [], pre, s, e, h => ⟨s, rfl, by rw [e, List.append_nil]; exact h⟩
  | x :: l, pre, s, e, h => by
    obtain ⟨s1, h1, h2⟩ := step pre x l s e h
    obtain ⟨s2, h3, h4⟩ := ok_forO' step l (pre ++ [x]) s1 (by rw [e]; simp) h2
    exact ⟨s2, by simp only [forO, h1, Option.bind_some]; exact h3, h4⟩
theorem ok_forO {f : σ → α → Option σ} {xs : List α} (I : List α → σ → Prop) {s0 : σ} (h0 : I [] s0) (step : ∀ pre x post s, xs = pre ++ x :: post → I pre s → Ok (f s x) (I (pre ++ [x]))) : Ok (forO f xs s0) (I xs) := ok_forO' step xs [] s0 rfl h0
/-- .. whose turns do not hang on what went before -/
theorem ok_for {f : σ → α → Option σ} {xs : List α} {J : σ → Prop} {s0 : σ} (h0 : J s0) (step : ∀ x ∈ xs, ∀ s, J s → Ok (f s x) J) : Ok (forO f xs s0) J :=
  ok_forO (fun _ s => J s) h0 fun pre x post s e h => step x (by rw [e]; simp) s h
theorem ok_forC' {f : σ → α → Option (Ctl σ ρ)} {L : List α} {I : List α → σ → Prop} {R : ρ → Prop} (step : ∀ pre x post s, L = pre ++ x :: post → I pre s → Ok (f s x) fun w => match w with
      | .nx s' => I (pre ++ [x]) s'
      | .rt v => R v) : ∀ (l pre : List α) (s : σ), L = pre ++ l → I pre s → Ok (forC f l s) fun w => match w with
      | .nx s' => I L s'
      | .rt v => R v
  | [], pre, s, e, h => ⟨_, rfl, by rw [e, List.append_nil]; exact h⟩
  | x :: l, pre, s, e, h => by
    obtain ⟨w, h1, h2⟩ := step pre x l s e h
    cases w with
    | nx s1 =>
      obtain ⟨s2, h3, h4⟩ := ok_forC' step l (pre ++ [x]) s1 (by rw [e]; simp) h2
      exact ⟨s2, by simp only [forC, h1, Option.bind_some]; exact h3, h4⟩
    | rt v => exact ⟨.rt v, by simp only [forC, h1, Option.bind_some], h2⟩
theorem ok_forC {f : σ → α → Option (Ctl σ ρ)} {xs : List α} (I : List α → σ → Prop) (R : ρ → Prop) {s0 : σ} (h0 : I [] s0) (step : ∀ pre x post s, xs = pre ++ x :: post → I pre s → Ok (f s x) fun w => match w with
      | .nx s' => I (pre ++ [x]) s'
      | .rt v => R v) : Ok (forC f xs s0) fun w => match w with
      | .nx s' => I xs s'
      | .rt v => R v := ok_forC' step xs [] s0 rfl h0
/-- a walk that never ends early -/
theorem ok_forN {f : σ → α → Option (Ctl σ ρ)} {xs : List α} (I : List α → σ → Prop) {s0 : σ} {p : Ctl σ ρ → Prop} (h0 : I [] s0) (step : ∀ pre x post s, xs = pre ++ x :: post → I pre s → Ok (f s x) fun w => ∃ s', w = .nx s' ∧ I (pre ++ [x]) s') (k : ∀ s, I xs s → p (.nx s)) : Ok (forC f xs s0) p := by
  refine ok_mono (ok_forC I (fun _ => False) h0 fun pre x post s e h => ok_mono (step pre x post s e h) ?_) ?_
  · rintro w ⟨s', rfl, h⟩; exact h
  · intro w h
    cases w with
    | nx s => exact k s h
    | rt v => exact h.elim
theorem mapO'_eq {f : α → Option β} {g : α → β} : ∀ (xs : List α), (∀ x ∈ xs, f x = some (g x)) → mapO' f xs = some (xs.map g)
  | [], _ => rfl
  | x :: xs, h => by
    rw [mapO', h x (by simp), Option.bind_some, mapO'_eq xs fun y hy => h y (by simp [hy])]; rfl
theorem mapO_eq {f : α → Option β} {g : α → β} {xs : List α} (hl : xs.length ≤ sizeLine) (h : ∀ x ∈ xs, f x = some (g x)) : mapO f xs = some (xs.map g) := by
  unfold mapO; rw [if_pos hl, mapO'_eq xs h]
theorem filO'_eq {f : α → Option (Option β)} {g : α → Option β} : ∀ (xs : List α), (∀ x ∈ xs, f x = some (g x)) → filO' f xs = some (xs.filterMap g)
  | [], _ => rfl
  | x :: xs, h => by
    rw [filO', h x (by simp), Option.bind_some, filO'_eq xs fun y hy => h y (by simp [hy]), Option.bind_some, List.filterMap_cons]
    cases g x <;> rfl
theorem filO_eq {f : α → Option (Option β)} {g : α → Option β} {xs : List α} (hl : xs.length ≤ sizeLine) (h : ∀ x ∈ xs, f x = some (g x)) : filO f xs = some (xs.filterMap g) := by
  unfold filO; rw [if_pos hl, filO'_eq xs h]
theorem ok_mapS' {f : σ → α → Option (β × σ)} {R : β → Prop} {J : σ → Prop} : ∀ (xs : List α) (s : σ), J s → (∀ x ∈ xs, ∀ s, J s → Ok (f s x) fun p => R p.1 ∧ J p.2) → Ok (mapS' f xs s) fun p => p.1.length = xs.length ∧ (∀ y ∈ p.1, R y) ∧ J p.2
  | [], s, h, _ => ⟨_, rfl, rfl, by simp, h⟩
  | x :: xs, s, h, k => by
    obtain ⟨p, h1, h2, h3⟩ := k x (by simp) s h
    obtain ⟨q, h4, h5, h6, h7⟩ := ok_mapS' xs p.2 h3 fun y hy => k y (by simp [hy])
    refine ⟨(p.1 :: q.1, q.2), by simp only [mapS', h1, Option.bind_some, h4], by simp [h5], ?_, h7⟩
    intro y hy
    rcases List.mem_cons.mp hy with rfl | hy
    · exact h2
    · exact h6 y hy
theorem forO_map {γ : Type} {f : σ → β → Option σ} {g : α → β} : ∀ (l : List α) (s : σ), forO f (l.map g) s = forO (fun s x => f s (g x)) l s
  | [], s => rfl
  | x :: l, s => by
    simp only [List.map_cons, forO]
    cases f s (g x) with
    | none => rfl
    | some s' => exact forO_map (γ := γ) l s'
theorem forC_map {f : σ → β → Option (Ctl σ ρ)} {g : α → β} : ∀ (l : List α) (s : σ), forC f (l.map g) s = forC (fun s x => f s (g x)) l s
  | [], s => rfl
  | x :: l, s => by
    simp only [List.map_cons, forC]
    cases f s (g x) with
    | none => rfl
    | some w =>
      cases w with
      | nx s' => exact forC_map l s'
      | rt v => rfl
/-- a walk over images: split by the items -/
theorem ok_forM {f : σ → β → Option σ} {g : α → β} {l : List α} (I : List α → σ → Prop) {s0 : σ} (h0 : I [] s0) (step : ∀ pre x post s, l = pre ++ x :: post → I pre s → Ok (f s (g x)) (I (pre ++ [x]))) : Ok (forO f (l.map g) s0) (I l) := by
  rw [forO_map (γ := Unit)]; exact ok_forO I h0 step
theorem ok_forMN {f : σ → β → Option (Ctl σ ρ)} {g : α → β} {l : List α} (I : List α → σ → Prop) {s0 : σ} {p : Ctl σ ρ → Prop} (h0 : I [] s0) (step : ∀ pre x post s, l = pre ++ x :: post → I pre s → Ok (f s (g x)) fun w => ∃ s', w = .nx s' ∧ I (pre ++ [x]) s') (k : ∀ s, I l s → p (.nx s)) : Ok (forC f (l.map g) s0) p := by
  rw [forC_map]; exact ok_forN I h0 step k
theorem ok_forE' {f : σ → Int × α → Option σ} {L : List α} {I : List α → σ → Prop} (step : ∀ pre x post s, L = pre ++ x :: post → I pre s → Ok (f s (((pre.length : Nat) : Int), x)) (I (pre ++ [x]))) : ∀ (l pre : List α) (s : σ), L = pre ++ l → I pre s → Ok (forO f (enumFrom pre.length l) s) (I L)
  | [], pre, s, e, h => ⟨s, rfl, by rw [e, List.append_nil]; exact h⟩
  | x :: l, pre, s, e, h => by
    obtain ⟨s1, h1, h2⟩ := step pre x l s e h
    obtain ⟨s2, h3, h4⟩ := ok_forE' step l (pre ++ [x]) s1 (by rw [e]; simp) h2
    refine ⟨s2, ?_, h4⟩
    simp only [enumFrom, forO, h1, Option.bind_some]
    rw [List.length_append] at h3
    exact h3
/-- a walk over the numbered items -/
theorem ok_forE {f : σ → Int × β → Option σ} {g : α → β} {l : List α} (I : List α → σ → Prop) {s0 : σ} (h0 : I [] s0) (step : ∀ pre x post s, l = pre ++ x :: post → I pre s → Ok (f s (((pre.length : Nat) : Int), g x)) (I (pre ++ [x]))) : Ok (forO f (enumFrom 0 (l.map g)) s0) (I l) := by
  rw [enum_map, forO_map (γ := Unit)]
  exact ok_forE' step l [] s0 rfl h0
theorem filO'_map {f : β → Option (Option ρ)} {g : α → β} : ∀ l : List α, filO' f (l.map g) = filO' (fun x => f (g x)) l
  | [] => rfl
  | x :: l => by simp only [List.map_cons, filO', filO'_map l]
theorem mapO'_map {f : β → Option ρ} {g : α → β} : ∀ l : List α, mapO' f (l.map g) = mapO' (fun x => f (g x)) l
  | [] => rfl
  | x :: l => by simp only [List.map_cons, mapO', mapO'_map l]
theorem filO_map {f : β → Option (Option ρ)} {g : α → β} {l : List α} : filO f (l.map g) = filO (fun x => f (g x)) l := by unfold filO; rw [List.length_map, filO'_map]
theorem mapO_map {f : β → Option ρ} {g : α → β} {l : List α} : mapO f (l.map g) = mapO (fun x => f (g x)) l := by unfold mapO; rw [List.length_map, mapO'_map]
/-- a while by a measure -/
theorem ok_wh {c : σ → Option Bool} {f : σ → Option σ} {p : σ → Prop} (I : σ → Prop) (μ : σ → Nat) (hc : ∀ s, I s → ∃ b, c s = some b ∧ (b = false → p s) ∧ (b = true → Ok (f s) fun s' => I s' ∧ μ s' < μ s)) : ∀ (n : Nat) (s : σ), I s → μ s < n → Ok (whO c f n s) p
  | 0, s, _, h => absurd h (Nat.not_lt_zero _)
  | n + 1, s, hI, hn => by
    obtain ⟨b, h1, h2, h3⟩ := hc s hI
    simp only [whO, h1, Option.bind_some]
    cases b with
    | false => exact ⟨s, rfl, h2 rfl⟩
    | true =>
      obtain ⟨s', h4, h5, h6⟩ := h3 rfl
      simp only [if_true, h4, Option.bind_some]
      exact ok_wh I μ hc n s' h5 (by omega)
theorem cut_lo {xs : List α} {a : Int} (h : 0 ≤ a) : cutL xs (some a) none = xs.drop a.toNat := by
  obtain ⟨n, rfl⟩ : ∃ n : Nat, a = n := ⟨a.toNat, by omega⟩
  unfold cutL
  rw [HT.sIx_nat, HT.sIx_none, Int.toNat_natCast]
  by_cases hn : n ≤ xs.length
  · rw [Nat.min_eq_left hn]
    exact List.take_of_length_le (by rw [List.length_drop]; omega)
  · rw [Nat.min_eq_right (by omega), List.drop_of_length_le (Nat.le_refl _), List.drop_of_length_le (by omega)]; simp
theorem cut_hi {xs : List α} {a : Int} (h : 0 ≤ a) : cutL xs none (some a) = xs.take a.toNat := by
  obtain ⟨n, rfl⟩ : ∃ n : Nat, a = n := ⟨a.toNat, by omega⟩
  unfold cutL
  rw [HT.sIx_nat, HT.sIx_none, Int.toNat_natCast, List.drop_zero, Nat.sub_zero]
  by_cases hn : n ≤ xs.length
  · rw [Nat.min_eq_left hn]
  · rw [Nat.min_eq_right (by omega), List.take_of_length_le (Nat.le_refl _), List.take_of_length_le (by omega)]
theorem cut_mid {xs : List α} {a b : Int} (h : 0 ≤ a) (h2 : 0 ≤ b) : cutL xs (some a) (some b) = (xs.drop a.toNat).take (b.toNat - a.toNat) := by
  obtain ⟨n, rfl⟩ : ∃ n : Nat, a = n := ⟨a.toNat, by omega⟩
  obtain ⟨m, rfl⟩ : ∃ m : Nat, b = m := ⟨b.toNat, by omega⟩
  unfold cutL
  rw [HT.sIx_nat, HT.sIx_nat, Int.toNat_natCast, Int.toNat_natCast]
  by_cases hn : n ≤ xs.length
  · rw [Nat.min_eq_left hn]
    by_cases hm : m ≤ xs.length
    · rw [Nat.min_eq_left hm]
    · rw [Nat.min_eq_right (by omega), List.take_of_length_le (by rw [List.length_drop]; omega), List.take_of_length_le (by rw [List.length_drop]; omega)]
  · rw [List.drop_of_length_le (by omega : xs.length ≤ min n xs.length), List.drop_of_length_le (by omega : xs.length ≤ n)]; simp
section
variable {κ ν : Type} [DecidableEq κ]
theorem dhas_dset (k k' : κ) (v : ν) : ∀ d : List (κ × ν), dhas (dset d k v) k' = (decide (k = k') || dhas d k')
  | [] => by simp [dset, dhas]
  | p :: r => by
    rw [dset]
    split
    · rename_i h
      subst h
      simp only [dhas]
      cases decide (p.1 = k') <;> simp
    · simp only [dhas, dhas_dset k k' v r]
      cases decide (k = k') <;> cases decide (p.1 = k') <;> simp
theorem dget_dset (k k' : κ) (v : ν) : ∀ d : List (κ × ν), dget (dset d k v) k' = if k = k' then some v else dget d k'
  | [] => by simp [dset, dget]
  | p :: r => by
    rw [dset]
    split
    · rename_i h
      subst h
      simp only [dget]
      split <;> rfl
    · rename_i h
      simp only [dget, dget_dset k k' v r]
      by_cases h1 : p.1 = k'
      · have : ¬ k = k' := fun e => h (h1.trans e.symm)
        simp [h1, this]
      · simp [h1]
theorem dset_len (k : κ) (v : ν) : ∀ d : List (κ × ν), (dset d k v).length ≤ d.length + 1
  | [] => by simp [dset]
  | p :: r => by
    rw [dset]
    split
    · simp
    · have := dset_len k v r; simp; omega
theorem dput_eq {d : List (κ × ν)} {k : κ} {v : ν} (h : d.length < sizeLine) : dput d k v = some (dset d k v) := by unfold dput; rw [if_pos h]
end
end
end Ev
end
section
set_option maxRecDepth 100000
set_option maxHeartbeats 4000000
namespace Ev
open PySem PySem.Spec L2
/-! ### bits -/
theorem and_pow (m j : Nat) : m &&& 2 ^ j = if m.testBit j = true then 2 ^ j else 0 := by
  apply Nat.eq_of_testBit_eq
  intro i
  rw [Nat.testBit_and, Nat.testBit_two_pow]
  split
  · rename_i h
    rw [Nat.testBit_two_pow]
    by_cases e : j = i
    · subst e; simp [h]
    · simp [e]
  · rename_i h
    rw [Nat.zero_testBit]
    by_cases e : j = i
    · subst e; simp [h]
    · simp [e]
theorem bx_nat (m n : Nat) : Builtin.bitXor (m : Int) (n : Int) = ((m ^^^ n : Nat) : Int) := by
  rw [Bits.bitXor_pp (by omega) (by omega)]; simp
theorem bo_nat (m n : Nat) : Builtin.bitOr (m : Int) (n : Int) = ((m ||| n : Nat) : Int) := by
  rw [Bits.bitOr_pp (by omega) (by omega)]; simp
theorem ba_nat (m n : Nat) : Builtin.bitAnd (m : Int) (n : Int) = ((m &&& n : Nat) : Int) := by
  rw [PyProof.Rows.bitAnd_pp (by omega) (by omega)]; simp
/-- a mark put in that is not there -/
theorem or_pow_of_not {m j : Nat} (h : m.testBit j = false) : Builtin.bitOr (m : Int) ((2 ^ j : Nat) : Int) = ((m ^^^ 2 ^ j : Nat) : Int) := by
  rw [← bx_nat]
  show _ = Builtin.bitOr _ _ - Builtin.bitAnd _ _
  rw [ba_nat, and_pow, h]; simp
/-- a mark taken out that is there -/
theorem sub_pow_of_bit {m j : Nat} (h : m.testBit j = true) : (m : Int) - ((2 ^ j : Nat) : Int) = ((m ^^^ 2 ^ j : Nat) : Int) := by
  rw [← bx_nat]
  show _ = Builtin.bitOr _ _ - Builtin.bitAnd _ _
  rw [PyProof.Rows.bitOr_and, ba_nat, and_pow, h]; simp
theorem bit_int (m j : Nat) : decide (Builtin.bitAnd ((m : Int) / 2 ^ j) 1 = 1) = m.testBit j := by
  have e : ((m : Int) / 2 ^ j) = ((m / 2 ^ j : Nat) : Int) := by
    rw [Int.natCast_ediv]; simp
  rw [e, show (1 : Int) = ((1 : Nat) : Int) from rfl, ba_nat, Nat.and_one_is_mod, Nat.testBit_eq_decide_div_mod_eq]
  rw [Bool.eq_iff_iff, decide_eq_true_iff, decide_eq_true_iff]
  omega
theorem div_pow_nat (m j : Nat) : (m : Int) / 2 ^ j = ((m / 2 ^ j : Nat) : Int) := by rw [Int.natCast_ediv]; simp
theorem shr_nat (m : Nat) {k : Int} (h : 0 ≤ k) : shrO (m : Int) k = some ((m / 2 ^ k.toNat : Nat) : Int) := by
  rw [shrO_eq h, div_pow_nat]
theorem shl1_nat {k : Int} (h : 0 ≤ k) (h2 : k ≤ 1000000) : shlO 1 k = some ((2 ^ k.toNat : Nat) : Int) := by
  rw [shlO_eq h h2 (by decide)]; simp
theorem div_pow_zero {m j : Nat} : m / 2 ^ j = 0 ↔ m < 2 ^ j := Nat.div_eq_zero_iff_lt (Nat.two_pow_pos j)
end Ev
end
section
set_option maxRecDepth 100000
set_option maxHeartbeats 4000000
namespace Ev
open PySem PySem.Spec L2
section
variable {α β σ ρ : Type}
/-- a walk with numbers that may end early -/
theorem ok_forCE' {f : σ → Int × α → Option (Ctl σ ρ)} {L : List α} {I : List α → σ → Prop} {R : ρ → Prop} (step : ∀ pre x post s, L = pre ++ x :: post → I pre s → Ok (f s (((pre.length : Nat) : Int), x)) fun w => match w with
      | .nx s' => I (pre ++ [x]) s'
      | .rt v => R v) : ∀ (l pre : List α) (s : σ), L = pre ++ l → I pre s → Ok (forC f (enumFrom pre.length l) s) fun w => match w with
      | .nx s' => I L s'
      | .rt v => R v
  | [], pre, s, e, h => ⟨.nx s, rfl, by rw [e, List.append_nil]; exact h⟩
  | x :: l, pre, s, e, h => by
    obtain ⟨w, h1, h2⟩ := step pre x l s e h
    show Ok (Option.bind (f s (((pre.length : Nat) : Int), x)) _) _
    rw [h1, Option.bind_some]
    cases w with
    | rt v => exact ok_some h2
    | nx s1 =>
      have := ok_forCE' step l (pre ++ [x]) s1 (by rw [e]; simp) h2
      rw [List.length_append] at this
      exact this
theorem ok_forCE {f : σ → Int × β → Option (Ctl σ ρ)} {g : α → β} {l : List α} (I : List α → σ → Prop) (R : ρ → Prop) {s0 : σ} (h0 : I [] s0) (step : ∀ pre x post s, l = pre ++ x :: post → I pre s → Ok (f s (((pre.length : Nat) : Int), g x)) fun w => match w with
      | .nx s' => I (pre ++ [x]) s'
      | .rt v => R v) : Ok (forC f (enumFrom 0 (l.map g)) s0) fun w => match w with
      | .nx s' => I l s'
      | .rt v => R v := by
  rw [enum_map, forC_map]
  exact ok_forCE' step l [] s0 rfl h0
theorem ok_forNE {f : σ → Int × β → Option (Ctl σ ρ)} {g : α → β} {l : List α} (I : List α → σ → Prop) {s0 : σ} {p : Ctl σ ρ → Prop} (h0 : I [] s0) (step : ∀ pre x post s, l = pre ++ x :: post → I pre s → Ok (f s (((pre.length : Nat) : Int), g x)) fun w => ∃ s', w = .nx s' ∧ I (pre ++ [x]) s') (k : ∀ s, I l s → p (.nx s)) : Ok (forC f (enumFrom 0 (l.map g)) s0) p := by
  refine ok_mono (ok_forCE I (fun _ => False) h0 fun pre x post s e h => ok_mono (step pre x post s e h) ?_) ?_
  · rintro w ⟨s', rfl, h⟩; exact h
  · intro w h
    cases w with
    | nx s => exact k s h
    | rt v => exact h.elim
end
end Ev
end
section
set_option maxRecDepth 100000
set_option maxHeartbeats 4000000
namespace Ev
open PySem PySem.Spec L2
/-! ### data whose outermost list may be owned -/
def eQo (o : Bool) : Q → D
  | .lst xs => .lst o (eQs xs)
  | .non => .non
  | .bl b => .bl b
  | .int i => .int i
  | .str x => .str x
  | .tup xs => .tup (eQs xs)
theorem qo_f (q : Q) : eQ q = eQo false q := by cases q <;> rfl
theorem qo_fr : ∀ {o : Bool} (q : Q), frz (eQo o q) = eQ q
  | o, .lst xs => by
    show frz (.lst o (eQs xs)) = .lst false (eQs xs)
    rw [eQs_map, frz, frzs_map (frOf fzQ)]
  | _, .non => rfl
  | _, .bl _ => rfl
  | _, .int _ => rfl
  | _, .str _ => rfl
  | _, .tup xs => (frOf fzQ) (.tup xs)
/-! ### one way of writing a value to another -/
section
variable {α β γ δ : Type} {e : α → D} {e' : β → D}
theorem cvL {o : Bool} {f : α → β} (h : ∀ a, e a = e' (f a)) (xs : List α) : eL o e xs = eL o e' (xs.map f) := by
  simp only [eL, List.map_map]
  congr 1
  exact List.map_congr_left fun a _ => h a
theorem cvO {f : α → β} (h : ∀ a, e a = e' (f a)) : ∀ x : Option α, eO e x = eO e' (x.map f)
  | none => rfl
  | some a => h a
theorem cvS (x : α) : e x = eO e (some x) := rfl
def oQ (f : α → Q) : Option α → Q
  | none => .non
  | some a => f a
theorem cvOQ {f : α → Q} (h : ∀ a, e a = eQ (f a)) : ∀ x : Option α, eO e x = eQ (oQ f x)
  | none => rfl
  | some a => h a
theorem cvLQ {f : α → Q} (h : ∀ a, e a = eQ (f a)) (xs : List α) : eL false e xs = eQ (.lst (xs.map f)) := by
  rw [cvL h]; show D.lst false ((xs.map f).map eQ) = .lst false (eQs (xs.map f)); rw [eQs_map]
theorem cvLo {o : Bool} {f : α → Q} (h : ∀ a, e a = eQ (f a)) (xs : List α) : eL o e xs = eQo o (.lst (xs.map f)) := by
  rw [cvL h]; show D.lst o ((xs.map f).map eQ) = .lst o (eQs (xs.map f)); rw [eQs_map]
theorem cvLQ0 (xs : List Q) : eL false eQ xs = eQ (.lst xs) := by show D.lst false (xs.map eQ) = .lst false (eQs xs); rw [eQs_map]
theorem cvLo0 {o : Bool} (xs : List Q) : eL o eQ xs = eQo o (.lst xs) := by show D.lst o (xs.map eQ) = .lst o (eQs xs); rw [eQs_map]
theorem cvT2 {e1 : α → D} {e2 : β → D} {f1 : α → Q} {f2 : β → Q} (h1 : ∀ a, e1 a = eQ (f1 a)) (h2 : ∀ a, e2 a = eQ (f2 a)) (p : α × β) : eT2 e1 e2 p = eQ (.tup [f1 p.1, f2 p.2]) := by
  show D.tup [_, _] = D.tup [_, _]
  rw [h1, h2]
theorem cvT3 {e1 : α → D} {e2 : β → D} {e3 : γ → D} {f1 : α → Q} {f2 : β → Q} {f3 : γ → Q} (h1 : ∀ a, e1 a = eQ (f1 a)) (h2 : ∀ a, e2 a = eQ (f2 a)) (h3 : ∀ a, e3 a = eQ (f3 a)) (p : α × β × γ) : eT3 e1 e2 e3 p = eQ (.tup [f1 p.1, f2 p.2.1, f3 p.2.2]) := by
  show D.tup [_, _, _] = D.tup [_, _, _]
  rw [h1, h2, h3]
end
/-! ### operations -/
def inFO (a b : D) : Option Bool := match inF false a b with
  | some (.bl r) => some r
  | _ => none
def isNonQ : Q → Bool
  | .non => true
  | _ => false
def ixSO (z : Str) (i : Int) : Option Str := if z.length ≤ sizeLine then (atI z.cps.toList i).map fun c => ⟨#[c]⟩ else none
def catS (a b : Str) : Option Str := if a.length + b.length ≤ sizeLine then some (a ++ b) else none
def catQ : Q → Q → Option Q
  | .tup xs, .tup ys => if xs.length + ys.length ≤ sizeLine then some (.tup (xs ++ ys)) else none
  | _, _ => none
section
variable {P : Pg} {α β : Type}
theorem inF_neg {a b : D} {r : Bool} (h : inF false a b = some (.bl r)) : inF true a b = some (.bl (!r)) := by
  unfold inF at h ⊢
  split at h
  · split at h
    · rename_i hc; rw [if_pos hc]; simp only [Bool.false_eq_true, if_false, Option.some.injEq, D.bl.injEq] at h; rw [h]; rfl
    · cases h
  · split at h
    · rename_i hc; rw [if_pos hc]; simp only [Bool.false_eq_true, if_false, Option.some.injEq, D.bl.injEq] at h; rw [h]; rfl
    · cases h
  · split at h
    · rename_i hc; rw [if_pos hc]; simp only [Bool.false_eq_true, if_false, Option.some.injEq, D.bl.injEq] at h; rw [h]; rfl
    · cases h
  · cases h
theorem inFO_e {a b : D} {c : Bool} (h : inFO a b = some c) : inF false a b = some (.bl c) := by
  unfold inFO at h
  split at h
  · rename_i e; cases h; exact e
  · cases h
theorem g_inF {a b : D} {c : Bool} (h : inFO a b = some c) : (opIn : Opr P).f [a, b] = some (.bl c) := inFO_e h
theorem g_ninF {a b : D} {c : Bool} (h : inFO a b = some c) : (opNotIn : Opr P).f [a, b] = some (.bl (!c)) := inF_neg (inFO_e h)
theorem isNon_Q (q : Q) : isNonD (eQ q) = isNonQ q := by cases q <;> rfl
theorem g_isQ (q : Q) : (opIs : Opr P).f [eQ q, .non] = some (.bl (isNonQ q)) := by
  rw [← isNon_Q]
  show isF' false (eQ q) .non = _
  cases q <;> rfl
theorem g_isnQ (q : Q) : (opIsNot : Opr P).f [eQ q, .non] = some (.bl (!isNonQ q)) := by
  rw [← isNon_Q]
  show isF' true (eQ q) .non = _
  cases q <;> rfl
theorem g_isN {d : D} (h : isNonD d = false) : (opIs : Opr P).f [d, .non] = some (.bl false) := by
  show isF' false d .non = _
  cases d <;> first | rfl | cases h
theorem g_isnN {d : D} (h : isNonD d = false) : (opIsNot : Opr P).f [d, .non] = some (.bl true) := by
  show isF' true d .non = _
  cases d <;> first | rfl | cases h
theorem g_isB (a b : Bool) : (opIs : Opr P).f [.bl a, .bl b] = some (.bl (decide (a = b))) := rfl
theorem g_isnB (a b : Bool) : (opIsNot : Opr P).f [.bl a, .bl b] = some (.bl (!decide (a = b))) := rfl
theorem t_tupG {o : Bool} {e : α → D} {f : α → Q} (h : ∀ a, e a = eQ (f a)) {xs : List α} : (opTuple : Opr P).f [eL o e xs] = some (eQ (.tup (xs.map f))) := by
  rw [cvL h]; exact t_tupQ
theorem j_S {z : Str} {i : Int} {x : Str} (h : ixSO z i = some x) : (opIx : Opr P).f [.str z, .int i] = some (.str x) := by
  show ixF [.str z, .int i] = _
  unfold ixSO at h
  simp only [ixF]
  split at h
  · rename_i hz
    rw [if_pos hz]
    obtain ⟨c, e, rfl⟩ := Option.map_eq_some_iff.mp h
    rw [e]; rfl
  · cases h
theorem g_catS {a b c : Str} (h : catS a b = some c) : (opAdd : Opr P).f [.str a, .str b] = some (.str c) := by
  unfold catS at h
  split at h
  · rename_i hz; cases h
    show addF (.str a) (.str b) = _
    simp only [addF]; rw [if_pos hz]
  · cases h
theorem g_catQ : ∀ {a b c : Q}, catQ a b = some c → (opAdd : Opr P).f [eQ a, eQ b] = some (eQ c)
  | .tup xs, .tup ys, c, h => by
    simp only [catQ] at h
    split at h
    · rename_i hz; cases h
      show addF (.tup (eQs xs)) (.tup (eQs ys)) = some (.tup (eQs (xs ++ ys)))
      simp only [addF, eQs_map, isFs_map fzQ, List.length_map, true_and, List.map_append]
      rw [if_pos hz]
    · cases h
theorem i_Qo {o : Bool} {q : Q} {i : Int} {x : Q} (h : ixQ q i = some x) : getI (eQo o q) (.int i) = some (eQ x) := by
  cases q <;> simp only [ixQ] at h <;> try cases h
  · exact i_Q (q := .tup _) h
  · rename_i xs
    show getI (.lst o (eQs xs)) (.int i) = _
    rw [eQs_map]; exact i_L h
theorem j_Qo {o : Bool} {q : Q} {i : Int} {x : Q} (h : ixQ q i = some x) : (opIx : Opr P).f [eQo o q, .int i] = some (eQ x) := by
  cases q <;> simp only [ixQ] at h <;> try cases h
  · exact j_Q (q := .tup _) h
  · rename_i xs
    show (opIx : Opr P).f [.lst o (eQs xs), .int i] = _
    rw [eQs_map]; exact j_L fzQ h
theorem l_Qo {o : Bool} {q : Q} {i : Int} (h : lenQ q = some i) : (opLen : Opr P).f [eQo o q] = some (.int i) := by
  cases q <;> simp only [lenQ] at h <;> try cases h
  · exact l_Q (q := .tup _) rfl
  · rename_i xs
    show (opLen : Opr P).f [.lst o (eQs xs)] = _
    rw [eQs_map]; exact l_L
theorem w_Xo {o : Bool} {q : Q} {xs : List Q} (h : asX q = some xs) : (itList : Itr P).f [eQo o q] = some (xs.map eQ) := by
  cases q <;> simp only [asX] at h <;> try cases h
  · exact w_X (q := .tup _) rfl
  · show (itList : Itr P).f [.lst o (eQs _)] = _
    rw [eQs_map]; exact w_L fzQ
theorem isNon_Qo {o : Bool} (q : Q) : isNonD (eQo o q) = isNonQ q := by cases q <;> rfl
theorem isi_Qo {o : Bool} {q : Q} {n : String} {b : Bool} (h : isiQ q n = some b) : (opIsi : Opr P).f [eQo o q, .ty n] = some (.bl b) := by
  cases q with
  | lst xs =>
    have := g_isiQ (P := P) h
    exact this
  | _ => exact g_isiQ (P := P) h
theorem toPy_Qo {o : Bool} (q : Q) : toPy (eQo o q) = some q.py := by
  cases q with
  | lst xs =>
    show toPy (.lst o (eQs xs)) = _
    have := toPy_eQ (.lst xs)
    exact this
  | non => exact toPy_eQ .non
  | bl b => exact toPy_eQ (.bl b)
  | int b => exact toPy_eQ (.int b)
  | str b => exact toPy_eQ (.str b)
  | tup b => exact toPy_eQ (.tup b)
end
/-! ### comprehensions with tests and targets of several -/
section
variable {P : Pg} {cl : Cl} {n : Nat} {rt t t1 t' : Tr}
theorem blcG {α β : Type} {elt : B P} {tg : Tg} {own : List (Str × Nat)} {it : Itr P} {es ifs : List (B P)} {os : List Opd} {ds : List D} {e : α → D} {e' : β → D} {f : α → Option (Option β)} {xs : List α} {ys : List β}
    (h : filO f xs = some ys)
    (h1 : evOs cl none rt es t = some (.ok os t1)) (h0 : wipeT t1 (own.map (·.2)) = t') (h2 : opdDs t1 os = some ds) (h3 : it.f ds = some (xs.map e)) (h4 : opdDs t' os = some ds)
    (hb : ∀ x o, f x = some o → ∃ t2, oneLc cl rt elt tg (own.map (·.2)) ifs (e x) t' = some (.ok (o.map e') t2) ∧ wipeT t2 (own.map (·.2)) = t') :
    evB cl rt (.lc elt tg own it es ifs) t = some (.ok (eL true e' ys) t') := by
  unfold filO at h
  split at h
  · rename_i hl
    refine blcS (fun (_ : Unit) => t') (f := fun (_ : Unit) x => Option.bind (f x) fun p => some (p, ())) (xs := xs) (s0 := ()) (s1 := ()) ?_ h1 h0 h2 h3 (fun _ => h4) fun s x y s' hf => ?_
    · unfold filS
      rw [if_pos hl, filS_of_filO', h]; rfl
    · obtain ⟨a, e1, e2⟩ := bd hf
      cases e2
      exact hb x _ e1
  · cases h
end
end Ev
namespace Ev
open PySem PySem.Spec L2
section
variable {P : Pg} {cl : Cl} {n : Nat} {rt t t1 t2 t3 t' : Tr}
theorem bfz {b : B P} {d d' : D} (p : evB cl rt b t = some (.ok d t1)) (h : frz d = d') : evB cl rt (.fz b) t = some (.ok d' t1) := by
  subst h
  simp only [evB, p, bindR]
/-- a call with an operand that is lent by a path -/
theorem bcallP {f : Str} {i : Nat} {es : List (B P)} {os : List Opd} {args : List (Bool × D)} {st : List Stp} {d0 d1 d d' d0' : D} {o : List (Option D)} (h0 : t[i]? = some (some d0))
    (h1 : evOs cl (some i) (rt.set i (some d0)) es (t.set i none) = some (.ok os t1)) (h2 : dpOf i os = some st) (h3 : getP d0 st = some d1) (h4 : lend (some d1) os t1 = some (args, t2)) (h5 : cl (f, none) args = some (.ok d o))
    (h6 : giveB os o t2 none = some (t3, some d')) (h7 : putP d0 st d' = some d0') (h8 : t3.set i (some d0') = t') : evB cl rt (.call (.glob f) (some i) es) t = some (.ok d t') := by
  subst h8
  simp only [evB, h0, rcvOk, if_true, h1, bindR, h2, Option.bind_some, h3, callK, h4, fkey, backF, h5, backR, h6, backW, h7, Option.map_some]
theorem gd_t {b : Bool} {u : Unit} (h : gdO b = some u) : b = true := by
  unfold gdO at h
  split at h
  · assumption
  · cases h
theorem bo_n : ([] : List (Bool × D)).map (fun p => ((false, frz p.2) : Bool × D)) = [] := rfl
theorem bo_c {b : Bool} {d d' : D} {l l' : List (Bool × D)} (h : frz d = d') (hl : l.map (fun p => ((false, frz p.2) : Bool × D)) = l') : ((b, d) :: l).map (fun p => ((false, frz p.2) : Bool × D)) = (false, d') :: l' := by rw [List.map_cons, h, hl]
/-- a call whose operands are lent to be read -/
theorem bcallB {f : Str} {es : List (B P)} {os : List Opd} {args args' : List (Bool × D)} {d : D} {o : List (Option D)} (h1 : evOs cl none rt es t = some (.ok os t1)) (h2 : lend none os t1 = some (args, t2)) (ha : args.map (fun p => ((false, frz p.2) : Bool × D)) = args') (h3 : cl (f, none) args' = some (.ok d o)) (hf : nsD d = true) (h4 : giveB os (args.map fun p => if p.1 = true then some p.2 else none) t2 none = some (t3, none)) : evB cl rt (.call (.globB f) none es) t = some (.ok d t3) := by
  have e : borC (cl (f, none)) args = some (.ok d (args.map fun p => if p.1 = true then some p.2 else none)) := by
    unfold borC
    rw [ha, h3]
    show (if nsD d = true then _ else _) = _
    rw [if_pos hf]
  simp only [evB, rcvOk, if_true, resF, Option.bind_some, h1, bindR, callK, h2, Option.bind_some, fkey, backF, e, backR, h4, noW, Option.map_some]
/-- a method's call on an instance on a path -/
theorem bmethP {C m : Str} {i : Nat} {es : List (B P)} {os : List Opd} {args : List (Bool × D)} {st : List Stp} {d0 d1 dh d z d' d0' : D} {l : Bool} {o : List (Option D)} (h0 : t[i]? = some (some d0))
    (hh : hdD cl (rt.set i (some d0)) es (t.set i none) = some dh) (hi : isC C m dh = true)
    (h1 : evOs cl (some i) (rt.set i (some d0)) es (t.set i none) = some (.ok os t1)) (h2 : dpOf i os = some st) (h3 : getP d0 st = some d1) (h4 : lend (some d1) os t1 = some ((l, z) :: args, t2)) (hc : isC C m z = true) (h5 : cl (C, some m) ((l, z) :: args) = some (.ok d o))
    (h6 : giveB os o t2 none = some (t3, some d')) (h7 : putP d0 st d' = some d0') (h8 : t3.set i (some d0') = t') : evB cl rt (.call (.meth C m) (some i) es) t = some (.ok d t') := by
  subst h8
  simp only [evB, h0, hh]
  rw [if_pos (show rcvOk (.meth C m) (some dh) = true from hi)]
  simp only [h1, bindR, h2, Option.bind_some, h3, callK, h4, fkey]
  rw [if_pos hc]
  simp only [Option.bind_some, backF, h5, backR, h6, backW, h7, Option.map_some]
theorem k_eq {fuel : Nat} {body : List (S P)} {Q : RsS → Prop} (h : t = t') (k : Bk cl fuel body t' Q) : Bk cl fuel body t Q := h ▸ k
end
section
variable {P : Pg}
theorem t_listQo {o : Bool} {q : Q} {xs : List Q} (h : asX q = some xs) : (opList : Opr P).f [eQo o q] = some (eL true eQ xs) := by
  cases q <;> simp only [asX] at h <;> try cases h
  · exact t_listQ (q := .tup _) rfl
  · show (opList : Opr P).f [.lst o (eQs _)] = _
    rw [eQs_map]; exact t_list fzQ
theorem t_tupQo {o : Bool} {q : Q} {xs : List Q} (h : asX q = some xs) : (opTuple : Opr P).f [eQo o q] = some (eQ (.tup xs)) := by
  cases q <;> simp only [asX] at h <;> try cases h
  · exact t_tupX (q := .tup _) rfl
  · show (opTuple : Opr P).f [.lst o (eQs _)] = _
    rw [eQs_map]; exact t_tupQ
theorem g_isQo {o : Bool} (q : Q) : (opIs : Opr P).f [eQo o q, .non] = some (.bl (isNonQ q)) := by
  rw [← isNon_Qo (o := o)]
  show isF' false (eQo o q) .non = _
  cases q <;> rfl
theorem g_isnQo {o : Bool} (q : Q) : (opIsNot : Opr P).f [eQo o q, .non] = some (.bl (!isNonQ q)) := by
  rw [← isNon_Qo (o := o)]
  show isF' true (eQo o q) .non = _
  cases q <;> rfl
def lenSO (z : Str) : Option Int := if z.length ≤ sizeLine then some (z.length : Int) else none
theorem l_S {z : Str} {i : Int} (h : lenSO z = some i) : (opLen : Opr P).f [.str z] = some (.int i) := by
  show lenF [.str z] = _
  unfold lenSO at h
  simp only [lenF]
  split at h
  · rename_i hz; rw [if_pos hz]; cases h; rfl
  · cases h
end
end Ev
namespace Ev
open PySem PySem.Spec L2
def cutQ : Q → Option Int → Option Int → Option Q
  | .tup xs, lo, hi => some (.tup (cutL xs lo hi))
  | _, _, _ => none
theorem slG_Q : ∀ {q r : Q} {lo hi : Option Int}, cutQ q lo hi = some r → slG lo hi (eQ q) = some (eQ r)
  | .tup xs, r, lo, hi, h => by
    cases h
    show slG lo hi (.tup (eQs xs)) = some (.tup (eQs (cutL xs lo hi)))
    simp only [slG, eQs_map, isFs_map fzQ, if_true, cut_map]
end Ev
namespace Ev
open PySem PySem.Spec L2
/-! ### constants of the top -/
def glF (ci : List (Str × Int)) (cs : List (Str × Str)) (x : Str) : Option D := match ci.find? fun p => decide (p.1 = x) with
  | some p => some (.int p.2)
  | none => (cs.find? fun p => decide (p.1 = x)).map fun p => .str p.2
theorem glF_i {ci : List (Str × Int)} {cs : List (Str × Str)} {x : Str} {i : Int} (h : (ci.find? fun p => decide (p.1 = x)) = some (x, i)) : glF ci cs x = some (.int i) := by unfold glF; rw [h]
theorem glF_s {ci : List (Str × Int)} {cs : List (Str × Str)} {x z : Str} (h : (ci.find? fun p => decide (p.1 = x)) = none) (h2 : (cs.find? fun p => decide (p.1 = x)) = some (x, z)) : glF ci cs x = some (.str z) := by unfold glF; rw [h, h2]; rfl
theorem glF_ok {ci : List (Str × Int)} {cs : List (Str × Str)} {x : Str} {d : D} (h : glF ci cs x = some d) : (∃ i, d = .int i ∧ (x, i) ∈ ci) ∨ ∃ z, d = .str z ∧ (x, z) ∈ cs := by
  unfold glF at h
  split at h
  · rename_i p e
    cases h
    have e1 : p.1 = x := by simpa using List.find?_some e
    exact .inl ⟨p.2, rfl, by rw [← e1]; exact List.mem_of_find?_eq_some e⟩
  · obtain ⟨p, e, rfl⟩ := Option.map_eq_some_iff.mp h
    have e1 : p.1 = x := by simpa using List.find?_some e
    exact .inr ⟨p.2, rfl, by rw [← e1]; exact List.mem_of_find?_eq_some e⟩
end Ev
namespace Ev
open PySem PySem.Spec L2
section
variable {P : Pg} {t t' : Tr}
theorem tx_0 : txs ([] : List (Tx P)) [] t = some t := rfl
theorem tx_n {i : Nat} {r : List (Tx P)} {d : D} {ds : List D} (h : Nat.blt i t.length = true) (h3 : txs r ds (t.set i (some d)) = some t') : txs (.n i :: r) (d :: ds) t = some t' := by
  have h : i < t.length := Nat.le_of_ble_eq_true h
  simp only [txs]; rw [if_pos h]; exact h3
theorem tx_s {α : Type} {i : Nat} {a : A P} {r : List (Tx P)} {e : α → D} {xs ys : List α} {x : α} {k : Int} {ds : List D} (h0 : t[i]? = some (some (eL true e xs))) (h1 : evA t (noRt t) a = some (.int k)) (h2 : putO xs k x = some ys) (h3 : txs r ds (t.set i (some (eL true e ys))) = some t') : txs (.s i a :: r) (e x :: ds) t = some t' := by
  obtain ⟨j, e1, rfl⟩ := Option.map_eq_some_iff.mp h2
  simp only [txs, h0, h1, List.length_map, e1]
  rw [eL, List.map_set] at h3
  exact h3
end
end Ev
namespace Ev
open PySem PySem.Spec L2
theorem slG_T {xs ys : List D} {lo hi : Option Int} (h : isFs xs = true) (h2 : cutL xs lo hi = ys) : slG lo hi (.tup xs) = some (.tup ys) := by
  simp only [slG, h, if_true, h2]
theorem frT4 {α β γ δ : Type} {e1 e1' : α → D} {e2 e2' : β → D} {e3 e3' : γ → D} {e4 e4' : δ → D} (h1 : Fr e1 e1') (h2 : Fr e2 e2') (h3 : Fr e3 e3') (h4 : Fr e4 e4') : Fr (eT4 e1 e2 e3 e4) (eT4 e1' e2' e3' e4') := fun p => by simp only [frz, frzs, h1 _, h2 _, h3 _, h4 _]
/-! ### a while whose test changes the state -/
def whS {σ : Type} (c : σ → Option (Bool × σ)) (f : σ → Option σ) : Nat → σ → Option σ
  | 0, _ => none
  | n + 1, s => Option.bind (c s) fun p => if p.1 = true then Option.bind (f p.2) fun s' => whS c f n s' else some p.2
section
variable {P : Pg} {cl : Cl} {n : Nat} {t t1 t2 t3 t' rt : Tr} {r : List (S P)} {q : RsS → Prop}
theorem whS_ok {σ : Type} {c : B P} {body : List (S P)} {E : σ → Tr} {g : σ → Option (Bool × σ)} {f : σ → Option σ} (hc : ∀ s p, g s = some p → evB cl (noRt (E s)) c (E s) = some (.ok (.bl p.1) (E p.2)))
    (hb : ∀ s s', f s = some s' → Bk cl n body (E s) fun z => z = .nx (E s')) : ∀ (m : Nat) (s s' : σ), whS g f m s = some s' → whGo (fun t => evB cl (noRt t) c t) (exSs cl n body) m (E s) = some (.nx (E s'))
  | 0, s, s', h => by cases h
  | m + 1, s, s', h => by
    obtain ⟨⟨b, s2⟩, h1, h2⟩ := bd h
    have e := hc s _ h1
    cases b with
    | false =>
      simp only [Bool.false_eq_true, if_false] at h2
      cases h2
      simp only [whGo, e]
    | true =>
      simp only [if_true] at h2
      obtain ⟨s1, h3, h4⟩ := bd h2
      obtain ⟨z, h5, rfl⟩ := hb s2 s1 h3
      simp only [whGo, e, h5]
      exact whS_ok hc hb m s1 s' h4
theorem k_whS {σ : Type} {c : B P} {body : List (S P)} (E : σ → Tr) {g : σ → Option (Bool × σ)} {f : σ → Option σ} {s0 s1 : σ} (h : whS g f n s0 = some s1) (h0 : t = E s0) (hc : ∀ s p, g s = some p → evB cl (noRt (E s)) c (E s) = some (.ok (.bl p.1) (E p.2)))
    (hb : ∀ s s', f s = some s' → Bk cl n body (E s) fun z => z = .nx (E s')) (k : Bk cl n r (E s1) q) : Bk cl n (.whl c body :: r) t q := by
  subst h0
  refine k_nx (t' := E s1) ?_ k
  simp only [exS]
  exact whS_ok hc hb n s0 s1 h
/-! ### defs as values -/
abbrev eFn : Str → D := D.fn
theorem fzFn : Fz eFn := fun _ => rfl
def glX (ci : List (Str × Int)) (cs : List (Str × Str)) (fv : List Str) (x : Str) : Option D := match glF ci cs x with
  | some d => some d
  | none => if fv.contains x = true then some (.fn x) else none
theorem glX_o {ci : List (Str × Int)} {cs : List (Str × Str)} {fv : List Str} {x : Str} {d : D} (h : glF ci cs x = some d) : glX ci cs fv x = some d := by unfold glX; rw [h]
theorem glX_f {ci : List (Str × Int)} {cs : List (Str × Str)} {fv : List Str} {x : Str} (h : (glF ci cs x).isNone = true) (h2 : fv.contains x = true) : glX ci cs fv x = some (.fn x) := by
  unfold glX
  rw [Option.isNone_iff_eq_none.mp h]
  show (if fv.contains x = true then _ else _) = _
  rw [if_pos h2]
theorem glX_ok {ci : List (Str × Int)} {cs : List (Str × Str)} {fv : List Str} {x : Str} {d : D} (h : glX ci cs fv x = some d) : (∃ i, d = .int i ∧ (x, i) ∈ ci) ∨ (∃ z, d = .str z ∧ (x, z) ∈ cs) ∨ (d = .fn x ∧ x ∈ fv) := by
  unfold glX at h
  split at h
  · rename_i d' e
    cases h
    rcases glF_ok e with h | h
    · exact .inl h
    · exact .inr (.inl h)
  · split at h
    · rename_i hc
      cases h
      exact .inr (.inr ⟨rfl, List.contains_iff_mem.mp hc⟩)
    · cases h
/-- a call of what a slot holds -/
theorem bfv {i : Nat} {g : Str} {es : List (B P)} {os : List Opd} {args : List (Bool × D)} {d : D} {o : List (Option D)} (h0 : t[i]? = some (some (.fn g))) (h1 : evOs cl none rt es t = some (.ok os t1)) (h2 : lend none os t1 = some (args, t2)) (h3 : P.fn g = true ∧ cl (g, none) args = some (.ok d o)) (h4 : giveB os o t2 none = some (t3, none)) : evB cl rt (.call (.fv i) none es) t = some (.ok d t3) := by
  obtain ⟨hf, h3⟩ := h3
  simp only [evB, rcvOk, if_true, resF, h0, hf, Option.bind_some, h1, bindR, callK, h2, fkey, backF, h3, backR, h4, noW, Option.map_some]
end
end Ev
end
section
set_option maxRecDepth 100000
set_option maxHeartbeats 4000000
namespace Ev
open PySem PySem.Spec L2
variable {P : Pg}
/-! ### a text so many times -/
def repS (a : Str) (n : Int) : Str := ⟨(List.replicate n.toNat a.cps).foldl (· ++ ·) #[]⟩
theorem size_fold (b : Array Nat) : ∀ (k : Nat) (acc : Array Nat), ((List.replicate k b).foldl (· ++ ·) acc).size = acc.size + k * b.size
  | 0, acc => by simp
  | k + 1, acc => by
    rw [List.replicate_succ, List.foldl_cons, size_fold b k, Array.size_append, Nat.succ_mul]
    omega
theorem op_repS {X : Cx} : OpR X (binaryOp .Mult) (fun x y H Q => ∃ a n, x = .str a ∧ y = .int n ∧ -1000 ≤ n ∧ n ≤ 1000 ∧ a.length ≤ 1000 ∧ Q (.str (repS a n)) H) := by
  intro pins s σ H x y v u Q I rx ry h
  obtain ⟨a, n, rfl, rfl, h1, h2, h3, q⟩ := h
  obtain ⟨t, rfl⟩ := rx
  obtain ⟨t', rfl⟩ := ry
  have hm : a.length * n.toNat ≤ 1000 * 1000 := Nat.mul_le_mul h3 (by omega)
  refine PySem.P.mul_str (by rw [decide_eq_false (by omega), decide_eq_false (by omega)]; rfl) (fun k1 k2 k3 => ?_) (fun _ _ => ?_) ?_
  · have hn : n ≠ 1 := fun e => by rw [e] at k2; simp at k2
    have e1 : (2 ^ 63 - 1) / 1000 ≤ (2 ^ 63 - 1) / n := by
      apply Int.le_ediv_of_mul_le (by omega)
      omega
    omega
  · unfold Builtin.Str.tooLong
    have := sizeLine_eq
    simp only [decide_eq_false_iff_not]
    omega
  · by_cases h0 : n < 1
    · rw [if_pos h0]
      refine ⟨by decide, ?_⟩
      have e : repS a n = Str.empty := by
        unfold repS
        have : n.toNat = 0 := by omega
        rw [this]; rfl
      rw [e] at q
      exact ⟨.str Str.empty, H, I.tok _, ⟨_, rfl⟩, q⟩
    · rw [if_neg h0]
      by_cases h4 : (n == 1 || a.length == 0) = true
      · rw [if_pos h4]
        have e : repS a n = a := by
          rw [Bool.or_eq_true] at h4
          unfold repS
          rcases h4 with h4 | h4
          · have : n.toNat = 1 := by simp at h4; omega
            rw [this]; simp
          · have z : a.cps = #[] := by
              have : a.cps.size = 0 := by simpa [Str.length] using h4
              exact Array.eq_empty_of_size_eq_zero this
            have : ∀ k : Nat, (List.replicate k (#[] : Array Nat)).foldl (· ++ ·) #[] = #[] := by
              intro k
              induction k with
              | zero => rfl
              | succ k ih => rw [List.replicate_succ, List.foldl_cons]; exact ih
            cases a
            simp only at z
            subst z
            rw [this]
        rw [e] at q
        exact ⟨.str a, H, I, ⟨_, rfl⟩, q⟩
      · rw [if_neg h4]
        refine ⟨?_, ⟨.str (repS a n), H, I.tok _, ⟨_, rfl⟩, q⟩⟩
        show ((List.replicate n.toNat a.cps).foldl (· ++ ·) #[]).size ≤ sizeLine
        rw [size_fold, sizeLine_eq]
        have e : n.toNat * a.cps.size = a.length * n.toNat := Nat.mul_comm _ _
        rw [e]
        simp only [Array.size_empty]
        omega
/-! ### a tuple so many times -/
theorem tuple_mulSame (l : Addr) (items : Array Value) (n : Nat) (dd : Option Addr) (sl : Array (Option Value)) (x : Int) (u : Tok) (c0 : (decide (x < -(2 ^ 63)) || decide (x ≥ 2 ^ 63)) = false) (c1 : (items.isEmpty || x == 1) = true) :
    Meets (Builtin.«tuple.__mul__» ⟨[.ref l, .int x u], []⟩) (fun _ R s => s.heap.get? l = some { cls := .type "tuple", dict := dd, data := .seq items n, slots := sl } ∧ R (.ok (.ret (Value.ref l))) s) :=
  .of_wp fun prog w A R s h => by
    obtain ⟨hp, g, d, tk, os⟩ := s
    obtain ⟨hl, h⟩ := h
    have f1 := AutoSeq1.idx_int
    wp_walk using wpAny_loadPart' hl
    repeat (first
      | (refine wpAny_ite_false (decide_eq_false (by rw [c0]; exact Bool.false_ne_true)) ?_; wp_walk using wpAny_loadPart' hl)
      | (refine wpAny_ite_true (decide_eq_true c1) ?_; wp_walk using wpAny_loadPart' hl))
    exact ⟨_, rfl, h⟩
theorem tuple_mulNone (l : Addr) (items : Array Value) (n : Nat) (dd : Option Addr) (sl : Array (Option Value)) (x : Int) (u : Tok) (c0 : (decide (x < -(2 ^ 63)) || decide (x ≥ 2 ^ 63)) = false) (c1 : (items.isEmpty || x == 1) = false) (c2 : (decide (x ≤ 0) || items.isEmpty) = true) :
    Meets (Builtin.«tuple.__mul__» ⟨[.ref l, .int x u], []⟩) (fun _ R s => s.heap.get? l = some { cls := .type "tuple", dict := dd, data := .seq items n, slots := sl } ∧
      R (.ok (.ret (Value.ref s.heap.objs.size))) { s with heap := s.heap.push { cls := Value.type "tuple", data := Data.seq #[] }, toks := s.toks }) :=
  .of_wp fun prog w A R s h => by
    obtain ⟨hp, g, d, tk, os⟩ := s
    obtain ⟨hl, h⟩ := h
    have f1 := AutoSeq1.idx_int
    wp_walk using wpAny_loadPart' hl
    repeat (first
      | (refine wpAny_ite_false (decide_eq_false (by rw [c0]; exact Bool.false_ne_true)) ?_; wp_walk using wpAny_loadPart' hl)
      | (refine wpAny_ite_false (decide_eq_false (by rw [c1]; exact Bool.false_ne_true)) ?_; wp_walk using wpAny_loadPart' hl)
      | (refine wpAny_ite_true (decide_eq_true c2) ?_; wp_walk using wpAny_loadPart' hl))
    exact ⟨_, rfl, h⟩

theorem op_repT1 {X : Cx} : OpR X (binaryOp .Mult) (fun x y H Q => ∃ l k xs, x = .ref l ∧ y = .int k ∧ SqT X.K H l xs ∧ -1000 ≤ k ∧ k ≤ 1000 ∧ (xs = [] ∨ k = 1) ∧ Q x H) := by
  intro pins s σ H x y v u Q I rx ry h
  obtain ⟨l, k, xs, rfl, rfl, hT, h1, h2, h3, q⟩ := h
  cases rx
  obtain ⟨t, rfl⟩ := ry
  obtain ⟨its, r, ⟨⟨cls, dd, data, sl⟩, ho, hc, n, hd⟩, hs⟩ := I.tuple hT
  simp only at hc hd
  subst hc hd
  have hle : its.length = xs.length := r.length.symm
  have c0 : (decide (k < -(2 ^ 63)) || decide (k ≥ 2 ^ 63)) = false := by
    rw [decide_eq_false (by omega), decide_eq_false (by omega)] <;> rfl
  have c1 : (its.toArray.isEmpty || k == 1) = true := by
    rcases h3 with h3 | h3
    · subst h3
      have : its = [] := List.eq_nil_of_length_eq_zero (by simpa using hle)
      subst this; rfl
    · subst h3; simp
  exact wpAny_binaryOp_repeat_ref (T := "tuple") (U := "int") (by decide) ⟨_, ho, rfl⟩ (fun s' => typeIs_int s' k t) noFill_tuple_mul F.fills_int_mul F.slot_int_rmul repeat_tuple F.slot_int_index.lookup
    (call_meets F.slot_int_rmul (typeIs_int s k t) F.entry_int_rmul (F.args_int_rmul_2 _ _) (int_rmul_tuple k t l its.toArray n dd sl)
      ⟨ho, rfl, ⟨_, ho, rfl⟩, call_meets F.slot_tuple_mul ⟨_, ho, rfl⟩ F.entry_tuple_mul (F.args_tuple_mul_2 _ _) (tuple_mulSame l its.toArray n dd sl k t c0 c1) ⟨ho, ⟨.ref l, H, I, rfl, q⟩⟩⟩)
theorem op_repT0 {X : Cx} : OpR X (binaryOp .Mult) (fun x y H Q => ∃ l k xs, x = .ref l ∧ y = .int k ∧ SqT X.K H l xs ∧ -1000 ≤ k ∧ k ≤ 0 ∧ xs ≠ [] ∧ ∀ p, H p = none → Q (.ref p) (upd H p (.tup []))) := by
  intro pins s σ H x y v u Q I rx ry h
  obtain ⟨l, k, xs, rfl, rfl, hT, h1, h2, h3, q⟩ := h
  cases rx
  obtain ⟨t, rfl⟩ := ry
  obtain ⟨its, r, ⟨⟨cls, dd, data, sl⟩, ho, hc, n, hd⟩, hs⟩ := I.tuple hT
  simp only at hc hd
  subst hc hd
  have hle : its.length = xs.length := r.length.symm
  have c0 : (decide (k < -(2 ^ 63)) || decide (k ≥ 2 ^ 63)) = false := by
    rw [decide_eq_false (by omega), decide_eq_false (by omega)] <;> rfl
  have hi : its.toArray.isEmpty = false := by
    cases its with
    | nil => exact absurd (List.eq_nil_of_length_eq_zero (by simpa using hle.symm)) h3
    | cons a b => rfl
  have c1 : (its.toArray.isEmpty || k == 1) = false := by
    rw [hi, Bool.false_or]
    exact beq_eq_false_iff_ne.mpr (by omega)
  have c2 : (decide (k ≤ 0) || its.toArray.isEmpty) = true := by rw [decide_eq_true h2, Bool.true_or]
  refine wpAny_binaryOp_repeat_ref (T := "tuple") (U := "int") (by decide) ⟨_, ho, rfl⟩ (fun s' => typeIs_int s' k t) noFill_tuple_mul F.fills_int_mul F.slot_int_rmul repeat_tuple F.slot_int_index.lookup
    (call_meets F.slot_int_rmul (typeIs_int s k t) F.entry_int_rmul (F.args_int_rmul_2 _ _) (int_rmul_tuple k t l its.toArray n dd sl)
      ⟨ho, rfl, ⟨_, ho, rfl⟩, call_meets F.slot_tuple_mul ⟨_, ho, rfl⟩ F.entry_tuple_mul (F.args_tuple_mul_2 _ _) (tuple_mulNone l its.toArray n dd sl k t c0 c1 c2) ⟨ho, ?_⟩⟩)
  refine ⟨.ref s.heap.objs.size, _, I.laid (t' := s.toks) (o := .tup []) (fun b ob q => Heap.get?_push_of_some _ q) (Nat.le_refl _) ?_, rfl, q _ (I.hok.fresh (Nat.le_refl _))⟩
  exact ⟨Nat.zero_le _, [], .nil, PyProof.Rows.IsTup.new _ _⟩
def mulTF : D → D → Option D
  | .str a, .int n => if -1000 ≤ n ∧ n ≤ 1000 ∧ a.length ≤ 1000 then some (.str (repS a n)) else none
  | .tup xs, .int n => if isFs xs = true ∧ -1000 ≤ n ∧ n ≤ 1000 ∧ xs.length ≤ 1000 then some (.tup (List.replicate n.toNat xs).flatten) else none
  | _, _ => none
theorem two_mulT : Two P (fun X r => OpR X (binaryOp .Mult) r) mulTF := by
  intro X N sc ok a b d h
  match a, b, h with
  | .str a, .int n, h =>
    simp only [mulTF] at h
    split at h
    · rename_i hc
      cases h
      exact ⟨_, op_repS, fun x y H F c ca cb Q ra _ rb _ g k => ⟨a, n, ra.strE, rb.intE, hc.1, hc.2.1, hc.2.2, k.str g⟩⟩
    · cases h
  | .tup xs, .int n, h =>
    simp only [mulTF] at h
    split at h
    · rename_i hc
      obtain ⟨f1, h1, h2, h3⟩ := hc
      cases h
      by_cases e1 : xs = [] ∨ n = 1
      · refine ⟨_, op_repT1, fun x y H F c ca cb Q ra _ rb _ g k => ?_⟩
        have ra0 : Rp X.K X.mg H F (.tup xs) x [] := ra.flat (by simpa only [isF] using f1)
        obtain ⟨p1, vs, e2, q1, r1⟩ := ra0.tupE g.sub
        refine ⟨p1, n, vs, e2, rb.intE, q1, h1, h2, ?_, k.flat g ?_⟩
        · rcases e1 with e1 | e1
          · subst e1
            exact .inl (List.eq_nil_of_length_eq_zero (by simpa using r1.length.symm))
          · exact .inr e1
        · have e3 : (List.replicate n.toNat xs).flatten = xs := by
            rcases e1 with e1 | e1
            · subst e1
              have : ∀ m : Nat, (List.replicate m ([] : List D)).flatten = [] := by
                intro m
                induction m with
                | zero => rfl
                | succ m ih => rw [List.replicate_succ, List.flatten_cons, ih]; rfl
              exact this _
            · subst e1; simp
          rw [e3]; exact ra0
      · by_cases e2 : n ≤ 0
        · refine ⟨_, op_repT0, fun x y H F c ca cb Q ra _ rb _ g k => ?_⟩
          have ra0 : Rp X.K X.mg H F (.tup xs) x [] := ra.flat (by simpa only [isF] using f1)
          obtain ⟨p1, vs, e3, q1, r1⟩ := ra0.tupE g.sub
          refine ⟨p1, n, vs, e3, rb.intE, q1, h1, e2, fun en => e1 (.inl ?_), fun p hp => ?_⟩
          · subst en
            exact List.eq_nil_of_length_eq_zero (by simpa using r1.length)
          · have e4 : n.toNat = 0 := by omega
            rw [e4] at k
            exact k.tup g hp (by simp only [List.replicate_zero, List.flatten_nil, Rps]; exact ⟨trivial, trivial⟩)
        · refine ⟨_, op_repT, fun x y H F c ca cb Q ra _ rb _ g k => ?_⟩
          have ra0 : Rp X.K X.mg H F (.tup xs) x [] := ra.flat (by simpa only [isF] using f1)
          obtain ⟨p1, vs, e3, q1, r1⟩ := ra0.tupE g.sub
          have n1 : n ≠ 1 := fun e => e1 (.inr e)
          refine ⟨p1, n, vs, e3, rb.intE, q1, fun en => e1 (.inl ?_), by omega, h2, by rw [← r1.length]; exact h3, fun p hp => k.tup g hp (r1.rep _)⟩
          subst en
          exact List.eq_nil_of_length_eq_zero (by simpa using r1.length)
    · cases h
def opMulT : Opr P := opBin .Mult mulTF two_mulT
/-! ### methods of texts -/
def strB : D → Bool
  | .str _ => true
  | _ => false
theorem str_mid (K : PySem.W.Frag) (mg : Str → Option Value) (d : D) (h : strB d = true) (x : V) (H F : Hp) (c : List Addr) (r : Rp K mg H F d x c) (l : Le F H) : tyV K "str" x H := by
  cases d with
  | str z => rw [r.strE]; rfl
  | _ => simp [strB] at h
def strsD : List D → Option (List Str)
  | [] => some []
  | .str i :: r => (strsD r).map fun z => i :: z
  | _ => none
theorem strsD_some : ∀ {xs : List D} {ns : List Str}, strsD xs = some ns → xs = ns.map D.str
  | [], ns, h => by cases h; rfl
  | .str i :: r, ns, h => by
    obtain ⟨z, h1, rfl⟩ := Option.map_eq_some_iff.mp h
    rw [strsD_some h1]; rfl
  | .non :: _, _, h => by simp [strsD] at h
  | .bl _ :: _, _, h => by simp [strsD] at h
  | .int _ :: _, _, h => by simp [strsD] at h
  | .tup _ :: _, _, h => by simp [strsD] at h
  | .lst _ _ :: _, _, h => by simp [strsD] at h
  | .dic _ _ _ :: _, _, h => by simp [strsD] at h
  | .ins _ _ _ _ :: _, _, h => by simp [strsD] at h
  | .fn _ :: _, _, h => by simp [strsD] at h
  | .ty _ :: _, _, h => by simp [strsD] at h
  | .scr _ :: _, _, h => by simp [strsD] at h
def oprS (id : String) (name : Str) (n : Nat) (r : Cx → V → List V → Hp → VK → Prop) (f : List D → Option D) (slot : Slot "str" name id) (hty : typeOf (.builtin id) = pure (.type "method_descriptor")) (hm : ∀ X : Cx, MtR X id (r X)) (hn : n < 29)
    (fh : ∀ d l y, f (d :: l) = some y → strB d = true) (h : ∀ (X : Cx) (ds : List D) (d : D), f ds = some d → ∀ (vs : List V) (H F : Hp) (c : List Addr) (Q : VK), RpE X.K X.mg H F c ds vs → Good H F c → PostN X.K X.mg H F c d Q → match vs with
      | [] => False
      | v :: ws => r X v ws H Q) : OprM P where
  f := f
  hd := strB
  Mid := fun K => tyV K "str"
  sh := shM name n
  fh := fh
  mid := str_mid
  pl := by
    intro sc e x ys he
    obtain ⟨_, _, rfl, _⟩ := shM_some he
    rfl
  sound := by
    intro X N sc ok e x ys he
    obtain ⟨apos, pos, rfl, h1, h2, h3, h4⟩ := shM_some he
    exact ⟨_, hasM_bm PySem.F.plainAttrs_str slot hty (hm X) h2 h3 h4 (by omega)⟩
  ok := by
    intro X N sc ok e x ys he ds d hf
    obtain ⟨apos, pos, rfl, h1, h2, h3, h4⟩ := shM_some he
    exact ⟨_, hasM_bm PySem.F.plainAttrs_str slot hty (hm X) h2 h3 h4 (by omega), fun vs H F c Q r1 g k => h X ds d hf vs H F c Q r1 g k⟩
/-- s.join(l) -/
def joinF : List D → Option D
  | [.str a, .lst _ xs] => (strsD xs).bind fun ys => if (ys.map (·.length)).sum + ys.length * a.length ≤ 16777216 then some (.str (Txt.join a ys)) else none
  | [.str a, .tup xs] => (strsD xs).bind fun ys => if (ys.map (·.length)).sum + ys.length * a.length ≤ 16777216 then some (.str (Txt.join a ys)) else none
  | _ => none
theorem joinF_hd {d y : D} {l : List D} (h : joinF (d :: l) = some y) : strB d = true := by
  match d, l, h with
  | .str _, _, _ => rfl
def opJoin : OprM P := oprS "str.join" "join" 1 _ joinF PySem.F.slot_str_join PySem.F.type_str_join (fun X => mt_join) (by decide) (fun _ _ _ => joinF_hd) (by
  intro X ds d hf vs H F c Q r g k
  match ds, hf with
  | [.str a, .lst o xs], hf =>
    obtain ⟨ys, e1, e2⟩ := Option.bind_eq_some_iff.mp hf
    split at e2
    case isFalse => cases e2
    case isTrue hl =>
    cases e2
    obtain ⟨v, w, ca, cb, rfl, r1, _, r2, _⟩ := r.two
    obtain ⟨p, ws, cs, rfl, q, rs, _⟩ := r2.lstE g.sub
    rw [strsD_some e1] at rs
    have e3 := rs.strs
    subst e3
    exact ⟨a, p, ys, r1.strE, rfl, .inl (.inl q), hl, k.str g⟩
  | [.str a, .tup xs], hf =>
    obtain ⟨ys, e1, e2⟩ := Option.bind_eq_some_iff.mp hf
    split at e2
    case isFalse => cases e2
    case isTrue hl =>
    cases e2
    obtain ⟨v, w, ca, cb, rfl, r1, _, r2, _⟩ := r.two
    obtain ⟨p, ws, rfl, q, rs⟩ := r2.tupE g.sub
    rw [strsD_some e1] at rs
    have e3 := rs.strs
    subst e3
    exact ⟨a, p, ys, r1.strE, rfl, .inr q, hl, k.str g⟩)
theorem Rps.strsOf {K : PySem.W.Frag} {mg : Str → Option Value} {H F : Hp} : ∀ xs : List Str, Rps K mg H F (xs.map D.str) (xs.map V.str) []
  | [] => by simp only [List.map_nil, Rps]; exact ⟨trivial, trivial⟩
  | x :: xs => by
    simp only [List.map_cons, Rps]
    exact ⟨_, _, [], [], rfl, rfl, by simp only [Rp]; exact ⟨trivial, trivial⟩, Rps.strsOf xs⟩
/-- s.split(t) -/
def splitF : List D → Option D
  | [.str a, .str b] => if (b.length == 0) = false ∧ a.length + 2 ≤ sizeLine then some (.lst true ((Txt.split a b).map D.str)) else none
  | _ => none
theorem splitF_hd {d y : D} {l : List D} (h : splitF (d :: l) = some y) : strB d = true := by
  match d, l, h with
  | .str _, _, _ => rfl
def opSplit : OprM P := oprS "str.split" "split" 1 _ splitF PySem.F.slot_str_split PySem.F.type_str_split (fun X => mt_split) (by decide) (fun _ _ _ => splitF_hd) (by
  intro X ds d hf vs H F c Q r g k
  match ds, hf with
  | [.str a, .str b], hf =>
    simp only [splitF] at hf
    split at hf
    case isFalse => cases hf
    case isTrue hl =>
    cases hf
    obtain ⟨v, w, ca, cb, rfl, r1, _, r2, _⟩ := r.two
    refine ⟨a, b, r1.strE, by rw [r2.strE], hl.1, hl.2, fun p hp => k.lst g hp ?_⟩
    exact Rps.strsOf _)
/-! ### str of a number, int of a text -/
def strF : List D → Option D
  | [.int i] => if i.natAbs.log2 < 1920 then some (.str (toString i)) else none
  | _ => none
def opStr : Opr P := opTy "str" "str" 1 strF (by decide) (by kernel_rfl) (by decide) (by decide) (by
  intro X N sc ok ds d h
  refine ⟨_, call_str_int, fun vs H F c Q r g k => ?_⟩
  match ds, h with
  | [.int i], h =>
    simp only [strF] at h
    split at h
    case isFalse => cases h
    case isTrue hl =>
    cases h
    obtain ⟨v, cd, rfl, r, _⟩ := r.one
    rw [r.intE]
    exact ⟨i, rfl, hl, k.str g⟩)
def intTF : List D → Option D
  | [.str a] => if a.length ≤ 640 then (PySem.intText? a).map .int else none
  | _ => none
def opIntT : Opr P := opTy "int" "int" 1 intTF (by decide) (by kernel_rfl) (by decide) (by decide) (by
  intro X N sc ok ds d h
  refine ⟨_, call_int_str, fun vs H F c Q r g k => ?_⟩
  match ds, h with
  | [.str a], h =>
    simp only [intTF] at h
    split at h
    case isFalse => cases h
    case isTrue hl =>
    obtain ⟨n, h1, rfl⟩ := Option.map_eq_some_iff.mp h
    obtain ⟨v, cd, rfl, r, _⟩ := r.one
    rw [r.strE]
    exact ⟨a, n, rfl, h1, hl, k.int g⟩)
/-! ### a walk of a text -/
def shSt (_ : Scope) (_ : Expr) (e : Expr) : Option (List Expr) := if plainX e = true then some [e] else none
def stF : List D → Option (List D)
  | [.str x] => some (x.cps.toList.map fun c => D.str ⟨#[c]⟩)
  | _ => none
def sSt : List V → Hp → (It → Hp → Prop) → Prop := fun vs H1 R => match vs with
  | [v] => ∃ x, v = .str x ∧ R (Its x) H1
  | _ => False
def jSt : List V → It
  | [.str x] => Its x
  | _ => Its Str.empty
theorem pi_st {X : Cx} {tg e : Expr} {ts : List TE} (ht : AllPE X [e] ts) : PI X tg e (fun σ H R => tL ts σ H fun vs H1 => sSt vs H1 R) := by
  cases ht with
  | cons p1 ht =>
    cases ht
    exact pi_str p1
def itStr : Itr P where
  f := stF
  sh := shSt
  pl := by
    intro sc tg e es he
    unfold shSt at he
    split at he
    · assumption
    · cases he
  sound := by
    intro X N sc ok tg e es he
    unfold shSt at he
    split at he
    · cases he
      exact ⟨sSt, fun ts ht => pi_st ht⟩
    · cases he
  ok := by
    intro X N sc ok tg e es he ds l hf
    unfold shSt at he
    split at he
    case isFalse => cases he
    case isTrue =>
    cases he
    match ds, hf with
    | [.str x], hf =>
      cases hf
      refine ⟨sSt, fun ts ht => pi_st ht, fun vs => ⟨jSt vs, fun H F c R r g hR => ?_, fun H F c r g i => ⟨fun d hd => ?_, fun hi => ?_⟩⟩⟩
      · obtain ⟨v, cd, rfl, r1, _⟩ := r.one
        have e1 := r1.strE
        subst e1
        exact ⟨x, rfl, hR⟩
      · obtain ⟨v, cd, rfl, r1, _⟩ := r.one
        have e1 := r1.strE
        subst e1
        rw [List.getElem?_map] at hd
        obtain ⟨k, z1, rfl⟩ := Option.map_eq_some_iff.mp hd
        have hi : i < x.cps.size := by
          have := (List.getElem?_eq_some_iff.mp z1).1
          simpa using this
        refine ⟨hi, fun y H' hy => ⟨F, Le.refl F, ?_⟩⟩
        obtain ⟨rfl, q, hq, rfl⟩ := hy
        rw [Array.getElem?_toList] at z1
        rw [z1] at hq
        cases hq
        exact ⟨g, fun _ _ => rfl, by simp only [Rp]; exact ⟨trivial, trivial⟩⟩
      · obtain ⟨v, cd, rfl, r1, _⟩ := r.one
        have e1 := r1.strE
        subst e1
        show x.cps.size ≤ i
        simpa using hi
/-! ### isinstance of one of some built-in types -/
def tysD : List D → Option (List String)
  | [] => some []
  | .ty n :: r => (tysD r).map fun z => n :: z
  | _ => none
def kitBs (t : String) : List String → Option Bool
  | [] => some false
  | n :: r => match kitB t n with
    | some true => some true
    | some false => kitBs t r
    | none => none
theorem tysD_rel {K : PySem.W.Frag} {mg : Str → Option Value} {H F : Hp} : ∀ {xs : List D} {ns : List String} {vs : List V} {c : List Addr} {us : List Value}, tysD xs = some ns → Rps K mg H F xs vs c → Vals vs us → us = ns.map Value.type
  | [], ns, vs, c, us, h, r, v => by
    cases h
    simp only [Rps] at r
    rw [r.1] at v
    cases v
    rfl
  | .ty n :: l, ns, vs, c, us, h, r, v => by
    obtain ⟨z, h1, rfl⟩ := Option.map_eq_some_iff.mp h
    simp only [Rps] at r
    obtain ⟨x, w, c1, c2, rfl, rfl, r1, r2⟩ := r
    simp only [Rp] at r1
    obtain ⟨rfl, _⟩ := r1
    cases v with
    | cons e v =>
      have e : _ = Value.type n := e
      subst e
      rw [tysD_rel h1 r2 v]; rfl
  | .non :: _, _, _, _, _, h, _, _ => by simp [tysD] at h
  | .bl _ :: _, _, _, _, _, h, _, _ => by simp [tysD] at h
  | .int _ :: _, _, _, _, _, h, _, _ => by simp [tysD] at h
  | .str _ :: _, _, _, _, _, h, _, _ => by simp [tysD] at h
  | .tup _ :: _, _, _, _, _, h, _, _ => by simp [tysD] at h
  | .lst _ _ :: _, _, _, _, _, h, _, _ => by simp [tysD] at h
  | .dic _ _ _ :: _, _, _, _, _, h, _, _ => by simp [tysD] at h
  | .ins _ _ _ _ :: _, _, _, _, _, h, _, _ => by simp [tysD] at h
  | .fn _ :: _, _, _, _, _, h, _, _ => by simp [tysD] at h
  | .scr _ :: _, _, _, _, _, h, _, _ => by simp [tysD] at h
theorem kitBs_ok {K : PySem.W.Frag} {t : String} : ∀ {ns : List String} {b : Bool}, kitBs t ns = some b → PySem.W.kitAny K (.type t) (ns.map Value.type) = some b
  | [], b, h => h
  | n :: r, b, h => by
    simp only [kitBs] at h
    simp only [List.map_cons, PySem.W.kitAny]
    split at h
    · rename_i e
      rw [kit_ty e]; exact h
    · rename_i e
      rw [kit_ty e]; exact kitBs_ok h
    · cases h
theorem call_isiS {X : Cx} : CallR X (.builtin "isinstance") (fun xs H Q => ∃ (x : V) (tp : Addr) (cs : List V) (t : Value) (us : List Value) (b : Bool), xs = [x, .ref tp] ∧ SqT X.K H tp cs ∧ (∀ ws, Vals cs ws → ws = us) ∧ TyX X.K H x t ∧ PySem.W.kitAny X.K t us = some b ∧ Q (.bl b) H) := by
  intro pins s σ H xs us Q I r h
  obtain ⟨x, tp, cs, t, ws, b, rfl, hT, k, ty, e, q⟩ := h
  obtain ⟨u1, u2, rfl, r1, r2⟩ := vals2 r
  cases (show u2 = Value.ref tp from r2)
  obtain ⟨P, Z, p, hx⟩ := kit_of I r1 ty
  obtain ⟨its, rv, ⟨⟨oc, od, dt, sl⟩, ho, h2, n, h3⟩, hs⟩ := I.tuple hT
  have e3 := k _ rv
  subst e3
  simp only at h2 h3
  subst h2 h3
  exact PySem.W.kia_tup Z I.kIn p ho e hx fun tk => ⟨.bl b, H, I.tok tk, rfl, q⟩
def isiTF : List D → Option D
  | [d, .tup xs] => (tyD d).bind fun t => (tysD xs).bind fun ns => (kitBs t ns).map .bl
  | _ => none
def opIsiT : Opr P := opB "isinstance" "isinstance" 2 isiTF (by decide) (by kernel_rfl) (by decide) (by decide) (by
  intro X N sc ok ds d h
  refine ⟨_, call_isiS, fun vs H F c Q r g k => ?_⟩
  match ds, h with
  | [d0, .tup xs], h =>
    obtain ⟨t, h1, h2⟩ := Option.bind_eq_some_iff.mp h
    obtain ⟨ns, h3, h4⟩ := Option.bind_eq_some_iff.mp h2
    obtain ⟨b, h5, rfl⟩ := Option.map_eq_some_iff.mp h4
    obtain ⟨v, w, ca, cb, rfl, r1, _, r2, _⟩ := r.two
    obtain ⟨p, ws, rfl, q, rs⟩ := r2.tupE g.sub
    exact ⟨v, p, ws, _, ns.map Value.type, b, rfl, q, fun us hu => tysD_rel h3 rs hu, tyX_of h1 r1 g.sub, kitBs_ok h5, k.bl g⟩)
/-! ### extend by a list that may be shared -/
theorem mt_extR {X : Cx} : MtM X "list.extend" (fun x vs H Q => ∃ l b xs zs, x = .ref l ∧ vs = [.ref b] ∧ H l = some (.lst xs) ∧ Rd H b (.lst zs) ∧ xs.length + zs.length ≤ sizeLine ∧ Q .non (upd H l (.lst (xs ++ zs)))) := by
  intro pins s σ H x vs v us Q I rx rv h
  obtain ⟨l, b, xs, zs, rfl, rfl, hH, hB, hz, q⟩ := h
  cases rx
  obtain ⟨u, rfl, ru⟩ := rv.one
  cases ru
  obtain ⟨z, its, n, r, hl, e⟩ := I.lstM hH
  obtain ⟨z2, its2, n2, r2, hl2, e2⟩ := lstR I hB
  have hsz : its.toArray.size + its2.toArray.size ≤ sizeLine := by rw [List.size_toArray, List.size_toArray]; omega
  have hlong : ¬ (!its.toArray.isEmpty && Builtin.List.listTooLong (its.toArray.size + its2.toArray.size)) = true := by
    rw [notLongL hsz, Bool.and_false]
    exact Bool.false_ne_true
  refine call_meets F.slot_list_extend ⟨_, e, rfl⟩ F.entry_list_extend (F.args_list_extend_2 _ _)
    (PySem.AutoSeq1.list_extend_list_list_0 l its.toArray n b its2.toArray n2 hlong (by rw [List.size_toArray]; omega) (by omega)) ⟨e, e2, ?_⟩
  refine ⟨.non, _, I.lset (its' := its ++ its2) hH e (by simp) (r.append r2) ?_, rfl, q⟩
  rw [List.length_append]
  omega
def extRF : D → List D → Option (D × D)
  | .lst true xs, [.lst _ ys] => if isFs ys = true ∧ xs.length + ys.length ≤ sizeLine then some (.non, .lst true (xs ++ ys)) else none
  | _, _ => none
def mExtR : Mut P := mutM "list.extend" "extend" 1 _ extRF PySem.F.slot_list_extend PySem.F.type_list_extend (fun _ => mt_extR) (by decide) (by
  intro X d ds a d' hf x ws H F c cd cw Q r1 r2 g k
  match d, ds, hf with
  | .lst true xs, [.lst o ys], hf =>
    simp only [extRF] at hf
    split at hf
    · rename_i hl
      cases hf
      simp only [Rp] at r1
      obtain ⟨p, vs, c', rfl, hH, rs, rfl⟩ := r1
      rw [Rps] at r2
      obtain ⟨w, w2, c1, c2, rfl, rfl, ry, r3⟩ := r2
      simp only [Rps] at r3
      obtain ⟨rfl, rfl⟩ := r3
      obtain ⟨b, zs, cs, rfl, hb, rz, _⟩ := ry.lstE g.sub
      refine ⟨p, b, vs, zs, rfl, rfl, hH, hb, by rw [← rs.length, ← rz.length]; exact hl.2, ?_⟩
      have g2 : Good H F (p :: ((c' ++ []) ++ c)) := by
        refine g.sublist ?_
        simp only [List.append_nil, List.cons_append, List.append_assoc]
        exact ((List.sublist_append_right c1 c).append_left c').cons_cons p
      obtain ⟨g3, k3, r3⟩ := lst_write g2 (rs.append (rz.flat hl.1))
      exact k .non _ F [] (p :: (c' ++ [])) (Le.refl F) k3 (by simpa using g3) (by simp only [Rp]; exact ⟨trivial, trivial⟩) r3
    · cases hf)
end Ev
end
section
set_option maxRecDepth 100000
set_option maxHeartbeats 4000000
namespace Ev
open PySem PySem.Spec L2
section
variable {P : Pg} {cl : Cl} {rt t t1 t2 : Tr} {α β : Type}
theorem bqm {o : OprM P} {b : B P} {es : List (B P)} {os : List Opd} {ds : List D} {d d0 : D} {t0 : Tr} (h0 : evB cl rt b t = some (.ok d0 t0)) (hh : o.hd d0 = true) (h : evOs cl none rt (b :: es) t = some (.ok os t1)) (h2 : opdDs t1 os = some ds) (h3 : o.f ds = some d) :
    evB cl rt (.qm o (b :: es)) t = some (.ok d t1) := by
  have e : hdD cl rt (b :: es) t = some d0 := by
    cases b <;> first | (simp only [hdD, h0]; done) | (simp [evB] at h0; done)
  simp only [evB, e, hdOk]
  rw [if_pos hh]
  simp only [h, bindR, h2, Option.bind_some, h3, Option.map_some]
/-! texts -/
def joinS (a : Str) (ys : List Str) : Option Str := if (ys.map (·.length)).sum + ys.length * a.length ≤ 16777216 then some (Txt.join a ys) else none
theorem strsD_map : ∀ ys : List Str, strsD (ys.map eS) = some ys
  | [] => rfl
  | y :: ys => by
    show (strsD (ys.map eS)).map _ = _
    rw [strsD_map ys]; rfl
theorem t_join {o : Bool} {a r : Str} {ys : List Str} (h : joinS a ys = some r) : (opJoin : OprM P).f [.str a, eL o eS ys] = some (.str r) := by
  show (strsD (ys.map eS)).bind _ = _
  rw [strsD_map, Option.bind_some]
  unfold joinS at h
  split at h
  · rename_i hc; rw [if_pos hc]; cases h; rfl
  · cases h
def splitO (a b : Str) : Option (List Str) := if (b.length == 0) = false ∧ a.length + 2 ≤ sizeLine then some (Txt.split a b) else none
theorem t_split {a b : Str} {r : List Str} (h : splitO a b = some r) : (opSplit : OprM P).f [.str a, .str b] = some (eL true eS r) := by
  show splitF [.str a, .str b] = _
  simp only [splitF]
  unfold splitO at h
  split at h
  · rename_i hc; rw [if_pos hc]; cases h; rfl
  · cases h
def strO (i : Int) : Option Str := if i.natAbs.log2 < 1920 then some (toString i) else none
theorem t_str {i : Int} {r : Str} (h : strO i = some r) : (opStr : Opr P).f [.int i] = some (.str r) := by
  show strF [.int i] = _
  simp only [strF]
  unfold strO at h
  split at h
  · rename_i hc; rw [if_pos hc]; cases h; rfl
  · cases h
def intTO (a : Str) : Option Int := if a.length ≤ 640 then PySem.intText? a else none
theorem t_intT {a : Str} {r : Int} (h : intTO a = some r) : (opIntT : Opr P).f [.str a] = some (.int r) := by
  show intTF [.str a] = _
  simp only [intTF]
  unfold intTO at h
  split at h
  · rename_i hc; rw [if_pos hc, h]; rfl
  · cases h
def repSO (a : Str) (n : Int) : Option Str := if -1000 ≤ n ∧ n ≤ 1000 ∧ a.length ≤ 1000 then some (repS a n) else none
theorem g_repS {a r : Str} {n : Int} (h : repSO a n = some r) : (opMulT : Opr P).f [.str a, .int n] = some (.str r) := by
  show mulTF (.str a) (.int n) = _
  simp only [mulTF]
  unfold repSO at h
  split at h
  · rename_i hc; rw [if_pos hc]; cases h; rfl
  · cases h
def repQ : Q → Int → Option Q
  | .tup xs, n => if -1000 ≤ n ∧ n ≤ 1000 ∧ xs.length ≤ 1000 then some (.tup (List.replicate n.toNat xs).flatten) else none
  | _, _ => none
theorem g_repQ : ∀ {q r : Q} {n : Int}, repQ q n = some r → (opMulT : Opr P).f [eQ q, .int n] = some (eQ r)
  | .tup xs, r, n, h => by
    show mulTF (.tup (eQs xs)) (.int n) = _
    simp only [mulTF, eQs_map, isFs_map fzQ, true_and, List.length_map]
    simp only [repQ] at h
    split at h
    · rename_i hc; rw [if_pos hc]; cases h
      simp only [eQ, eQs_map, List.map_flatten, List.map_replicate]
    · cases h
/-- a text's signs -/
def sgns (x : Str) : List Str := x.cps.toList.map fun c => ⟨#[c]⟩
theorem w_St {x : Str} : (itStr : Itr P).f [.str x] = some ((sgns x).map eS) := by
  show some (x.cps.toList.map fun c => D.str ⟨#[c]⟩) = _
  unfold sgns
  rw [List.map_map]; rfl
def zipQ : Q → Q → Option (List (Q × Q))
  | .tup xs, .tup ys => some (xs.zip ys)
  | .lst xs, .lst ys => some (xs.zip ys)
  | _, _ => none
theorem w_zipQ : ∀ {a b : Q} {o o' : Bool} {l : List (Q × Q)}, zipQ a b = some l → (itZip : Itr P).f [eQo o a, eQo o' b] = some (l.map (eT2 eQ eQ))
  | .tup xs, .tup ys, o, o', l, h => by
    cases h
    show zipF [.tup (eQs xs), .tup (eQs ys)] = _
    simp only [zipF, eQs_map, isFs_map fzQ]
    rw [if_pos ⟨trivial, trivial⟩, zipD, List.zip_map, List.map_map]
    rfl
  | .lst xs, .lst ys, o, o', l, h => by
    cases h
    show zipF [.lst o (eQs xs), .lst o' (eQs ys)] = _
    simp only [zipF, eQs_map, isFs_map fzQ]
    rw [if_pos ⟨trivial, trivial⟩, zipD, List.zip_map, List.map_map]
    rfl
theorem w_zipQ1 {a b : Q} {o' : Bool} {l : List (Q × Q)} (h : zipQ a b = some l) : (itZip : Itr P).f [eQ a, eQo o' b] = some (l.map (eT2 eQ eQ)) := by rw [qo_f]; exact w_zipQ h
theorem w_zipQ2 {a b : Q} {o : Bool} {l : List (Q × Q)} (h : zipQ a b = some l) : (itZip : Itr P).f [eQo o a, eQ b] = some (l.map (eT2 eQ eQ)) := by rw [qo_f b]; exact w_zipQ h
theorem w_zipQ0 {a b : Q} {l : List (Q × Q)} (h : zipQ a b = some l) : (itZip : Itr P).f [eQ a, eQ b] = some (l.map (eT2 eQ eQ)) := by rw [qo_f a, qo_f b]; exact w_zipQ h
/-- isinstance of one of some types -/
def isiTQ (q : Q) (ns : List String) : Option Bool := kitBs (tyQ q) ns
theorem tysD_map : ∀ ns : List String, tysD (ns.map D.ty) = some ns
  | [] => rfl
  | n :: ns => by
    show (tysD (ns.map D.ty)).map _ = _
    rw [tysD_map ns]; rfl
theorem g_isiT {o : Bool} {q : Q} {ns : List String} {b : Bool} (h : isiTQ q ns = some b) : (opIsiT : Opr P).f [eQo o q, .tup (ns.map D.ty)] = some (.bl b) := by
  have e : tyD (eQo o q) = some (tyQ q) := by cases q <;> rfl
  show (tyD (eQo o q)).bind _ = _
  rw [e, Option.bind_some]
  rw [tysD_map, Option.bind_some, show kitBs (tyQ q) ns = some b from h]; rfl
theorem g_isiTQ {q : Q} {ns : List String} {b : Bool} (h : isiTQ q ns = some b) : (opIsiT : Opr P).f [eQ q, .tup (ns.map D.ty)] = some (.bl b) := by rw [qo_f]; exact g_isiT h
theorem m_extR {o : Bool} {e : α → D} {xs ys zs : List α} (he : Fz e) (h : catO xs ys = some zs) : (mExtR : Mut P).f (eL true e xs) [eL o e ys] = some (.non, eL true e zs) := by
  unfold catO at h; split at h
  · rename_i h1
    cases h
    show extRF (.lst true (xs.map e)) [.lst o (ys.map e)] = _
    simp only [extRF, isFs_map he, List.length_map]
    rw [if_pos ⟨trivial, h1⟩, eL, List.map_append]
  · cases h
theorem eqD_Qo1 {o : Bool} (q : Q) (d : D) : eqD (eQo o q) d = eqD (eQo true q) d := by
  cases q <;> cases d <;> rfl
theorem eqD_Qo2 {o : Bool} (q : Q) (d : D) : eqD d (eQo o q) = eqD d (eQo true q) := by
  cases q <;> cases d <;> rfl
end
end Ev
end
section
set_option maxRecDepth 100000
set_option maxHeartbeats 4000000
namespace LawP
open PySem PySem.Spec PyProof.Rows L2 Ev
/-! printed by gen2.py from the law's own text -/
abbrev fu : Nat := 2 ^ 64
def top (i : Nat) : Stmt := PySem.Challenge.pw_nolitter_k54_plans_as_texts.main.body.getD i (.Pass ⟨0, 0, 0, 0⟩)
def fnN : List Str := ["move_word", "show_plan", "mark_of", "move_of", "read_plan", "_law_draw", "_law_cap", "_law_turned", "_law_way", "_law_moves", "_law_behind", "_law_detoured", "_law_plan", "_law_size", "_law_kinds", "_law_any_moves", "_law_word", "_law_both_ways", "law"]
def conI : List (Str × Int) := [("MOST_FIGURES", 4)]
def conS : List (Str × Str) := [("FIGURES", "0123456789")]
def fvN : List Str := []
def attN : List (Str × Str) := []
def mtN : List (Str × Str) := []
def ckN : List Str := []
def dkL : List (Str × Int) := []
def kv_SIGNS : List (Str × Str) := [("lay", "+"), ("clear", "-")]
def kv_WORDS : List (Str × Str) := [("+", "lay"), ("-", "clear")]
def dtN : List (Str × List (Str × Str)) := [("SIGNS", kv_SIGNS), ("WORDS", kv_WORDS)]
def P : Pg := ⟨glX conI conS fvN, fun C f => attN.contains (C, f), fun f => fnN.contains f, fun C m => mtN.contains (C, m), fun C => ckN.contains C, glF dkL [], fun _ => none, fun x => dtN.lookup x⟩
theorem dt_SIGNS : P.dt "SIGNS" = some kv_SIGNS := by decide +kernel
theorem dt_WORDS : P.dt "WORDS" = some kv_WORDS := by decide +kernel
theorem gl_FIGURES : P.gl "FIGURES" = some (.str "0123456789") := glX_o (fv := fvN) <| glF_s (ci := conI) (cs := conS) (x := "FIGURES") (z := "0123456789") (by decide +kernel) (by decide +kernel)
theorem gl_MOST_FIGURES : P.gl "MOST_FIGURES" = some (.int 4) := glX_o (fv := fvN) <| glF_i (ci := conI) (cs := conS) (x := "MOST_FIGURES") (i := 4) (by decide +kernel)
def b_move_word : List (S P) :=
  [.iff (.pu (.p opEq [.ix (.v 0) (.c (.int 0)), .c (.str "show")])) [.ret (.pu (.c (.str "!")))] [], .ret (.q opAdd [.pu (.p (opTab "SIGNS") [.ix (.v 0) (.c (.int 0))]), .q opStr [.pu (.ix (.v 0) (.c (.int 1)))]])]
def d_move_word : Df P := ⟨⟨("move_word", none), "move_word", "move_word", defArgs (top 8), defBody (top 8), defScope (top 8), [], []⟩, ["move"], ["move"], [0], b_move_word, []⟩
theorem dok_move_word : DfOk d_move_word := ⟨⟨rfl, rfl, rfl, by decide +kernel, rfl, by decide +kernel, by decide +kernel⟩, by decide +kernel, rfl, fun F => FunD.bindsN F (fun _ _ _ _ _ _ us hl => match us, hl with | [_], _ => rfl), fun _ h => absurd h (List.not_mem_nil), fun _ _ _ _ _ _ _ us hl => match us, hl with | [_], _ => rfl⟩
def b_show_plan : List (S P) :=
  [.ret (.qm opJoin [.pu (.c (.str " ")), .lc (.call (.glob ("move_word" : Str)) none [.pu (.v 1)]) (.n 1) [(("move" : Str), 1)] itList [.rf 0] []])]
def d_show_plan : Df P := ⟨⟨("show_plan", none), "show_plan", "show_plan", defArgs (top 9), defBody (top 9), defScope (top 9), [], []⟩, ["plan", "move"], ["plan"], [0], b_show_plan, []⟩
theorem dok_show_plan : DfOk d_show_plan := ⟨⟨rfl, rfl, rfl, by decide +kernel, rfl, by decide +kernel, by decide +kernel⟩, by decide +kernel, rfl, fun F => FunD.bindsN F (fun _ _ _ _ _ _ us hl => match us, hl with | [_], _ => rfl), fun _ h => absurd h (List.not_mem_nil), fun _ _ _ _ _ _ _ us hl => match us, hl with | [_], _ => rfl⟩
def b_mark_of : List (S P) :=
  [.iff (.pu (.or [.not (.ch .LtE .LtE (.c (.int 1)) (.p opLen [.v 0]) (.g "MOST_FIGURES")), .and [.p opEq [.p opIx [.v 0, .c (.int 0)], .c (.str "0")], .p opNe [.v 0, .c (.str "0")]]])) [.ret (.pu (.c .non))] [], .iff (.not (.q opAll [.lc (.pu (.p opIn [.v 1, .g "FIGURES"])) (.n 1) [(("sign" : Str), 1)] itStr [.pu (.v 0)] []])) [.ret (.pu (.c .non))] [], .ret (.pu (.p opIntT [.v 0]))]
def d_mark_of : Df P := ⟨⟨("mark_of", none), "mark_of", "mark_of", defArgs (top 10), defBody (top 10), defScope (top 10), [], []⟩, ["word", "sign"], ["word"], [0], b_mark_of, []⟩
theorem dok_mark_of : DfOk d_mark_of := ⟨⟨rfl, rfl, rfl, by decide +kernel, rfl, by decide +kernel, by decide +kernel⟩, by decide +kernel, rfl, fun F => FunD.bindsN F (fun _ _ _ _ _ _ us hl => match us, hl with | [_], _ => rfl), fun _ h => absurd h (List.not_mem_nil), fun _ _ _ _ _ _ _ us hl => match us, hl with | [_], _ => rfl⟩
def b_move_of : List (S P) :=
  [.iff (.pu (.p opEq [.v 0, .c (.str "!")])) [.ret (.pu (.tup [.c (.str "show")]))] [], .iff (.or [.pu (.p (opTabNin "WORDS") [.p opSlHi [.v 0, .c (.int 1)]]), .q opIs [.call (.glob ("mark_of" : Str)) none [.pu (.p opSlLo [.v 0, .c (.int 1)])], .pu (.c .non)]]) [.ret (.pu (.c .non))] [], .ret (.tup [.pu (.p (opTab "WORDS") [.p opIx [.v 0, .c (.int 0)]]), .call (.glob ("mark_of" : Str)) none [.pu (.p opSlLo [.v 0, .c (.int 1)])]])]
def d_move_of : Df P := ⟨⟨("move_of", none), "move_of", "move_of", defArgs (top 11), defBody (top 11), defScope (top 11), [], []⟩, ["word"], ["word"], [0], b_move_of, []⟩
theorem dok_move_of : DfOk d_move_of := ⟨⟨rfl, rfl, rfl, by decide +kernel, rfl, by decide +kernel, by decide +kernel⟩, by decide +kernel, rfl, fun F => FunD.bindsN F (fun _ _ _ _ _ _ us hl => match us, hl with | [_], _ => rfl), fun _ h => absurd h (List.not_mem_nil), fun _ _ _ _ _ _ _ us hl => match us, hl with | [_], _ => rfl⟩
def b_read_plan : List (S P) :=
  [.iff (.pu (.p opEq [.v 0, .c (.str "")])) [.ret (.pu (.lst []))] [], .set 1 (.pu (.lst [])), .for (.t [.n 2, .n 3]) itEnum [.qm opSplit [.pu (.v 0), .pu (.c (.str " "))]] [.set 4 (.call (.glob ("move_of" : Str)) none [.pu (.v 3)]), .iff (.pu (.p opIs [.v 4, .c .non])) [.no] [], .ex (.mut mAppend none [.rf 1, .pu (.v 4)]), .fg [2, 3, 4]], .ret (.mv 1)]
def d_read_plan : Df P := ⟨⟨("read_plan", none), "read_plan", "read_plan", defArgs (top 12), defBody (top 12), defScope (top 12), [], []⟩, ["text", "plan", "at", "word", "move"], ["text"], [0], b_read_plan, []⟩
theorem dok_read_plan : DfOk d_read_plan := ⟨⟨rfl, rfl, rfl, by decide +kernel, rfl, by decide +kernel, by decide +kernel⟩, by decide +kernel, rfl, fun F => FunD.bindsN F (fun _ _ _ _ _ _ us hl => match us, hl with | [_], _ => rfl), fun _ h => absurd h (List.not_mem_nil), fun _ _ _ _ _ _ _ us hl => match us, hl with | [_], _ => rfl⟩
def b__law_draw : List (S P) :=
  [.unp [.n 2, .n 3, .n 4] 0, .iff (.pu (.p opEq [.v 4, .c (.int 0)])) [.put putI none (.pu (.p opAdd [.v 3, .c (.int 1)])) [.rf 0, .pu (.c (.int 1))], .set 5 (.pu (.p opAdd [.p opMul [.c (.int 7), .v 3], .c (.int 3)])), .iff (.pu (.p opGt [.p opLen [.v 2], .c (.int 0)])) [.set 5 (.pu (.p opIx [.v 2, .p opMod [.v 3, .p opLen [.v 2]]]))] [], .set 4 (.pu (.p opAbs [.v 5])), .iff (.pu (.or [.p opGe [.v 3, .p opLen [.v 2]], .p opLt [.v 4, .p opPow [.c (.int 10), .c (.int 18)]]])) [.set 7 (.pu (.p opMod [.p opAdd [.p opAdd [.p opMul [.p opMod [.v 5, .c (.int 2147483629)], .p opAdd [.c (.int 48271), .v 3]], .p opMul [.c (.int 7919), .v 3]], .c (.int 13)], .c (.int 2147483629)])), .set 7 (.pu (.p opMod [.p opMul [.v 7, .v 7], .c (.int 2147483587)])), .ret (.pu (.p opMod [.p opMod [.p opMul [.v 7, .v 7], .c (.int 1999999973)], .v 1]))] [], .fg [5]] [], .tx [.s 0 (.c (.int 2)), .n 6] (.pu (.p opDivmod [.v 4, .v 1])), .ret (.pu (.v 6))]
def d__law_draw : Df P := ⟨⟨("_law_draw", none), "_law_draw", "_law_draw", defArgs (top 14), defBody (top 14), defScope (top 14), [], []⟩, ["_law_state", "_law_many", "_law_script", "_law_k", "_law_rest", "_law_cell", "_law_digit", "_law_number"], ["_law_state", "_law_many"], [0, 1], b__law_draw, []⟩
theorem dok__law_draw : DfOk d__law_draw := ⟨⟨rfl, rfl, rfl, by decide +kernel, rfl, by decide +kernel, by decide +kernel⟩, by decide +kernel, rfl, fun F => FunD.bindsN F (fun _ _ _ _ _ _ us hl => match us, hl with | [_, _], _ => rfl), fun _ h => absurd h (List.not_mem_nil), fun _ _ _ _ _ _ _ us hl => match us, hl with | [_, _], _ => rfl⟩
def b__law_cap : List (S P) :=
  [.iff (.pu (.p opEq [.v 0, .c (.int 0)])) [.ret (.pu (.c (.int 0)))] [], .ret (.pu (.ix (.lst [.p opSub [.p opShl [.c (.int 1), .v 0], .c (.int 1)], .p opShl [.c (.int 1), .p opSub [.v 0, .c (.int 1)]]]) (.p opInt [.v 1])))]
def d__law_cap : Df P := ⟨⟨("_law_cap", none), "_law_cap", "_law_cap", defArgs (top 15), defBody (top 15), defScope (top 15), [], []⟩, ["_law_s", "_law_is_alone"], ["_law_s", "_law_is_alone"], [0, 1], b__law_cap, []⟩
theorem dok__law_cap : DfOk d__law_cap := ⟨⟨rfl, rfl, rfl, by decide +kernel, rfl, by decide +kernel, by decide +kernel⟩, by decide +kernel, rfl, fun F => FunD.bindsN F (fun _ _ _ _ _ _ us hl => match us, hl with | [_, _], _ => rfl), fun _ h => absurd h (List.not_mem_nil), fun _ _ _ _ _ _ _ us hl => match us, hl with | [_, _], _ => rfl⟩
def b__law_turned : List (S P) :=
  [.set 1 (.pu (.lst [])), .for (.n 2) itList [.pu (.p opRevS [.v 0])] [.iff (.pu (.p opEq [.ix (.v 2) (.c (.int 0)), .c (.str "show")])) [.ex (.mut mAppend none [.rf 1, .pu (.v 2)])] [.ex (.mut mAppend none [.rf 1, .pu (.tup [.ix (.lst [.c (.str "lay"), .c (.str "clear")]) (.p opInt [.p opEq [.ix (.v 2) (.c (.int 0)), .c (.str "lay")]]), .ix (.v 2) (.c (.int 1))])])], .fg [2]], .ret (.mv 1)]
def d__law_turned : Df P := ⟨⟨("_law_turned", none), "_law_turned", "_law_turned", defArgs (top 16), defBody (top 16), defScope (top 16), [], []⟩, ["_law_plan_here", "_law_found", "_law_move"], ["_law_plan_here"], [0], b__law_turned, []⟩
theorem dok__law_turned : DfOk d__law_turned := ⟨⟨rfl, rfl, rfl, by decide +kernel, rfl, by decide +kernel, by decide +kernel⟩, by decide +kernel, rfl, fun F => FunD.bindsN F (fun _ _ _ _ _ _ us hl => match us, hl with | [_], _ => rfl), fun _ h => absurd h (List.not_mem_nil), fun _ _ _ _ _ _ _ us hl => match us, hl with | [_], _ => rfl⟩
def b__law_way : List (S P) :=
  [.iff (.pu (.p opEq [.p opSub [.v 2, .v 1], .c (.int 1)])) [.ret (.pu (.lst [.tup [.c (.str "lay"), .v 2]]))] [], .set 5 (.pu (.lst [])), .for (.n 6) itRng2 [.pu (.p opAdd [.v 1, .c (.int 1)]), .pu (.p opAdd [.p opAdd [.v 1, .c (.int 1)], .p opDiv [.p opAdd [.p opSub [.v 2, .v 1], .c (.int 1)], .c (.int 2)]])] [.iff (.and [.q opLe [.pu (.p opSub [.v 6, .v 1]), .call (.glob ("_law_cap" : Str)) none [.pu (.p opSub [.v 3, .p opInt [.v 4]]), .pu (.c (.bl true))]], .q opLe [.pu (.p opSub [.v 2, .v 6]), .call (.glob ("_law_cap" : Str)) none [.pu (.p opSub [.v 3, .c (.int 1)]), .pu (.v 4)]]]) [.ex (.mut mAppend none [.rf 5, .pu (.v 6)])] [], .fg [6]], .set 6 (.q opIx [.rf 5, .call (.glob ("_law_draw" : Str)) none [.rf 0, .pu (.p opLen [.v 5])]]), .set 7 (.q opAdd [.call (.glob ("_law_way" : Str)) none [.rf 0, .pu (.v 1), .pu (.v 6), .pu (.v 3), .pu (.c (.bl true))], .call (.glob ("_law_way" : Str)) none [.rf 0, .pu (.v 6), .pu (.v 2), .pu (.p opSub [.v 3, .c (.int 1)]), .pu (.v 4)]]), .iff (.pu (.v 4)) [.set 7 (.q opAdd [.rf 7, .call (.glob ("_law_turned" : Str)) none [.call (.glob ("_law_way" : Str)) none [.rf 0, .pu (.v 1), .pu (.v 6), .pu (.p opSub [.v 3, .c (.int 1)]), .pu (.c (.bl true))]]])] [], .ret (.mv 7)]
def d__law_way : Df P := ⟨⟨("_law_way", none), "_law_way", "_law_way", defArgs (top 17), defBody (top 17), defScope (top 17), [], []⟩, ["_law_state", "_law_first", "_law_last", "_law_s", "_law_is_alone", "_law_fits", "_law_m", "_law_found"], ["_law_state", "_law_first", "_law_last", "_law_s", "_law_is_alone"], [0, 1, 2, 3, 4], b__law_way, []⟩
theorem dok__law_way : DfOk d__law_way := ⟨⟨rfl, rfl, rfl, by decide +kernel, rfl, by decide +kernel, by decide +kernel⟩, by decide +kernel, rfl, fun F => FunD.bindsN F (fun _ _ _ _ _ _ us hl => match us, hl with | [_, _, _, _, _], _ => rfl), fun _ h => absurd h (List.not_mem_nil), fun _ _ _ _ _ _ _ us hl => match us, hl with | [_, _, _, _, _], _ => rfl⟩
def b__law_moves : List (S P) :=
  [.set 3 (.pu (.lst [])), .for (.n 4) itRng2 [.pu (.c (.int 1)), .pu (.p opAdd [.v 1, .c (.int 1)])] [.iff (.pu (.or [.p opEq [.v 4, .c (.int 1)], .p opIn [.p opSub [.v 4, .c (.int 1)], .v 0]])) [.iff (.pu (.p opIn [.v 4, .v 0])) [.ex (.mut mAppend none [.rf 3, .pu (.tup [.c (.str "clear"), .v 4])])] [.iff (.pu (.p opLt [.p opLen [.v 0], .v 2])) [.ex (.mut mAppend none [.rf 3, .pu (.tup [.c (.str "lay"), .v 4])])] []]] [], .fg [4]], .ret (.mv 3)]
def d__law_moves : Df P := ⟨⟨("_law_moves", none), "_law_moves", "_law_moves", defArgs (top 18), defBody (top 18), defScope (top 18), [], []⟩, ["_law_there", "_law_n", "_law_s", "_law_found", "_law_k"], ["_law_there", "_law_n", "_law_s"], [0, 1, 2], b__law_moves, []⟩
theorem dok__law_moves : DfOk d__law_moves := ⟨⟨rfl, rfl, rfl, by decide +kernel, rfl, by decide +kernel, by decide +kernel⟩, by decide +kernel, rfl, fun F => FunD.bindsN F (fun _ _ _ _ _ _ us hl => match us, hl with | [_, _, _], _ => rfl), fun _ h => absurd h (List.not_mem_nil), fun _ _ _ _ _ _ _ us hl => match us, hl with | [_, _, _], _ => rfl⟩
def b__law_behind : List (S P) :=
  [.iff (.pu (.p opEq [.ix (.v 1) (.c (.int 0)), .c (.str "lay")])) [.ret (.pu (.p opSorted [.p opAdd [.v 0, .lst [.ix (.v 1) (.c (.int 1))]]]))] [], .ret (.lc (.pu (.v 2)) (.n 2) [(("_law_k" : Str), 2)] itList [.rf 0] [.pu (.p opNe [.v 2, .ix (.v 1) (.c (.int 1))])])]
def d__law_behind : Df P := ⟨⟨("_law_behind", none), "_law_behind", "_law_behind", defArgs (top 19), defBody (top 19), defScope (top 19), [], []⟩, ["_law_there", "_law_move", "_law_k"], ["_law_there", "_law_move"], [0, 1], b__law_behind, []⟩
theorem dok__law_behind : DfOk d__law_behind := ⟨⟨rfl, rfl, rfl, by decide +kernel, rfl, by decide +kernel, by decide +kernel⟩, by decide +kernel, rfl, fun F => FunD.bindsN F (fun _ _ _ _ _ _ us hl => match us, hl with | [_, _], _ => rfl), fun _ h => absurd h (List.not_mem_nil), fun _ _ _ _ _ _ _ us hl => match us, hl with | [_, _], _ => rfl⟩
def b__law_detoured : List (S P) :=
  [.set 4 (.pu (.lst [])), .set 5 (.pu (.lst [])), .for (.n 6) itList [.rf 1] [.iff (.q opEq [.call (.glob ("_law_draw" : Str)) none [.rf 0, .pu (.c (.int 4))], .pu (.c (.int 0))]) [.set 7 (.pu (.lst [])), .for (.n 8) itRng1 [.q opAdd [.pu (.c (.int 1)), .call (.glob ("_law_draw" : Str)) none [.rf 0, .pu (.c (.int 3))]]] [.set 10 (.call (.glob ("_law_moves" : Str)) none [.rf 5, .pu (.v 2), .pu (.v 3)]), .ex (.mut mAppend none [.rf 7, .q opIx [.rf 10, .call (.glob ("_law_draw" : Str)) none [.rf 0, .pu (.p opLen [.v 10])]]]), .set 5 (.call (.glob ("_law_behind" : Str)) none [.rf 5, .pu (.ix (.v 7) (.p opNeg [.c (.int 1)]))]), .fg [8, 10]], .for (.n 9) itList [.call (.glob ("_law_turned" : Str)) none [.rf 7]] [.set 5 (.call (.glob ("_law_behind" : Str)) none [.rf 5, .pu (.v 9)]), .fg [9]], .set 4 (.q opAdd [.pu (.p opAdd [.v 4, .v 7]), .call (.glob ("_law_turned" : Str)) none [.rf 7]]), .fg [7]] [], .ex (.mut mAppend none [.rf 4, .pu (.v 6)]), .set 5 (.call (.glob ("_law_behind" : Str)) none [.rf 5, .pu (.v 6)]), .fg [6]], .ret (.mv 4)]
def d__law_detoured : Df P := ⟨⟨("_law_detoured", none), "_law_detoured", "_law_detoured", defArgs (top 20), defBody (top 20), defScope (top 20), [], []⟩, ["_law_state", "_law_way_here", "_law_n", "_law_s", "_law_found", "_law_there", "_law_move", "_law_aside", "_law_turn", "_law_one", "_law_some"], ["_law_state", "_law_way_here", "_law_n", "_law_s"], [0, 1, 2, 3], b__law_detoured, []⟩
theorem dok__law_detoured : DfOk d__law_detoured := ⟨⟨rfl, rfl, rfl, by decide +kernel, rfl, by decide +kernel, by decide +kernel⟩, by decide +kernel, rfl, fun F => FunD.bindsN F (fun _ _ _ _ _ _ us hl => match us, hl with | [_, _, _, _], _ => rfl), fun _ h => absurd h (List.not_mem_nil), fun _ _ _ _ _ _ _ us hl => match us, hl with | [_, _, _, _], _ => rfl⟩
def b__law_plan : List (S P) :=
  [.set 4 (.call (.glob ("_law_way" : Str)) none [.rf 0, .pu (.c (.int 0)), .pu (.v 1), .pu (.v 2), .pu (.v 3)]), .iff (.pu (.v 3)) [.ret (.call (.glob ("_law_detoured" : Str)) none [.rf 0, .rf 4, .pu (.v 1), .pu (.v 2)])] [], .set 5 (.call (.glob ("_law_turned" : Str)) none [.call (.glob ("_law_detoured" : Str)) none [.rf 0, .rf 4, .pu (.v 1), .pu (.v 2)]]), .ret (.q opAdd [.q opAdd [.call (.glob ("_law_detoured" : Str)) none [.rf 0, .rf 4, .pu (.v 1), .pu (.v 2)], .pu (.lst [.tup [.c (.str "show")]])], .rf 5])]
def d__law_plan : Df P := ⟨⟨("_law_plan", none), "_law_plan", "_law_plan", defArgs (top 21), defBody (top 21), defScope (top 21), [], []⟩, ["_law_state", "_law_n", "_law_s", "_law_is_left", "_law_way_here", "_law_back"], ["_law_state", "_law_n", "_law_s", "_law_is_left"], [0, 1, 2, 3], b__law_plan, []⟩
theorem dok__law_plan : DfOk d__law_plan := ⟨⟨rfl, rfl, rfl, by decide +kernel, rfl, by decide +kernel, by decide +kernel⟩, by decide +kernel, rfl, fun F => FunD.bindsN F (fun _ _ _ _ _ _ us hl => match us, hl with | [_, _, _, _], _ => rfl), fun _ h => absurd h (List.not_mem_nil), fun _ _ _ _ _ _ _ us hl => match us, hl with | [_, _, _, _], _ => rfl⟩
def b__law_size : List (S P) :=
  [.set 3 (.q opAdd [.pu (.c (.int 1)), .call (.glob ("_law_draw" : Str)) none [.rf 0, .pu (.c (.int 4))]]), .iff (.q opEq [.call (.glob ("_law_draw" : Str)) none [.rf 0, .pu (.c (.int 8))], .pu (.c (.int 1))]) [.set 3 (.q opAdd [.pu (.c (.int 5)), .call (.glob ("_law_draw" : Str)) none [.rf 0, .pu (.c (.int 4))]])] [], .ret (.tup [.q opAdd [.pu (.c (.int 1)), .call (.glob ("_law_draw" : Str)) none [.rf 0, .q opMin2 [.pu (.v 2), .call (.glob ("_law_cap" : Str)) none [.pu (.v 3), .pu (.v 1)]]]], .pu (.v 3)])]
def d__law_size : Df P := ⟨⟨("_law_size", none), "_law_size", "_law_size", defArgs (top 22), defBody (top 22), defScope (top 22), [], []⟩, ["_law_state", "_law_is_left", "_law_most", "_law_s"], ["_law_state", "_law_is_left", "_law_most"], [0, 1, 2], b__law_size, []⟩
theorem dok__law_size : DfOk d__law_size := ⟨⟨rfl, rfl, rfl, by decide +kernel, rfl, by decide +kernel, by decide +kernel⟩, by decide +kernel, rfl, fun F => FunD.bindsN F (fun _ _ _ _ _ _ us hl => match us, hl with | [_, _, _], _ => rfl), fun _ h => absurd h (List.not_mem_nil), fun _ _ _ _ _ _ _ us hl => match us, hl with | [_, _, _], _ => rfl⟩
def b__law_kinds : List (S P) :=
  [.iff (.pu (.p opIsiT [.v 1, .tup [.c (.ty "tuple"), .c (.ty "list")]])) [.iff (.pu (.or [.p opNe [.p opIsi [.v 0, .c (.ty "tuple")], .p opIsi [.v 1, .c (.ty "tuple")]], .not (.p opIsiT [.v 0, .tup [.c (.ty "tuple"), .c (.ty "list")]])])) [.ret (.pu (.c (.bl false)))] [], .iff (.pu (.p opNe [.p opLen [.v 0], .p opLen [.v 1]])) [.ret (.pu (.c (.bl false)))] [], .ret (.q opAll [.lc (.call (.glob ("_law_kinds" : Str)) none [.pu (.v 2), .pu (.v 3)]) (.t [.n 2, .n 3]) [(("_law_one" : Str), 2), (("_law_other" : Str), 3)] itZip [.rf 0, .rf 1] []])] [], .iff (.pu (.p opIsi [.v 1, .c (.ty "str")])) [.ret (.pu (.and [.p opIsi [.v 0, .c (.ty "str")], .p opEq [.v 0, .v 1]]))] [], .ret (.pu (.and [.p opIsi [.v 0, .c (.ty "int")], .not (.p opIsi [.v 0, .c (.ty "bool")]), .p opEq [.v 0, .v 1]]))]
def d__law_kinds : Df P := ⟨⟨("_law_kinds", none), "_law_kinds", "_law_kinds", defArgs (top 23), defBody (top 23), defScope (top 23), [], []⟩, ["_law_found", "_law_due", "_law_one", "_law_other"], ["_law_found", "_law_due"], [0, 1], b__law_kinds, []⟩
theorem dok__law_kinds : DfOk d__law_kinds := ⟨⟨rfl, rfl, rfl, by decide +kernel, rfl, by decide +kernel, by decide +kernel⟩, by decide +kernel, rfl, fun F => FunD.bindsN F (fun _ _ _ _ _ _ us hl => match us, hl with | [_, _], _ => rfl), fun _ h => absurd h (List.not_mem_nil), fun _ _ _ _ _ _ _ us hl => match us, hl with | [_, _], _ => rfl⟩
def b__law_any_moves : List (S P) :=
  [.set 1 (.pu (.lst [])), .for (.n 2) itRng1 [.call (.glob ("_law_draw" : Str)) none [.rf 0, .pu (.c (.int 41))]] [.set 3 (.q opIx [.lst [.call (.glob ("_law_draw" : Str)) none [.rf 0, .pu (.c (.int 25))], .call (.glob ("_law_draw" : Str)) none [.rf 0, .pu (.p opPow [.c (.int 10), .c (.int 4)])], .pu (.c (.int 9999)), .pu (.c (.int 0))], .call (.glob ("_law_draw" : Str)) none [.rf 0, .pu (.c (.int 4))]]), .ex (.mut mAppend none [.rf 1, .q opIx [.pu (.lst [.tup [.c (.str "lay"), .v 3], .tup [.c (.str "clear"), .v 3], .tup [.c (.str "show")]]), .q opMod [.call (.glob ("_law_draw" : Str)) none [.rf 0, .pu (.c (.int 8))], .pu (.c (.int 3))]]]), .fg [2, 3]], .ret (.mv 1)]
def d__law_any_moves : Df P := ⟨⟨("_law_any_moves", none), "_law_any_moves", "_law_any_moves", defArgs (top 24), defBody (top 24), defScope (top 24), [], []⟩, ["_law_state", "_law_found", "_law_turn", "_law_k"], ["_law_state"], [0], b__law_any_moves, []⟩
theorem dok__law_any_moves : DfOk d__law_any_moves := ⟨⟨rfl, rfl, rfl, by decide +kernel, rfl, by decide +kernel, by decide +kernel⟩, by decide +kernel, rfl, fun F => FunD.bindsN F (fun _ _ _ _ _ _ us hl => match us, hl with | [_], _ => rfl), fun _ h => absurd h (List.not_mem_nil), fun _ _ _ _ _ _ _ us hl => match us, hl with | [_], _ => rfl⟩
def b__law_word : List (S P) :=
  [.iff (.pu (.p opEq [.ix (.v 0) (.c (.int 0)), .c (.str "show")])) [.ret (.pu (.c (.str "!")))] [], .ret (.q opAdd [.pu (.ix (.lst [.c (.str "+"), .c (.str "-")]) (.p opInt [.p opEq [.ix (.v 0) (.c (.int 0)), .c (.str "clear")]])), .q opStr [.pu (.ix (.v 0) (.c (.int 1)))]])]
def d__law_word : Df P := ⟨⟨("_law_word", none), "_law_word", "_law_word", defArgs (top 25), defBody (top 25), defScope (top 25), [], []⟩, ["_law_move"], ["_law_move"], [0], b__law_word, []⟩
theorem dok__law_word : DfOk d__law_word := ⟨⟨rfl, rfl, rfl, by decide +kernel, rfl, by decide +kernel, by decide +kernel⟩, by decide +kernel, rfl, fun F => FunD.bindsN F (fun _ _ _ _ _ _ us hl => match us, hl with | [_], _ => rfl), fun _ h => absurd h (List.not_mem_nil), fun _ _ _ _ _ _ _ us hl => match us, hl with | [_], _ => rfl⟩
def b__law_both_ways : List (S P) :=
  [.set 1 (.qm opJoin [.pu (.c (.str " ")), .lc (.call (.glob ("_law_word" : Str)) none [.pu (.v 5)]) (.n 5) [(("_law_move" : Str), 5)] itList [.rf 0] []]), .set 2 (.pu (.p opList [.v 0])), .set 3 (.call (.glob ("show_plan" : Str)) none [.rf 2]), .iff (.pu (.or [.not (.p opIsi [.v 3, .c (.ty "str")]), .p opNe [.v 3, .v 1], .p opNe [.v 2, .v 0]])) [.ret (.pu (.c (.bl false)))] [], .set 4 (.call (.glob ("read_plan" : Str)) none [.pu (.v 1)]), .iff (.not (.call (.glob ("_law_kinds" : Str)) none [.rf 4, .rf 0])) [.ret (.pu (.c (.bl false)))] [], .ex (.mut mAppend none [.rf 4, .pu (.tup [.c (.str "show")])]), .ret (.call (.glob ("_law_kinds" : Str)) none [.call (.glob ("read_plan" : Str)) none [.pu (.v 3)], .rf 0])]
def d__law_both_ways : Df P := ⟨⟨("_law_both_ways", none), "_law_both_ways", "_law_both_ways", defArgs (top 26), defBody (top 26), defScope (top 26), [], []⟩, ["_law_plan_here", "_law_due", "_law_handed", "_law_text", "_law_found", "_law_move"], ["_law_plan_here"], [0], b__law_both_ways, []⟩
theorem dok__law_both_ways : DfOk d__law_both_ways := ⟨⟨rfl, rfl, rfl, by decide +kernel, rfl, by decide +kernel, by decide +kernel⟩, by decide +kernel, rfl, fun F => FunD.bindsN F (fun _ _ _ _ _ _ us hl => match us, hl with | [_], _ => rfl), fun _ h => absurd h (List.not_mem_nil), fun _ _ _ _ _ _ _ us hl => match us, hl with | [_], _ => rfl⟩
def b_law : List (S P) :=
  [.set 1 (.lst [.pu (.v 0), .pu (.c (.int 0)), .pu (.c (.int 0))]), .set 2 (.call (.glob ("_law_any_moves" : Str)) none [.rf 1]), .set 3 (.q opEq [.call (.glob ("_law_draw" : Str)) none [.rf 1, .pu (.c (.int 2))], .pu (.c (.int 1))]), .asg (.t [.n 5, .n 6]) (.call (.glob ("_law_size" : Str)) none [.rf 1, .pu (.v 3), .pu (.c (.int 10))]), .set 4 (.call (.glob ("_law_plan" : Str)) none [.rf 1, .pu (.v 5), .pu (.v 6), .pu (.v 3)]), .ret (.and [.call (.glob ("_law_both_ways" : Str)) none [.rf 2], .call (.glob ("_law_both_ways" : Str)) none [.pu (.p opSlHi [.v 4, .c (.int 1000)])], .call (.glob ("_law_both_ways" : Str)) none [.pu (.lst [])], .call (.glob ("_law_both_ways" : Str)) none [.rf 2]])]
def d_law : Df P := ⟨⟨("law", none), "law", "law", defArgs (top 27), defBody (top 27), defScope (top 27), [], []⟩, ["_law_script", "_law_state", "_law_plan_here", "_law_is_left", "_law_other", "_law_n", "_law_s"], ["_law_script"], [0], b_law, []⟩
theorem dok_law : DfOk d_law := ⟨⟨rfl, rfl, rfl, by decide +kernel, rfl, by decide +kernel, by decide +kernel⟩, by decide +kernel, rfl, fun F => FunD.bindsN F (fun _ _ _ _ _ _ us hl => match us, hl with | [_], _ => rfl), fun _ h => absurd h (List.not_mem_nil), fun _ _ _ _ _ _ _ us hl => match us, hl with | [_], _ => rfl⟩
def ds : List (Df P) := [d_move_word, d_show_plan, d_mark_of, d_move_of, d_read_plan, d__law_draw, d__law_cap, d__law_turned, d__law_way, d__law_moves, d__law_behind, d__law_detoured, d__law_plan, d__law_size, d__law_kinds, d__law_any_moves, d__law_word, d__law_both_ways, d_law]
theorem dok_all : ∀ d ∈ ds, DfOk d := by
  intro d hd
  simp only [ds, List.mem_cons, List.not_mem_nil, or_false] at hd
  rcases hd with rfl | rfl | rfl | rfl | rfl | rfl | rfl | rfl | rfl | rfl | rfl | rfl | rfl | rfl | rfl | rfl | rfl | rfl | rfl
  · exact dok_move_word
  · exact dok_show_plan
  · exact dok_mark_of
  · exact dok_move_of
  · exact dok_read_plan
  · exact dok__law_draw
  · exact dok__law_cap
  · exact dok__law_turned
  · exact dok__law_way
  · exact dok__law_moves
  · exact dok__law_behind
  · exact dok__law_detoured
  · exact dok__law_plan
  · exact dok__law_size
  · exact dok__law_kinds
  · exact dok__law_any_moves
  · exact dok__law_word
  · exact dok__law_both_ways
  · exact dok_law
def f_move_word (move : Q) : Option Str :=
  Option.bind (ixQ move 0) fun x =>
  Option.bind (eqD (eQ x) (eS ("show" : Str))) fun c =>
  if c = true then
    some ("!" : Str)
  else
    Option.bind (ixQ move 0) fun x1 =>
    Option.bind (asS x1) fun k =>
    Option.bind (kv_SIGNS.lookup k) fun t =>
    Option.bind (ixQ move 1) fun x2 =>
    Option.bind (asI x2) fun i =>
    Option.bind (strO i) fun t1 =>
    Option.bind (catS t t1) fun t2 =>
    some t2
def f_show_plan (plan : List (Q)) : Option Str :=
  Option.bind (mapO (fun x => Option.bind (f_move_word x) fun r => some r) plan) fun l =>
  Option.bind (joinS (" " : Str) l) fun t =>
  some t
def f_mark_of (word : Str) : Option (Option (Int)) :=
  Option.bind (lenSO word) fun n =>
  Option.bind (if (!((decide (1 ≤ n)) && (decide (n ≤ 4)))) = true then some true else (Option.bind (ixSO word 0) fun x => Option.bind (eqD (eS x) (eS ("0" : Str))) fun c => Option.bind (if c = true then (Option.bind (eqD (eS word) (eS ("0" : Str))) fun c1 => some (!c1)) else some false) fun c2 => some c2)) fun c3 =>
  if c3 = true then
    some none
  else
    Option.bind (mapO (fun x1 => Option.bind (inFO (eS x1) (eS ("0123456789" : Str))) fun c4 => some c4) (sgns word)) fun l =>
    if (!(l.all id)) = true then
      some none
    else
      Option.bind (intTO word) fun i =>
      some (some i)
def f_move_of (word : Str) : Option Q :=
  Option.bind (eqD (eS word) (eS ("!" : Str))) fun c =>
  if c = true then
    some (Q.tup [(Q.str ("show" : Str))])
  else
    Option.bind (cutSO word none (some 1)) fun t =>
    Option.bind (if (!(kv_WORDS.lookup t).isSome) = true then some true else (Option.bind (cutSO word (some 1) none) fun t1 => Option.bind (f_mark_of t1) fun r => some r.isNone)) fun c1 =>
    if c1 = true then
      some Q.non
    else
      Option.bind (ixSO word 0) fun x =>
      Option.bind (kv_WORDS.lookup x) fun t2 =>
      Option.bind (cutSO word (some 1) none) fun t3 =>
      Option.bind (f_mark_of t3) fun r1 =>
      some (Q.tup [(Q.str t2), ((oQ Q.int) r1)])
def f_read_plan (text : Str) : Option (List (Q)) :=
  Option.bind (eqD (eS text) (eS ("" : Str))) fun c =>
  if c = true then
    some ([] : List (Q))
  else
    Option.bind (some ([] : List (Q))) fun plan =>
    Option.bind (splitO text (" " : Str)) fun l =>
    Option.bind (forC (fun (s : List (Q)) (x : (Int × Str)) =>
      Option.bind (f_move_of x.2) fun r =>
      if (isNonQ r) = true then
        none
      else
        Option.bind (appO s r) fun plan1 =>
        some (.nx plan1)
    ) (enumFrom 0 l) plan) fun w => match w with
    | .rt v => some v
    | .nx plan2 =>
    some plan2
def f_draw (state : (List Int × Int × Int)) (many : Int) : Option (Int × ((List Int × Int × Int))) :=
  Option.bind (if (decide (state.2.2 = 0)) = true then
    Option.bind (some (state.2.1 + 1)) fun z =>
    Option.bind (mulO 7 state.2.1) fun i =>
    Option.bind (some (i + 3)) fun cell =>
    Option.bind (if (decide (0 < (state.1.length : Int))) = true then
      Option.bind (modO state.2.1 (state.1.length : Int)) fun i1 =>
      Option.bind (ixO state.1 i1) fun x =>
      some x
    else
      some cell
    ) fun cell1 =>
    Option.bind (some (absI cell1)) fun rest =>
    Option.bind (if (decide ((state.1.length : Int) ≤ state.2.1)) = true then some true else (Option.bind (powO 10 18) fun i2 => some (decide (rest < i2)))) fun c =>
    if c = true then
      Option.bind (modO cell1 2147483629) fun i3 =>
      Option.bind (mulO i3 (48271 + state.2.1)) fun i4 =>
      Option.bind (mulO 7919 state.2.1) fun i5 =>
      Option.bind (modO ((i4 + i5) + 13) 2147483629) fun i6 =>
      Option.bind (mulO i6 i6) fun i7 =>
      Option.bind (modO i7 2147483587) fun i8 =>
      Option.bind (mulO i8 i8) fun i9 =>
      Option.bind (modO i9 1999999973) fun i10 =>
      Option.bind (modO i10 many) fun i11 =>
      some (.rt (i11, (state.1, z, state.2.2)))
    else
      some (.nx ((state.1, z, state.2.2), rest))
  else
    some (.nx (state, state.2.2))
   : Option (Ctl (((List Int × Int × Int)) × Int) (Int × ((List Int × Int × Int))))) fun w => match w with
  | .rt v => some v
  | .nx s =>
  Option.bind (divmodO s.2 many) fun d =>
  some (d.2, (s.1.1, s.1.2.1, d.1))
def f_cap (s : Int) (is_alone : Bool) : Option Int :=
  if (decide (s = 0)) = true then
    some 0
  else
    Option.bind (shlO 1 s) fun i =>
    Option.bind (shlO 1 (s - 1)) fun i1 =>
    Option.bind (ixO [(i - 1), i1] (boI is_alone)) fun x =>
    some x
def f_turned (plan_here : List (Q)) : Option (List (Q)) :=
  Option.bind (some ([] : List (Q))) fun found =>
  Option.bind (forO (fun (s : List (Q)) (x : Q) =>
    Option.bind (ixQ x 0) fun x1 =>
    Option.bind (eqD (eQ x1) (eS ("show" : Str))) fun c =>
    Option.bind (if c = true then
      Option.bind (appO s x) fun found1 =>
      some found1
    else
      Option.bind (ixQ x 0) fun x2 =>
      Option.bind (eqD (eQ x2) (eS ("lay" : Str))) fun c1 =>
      Option.bind (ixO [("lay" : Str), ("clear" : Str)] (boI c1)) fun x3 =>
      Option.bind (ixQ x 1) fun x4 =>
      Option.bind (appO s (Q.tup [(Q.str x3), x4])) fun found2 =>
      some found2
    ) fun found3 =>
    some found3
  ) plan_here.reverse found) fun found4 =>
  some found4
def f_way : Nat → (List Int × Int × Int) → Int → Int → Int → Bool → Option (List (Q) × ((List Int × Int × Int)))
  | 0, _, _, _, _, _ => none
  | n_ + 1, state, first, last, s, is_alone =>
    if (decide ((last - first) = 1)) = true then
      some ([(Q.tup [(Q.str ("lay" : Str)), (Q.int last)])], state)
    else
      Option.bind (some ([] : List (Int))) fun fits =>
      Option.bind (divO ((last - first) + 1) 2) fun i =>
      Option.bind (rngO (first + 1) ((first + 1) + i)) fun r =>
      Option.bind (forO (fun (s1 : List (Int)) (x : Int) =>
        Option.bind (f_cap (s - (boI is_alone)) true) fun r1 =>
        Option.bind (if (decide ((x - first) ≤ r1)) = true then (Option.bind (f_cap (s - 1) is_alone) fun r2 => some (decide ((last - x) ≤ r2))) else some false) fun c =>
        Option.bind (if c = true then
          Option.bind (appO s1 x) fun fits1 =>
          some fits1
        else
          some s1
        ) fun fits2 =>
        some fits2
      ) r fits) fun fits3 =>
      Option.bind (f_draw state (fits3.length : Int)) fun (r3, state1) =>
      Option.bind (ixO fits3 r3) fun x1 =>
      Option.bind (f_way n_ state1 first x1 s true) fun (r4, state2) =>
      Option.bind (f_way n_ state2 x1 last (s - 1) is_alone) fun (r5, state3) =>
      Option.bind (catO r4 r5) fun l =>
      Option.bind (if is_alone = true then
        Option.bind (f_way n_ state3 first x1 (s - 1) true) fun (r6, state4) =>
        Option.bind (f_turned r6) fun r7 =>
        Option.bind (catO l r7) fun l1 =>
        some (state4, l1)
      else
        some (state3, l)
      ) fun s3 =>
      some (s3.2, s3.1)
def f_moves (there : List (Int)) (n : Int) (s : Int) : Option (List (Q)) :=
  Option.bind (some ([] : List (Q))) fun found =>
  Option.bind (rngO 1 (n + 1)) fun r =>
  Option.bind (forO (fun (s1 : List (Q)) (x : Int) =>
    Option.bind (if ((decide (x = 1)) || (decide ((x - 1) ∈ there))) = true then
      Option.bind (if (decide (x ∈ there)) = true then
        Option.bind (appO s1 (Q.tup [(Q.str ("clear" : Str)), (Q.int x)])) fun found1 =>
        some found1
      else
        Option.bind (if (decide ((there.length : Int) < s)) = true then
          Option.bind (appO s1 (Q.tup [(Q.str ("lay" : Str)), (Q.int x)])) fun found2 =>
          some found2
        else
          some s1
        ) fun found3 =>
        some found3
      ) fun found4 =>
      some found4
    else
      some s1
    ) fun found5 =>
    some found5
  ) r found) fun found6 =>
  some found6
def f_behind (there : List (Int)) (move : Q) : Option (List (Int)) :=
  Option.bind (ixQ move 0) fun x =>
  Option.bind (eqD (eQ x) (eS ("lay" : Str))) fun c =>
  if c = true then
    Option.bind (ixQ move 1) fun x1 =>
    Option.bind (asI x1) fun i =>
    Option.bind (catO there [i]) fun l =>
    some (sortI l)
  else
    Option.bind (filO (fun x2 => Option.bind (ixQ move 1) fun x3 => Option.bind (eqD (eI x2) (eQ x3)) fun c1 => if (!c1) = true then  some (some x2) else some none) there) fun l1 =>
    some l1
def f_detoured (state : (List Int × Int × Int)) (way_here : List (Q)) (n : Int) (s : Int) : Option (List (Q) × ((List Int × Int × Int))) :=
  Option.bind (some ([] : List (Q))) fun found =>
  Option.bind (some ([] : List (Int))) fun there =>
  Option.bind (forO (fun (s1 : (((List Int × Int × Int)) × List (Q) × List (Int))) (x : Q) =>
    Option.bind (f_draw s1.1 4) fun (r, state1) =>
    Option.bind (if (decide (r = 0)) = true then
      Option.bind (some ([] : List (Q))) fun aside =>
      Option.bind (f_draw state1 3) fun (r1, state2) =>
      Option.bind (rngO 0 (1 + r1)) fun r2 =>
      Option.bind (forO (fun (s2 : (((List Int × Int × Int)) × List (Int) × List (Q))) (x1 : Int) =>
        Option.bind (f_moves s2.2.1 n s) fun r3 =>
        Option.bind (f_draw s2.1 (r3.length : Int)) fun (r4, state3) =>
        Option.bind (ixO r3 r4) fun x2 =>
        Option.bind (appO s2.2.2 x2) fun aside1 =>
        Option.bind (ixO aside1 (-1)) fun x3 =>
        Option.bind (f_behind s2.2.1 x3) fun r5 =>
        some (state3, r5, aside1)
      ) r2 (state2, s1.2.2, aside)) fun s3 =>
      Option.bind (f_turned s3.2.2) fun r6 =>
      Option.bind (forO (fun (s5 : List (Int)) (x4 : Q) =>
        Option.bind (f_behind s5 x4) fun r7 =>
        some r7
      ) r6 s3.2.1) fun there1 =>
      Option.bind (catO s1.2.1 s3.2.2) fun l =>
      Option.bind (f_turned s3.2.2) fun r8 =>
      Option.bind (catO l r8) fun l1 =>
      some (s3.1, l1, there1)
    else
      some (state1, s1.2.1, s1.2.2)
    ) fun s7 =>
    Option.bind (appO s7.2.1 x) fun found1 =>
    Option.bind (f_behind s7.2.2 x) fun r9 =>
    some (s7.1, found1, r9)
  ) way_here (state, found, there)) fun s8 =>
  some (s8.2.1, s8.1)
def f_plan (state : (List Int × Int × Int)) (n : Int) (s : Int) (is_left : Bool) : Option (List (Q) × ((List Int × Int × Int))) :=
  Option.bind (f_way 25 state 0 n s is_left) fun (r, state1) =>
  if is_left = true then
    Option.bind (f_detoured state1 r n s) fun (r1, state2) =>
    some (r1, state2)
  else
    Option.bind (f_detoured state1 r n s) fun (r2, state3) =>
    Option.bind (f_turned r2) fun r3 =>
    Option.bind (f_detoured state3 r n s) fun (r4, state4) =>
    Option.bind (catO r4 [(Q.tup [(Q.str ("show" : Str))])]) fun l =>
    Option.bind (catO l r3) fun l1 =>
    some (l1, state4)
def f_size (state : (List Int × Int × Int)) (is_left : Bool) (most : Int) : Option (((Int × Int)) × ((List Int × Int × Int))) :=
  Option.bind (f_draw state 4) fun (r, state1) =>
  Option.bind (some (1 + r)) fun s =>
  Option.bind (f_draw state1 8) fun (r1, state2) =>
  Option.bind (if (decide (r1 = 1)) = true then
    Option.bind (f_draw state2 4) fun (r2, state3) =>
    Option.bind (some (5 + r2)) fun s1 =>
    some (state3, s1)
  else
    some (state2, s)
  ) fun s2 =>
  Option.bind (f_cap s2.2 is_left) fun r3 =>
  Option.bind (f_draw s2.1 (imin most r3)) fun (r4, state4) =>
  some (((1 + r4), s2.2), state4)
def f_kinds : Nat → Q → Q → Option Bool
  | 0, _, _ => none
  | n_ + 1, found, due =>
    Option.bind (isiTQ due ["tuple", "list"]) fun c =>
    if c = true then
      Option.bind (isiQ found "tuple") fun c1 =>
      Option.bind (isiQ due "tuple") fun c2 =>
      Option.bind (eqD (eB c1) (eB c2)) fun c3 =>
      Option.bind (if (!c3) = true then some true else (Option.bind (isiTQ found ["tuple", "list"]) fun c4 => some (!c4))) fun c5 =>
      if c5 = true then
        some false
      else
        Option.bind (lenQ found) fun n =>
        Option.bind (lenQ due) fun n1 =>
        if (!(decide (n = n1))) = true then
          some false
        else
          Option.bind (zipQ found due) fun l =>
          Option.bind (mapO (fun x => Option.bind (f_kinds n_ x.1 x.2) fun r => some r) l) fun l1 =>
          some (l1.all id)
    else
      Option.bind (isiQ due "str") fun c6 =>
      if c6 = true then
        Option.bind (isiQ found "str") fun c7 =>
        Option.bind (if c7 = true then (Option.bind (eqD ((eQo true) found) ((eQo true) due)) fun c8 => some c8) else some false) fun c9 =>
        some c9
      else
        Option.bind (isiQ found "int") fun c10 =>
        Option.bind (if c10 = true then (Option.bind (isiQ found "bool") fun c11 => Option.bind (if (!c11) = true then (Option.bind (eqD ((eQo true) found) ((eQo true) due)) fun c12 => some c12) else some false) fun c13 => some c13) else some false) fun c14 =>
        some c14
def f_any_moves (state : (List Int × Int × Int)) : Option (List (Q) × ((List Int × Int × Int))) :=
  Option.bind (some ([] : List (Q))) fun found =>
  Option.bind (f_draw state 41) fun (r, state1) =>
  Option.bind (rngO 0 r) fun r1 =>
  Option.bind (forO (fun (s : (((List Int × Int × Int)) × List (Q))) (x : Int) =>
    Option.bind (f_draw s.1 25) fun (r2, state2) =>
    Option.bind (powO 10 4) fun i =>
    Option.bind (f_draw state2 i) fun (r3, state3) =>
    Option.bind (f_draw state3 4) fun (r4, state4) =>
    Option.bind (ixO [r2, r3, 9999, 0] r4) fun x1 =>
    Option.bind (f_draw state4 8) fun (r5, state5) =>
    Option.bind (modO r5 3) fun i1 =>
    Option.bind (ixO [(Q.tup [(Q.str ("lay" : Str)), (Q.int x1)]), (Q.tup [(Q.str ("clear" : Str)), (Q.int x1)]), (Q.tup [(Q.str ("show" : Str))])] i1) fun x2 =>
    Option.bind (appO s.2 x2) fun found1 =>
    some (state5, found1)
  ) r1 (state1, found)) fun s1 =>
  some (s1.2, s1.1)
def f_word (move : Q) : Option Str :=
  Option.bind (ixQ move 0) fun x =>
  Option.bind (eqD (eQ x) (eS ("show" : Str))) fun c =>
  if c = true then
    some ("!" : Str)
  else
    Option.bind (ixQ move 0) fun x1 =>
    Option.bind (eqD (eQ x1) (eS ("clear" : Str))) fun c1 =>
    Option.bind (ixO [("+" : Str), ("-" : Str)] (boI c1)) fun x2 =>
    Option.bind (ixQ move 1) fun x3 =>
    Option.bind (asI x3) fun i =>
    Option.bind (strO i) fun t =>
    Option.bind (catS x2 t) fun t1 =>
    some t1
def f_both_ways (plan_here : List (Q)) : Option Bool :=
  Option.bind (mapO (fun x => Option.bind (f_word x) fun r => some r) plan_here) fun l =>
  Option.bind (joinS (" " : Str) l) fun t =>
  Option.bind (f_show_plan plan_here) fun r1 =>
  Option.bind (if (!true) = true then some true else (Option.bind (eqD (eS r1) (eS t)) fun c => Option.bind (if (!c) = true then some true else (Option.bind (eqD ((eL true eQ) plan_here) ((eL true eQ) plan_here)) fun c1 => some (!c1))) fun c2 => some c2)) fun c3 =>
  if c3 = true then
    some false
  else
    Option.bind (f_read_plan t) fun r2 =>
    Option.bind (f_kinds 12 (Q.lst r2) (Q.lst plan_here)) fun r3 =>
    if (!r3) = true then
      some false
    else
      Option.bind (appO r2 (Q.tup [(Q.str ("show" : Str))])) fun found =>
      Option.bind (f_read_plan r1) fun r4 =>
      Option.bind (f_kinds 12 (Q.lst r4) (Q.lst plan_here)) fun r5 =>
      some r5
def f_law (script : List Int) : Option Bool :=
  Option.bind (f_any_moves (script, 0, 0)) fun (r, state) =>
  Option.bind (f_draw state 2) fun (r1, state1) =>
  Option.bind (some (decide (r1 = 1))) fun is_left =>
  Option.bind (f_size state1 is_left 10) fun (r2, state2) =>
  Option.bind (f_plan state2 r2.1 r2.2 is_left) fun (r3, state3) =>
  Option.bind (f_both_ways r) fun r4 =>
  Option.bind (if r4 = true then (Option.bind (f_both_ways (cutL r3 none (some 1000))) fun r5 => Option.bind (if r5 = true then (Option.bind (f_both_ways ([] : List (Q))) fun r6 => Option.bind (if r6 = true then (Option.bind (f_both_ways r) fun r7 => some r7) else some false) fun c => some c) else some false) fun c1 => some c1) else some false) fun c2 =>
  some c2
theorem ok_move_word (j : Nat)  (move : Q) (r : Str) (h : f_move_word move = some r) : callN (tabOf ds) fu (j + 1) ("move_word", none) [(false, eQ move)] = some (.ok (eS (r)) [none]) := by
  refine k_def (df := d_move_word) rfl rfl (by rfl) (t0 := [some (eQ move)]) rfl ?_
  unfold f_move_word at h
  obtain ⟨x, h1, h⟩ := bd h
  obtain ⟨c, h2, h⟩ := bd h
  by_cases h3 : c = true
  · rw [if_pos h3] at h
    refine k_ifT (x := c) (t1 := [some (eQ move)]) (b_pu (a2 (aix rfl rfl (i_Q h1)) rfl (g_eq h2)) (.inr rfl)) h3 ?_
    have e := Option.some.inj h; subst e
    exact k_rt (sret (b_pu rfl (.inr rfl))) rfl
  · rw [if_neg h3] at h
    refine k_ifF (x := c) (t1 := [some (eQ move)]) (b_pu (a2 (aix rfl rfl (i_Q h1)) rfl (g_eq h2)) (.inr rfl)) (Bool.eq_false_iff.mpr h3) ?_
    obtain ⟨x1, h4, h⟩ := bd h
    obtain ⟨k, h5, h⟩ := bd h
    obtain ⟨t, h6, h⟩ := bd h
    obtain ⟨x2, h7, h⟩ := bd h
    obtain ⟨i, h8, h⟩ := bd h
    obtain ⟨t1, h9, h⟩ := bd h
    obtain ⟨t2, h10, h⟩ := bd h
    have e := Option.some.inj h; subst e
    exact k_rt (sret (bq (eov (b_pu (a1 (aeq (aix rfl rfl (i_Q h4)) (c_S h5)) (g_tab dt_SIGNS h6)) (.inr rfl)) (eov (bq (eov (beqv (b_pu (aix rfl rfl (i_Q h7)) (.inl (fzQ _))) (c_I h8)) eo0) rfl (t_str h9)) eo0)) rfl (g_catS h10))) rfl
theorem le_move_word {L : Nat} (hL : 1 ≤ L)  (move : Q) (r : Str) (h : f_move_word move = some r) : callN (tabOf ds) fu (L) ("move_word", none) [(false, eQ move)] = some (.ok (eS (r)) [none]) := by
  obtain ⟨j, rfl⟩ := Nat.exists_eq_add_of_le' hL
  exact ok_move_word j  move r h
theorem ok_show_plan (j : Nat) (l0 : Bool) (o0 : Bool) (plan : List (Q)) (r : Str) (h : f_show_plan plan = some r) : callN (tabOf ds) fu (j + 2) ("show_plan", none) [(l0, (eL o0 eQ) plan)] = some (.ok (eS (r)) [if l0 = true then some ((eL o0 eQ) plan) else none]) := by
  refine k_def (df := d_show_plan) rfl rfl (by cases l0 <;> rfl) (t0 := [some ((eL o0 eQ) plan), none]) rfl ?_
  unfold f_show_plan at h
  obtain ⟨l, h2, h⟩ := bd h
  obtain ⟨t, h3, h⟩ := bd h
  have e := Option.some.inj h; subst e
  exact k_rt (sret (bqm (b_pu rfl (.inr rfl)) rfl (eov (b_pu rfl (.inr rfl)) (eov (blcM (own := [(("move" : Str), 1)]) (e := eQ) (e' := eS) h2 (eor rfl eo0) rfl rfl (w_L (o := o0) (e := eQ) (xs := plan) fzQ) rfl (fun x y h => by obtain ⟨r, h1, h⟩ := bd h; have e := Option.some.inj h; subst e; exact ⟨[some ((eL o0 eQ) plan), some (eQ x)], _, rfl, bcall (t3 := [some ((eL o0 eQ) plan), some (eQ x)]) (eov (b_pu rfl (.inl (fzQ _))) eo0) rfl (ok_move_word j  x r h1) rfl, rfl⟩)) eo0)) rfl (t_join (o := true) h3))) rfl
theorem le_show_plan {L : Nat} (hL : 2 ≤ L) (l0 : Bool) (o0 : Bool) (plan : List (Q)) (r : Str) (h : f_show_plan plan = some r) : callN (tabOf ds) fu (L) ("show_plan", none) [(l0, (eL o0 eQ) plan)] = some (.ok (eS (r)) [if l0 = true then some ((eL o0 eQ) plan) else none]) := by
  obtain ⟨j, rfl⟩ := Nat.exists_eq_add_of_le' hL
  exact ok_show_plan j l0 o0 plan r h
theorem ok_mark_of (j : Nat)  (word : Str) (r : Option (Int)) (h : f_mark_of word = some r) : callN (tabOf ds) fu (j + 1) ("mark_of", none) [(false, eS word)] = some (.ok ((eO eI) (r)) [none]) := by
  refine k_def (df := d_mark_of) rfl rfl (by rfl) (t0 := [some (eS word), none]) rfl ?_
  unfold f_mark_of at h
  obtain ⟨n, h1, h⟩ := bd h
  obtain ⟨c3, h6, h⟩ := bd h
  by_cases h7 : c3 = true
  · rw [if_pos h7] at h
    refine k_ifT (x := c3) (t1 := [some (eS word), none]) (b_pu (aor (orp (anot (ach rfl (a1 rfl (l_S h1)) gl_MOST_FIGURES)) (fun y h => by obtain ⟨x, h2, h⟩ := bd h; obtain ⟨c, h3, h⟩ := bd h; obtain ⟨c2, h5, h⟩ := bd h; have e := Option.some.inj h; subst e; exact or1 (aand (andp (a2 (a2 rfl rfl (j_S h2)) rfl (g_eq h3)) (fun y h => by obtain ⟨c1, h4, h⟩ := bd h; have e := Option.some.inj h; subst e; exact and1 (a2 rfl rfl (g_ne h4))) h5))) h6)) (.inr rfl)) h7 ?_
    have e := Option.some.inj h; subst e
    exact k_rt (sret (b_pu rfl (.inr rfl))) rfl
  · rw [if_neg h7] at h
    refine k_ifF (x := c3) (t1 := [some (eS word), none]) (b_pu (aor (orp (anot (ach rfl (a1 rfl (l_S h1)) gl_MOST_FIGURES)) (fun y h => by obtain ⟨x, h2, h⟩ := bd h; obtain ⟨c, h3, h⟩ := bd h; obtain ⟨c2, h5, h⟩ := bd h; have e := Option.some.inj h; subst e; exact or1 (aand (andp (a2 (a2 rfl rfl (j_S h2)) rfl (g_eq h3)) (fun y h => by obtain ⟨c1, h4, h⟩ := bd h; have e := Option.some.inj h; subst e; exact and1 (a2 rfl rfl (g_ne h4))) h5))) h6)) (.inr rfl)) (Bool.eq_false_iff.mpr h7) ?_
    obtain ⟨l, h9, h⟩ := bd h
    by_cases h10 : (!(l.all id)) = true
    · rw [if_pos h10] at h
      refine k_ifT (x := (!(l.all id))) (t1 := [some (eS word), none]) (bnot (bq (eov (blcM (own := [(("sign" : Str), 1)]) (e := eS) (e' := eB) h9 (eov (b_pu rfl (.inl (fzS _))) eo0) rfl rfl w_St rfl (fun x1 y h => by obtain ⟨c4, h8, h⟩ := bd h; have e := Option.some.inj h; subst e; exact ⟨[some (eS word), some (eS x1)], _, rfl, b_pu (a2 rfl gl_FIGURES (g_inF h8)) (.inr rfl), rfl⟩)) eo0) rfl (t_all (o := true) (ns := l)))) h10 ?_
      have e := Option.some.inj h; subst e
      exact k_rt (sret (b_pu rfl (.inr rfl))) rfl
    · rw [if_neg h10] at h
      refine k_ifF (x := (!(l.all id))) (t1 := [some (eS word), none]) (bnot (bq (eov (blcM (own := [(("sign" : Str), 1)]) (e := eS) (e' := eB) h9 (eov (b_pu rfl (.inl (fzS _))) eo0) rfl rfl w_St rfl (fun x1 y h => by obtain ⟨c4, h8, h⟩ := bd h; have e := Option.some.inj h; subst e; exact ⟨[some (eS word), some (eS x1)], _, rfl, b_pu (a2 rfl gl_FIGURES (g_inF h8)) (.inr rfl), rfl⟩)) eo0) rfl (t_all (o := true) (ns := l)))) (Bool.eq_false_iff.mpr h10) ?_
      obtain ⟨i, h11, h⟩ := bd h
      have e := Option.some.inj h; subst e
      exact k_rt (sret (b_pu (a1 rfl (t_intT h11)) (.inr rfl))) rfl
theorem le_mark_of {L : Nat} (hL : 1 ≤ L)  (word : Str) (r : Option (Int)) (h : f_mark_of word = some r) : callN (tabOf ds) fu (L) ("mark_of", none) [(false, eS word)] = some (.ok ((eO eI) (r)) [none]) := by
  obtain ⟨j, rfl⟩ := Nat.exists_eq_add_of_le' hL
  exact ok_mark_of j  word r h
theorem ok_move_of (j : Nat)  (word : Str) (r : Q) (h : f_move_of word = some r) : callN (tabOf ds) fu (j + 2) ("move_of", none) [(false, eS word)] = some (.ok (eQ (r)) [none]) := by
  refine k_def (df := d_move_of) rfl rfl (by rfl) (t0 := [some (eS word)]) rfl ?_
  unfold f_move_of at h
  obtain ⟨c, h1, h⟩ := bd h
  by_cases h2 : c = true
  · rw [if_pos h2] at h
    refine k_ifT (x := c) (t1 := [some (eS word)]) (b_pu (a2 rfl rfl (g_eq h1)) (.inr rfl)) h2 ?_
    have e := Option.some.inj h; subst e
    exact k_rt (sret (b_pu rfl (.inr rfl))) rfl
  · rw [if_neg h2] at h
    refine k_ifF (x := c) (t1 := [some (eS word)]) (b_pu (a2 rfl rfl (g_eq h1)) (.inr rfl)) (Bool.eq_false_iff.mpr h2) ?_
    obtain ⟨t, h3, h⟩ := bd h
    obtain ⟨c1, h6, h⟩ := bd h
    by_cases h7 : c1 = true
    · rw [if_pos h7] at h
      refine k_ifT (x := c1) (t1 := [some (eS word)]) (bor (bor2 (b_pu (a1 (a2 rfl rfl (t_hi (slG_S h3))) (g_tabNin dt_WORDS)) (.inr rfl)) (fun y h => by obtain ⟨t1, h4, h⟩ := bd h; obtain ⟨r, h5, h⟩ := bd h; have e := Option.some.inj h; subst e; exact bor1 (bq (eov (bcall (t3 := [some (eS word)]) (eov (b_pu (a2 rfl rfl (t_lo (slG_S h4))) (.inr rfl)) eo0) rfl (ok_mark_of j  t1 r h5) rfl) (eov (b_pu rfl (.inr rfl)) eo0)) rfl (g_is (fun _ => rfl)))) h6)) h7 ?_
      have e := Option.some.inj h; subst e
      exact k_rt (sret (b_pu rfl (.inr rfl))) rfl
    · rw [if_neg h7] at h
      refine k_ifF (x := c1) (t1 := [some (eS word)]) (bor (bor2 (b_pu (a1 (a2 rfl rfl (t_hi (slG_S h3))) (g_tabNin dt_WORDS)) (.inr rfl)) (fun y h => by obtain ⟨t1, h4, h⟩ := bd h; obtain ⟨r, h5, h⟩ := bd h; have e := Option.some.inj h; subst e; exact bor1 (bq (eov (bcall (t3 := [some (eS word)]) (eov (b_pu (a2 rfl rfl (t_lo (slG_S h4))) (.inr rfl)) eo0) rfl (ok_mark_of j  t1 r h5) rfl) (eov (b_pu rfl (.inr rfl)) eo0)) rfl (g_is (fun _ => rfl)))) h6)) (Bool.eq_false_iff.mpr h7) ?_
      obtain ⟨x, h8, h⟩ := bd h
      obtain ⟨t2, h9, h⟩ := bd h
      obtain ⟨t3, h10, h⟩ := bd h
      obtain ⟨r1, h11, h⟩ := bd h
      have e := Option.some.inj h; subst e
      exact k_rt (sret (btup (eov (b_pu (a1 (a2 rfl rfl (j_S h8)) (g_tab dt_WORDS h9)) (.inr rfl)) (eov (beqv (bcall (t3 := [some (eS word)]) (eov (b_pu (a2 rfl rfl (t_lo (slG_S h10))) (.inr rfl)) eo0) rfl (ok_mark_of j  t3 r1 h11) rfl) ((cvOQ (f := Q.int) (fun _ => rfl)) r1)) eo0)) rfl rfl)) rfl
theorem le_move_of {L : Nat} (hL : 2 ≤ L)  (word : Str) (r : Q) (h : f_move_of word = some r) : callN (tabOf ds) fu (L) ("move_of", none) [(false, eS word)] = some (.ok (eQ (r)) [none]) := by
  obtain ⟨j, rfl⟩ := Nat.exists_eq_add_of_le' hL
  exact ok_move_of j  word r h
theorem ok_read_plan (j : Nat)  (text : Str) (r : List (Q)) (h : f_read_plan text = some r) : callN (tabOf ds) fu (j + 3) ("read_plan", none) [(false, eS text)] = some (.ok ((eL true eQ) (r)) [none]) := by
  refine k_def (df := d_read_plan) rfl rfl (by rfl) (t0 := [some (eS text), none, none, none, none]) rfl ?_
  unfold f_read_plan at h
  obtain ⟨c, h1, h⟩ := bd h
  by_cases h2 : c = true
  · rw [if_pos h2] at h
    refine k_ifT (x := c) (t1 := [some (eS text), none, none, none, none]) (b_pu (a2 rfl rfl (g_eq h1)) (.inr rfl)) h2 ?_
    have e := Option.some.inj h; subst e
    exact k_rt (sret (b_pu rfl (.inr rfl))) rfl
  · rw [if_neg h2] at h
    refine k_ifF (x := c) (t1 := [some (eS text), none, none, none, none]) (b_pu (a2 rfl rfl (g_eq h1)) (.inr rfl)) (Bool.eq_false_iff.mpr h2) ?_
    obtain ⟨plan, h3, h⟩ := bd h
    refine k_nx (t' := [some (eS text), some ((eL true eQ) plan), none, none, none]) (sset (blift (e := (eL true eQ)) h3 (b_pu rfl (.inr rfl))) rfl rfl) ?_
    obtain ⟨l, h4, h⟩ := bd h
    obtain ⟨w, h8, h⟩ := bd h
    refine k_forC (w := w) (e := (eT2 eI eS)) (qr := fun (v : List (Q)) z => fin [(false, eS text)] z = .ok ((eL true eQ) (v)) [none]) (fun (s : List (Q)) => [some (eS text), some ((eL true eQ) s), none, none, none]) h8 (eov (bqm (b_pu rfl (.inl (fzS _))) rfl (eov (b_pu rfl (.inl (fzS _))) (eov (b_pu rfl (.inr rfl)) eo0)) rfl (t_split h4)) eo0) rfl (w_en (o := true) (e := eS) (xs := l) fzS) (fun _ => rfl) ?_ ?_ ?_
    · intro s x s1 h
      refine ⟨_, rfl, ?_⟩
      obtain ⟨r, h5, h⟩ := bd h
      refine k_nx (t' := [some (eS text), some ((eL true eQ) s), some (eI x.1), some (eS x.2), some (eQ r)]) (sset (bcall (t3 := [some (eS text), some ((eL true eQ) s), some (eI x.1), some (eS x.2), none]) (eov (b_pu rfl (.inl (fzS _))) eo0) rfl (ok_move_of j  x.2 r h5) rfl) rfl rfl) ?_
      by_cases h6 : (isNonQ r) = true
      · rw [if_pos h6] at h
        refine k_ifT (x := (isNonQ r)) (t1 := [some (eS text), some ((eL true eQ) s), some (eI x.1), some (eS x.2), some (eQ r)]) (b_pu (a2 rfl rfl (g_isQ r)) (.inr rfl)) h6 ?_
        cases h
      · rw [if_neg h6] at h
        refine k_ifF (x := (isNonQ r)) (t1 := [some (eS text), some ((eL true eQ) s), some (eI x.1), some (eS x.2), some (eQ r)]) (b_pu (a2 rfl rfl (g_isQ r)) (.inr rfl)) (Bool.eq_false_iff.mpr h6) ?_
        obtain ⟨plan1, h7, h⟩ := bd h
        refine k_nx (t' := [some (eS text), some ((eL true eQ) plan1), some (eI x.1), some (eS x.2), some (eQ r)]) (sex (bmut (eov (b_pu rfl (.inl (fzQ _))) eo0) ⟨_, rfl, rfl⟩ rfl rfl (m_app (e := eQ) (xs := s) (x := r) h7))) ?_
        refine k_fg (t' := [some (eS text), some ((eL true eQ) plan1), none, none, none]) rfl ?_
        have e := Option.some.inj h; subst e
        exact k_nil rfl
    rotate_left
    · intro v e z hn hz
      subst e
      have e := Option.some.inj h; subst e
      exact hz
    intro plan2 e
    subst e
    dsimp only at h
    have e := Option.some.inj h; subst e
    exact k_rt (sret (bmv rfl)) rfl
theorem le_read_plan {L : Nat} (hL : 3 ≤ L)  (text : Str) (r : List (Q)) (h : f_read_plan text = some r) : callN (tabOf ds) fu (L) ("read_plan", none) [(false, eS text)] = some (.ok ((eL true eQ) (r)) [none]) := by
  obtain ⟨j, rfl⟩ := Nat.exists_eq_add_of_le' hL
  exact ok_read_plan j  text r h
theorem ok_draw (j : Nat) (l0 : Bool) (state : (List Int × Int × Int)) (many : Int) (r : (Int × ((List Int × Int × Int)))) (h : f_draw state many = some r) : callN (tabOf ds) fu (j + 1) ("_law_draw", none) [(l0, (eF3 eScr eI eI) state), (false, eI many)] = some (.ok (eI (r.1)) [if l0 = true then some ((eF3 eScr eI eI) (r.2)) else none, none]) := by
  refine k_def (df := d__law_draw) rfl rfl (by cases l0 <;> rfl) (t0 := [some (.lst true [eScr state.1, eI state.2.1, eI state.2.2]), some (eI many), none, none, none, none, none, none]) rfl ?_
  unfold f_draw at h
  refine k_nx (t' := [some (.lst true [eScr state.1, eI state.2.1, eI state.2.2]), some (eI many), some (eScr state.1), some (eI state.2.1), some (eI state.2.2), none, none, none]) (sunp rfl (is1 (fzScr _) (is1 (fzI _) (is1 (fzI _) rfl))) rfl) ?_
  obtain ⟨w, h22, h⟩ := bd h
  refine k_ifC (x := (decide (state.2.2 = 0))) (w := w) (t1 := [some (.lst true [eScr state.1, eI state.2.1, eI state.2.2]), some (eI many), some (eScr state.1), some (eI state.2.1), some (eI state.2.2), none, none, none]) (E := fun s => [some (.lst true [eScr s.1.1, eI s.1.2.1, eI s.1.2.2]), some (eI many), some (eScr state.1), some (eI state.2.1), some (eI s.2), none, none, none]) (qr := fun (v : (Int × ((List Int × Int × Int)))) z => fin [(l0, (eF3 eScr eI eI) state), (false, eI many)] z = .ok (eI (v.1)) [if l0 = true then some ((eF3 eScr eI eI) (v.2)) else none, none]) (b_pu (a2 rfl rfl (g_eqI _ _)) (.inr rfl)) (fun h1 => ?_) (fun h1 => ?_) ?_ ?_
  · rw [if_pos h1] at h22
    have h := h22
    obtain ⟨z, h2, h⟩ := bd h
    refine k_nx (t' := [some (.lst true [eScr state.1, eI z, eI state.2.2]), some (eI many), some (eScr state.1), some (eI state.2.1), some (eI state.2.2), none, none, none]) (sput (blift (e := eI) h2 (b_pu rfl (.inr rfl))) (eor rfl (eov (b_pu rfl (.inr rfl)) eo0)) rfl rfl rfl rfl) ?_
    obtain ⟨i, h3, h⟩ := bd h
    obtain ⟨cell, h4, h⟩ := bd h
    refine k_nx (t' := [some (.lst true [eScr state.1, eI z, eI state.2.2]), some (eI many), some (eScr state.1), some (eI state.2.1), some (eI state.2.2), some (eI cell), none, none]) (sset (blift (e := eI) h4 (b_pu (a2 (a2 rfl rfl (g_mul h3)) rfl rfl) (.inr rfl))) rfl rfl) ?_
    obtain ⟨cell1, h8, h⟩ := bd h
    refine k_if (x := (decide (0 < (state.1.length : Int)))) (t1 := [some (.lst true [eScr state.1, eI z, eI state.2.2]), some (eI many), some (eScr state.1), some (eI state.2.1), some (eI state.2.2), some (eI cell), none, none]) (t2 := [some (.lst true [eScr state.1, eI z, eI state.2.2]), some (eI many), some (eScr state.1), some (eI state.2.1), some (eI state.2.2), some (eI cell1), none, none]) (b_pu rfl (.inr rfl)) (fun h5 => ?_) (fun h5 => ?_) ?_
    · rw [if_pos h5] at h8
      have h := h8
      obtain ⟨i1, h6, h⟩ := bd h
      obtain ⟨x, h7, h⟩ := bd h
      refine k_nx (t' := [some (.lst true [eScr state.1, eI z, eI state.2.2]), some (eI many), some (eScr state.1), some (eI state.2.1), some (eI state.2.2), some (eI x), none, none]) (sset (b_pu (a2 rfl (a2 rfl rfl (g_mod h6)) (i_Scr h7)) (.inr rfl)) rfl rfl) ?_
      have e := Option.some.inj h; subst e
      exact k_nil rfl
    · rw [if_neg (nt h5)] at h8
      have h := h8
      have e := Option.some.inj h; subst e
      exact k_nil rfl
    obtain ⟨rest, h9, h⟩ := bd h
    refine k_nx (t' := [some (.lst true [eScr state.1, eI z, eI state.2.2]), some (eI many), some (eScr state.1), some (eI state.2.1), some (eI rest), some (eI cell1), none, none]) (sset (blift (e := eI) h9 (b_pu rfl (.inr rfl))) rfl rfl) ?_
    obtain ⟨c, h11, h⟩ := bd h
    by_cases h12 : c = true
    · rw [if_pos h12] at h
      refine k_ifT (x := c) (t1 := [some (.lst true [eScr state.1, eI z, eI state.2.2]), some (eI many), some (eScr state.1), some (eI state.2.1), some (eI rest), some (eI cell1), none, none]) (b_pu (aor (orp rfl (fun y h => by obtain ⟨i2, h10, h⟩ := bd h; have e := Option.some.inj h; subst e; exact or1 (a2 rfl (a2 rfl rfl (g_pow h10)) rfl)) h11)) (.inr rfl)) h12 ?_
      obtain ⟨i3, h13, h⟩ := bd h
      obtain ⟨i4, h14, h⟩ := bd h
      obtain ⟨i5, h15, h⟩ := bd h
      obtain ⟨i6, h16, h⟩ := bd h
      refine k_nx (t' := [some (.lst true [eScr state.1, eI z, eI state.2.2]), some (eI many), some (eScr state.1), some (eI state.2.1), some (eI rest), some (eI cell1), none, some (eI i6)]) (sset (b_pu (a2 (a2 (a2 (a2 (a2 rfl rfl (g_mod h13)) rfl (g_mul h14)) (a2 rfl rfl (g_mul h15)) rfl) rfl rfl) rfl (g_mod h16)) (.inr rfl)) rfl rfl) ?_
      obtain ⟨i7, h17, h⟩ := bd h
      obtain ⟨i8, h18, h⟩ := bd h
      refine k_nx (t' := [some (.lst true [eScr state.1, eI z, eI state.2.2]), some (eI many), some (eScr state.1), some (eI state.2.1), some (eI rest), some (eI cell1), none, some (eI i8)]) (sset (b_pu (a2 (a2 rfl rfl (g_mul h17)) rfl (g_mod h18)) (.inr rfl)) rfl rfl) ?_
      obtain ⟨i9, h19, h⟩ := bd h
      obtain ⟨i10, h20, h⟩ := bd h
      obtain ⟨i11, h21, h⟩ := bd h
      have e := Option.some.inj h; subst e
      exact k_rt (sret (b_pu (a2 (a2 (a2 rfl rfl (g_mul h19)) rfl (g_mod h20)) rfl (g_mod h21)) (.inr rfl))) ⟨fun _ e => (by cases e), rfl⟩
    · rw [if_neg h12] at h
      refine k_ifF (x := c) (t1 := [some (.lst true [eScr state.1, eI z, eI state.2.2]), some (eI many), some (eScr state.1), some (eI state.2.1), some (eI rest), some (eI cell1), none, none]) (b_pu (aor (orp rfl (fun y h => by obtain ⟨i2, h10, h⟩ := bd h; have e := Option.some.inj h; subst e; exact or1 (a2 rfl (a2 rfl rfl (g_pow h10)) rfl)) h11)) (.inr rfl)) (Bool.eq_false_iff.mpr h12) ?_
      refine k_fg (t' := [some (.lst true [eScr state.1, eI z, eI state.2.2]), some (eI many), some (eScr state.1), some (eI state.2.1), some (eI rest), none, none, none]) rfl ?_
      have e := Option.some.inj h; subst e
      exact k_nil rfl
  · rw [if_neg (nt h1)] at h22
    have h := h22
    have e := Option.some.inj h; subst e
    exact k_nil rfl
  rotate_left
  · intro v e z hn hz
    subst e
    have e := Option.some.inj h; subst e
    exact hz
  intro s e
  subst e
  dsimp only at h
  obtain ⟨d, h23, h⟩ := bd h
  refine k_nx (t' := [some (.lst true [eScr s.1.1, eI s.1.2.1, eI d.1]), some (eI many), some (eScr state.1), some (eI state.2.1), some (eI s.2), none, some (eI d.2), none]) (stx (b_pu (a2 rfl rfl (t_divmod h23)) (.inr rfl)) rfl) ?_
  have e := Option.some.inj h; subst e
  exact k_rt (sret (b_pu rfl (.inl (fzI _)))) rfl
theorem le_draw {L : Nat} (hL : 1 ≤ L) (l0 : Bool) (state : (List Int × Int × Int)) (many : Int) (r : (Int × ((List Int × Int × Int)))) (h : f_draw state many = some r) : callN (tabOf ds) fu (L) ("_law_draw", none) [(l0, (eF3 eScr eI eI) state), (false, eI many)] = some (.ok (eI (r.1)) [if l0 = true then some ((eF3 eScr eI eI) (r.2)) else none, none]) := by
  obtain ⟨j, rfl⟩ := Nat.exists_eq_add_of_le' hL
  exact ok_draw j l0 state many r h
theorem ok_cap (j : Nat)  (s : Int) (is_alone : Bool) (r : Int) (h : f_cap s is_alone = some r) : callN (tabOf ds) fu (j + 1) ("_law_cap", none) [(false, eI s), (false, eB is_alone)] = some (.ok (eI (r)) [none, none]) := by
  refine k_def (df := d__law_cap) rfl rfl (by rfl) (t0 := [some (eI s), some (eB is_alone)]) rfl ?_
  unfold f_cap at h
  by_cases h1 : (decide (s = 0)) = true
  · rw [if_pos h1] at h
    refine k_ifT (x := (decide (s = 0))) (t1 := [some (eI s), some (eB is_alone)]) (b_pu (a2 rfl rfl (g_eqI _ _)) (.inr rfl)) h1 ?_
    have e := Option.some.inj h; subst e
    exact k_rt (sret (b_pu rfl (.inr rfl))) rfl
  · rw [if_neg h1] at h
    refine k_ifF (x := (decide (s = 0))) (t1 := [some (eI s), some (eB is_alone)]) (b_pu (a2 rfl rfl (g_eqI _ _)) (.inr rfl)) (Bool.eq_false_iff.mpr h1) ?_
    obtain ⟨i, h2, h⟩ := bd h
    obtain ⟨i1, h3, h⟩ := bd h
    obtain ⟨x, h4, h⟩ := bd h
    have e := Option.some.inj h; subst e
    exact k_rt (sret (b_pu (aix (alst (as1 (a2 (a2 rfl rfl (g_shl h2)) rfl rfl) (as1 (a2 rfl rfl (g_shl h3)) as0)) (is1 (fzI _) (is1 (fzI _) rfl)) rfl) rfl (i_L (o := true) (e := eI) (xs := [(i - 1), i1]) h4)) (.inl (fzI _)))) rfl
theorem le_cap {L : Nat} (hL : 1 ≤ L)  (s : Int) (is_alone : Bool) (r : Int) (h : f_cap s is_alone = some r) : callN (tabOf ds) fu (L) ("_law_cap", none) [(false, eI s), (false, eB is_alone)] = some (.ok (eI (r)) [none, none]) := by
  obtain ⟨j, rfl⟩ := Nat.exists_eq_add_of_le' hL
  exact ok_cap j  s is_alone r h
theorem ok_turned (j : Nat) (l0 : Bool) (o0 : Bool) (plan_here : List (Q)) (r : List (Q)) (h : f_turned plan_here = some r) : callN (tabOf ds) fu (j + 1) ("_law_turned", none) [(l0, (eL o0 eQ) plan_here)] = some (.ok ((eL true eQ) (r)) [if l0 = true then some ((eL o0 eQ) plan_here) else none]) := by
  refine k_def (df := d__law_turned) rfl rfl (by cases l0 <;> rfl) (t0 := [some ((eL o0 eQ) plan_here), none, none]) rfl ?_
  unfold f_turned at h
  obtain ⟨found, h1, h⟩ := bd h
  refine k_nx (t' := [some ((eL o0 eQ) plan_here), some ((eL true eQ) found), none]) (sset (blift (e := (eL true eQ)) h1 (b_pu rfl (.inr rfl))) rfl rfl) ?_
  obtain ⟨found4, h12, h⟩ := bd h
  refine k_for (e := eQ) (fun (s : List (Q)) => [some ((eL o0 eQ) plan_here), some ((eL true eQ) s), none]) h12 (eov (b_pu (a1 rfl (t_rev (o := o0) (e := eQ) (xs := plan_here) fzQ)) (.inr rfl)) eo0) rfl (w_L (o := true) (e := eQ) (xs := plan_here.reverse) fzQ) (fun _ => rfl) ?_ ?_
  · intro s x s1 h
    refine ⟨_, rfl, ?_⟩
    obtain ⟨x1, h2, h⟩ := bd h
    obtain ⟨c, h3, h⟩ := bd h
    obtain ⟨found3, h11, h⟩ := bd h
    refine k_if (x := c) (t1 := [some ((eL o0 eQ) plan_here), some ((eL true eQ) s), some (eQ x)]) (t2 := [some ((eL o0 eQ) plan_here), some ((eL true eQ) found3), some (eQ x)]) (b_pu (a2 (aix rfl rfl (i_Q h2)) rfl (g_eq h3)) (.inr rfl)) (fun h4 => ?_) (fun h4 => ?_) ?_
    · rw [if_pos h4] at h11
      have h := h11
      obtain ⟨found1, h5, h⟩ := bd h
      refine k_nx (t' := [some ((eL o0 eQ) plan_here), some ((eL true eQ) found1), some (eQ x)]) (sex (bmut (eov (b_pu rfl (.inl (fzQ _))) eo0) ⟨_, rfl, rfl⟩ rfl rfl (m_app (e := eQ) (xs := s) (x := x) h5))) ?_
      have e := Option.some.inj h; subst e
      exact k_nil rfl
    · rw [if_neg (nt h4)] at h11
      have h := h11
      obtain ⟨x2, h6, h⟩ := bd h
      obtain ⟨c1, h7, h⟩ := bd h
      obtain ⟨x3, h8, h⟩ := bd h
      obtain ⟨x4, h9, h⟩ := bd h
      obtain ⟨found2, h10, h⟩ := bd h
      refine k_nx (t' := [some ((eL o0 eQ) plan_here), some ((eL true eQ) found2), some (eQ x)]) (sex (bmut (eov (b_pu (atup (as1 (aix rfl (a1 (a2 (aix rfl rfl (i_Q h6)) rfl (g_eq h7)) rfl) (i_L (o := true) (e := eS) (xs := [("lay" : Str), ("clear" : Str)]) h8)) (as1 (aix rfl rfl (i_Q h9)) as0)) (is1 (fzS _) (is1 (fzQ x4) rfl)) rfl) (.inr rfl)) eo0) ⟨_, rfl, rfl⟩ rfl rfl (m_app (e := eQ) (xs := s) (x := (Q.tup [(Q.str x3), x4])) h10))) ?_
      have e := Option.some.inj h; subst e
      exact k_nil rfl
    refine k_fg (t' := [some ((eL o0 eQ) plan_here), some ((eL true eQ) found3), none]) rfl ?_
    have e := Option.some.inj h; subst e
    exact k_nil rfl
  have e := Option.some.inj h; subst e
  exact k_rt (sret (bmv rfl)) rfl
theorem le_turned {L : Nat} (hL : 1 ≤ L) (l0 : Bool) (o0 : Bool) (plan_here : List (Q)) (r : List (Q)) (h : f_turned plan_here = some r) : callN (tabOf ds) fu (L) ("_law_turned", none) [(l0, (eL o0 eQ) plan_here)] = some (.ok ((eL true eQ) (r)) [if l0 = true then some ((eL o0 eQ) plan_here) else none]) := by
  obtain ⟨j, rfl⟩ := Nat.exists_eq_add_of_le' hL
  exact ok_turned j l0 o0 plan_here r h
theorem rec_way (j : Nat) : ∀ n_ : Nat, (∀ (l0 : Bool) (state : (List Int × Int × Int)) (first : Int) (last : Int) (s : Int) (is_alone : Bool) (r : (List (Q) × ((List Int × Int × Int)))), f_way n_ state first last s is_alone = some r → callN (tabOf ds) fu (j + 1 + n_) ("_law_way", none) [(l0, (eF3 eScr eI eI) state), (false, eI first), (false, eI last), (false, eI s), (false, eB is_alone)] = some (.ok ((eL true eQ) (r.1)) [if l0 = true then some ((eF3 eScr eI eI) (r.2)) else none, none, none, none, none]))
  | 0 => by
    refine ?_ <;> (intros; rename_i h; first | (rw [f_way] at h; cases h))
  | n_ + 1 => by
    have ih := rec_way j n_
    have ih_way := ih
    · intro l0 state first last s is_alone r h
      refine k_def (k := j + 1 + n_) (df := d__law_way) rfl rfl (by cases l0 <;> rfl) (t0 := [some (.lst true [eScr state.1, eI state.2.1, eI state.2.2]), some (eI first), some (eI last), some (eI s), some (eB is_alone), none, none, none]) rfl ?_
      rw [f_way] at h
      by_cases h1 : (decide ((last - first) = 1)) = true
      · rw [if_pos h1] at h
        refine k_ifT (x := (decide ((last - first) = 1))) (t1 := [some (.lst true [eScr state.1, eI state.2.1, eI state.2.2]), some (eI first), some (eI last), some (eI s), some (eB is_alone), none, none, none]) (b_pu (a2 rfl rfl (g_eqI _ _)) (.inr rfl)) h1 ?_
        have e := Option.some.inj h; subst e
        exact k_rt (sret (b_pu rfl (.inr rfl))) rfl
      · rw [if_neg h1] at h
        refine k_ifF (x := (decide ((last - first) = 1))) (t1 := [some (.lst true [eScr state.1, eI state.2.1, eI state.2.2]), some (eI first), some (eI last), some (eI s), some (eB is_alone), none, none, none]) (b_pu (a2 rfl rfl (g_eqI _ _)) (.inr rfl)) (Bool.eq_false_iff.mpr h1) ?_
        obtain ⟨fits, h2, h⟩ := bd h
        refine k_nx (t' := [some (.lst true [eScr state.1, eI state.2.1, eI state.2.2]), some (eI first), some (eI last), some (eI s), some (eB is_alone), some ((eL true eI) fits), none, none]) (sset (blift (e := (eL true eI)) h2 (b_pu rfl (.inr rfl))) rfl rfl) ?_
        obtain ⟨i, h3, h⟩ := bd h
        obtain ⟨r, h4, h⟩ := bd h
        obtain ⟨fits3, h11, h⟩ := bd h
        refine k_for (e := eI) (fun (s1 : List (Int)) => [some (.lst true [eScr state.1, eI state.2.1, eI state.2.2]), some (eI first), some (eI last), some (eI s), some (eB is_alone), some ((eL true eI) s1), none, none]) h11 (eov (b_pu rfl (.inr rfl)) (eov (b_pu (a2 rfl (a2 rfl rfl (g_div h3)) rfl) (.inr rfl)) eo0)) rfl (w_rng2 h4) (fun _ => rfl) ?_ ?_
        · intro s1 x s2 h
          refine ⟨_, rfl, ?_⟩
          obtain ⟨r1, h5, h⟩ := bd h
          obtain ⟨c, h7, h⟩ := bd h
          obtain ⟨fits2, h10, h⟩ := bd h
          refine k_if (x := c) (t1 := [some (.lst true [eScr state.1, eI state.2.1, eI state.2.2]), some (eI first), some (eI last), some (eI s), some (eB is_alone), some ((eL true eI) s1), some (eI x), none]) (t2 := [some (.lst true [eScr state.1, eI state.2.1, eI state.2.2]), some (eI first), some (eI last), some (eI s), some (eB is_alone), some ((eL true eI) fits2), some (eI x), none]) (band (band2 (bq (eov (b_pu rfl (.inr rfl)) (eov (bcall (t3 := [some (.lst true [eScr state.1, eI state.2.1, eI state.2.2]), some (eI first), some (eI last), some (eI s), some (eB is_alone), some ((eL true eI) s1), some (eI x), none]) (eov (b_pu rfl (.inr rfl)) (eov (b_pu rfl (.inr rfl)) eo0)) rfl (le_cap (by omega)  (s - (boI is_alone)) true r1 h5) rfl) eo0)) rfl rfl) (fun y h => by obtain ⟨r2, h6, h⟩ := bd h; have e := Option.some.inj h; subst e; exact band1 (bq (eov (b_pu rfl (.inr rfl)) (eov (bcall (t3 := [some (.lst true [eScr state.1, eI state.2.1, eI state.2.2]), some (eI first), some (eI last), some (eI s), some (eB is_alone), some ((eL true eI) s1), some (eI x), none]) (eov (b_pu rfl (.inr rfl)) (eov (b_pu rfl (.inl (fzB _))) eo0)) rfl (le_cap (by omega)  (s - 1) is_alone r2 h6) rfl) eo0)) rfl rfl)) h7)) (fun h8 => ?_) (fun h8 => ?_) ?_
          · rw [if_pos h8] at h10
            have h := h10
            obtain ⟨fits1, h9, h⟩ := bd h
            refine k_nx (t' := [some (.lst true [eScr state.1, eI state.2.1, eI state.2.2]), some (eI first), some (eI last), some (eI s), some (eB is_alone), some ((eL true eI) fits1), some (eI x), none]) (sex (bmut (eov (b_pu rfl (.inl (fzI _))) eo0) ⟨_, rfl, rfl⟩ rfl rfl (m_app (e := eI) (xs := s1) (x := x) h9))) ?_
            have e := Option.some.inj h; subst e
            exact k_nil rfl
          · rw [if_neg (nt h8)] at h10
            have h := h10
            have e := Option.some.inj h; subst e
            exact k_nil rfl
          refine k_fg (t' := [some (.lst true [eScr state.1, eI state.2.1, eI state.2.2]), some (eI first), some (eI last), some (eI s), some (eB is_alone), some ((eL true eI) fits2), none, none]) rfl ?_
          have e := Option.some.inj h; subst e
          exact k_nil rfl
        obtain ⟨⟨r3, state1⟩, h12, h⟩ := bd h
        dsimp only at h
        obtain ⟨x1, h13, h⟩ := bd h
        refine k_nx (t' := [some (.lst true [eScr state1.1, eI state1.2.1, eI state1.2.2]), some (eI first), some (eI last), some (eI s), some (eB is_alone), some ((eL true eI) fits3), some (eI x1), none]) (sset (bq (eor rfl (eov (bcall (t3 := [some (.lst true [eScr state1.1, eI state1.2.1, eI state1.2.2]), some (eI first), some (eI last), some (eI s), some (eB is_alone), some ((eL true eI) fits3), none, none]) (eor rfl (eov (b_pu (a1 rfl (l_L (o := true) (e := eI) (xs := fits3))) (.inr rfl)) eo0)) rfl (le_draw (by omega) true state (fits3.length : Int) (r3, state1) h12) rfl) eo0)) rfl (j_L (o := true) (e := eI) (xs := fits3) fzI h13)) rfl rfl) ?_
        obtain ⟨⟨r4, state2⟩, h14, h⟩ := bd h
        dsimp only at h
        obtain ⟨⟨r5, state3⟩, h15, h⟩ := bd h
        dsimp only at h
        obtain ⟨l, h16, h⟩ := bd h
        refine k_nx (t' := [some (.lst true [eScr state3.1, eI state3.2.1, eI state3.2.2]), some (eI first), some (eI last), some (eI s), some (eB is_alone), some ((eL true eI) fits3), some (eI x1), some ((eL true eQ) l)]) (sset (bq (eov (bcall (t3 := [some (.lst true [eScr state2.1, eI state2.2.1, eI state2.2.2]), some (eI first), some (eI last), some (eI s), some (eB is_alone), some ((eL true eI) fits3), some (eI x1), none]) (eor rfl (eov (b_pu rfl (.inl (fzI _))) (eov (b_pu rfl (.inl (fzI _))) (eov (b_pu rfl (.inl (fzI _))) (eov (b_pu rfl (.inr rfl)) eo0))))) rfl (ih_way true state1 first x1 s true (r4, state2) h14) rfl) (eov (bcall (t3 := [some (.lst true [eScr state3.1, eI state3.2.1, eI state3.2.2]), some (eI first), some (eI last), some (eI s), some (eB is_alone), some ((eL true eI) fits3), some (eI x1), none]) (eor rfl (eov (b_pu rfl (.inl (fzI _))) (eov (b_pu rfl (.inl (fzI _))) (eov (b_pu rfl (.inr rfl)) (eov (b_pu rfl (.inl (fzB _))) eo0))))) rfl (ih_way true state2 x1 last (s - 1) is_alone (r5, state3) h15) rfl) eo0)) rfl (g_cat (o := true) (o' := true) (e := eQ) (xs := r4) (ys := r5) fzQ h16)) rfl rfl) ?_
        obtain ⟨s3, h21, h⟩ := bd h
        refine k_if (x := is_alone) (t1 := [some (.lst true [eScr state3.1, eI state3.2.1, eI state3.2.2]), some (eI first), some (eI last), some (eI s), some (eB is_alone), some ((eL true eI) fits3), some (eI x1), some ((eL true eQ) l)]) (t2 := [some (.lst true [eScr s3.1.1, eI s3.1.2.1, eI s3.1.2.2]), some (eI first), some (eI last), some (eI s), some (eB is_alone), some ((eL true eI) fits3), some (eI x1), some ((eL true eQ) s3.2)]) (b_pu rfl (.inl (fzB _))) (fun h17 => ?_) (fun h17 => ?_) ?_
        · rw [if_pos h17] at h21
          have h := h21
          obtain ⟨⟨r6, state4⟩, h18, h⟩ := bd h
          dsimp only at h
          obtain ⟨r7, h19, h⟩ := bd h
          obtain ⟨l1, h20, h⟩ := bd h
          refine k_nx (t' := [some (.lst true [eScr state4.1, eI state4.2.1, eI state4.2.2]), some (eI first), some (eI last), some (eI s), some (eB is_alone), some ((eL true eI) fits3), some (eI x1), some ((eL true eQ) l1)]) (sset (bq (eor rfl (eov (bcall (t3 := [some (.lst true [eScr state4.1, eI state4.2.1, eI state4.2.2]), some (eI first), some (eI last), some (eI s), some (eB is_alone), some ((eL true eI) fits3), some (eI x1), some ((eL true eQ) l)]) (eov (bcall (t3 := [some (.lst true [eScr state4.1, eI state4.2.1, eI state4.2.2]), some (eI first), some (eI last), some (eI s), some (eB is_alone), some ((eL true eI) fits3), some (eI x1), some ((eL true eQ) l)]) (eor rfl (eov (b_pu rfl (.inl (fzI _))) (eov (b_pu rfl (.inl (fzI _))) (eov (b_pu rfl (.inr rfl)) (eov (b_pu rfl (.inr rfl)) eo0))))) rfl (ih_way true state3 first x1 (s - 1) true (r6, state4) h18) rfl) eo0) rfl (le_turned (by omega) false true r6 r7 h19) rfl) eo0)) rfl (g_cat (o := true) (o' := true) (e := eQ) (xs := l) (ys := r7) fzQ h20)) rfl rfl) ?_
          have e := Option.some.inj h; subst e
          exact k_nil rfl
        · rw [if_neg (nt h17)] at h21
          have h := h21
          have e := Option.some.inj h; subst e
          exact k_nil rfl
        have e := Option.some.inj h; subst e
        exact k_rt (sret (bmv rfl)) rfl
theorem ok_way (j : Nat) (l0 : Bool) (state : (List Int × Int × Int)) (first : Int) (last : Int) (s : Int) (is_alone : Bool) (r : (List (Q) × ((List Int × Int × Int)))) (h : f_way 25 state first last s is_alone = some r) : callN (tabOf ds) fu (j + 26) ("_law_way", none) [(l0, (eF3 eScr eI eI) state), (false, eI first), (false, eI last), (false, eI s), (false, eB is_alone)] = some (.ok ((eL true eQ) (r.1)) [if l0 = true then some ((eF3 eScr eI eI) (r.2)) else none, none, none, none, none]) := by
  have z := (rec_way j 25)
  exact z l0 state first last s is_alone r h
theorem le_way {L : Nat} (hL : 26 ≤ L) (l0 : Bool) (state : (List Int × Int × Int)) (first : Int) (last : Int) (s : Int) (is_alone : Bool) (r : (List (Q) × ((List Int × Int × Int)))) (h : f_way 25 state first last s is_alone = some r) : callN (tabOf ds) fu (L) ("_law_way", none) [(l0, (eF3 eScr eI eI) state), (false, eI first), (false, eI last), (false, eI s), (false, eB is_alone)] = some (.ok ((eL true eQ) (r.1)) [if l0 = true then some ((eF3 eScr eI eI) (r.2)) else none, none, none, none, none]) := by
  obtain ⟨j, rfl⟩ := Nat.exists_eq_add_of_le' hL
  exact ok_way j l0 state first last s is_alone r h

theorem ok_moves (j : Nat) (l0 : Bool) (o0 : Bool) (there : List (Int)) (n : Int) (s : Int) (r : List (Q)) (h : f_moves there n s = some r) : callN (tabOf ds) fu (j + 1) ("_law_moves", none) [(l0, (eL o0 eI) there), (false, eI n), (false, eI s)] = some (.ok ((eL true eQ) (r)) [if l0 = true then some ((eL o0 eI) there) else none, none, none]) := by
  refine k_def (df := d__law_moves) rfl rfl (by cases l0 <;> rfl) (t0 := [some ((eL o0 eI) there), some (eI n), some (eI s), none, none]) rfl ?_
  unfold f_moves at h
  obtain ⟨found, h1, h⟩ := bd h
  refine k_nx (t' := [some ((eL o0 eI) there), some (eI n), some (eI s), some ((eL true eQ) found), none]) (sset (blift (e := (eL true eQ)) h1 (b_pu rfl (.inr rfl))) rfl rfl) ?_
  obtain ⟨r, h2, h⟩ := bd h
  obtain ⟨found6, h11, h⟩ := bd h
  refine k_for (e := eI) (fun (s1 : List (Q)) => [some ((eL o0 eI) there), some (eI n), some (eI s), some ((eL true eQ) s1), none]) h11 (eov (b_pu rfl (.inr rfl)) (eov (b_pu rfl (.inr rfl)) eo0)) rfl (w_rng2 h2) (fun _ => rfl) ?_ ?_
  · intro s1 x s2 h
    refine ⟨_, rfl, ?_⟩
    obtain ⟨found5, h10, h⟩ := bd h
    refine k_if (x := ((decide (x = 1)) || (decide ((x - 1) ∈ there)))) (t1 := [some ((eL o0 eI) there), some (eI n), some (eI s), some ((eL true eQ) s1), some (eI x)]) (t2 := [some ((eL o0 eI) there), some (eI n), some (eI s), some ((eL true eQ) found5), some (eI x)]) (b_pu (aor (or2 (a2 rfl rfl (g_eqI _ _)) (or1 (a2 rfl rfl g_inI)))) (.inr rfl)) (fun h3 => ?_) (fun h3 => ?_) ?_
    · rw [if_pos h3] at h10
      have h := h10
      obtain ⟨found4, h9, h⟩ := bd h
      refine k_if (x := (decide (x ∈ there))) (t1 := [some ((eL o0 eI) there), some (eI n), some (eI s), some ((eL true eQ) s1), some (eI x)]) (t2 := [some ((eL o0 eI) there), some (eI n), some (eI s), some ((eL true eQ) found4), some (eI x)]) (b_pu (a2 rfl rfl g_inI) (.inr rfl)) (fun h4 => ?_) (fun h4 => ?_) ?_
      · rw [if_pos h4] at h9
        have h := h9
        obtain ⟨found1, h5, h⟩ := bd h
        refine k_nx (t' := [some ((eL o0 eI) there), some (eI n), some (eI s), some ((eL true eQ) found1), some (eI x)]) (sex (bmut (eov (b_pu rfl (.inr rfl)) eo0) ⟨_, rfl, rfl⟩ rfl rfl (m_app (e := eQ) (xs := s1) (x := (Q.tup [(Q.str ("clear" : Str)), (Q.int x)])) h5))) ?_
        have e := Option.some.inj h; subst e
        exact k_nil rfl
      · rw [if_neg (nt h4)] at h9
        have h := h9
        obtain ⟨found3, h8, h⟩ := bd h
        refine k_if (x := (decide ((there.length : Int) < s))) (t1 := [some ((eL o0 eI) there), some (eI n), some (eI s), some ((eL true eQ) s1), some (eI x)]) (t2 := [some ((eL o0 eI) there), some (eI n), some (eI s), some ((eL true eQ) found3), some (eI x)]) (b_pu (a2 (a1 rfl (l_L (o := o0) (e := eI) (xs := there))) rfl rfl) (.inr rfl)) (fun h6 => ?_) (fun h6 => ?_) ?_
        · rw [if_pos h6] at h8
          have h := h8
          obtain ⟨found2, h7, h⟩ := bd h
          refine k_nx (t' := [some ((eL o0 eI) there), some (eI n), some (eI s), some ((eL true eQ) found2), some (eI x)]) (sex (bmut (eov (b_pu rfl (.inr rfl)) eo0) ⟨_, rfl, rfl⟩ rfl rfl (m_app (e := eQ) (xs := s1) (x := (Q.tup [(Q.str ("lay" : Str)), (Q.int x)])) h7))) ?_
          have e := Option.some.inj h; subst e
          exact k_nil rfl
        · rw [if_neg (nt h6)] at h8
          have h := h8
          have e := Option.some.inj h; subst e
          exact k_nil rfl
        have e := Option.some.inj h; subst e
        exact k_nil rfl
      have e := Option.some.inj h; subst e
      exact k_nil rfl
    · rw [if_neg (nt h3)] at h10
      have h := h10
      have e := Option.some.inj h; subst e
      exact k_nil rfl
    refine k_fg (t' := [some ((eL o0 eI) there), some (eI n), some (eI s), some ((eL true eQ) found5), none]) rfl ?_
    have e := Option.some.inj h; subst e
    exact k_nil rfl
  have e := Option.some.inj h; subst e
  exact k_rt (sret (bmv rfl)) rfl
theorem le_moves {L : Nat} (hL : 1 ≤ L) (l0 : Bool) (o0 : Bool) (there : List (Int)) (n : Int) (s : Int) (r : List (Q)) (h : f_moves there n s = some r) : callN (tabOf ds) fu (L) ("_law_moves", none) [(l0, (eL o0 eI) there), (false, eI n), (false, eI s)] = some (.ok ((eL true eQ) (r)) [if l0 = true then some ((eL o0 eI) there) else none, none, none]) := by
  obtain ⟨j, rfl⟩ := Nat.exists_eq_add_of_le' hL
  exact ok_moves j l0 o0 there n s r h
theorem ok_behind (j : Nat) (l0 : Bool) (o0 : Bool) (there : List (Int)) (move : Q) (r : List (Int)) (h : f_behind there move = some r) : callN (tabOf ds) fu (j + 1) ("_law_behind", none) [(l0, (eL o0 eI) there), (false, eQ move)] = some (.ok ((eL true eI) (r)) [if l0 = true then some ((eL o0 eI) there) else none, none]) := by
  refine k_def (df := d__law_behind) rfl rfl (by cases l0 <;> rfl) (t0 := [some ((eL o0 eI) there), some (eQ move), none]) rfl ?_
  unfold f_behind at h
  obtain ⟨x, h1, h⟩ := bd h
  obtain ⟨c, h2, h⟩ := bd h
  by_cases h3 : c = true
  · rw [if_pos h3] at h
    refine k_ifT (x := c) (t1 := [some ((eL o0 eI) there), some (eQ move), none]) (b_pu (a2 (aix rfl rfl (i_Q h1)) rfl (g_eq h2)) (.inr rfl)) h3 ?_
    obtain ⟨x1, h4, h⟩ := bd h
    obtain ⟨i, h5, h⟩ := bd h
    obtain ⟨l, h6, h⟩ := bd h
    have e := Option.some.inj h; subst e
    exact k_rt (sret (b_pu (a1 (a2 rfl (alst (as1 (aeq (aix rfl rfl (i_Q h4)) (c_I h5)) as0) (is1 (fzI _) rfl) rfl) (g_cat (o := o0) (o' := true) (e := eI) (xs := there) (ys := [i]) fzI h6)) (t_sorted (o := true) (ns := l))) (.inr rfl))) rfl
  · rw [if_neg h3] at h
    refine k_ifF (x := c) (t1 := [some ((eL o0 eI) there), some (eQ move), none]) (b_pu (a2 (aix rfl rfl (i_Q h1)) rfl (g_eq h2)) (.inr rfl)) (Bool.eq_false_iff.mpr h3) ?_
    obtain ⟨l1, h9, h⟩ := bd h
    have e := Option.some.inj h; subst e
    exact k_rt (sret (blcG (own := [(("_law_k" : Str), 2)]) (e := eI) (e' := eI) h9 (eor rfl eo0) rfl rfl (w_L (o := o0) (e := eI) (xs := there) fzI) rfl (fun x2 o h => by obtain ⟨x3, h7, h⟩ := bd h; obtain ⟨c1, h8, h⟩ := bd h; by_cases h10 : (!c1) = true; (rw [if_pos h10] at h; have e := Option.some.inj h; subst e; exact ⟨_, one_t (t1 := [some ((eL o0 eI) there), some (eQ move), some (eI x2)]) rfl (beqv (b_pu (a2 rfl (aix rfl rfl (i_Q h7)) (g_ne h8)) (.inr rfl)) (congrArg D.bl h10)) (b_pu rfl (.inl (fzI _))), rfl⟩); (rw [if_neg h10] at h; have e := Option.some.inj h; subst e; exact ⟨_, one_f (t1 := [some ((eL o0 eI) there), some (eQ move), some (eI x2)]) rfl (beqv (b_pu (a2 rfl (aix rfl rfl (i_Q h7)) (g_ne h8)) (.inr rfl)) (congrArg D.bl (Bool.eq_false_iff.mpr h10))), rfl⟩)))) rfl
theorem le_behind {L : Nat} (hL : 1 ≤ L) (l0 : Bool) (o0 : Bool) (there : List (Int)) (move : Q) (r : List (Int)) (h : f_behind there move = some r) : callN (tabOf ds) fu (L) ("_law_behind", none) [(l0, (eL o0 eI) there), (false, eQ move)] = some (.ok ((eL true eI) (r)) [if l0 = true then some ((eL o0 eI) there) else none, none]) := by
  obtain ⟨j, rfl⟩ := Nat.exists_eq_add_of_le' hL
  exact ok_behind j l0 o0 there move r h
theorem ok_detoured (j : Nat) (l0 : Bool) (l1 : Bool) (o0 : Bool) (state : (List Int × Int × Int)) (way_here : List (Q)) (n : Int) (s : Int) (r : (List (Q) × ((List Int × Int × Int)))) (h : f_detoured state way_here n s = some r) : callN (tabOf ds) fu (j + 2) ("_law_detoured", none) [(l0, (eF3 eScr eI eI) state), (l1, (eL o0 eQ) way_here), (false, eI n), (false, eI s)] = some (.ok ((eL true eQ) (r.1)) [if l0 = true then some ((eF3 eScr eI eI) (r.2)) else none, if l1 = true then some ((eL o0 eQ) way_here) else none, none, none]) := by
  refine k_def (df := d__law_detoured) rfl rfl (by cases l0 <;> cases l1 <;> rfl) (t0 := [some (.lst true [eScr state.1, eI state.2.1, eI state.2.2]), some ((eL o0 eQ) way_here), some (eI n), some (eI s), none, none, none, none, none, none, none]) rfl ?_
  unfold f_detoured at h
  obtain ⟨found, h1, h⟩ := bd h
  refine k_nx (t' := [some (.lst true [eScr state.1, eI state.2.1, eI state.2.2]), some ((eL o0 eQ) way_here), some (eI n), some (eI s), some ((eL true eQ) found), none, none, none, none, none, none]) (sset (blift (e := (eL true eQ)) h1 (b_pu rfl (.inr rfl))) rfl rfl) ?_
  obtain ⟨there, h2, h⟩ := bd h
  refine k_nx (t' := [some (.lst true [eScr state.1, eI state.2.1, eI state.2.2]), some ((eL o0 eQ) way_here), some (eI n), some (eI s), some ((eL true eQ) found), some ((eL true eI) there), none, none, none, none, none]) (sset (blift (e := (eL true eI)) h2 (b_pu rfl (.inr rfl))) rfl rfl) ?_
  obtain ⟨s8, h24, h⟩ := bd h
  refine k_for (e := eQ) (fun (s1 : (((List Int × Int × Int)) × List (Q) × List (Int))) => [some (.lst true [eScr s1.1.1, eI s1.1.2.1, eI s1.1.2.2]), some ((eL o0 eQ) way_here), some (eI n), some (eI s), some ((eL true eQ) s1.2.1), some ((eL true eI) s1.2.2), none, none, none, none, none]) h24 (eor rfl eo0) rfl (w_L (o := o0) (e := eQ) (xs := way_here) fzQ) (fun _ => rfl) ?_ ?_
  · intro s1 x s9 h
    refine ⟨_, rfl, ?_⟩
    obtain ⟨⟨r, state1⟩, h3, h⟩ := bd h
    dsimp only at h
    obtain ⟨s7, h21, h⟩ := bd h
    refine k_if (x := (decide (r = 0))) (t1 := [some (.lst true [eScr state1.1, eI state1.2.1, eI state1.2.2]), some ((eL o0 eQ) way_here), some (eI n), some (eI s), some ((eL true eQ) s1.2.1), some ((eL true eI) s1.2.2), some (eQ x), none, none, none, none]) (t2 := [some (.lst true [eScr s7.1.1, eI s7.1.2.1, eI s7.1.2.2]), some ((eL o0 eQ) way_here), some (eI n), some (eI s), some ((eL true eQ) s7.2.1), some ((eL true eI) s7.2.2), some (eQ x), none, none, none, none]) (bq (eov (bcall (t3 := [some (.lst true [eScr state1.1, eI state1.2.1, eI state1.2.2]), some ((eL o0 eQ) way_here), some (eI n), some (eI s), some ((eL true eQ) s1.2.1), some ((eL true eI) s1.2.2), some (eQ x), none, none, none, none]) (eor rfl (eov (b_pu rfl (.inr rfl)) eo0)) rfl (ok_draw j true s1.1 4 (r, state1) h3) rfl) (eov (b_pu rfl (.inr rfl)) eo0)) rfl (g_eqI _ _)) (fun h4 => ?_) (fun h4 => ?_) ?_
    · rw [if_pos h4] at h21
      have h := h21
      obtain ⟨aside, h5, h⟩ := bd h
      refine k_nx (t' := [some (.lst true [eScr state1.1, eI state1.2.1, eI state1.2.2]), some ((eL o0 eQ) way_here), some (eI n), some (eI s), some ((eL true eQ) s1.2.1), some ((eL true eI) s1.2.2), some (eQ x), some ((eL true eQ) aside), none, none, none]) (sset (blift (e := (eL true eQ)) h5 (b_pu rfl (.inr rfl))) rfl rfl) ?_
      obtain ⟨⟨r1, state2⟩, h6, h⟩ := bd h
      dsimp only at h
      obtain ⟨r2, h7, h⟩ := bd h
      obtain ⟨s3, h14, h⟩ := bd h
      refine k_for (e := eI) (fun (s2 : (((List Int × Int × Int)) × List (Int) × List (Q))) => [some (.lst true [eScr s2.1.1, eI s2.1.2.1, eI s2.1.2.2]), some ((eL o0 eQ) way_here), some (eI n), some (eI s), some ((eL true eQ) s1.2.1), some ((eL true eI) s2.2.1), some (eQ x), some ((eL true eQ) s2.2.2), none, none, none]) h14 (eov (bq (eov (b_pu rfl (.inr rfl)) (eov (bcall (t3 := [some (.lst true [eScr state2.1, eI state2.2.1, eI state2.2.2]), some ((eL o0 eQ) way_here), some (eI n), some (eI s), some ((eL true eQ) s1.2.1), some ((eL true eI) s1.2.2), some (eQ x), some ((eL true eQ) aside), none, none, none]) (eor rfl (eov (b_pu rfl (.inr rfl)) eo0)) rfl (ok_draw j true state1 3 (r1, state2) h6) rfl) eo0)) rfl rfl) eo0) rfl (w_rng1 h7) (fun _ => rfl) ?_ ?_
      · intro s2 x1 s4 h
        refine ⟨_, rfl, ?_⟩
        obtain ⟨r3, h8, h⟩ := bd h
        refine k_nx (t' := [some (.lst true [eScr s2.1.1, eI s2.1.2.1, eI s2.1.2.2]), some ((eL o0 eQ) way_here), some (eI n), some (eI s), some ((eL true eQ) s1.2.1), some ((eL true eI) s2.2.1), some (eQ x), some ((eL true eQ) s2.2.2), some (eI x1), none, some ((eL true eQ) r3)]) (sset (bcall (t3 := [some (.lst true [eScr s2.1.1, eI s2.1.2.1, eI s2.1.2.2]), some ((eL o0 eQ) way_here), some (eI n), some (eI s), some ((eL true eQ) s1.2.1), some ((eL true eI) s2.2.1), some (eQ x), some ((eL true eQ) s2.2.2), some (eI x1), none, none]) (eor rfl (eov (b_pu rfl (.inl (fzI _))) (eov (b_pu rfl (.inl (fzI _))) eo0))) rfl (ok_moves j true true s2.2.1 n s r3 h8) rfl) rfl rfl) ?_
        obtain ⟨⟨r4, state3⟩, h9, h⟩ := bd h
        dsimp only at h
        obtain ⟨x2, h10, h⟩ := bd h
        obtain ⟨aside1, h11, h⟩ := bd h
        refine k_nx (t' := [some (.lst true [eScr state3.1, eI state3.2.1, eI state3.2.2]), some ((eL o0 eQ) way_here), some (eI n), some (eI s), some ((eL true eQ) s1.2.1), some ((eL true eI) s2.2.1), some (eQ x), some ((eL true eQ) aside1), some (eI x1), none, some ((eL true eQ) r3)]) (sex (bmut (eov (bq (eor rfl (eov (bcall (t3 := [some (.lst true [eScr state3.1, eI state3.2.1, eI state3.2.2]), some ((eL o0 eQ) way_here), some (eI n), some (eI s), some ((eL true eQ) s1.2.1), some ((eL true eI) s2.2.1), some (eQ x), some ((eL true eQ) s2.2.2), some (eI x1), none, some ((eL true eQ) r3)]) (eor rfl (eov (b_pu (a1 rfl (l_L (o := true) (e := eQ) (xs := r3))) (.inr rfl)) eo0)) rfl (ok_draw j true s2.1 (r3.length : Int) (r4, state3) h9) rfl) eo0)) rfl (j_L (o := true) (e := eQ) (xs := r3) fzQ h10)) eo0) ⟨_, rfl, rfl⟩ rfl rfl (m_app (e := eQ) (xs := s2.2.2) (x := x2) h11))) ?_
        obtain ⟨x3, h12, h⟩ := bd h
        obtain ⟨r5, h13, h⟩ := bd h
        refine k_nx (t' := [some (.lst true [eScr state3.1, eI state3.2.1, eI state3.2.2]), some ((eL o0 eQ) way_here), some (eI n), some (eI s), some ((eL true eQ) s1.2.1), some ((eL true eI) r5), some (eQ x), some ((eL true eQ) aside1), some (eI x1), none, some ((eL true eQ) r3)]) (sset (bcall (t3 := [some (.lst true [eScr state3.1, eI state3.2.1, eI state3.2.2]), some ((eL o0 eQ) way_here), some (eI n), some (eI s), some ((eL true eQ) s1.2.1), some ((eL true eI) s2.2.1), some (eQ x), some ((eL true eQ) aside1), some (eI x1), none, some ((eL true eQ) r3)]) (eor rfl (eov (b_pu (aix rfl rfl (i_L (o := true) (e := eQ) (xs := aside1) h12)) (.inl (fzQ _))) eo0)) rfl (ok_behind j true true s2.2.1 x3 r5 h13) rfl) rfl rfl) ?_
        refine k_fg (t' := [some (.lst true [eScr state3.1, eI state3.2.1, eI state3.2.2]), some ((eL o0 eQ) way_here), some (eI n), some (eI s), some ((eL true eQ) s1.2.1), some ((eL true eI) r5), some (eQ x), some ((eL true eQ) aside1), none, none, none]) rfl ?_
        have e := Option.some.inj h; subst e
        exact k_nil rfl
      obtain ⟨r6, h15, h⟩ := bd h
      obtain ⟨there1, h17, h⟩ := bd h
      refine k_for (e := eQ) (fun (s5 : List (Int)) => [some (.lst true [eScr s3.1.1, eI s3.1.2.1, eI s3.1.2.2]), some ((eL o0 eQ) way_here), some (eI n), some (eI s), some ((eL true eQ) s1.2.1), some ((eL true eI) s5), some (eQ x), some ((eL true eQ) s3.2.2), none, none, none]) h17 (eov (bcall (t3 := [some (.lst true [eScr s3.1.1, eI s3.1.2.1, eI s3.1.2.2]), some ((eL o0 eQ) way_here), some (eI n), some (eI s), some ((eL true eQ) s1.2.1), some ((eL true eI) s3.2.1), some (eQ x), some ((eL true eQ) s3.2.2), none, none, none]) (eor rfl eo0) rfl (ok_turned j true true s3.2.2 r6 h15) rfl) eo0) rfl (w_L (o := true) (e := eQ) (xs := r6) fzQ) (fun _ => rfl) ?_ ?_
      · intro s5 x4 s6 h
        refine ⟨_, rfl, ?_⟩
        obtain ⟨r7, h16, h⟩ := bd h
        refine k_nx (t' := [some (.lst true [eScr s3.1.1, eI s3.1.2.1, eI s3.1.2.2]), some ((eL o0 eQ) way_here), some (eI n), some (eI s), some ((eL true eQ) s1.2.1), some ((eL true eI) r7), some (eQ x), some ((eL true eQ) s3.2.2), none, some (eQ x4), none]) (sset (bcall (t3 := [some (.lst true [eScr s3.1.1, eI s3.1.2.1, eI s3.1.2.2]), some ((eL o0 eQ) way_here), some (eI n), some (eI s), some ((eL true eQ) s1.2.1), some ((eL true eI) s5), some (eQ x), some ((eL true eQ) s3.2.2), none, some (eQ x4), none]) (eor rfl (eov (b_pu rfl (.inl (fzQ _))) eo0)) rfl (ok_behind j true true s5 x4 r7 h16) rfl) rfl rfl) ?_
        refine k_fg (t' := [some (.lst true [eScr s3.1.1, eI s3.1.2.1, eI s3.1.2.2]), some ((eL o0 eQ) way_here), some (eI n), some (eI s), some ((eL true eQ) s1.2.1), some ((eL true eI) r7), some (eQ x), some ((eL true eQ) s3.2.2), none, none, none]) rfl ?_
        have e := Option.some.inj h; subst e
        exact k_nil rfl
      obtain ⟨l, h18, h⟩ := bd h
      obtain ⟨r8, h19, h⟩ := bd h
      obtain ⟨l1, h20, h⟩ := bd h
      refine k_nx (t' := [some (.lst true [eScr s3.1.1, eI s3.1.2.1, eI s3.1.2.2]), some ((eL o0 eQ) way_here), some (eI n), some (eI s), some ((eL true eQ) l1), some ((eL true eI) there1), some (eQ x), some ((eL true eQ) s3.2.2), none, none, none]) (sset (bq (eov (b_pu (a2 rfl rfl (g_cat (o := true) (o' := true) (e := eQ) (xs := s1.2.1) (ys := s3.2.2) fzQ h18)) (.inr rfl)) (eov (bcall (t3 := [some (.lst true [eScr s3.1.1, eI s3.1.2.1, eI s3.1.2.2]), some ((eL o0 eQ) way_here), some (eI n), some (eI s), some ((eL true eQ) s1.2.1), some ((eL true eI) there1), some (eQ x), some ((eL true eQ) s3.2.2), none, none, none]) (eor rfl eo0) rfl (ok_turned j true true s3.2.2 r8 h19) rfl) eo0)) rfl (g_cat (o := true) (o' := true) (e := eQ) (xs := l) (ys := r8) fzQ h20)) rfl rfl) ?_
      refine k_fg (t' := [some (.lst true [eScr s3.1.1, eI s3.1.2.1, eI s3.1.2.2]), some ((eL o0 eQ) way_here), some (eI n), some (eI s), some ((eL true eQ) l1), some ((eL true eI) there1), some (eQ x), none, none, none, none]) rfl ?_
      have e := Option.some.inj h; subst e
      exact k_nil rfl
    · rw [if_neg (nt h4)] at h21
      have h := h21
      have e := Option.some.inj h; subst e
      exact k_nil rfl
    obtain ⟨found1, h22, h⟩ := bd h
    refine k_nx (t' := [some (.lst true [eScr s7.1.1, eI s7.1.2.1, eI s7.1.2.2]), some ((eL o0 eQ) way_here), some (eI n), some (eI s), some ((eL true eQ) found1), some ((eL true eI) s7.2.2), some (eQ x), none, none, none, none]) (sex (bmut (eov (b_pu rfl (.inl (fzQ _))) eo0) ⟨_, rfl, rfl⟩ rfl rfl (m_app (e := eQ) (xs := s7.2.1) (x := x) h22))) ?_
    obtain ⟨r9, h23, h⟩ := bd h
    refine k_nx (t' := [some (.lst true [eScr s7.1.1, eI s7.1.2.1, eI s7.1.2.2]), some ((eL o0 eQ) way_here), some (eI n), some (eI s), some ((eL true eQ) found1), some ((eL true eI) r9), some (eQ x), none, none, none, none]) (sset (bcall (t3 := [some (.lst true [eScr s7.1.1, eI s7.1.2.1, eI s7.1.2.2]), some ((eL o0 eQ) way_here), some (eI n), some (eI s), some ((eL true eQ) found1), some ((eL true eI) s7.2.2), some (eQ x), none, none, none, none]) (eor rfl (eov (b_pu rfl (.inl (fzQ _))) eo0)) rfl (ok_behind j true true s7.2.2 x r9 h23) rfl) rfl rfl) ?_
    refine k_fg (t' := [some (.lst true [eScr s7.1.1, eI s7.1.2.1, eI s7.1.2.2]), some ((eL o0 eQ) way_here), some (eI n), some (eI s), some ((eL true eQ) found1), some ((eL true eI) r9), none, none, none, none, none]) rfl ?_
    have e := Option.some.inj h; subst e
    exact k_nil rfl
  have e := Option.some.inj h; subst e
  exact k_rt (sret (bmv rfl)) rfl
theorem le_detoured {L : Nat} (hL : 2 ≤ L) (l0 : Bool) (l1 : Bool) (o0 : Bool) (state : (List Int × Int × Int)) (way_here : List (Q)) (n : Int) (s : Int) (r : (List (Q) × ((List Int × Int × Int)))) (h : f_detoured state way_here n s = some r) : callN (tabOf ds) fu (L) ("_law_detoured", none) [(l0, (eF3 eScr eI eI) state), (l1, (eL o0 eQ) way_here), (false, eI n), (false, eI s)] = some (.ok ((eL true eQ) (r.1)) [if l0 = true then some ((eF3 eScr eI eI) (r.2)) else none, if l1 = true then some ((eL o0 eQ) way_here) else none, none, none]) := by
  obtain ⟨j, rfl⟩ := Nat.exists_eq_add_of_le' hL
  exact ok_detoured j l0 l1 o0 state way_here n s r h
theorem ok_plan (j : Nat) (l0 : Bool) (state : (List Int × Int × Int)) (n : Int) (s : Int) (is_left : Bool) (r : (List (Q) × ((List Int × Int × Int)))) (h : f_plan state n s is_left = some r) : callN (tabOf ds) fu (j + 27) ("_law_plan", none) [(l0, (eF3 eScr eI eI) state), (false, eI n), (false, eI s), (false, eB is_left)] = some (.ok ((eL true eQ) (r.1)) [if l0 = true then some ((eF3 eScr eI eI) (r.2)) else none, none, none, none]) := by
  refine k_def (df := d__law_plan) rfl rfl (by cases l0 <;> rfl) (t0 := [some (.lst true [eScr state.1, eI state.2.1, eI state.2.2]), some (eI n), some (eI s), some (eB is_left), none, none]) rfl ?_
  unfold f_plan at h
  obtain ⟨⟨r, state1⟩, h1, h⟩ := bd h
  dsimp only at h
  refine k_nx (t' := [some (.lst true [eScr state1.1, eI state1.2.1, eI state1.2.2]), some (eI n), some (eI s), some (eB is_left), some ((eL true eQ) r), none]) (sset (bcall (t3 := [some (.lst true [eScr state1.1, eI state1.2.1, eI state1.2.2]), some (eI n), some (eI s), some (eB is_left), none, none]) (eor rfl (eov (b_pu rfl (.inr rfl)) (eov (b_pu rfl (.inl (fzI _))) (eov (b_pu rfl (.inl (fzI _))) (eov (b_pu rfl (.inl (fzB _))) eo0))))) rfl (ok_way j true state 0 n s is_left (r, state1) h1) rfl) rfl rfl) ?_
  by_cases h2 : is_left = true
  · rw [if_pos h2] at h
    refine k_ifT (x := is_left) (t1 := [some (.lst true [eScr state1.1, eI state1.2.1, eI state1.2.2]), some (eI n), some (eI s), some (eB is_left), some ((eL true eQ) r), none]) (b_pu rfl (.inl (fzB _))) h2 ?_
    obtain ⟨⟨r1, state2⟩, h3, h⟩ := bd h
    dsimp only at h
    have e := Option.some.inj h; subst e
    exact k_rt (sret (bcall (t3 := [some (.lst true [eScr state2.1, eI state2.2.1, eI state2.2.2]), some (eI n), some (eI s), some (eB is_left), some ((eL true eQ) r), none]) (eor rfl (eor rfl (eov (b_pu rfl (.inl (fzI _))) (eov (b_pu rfl (.inl (fzI _))) eo0)))) rfl (ok_detoured (j + 24) true true true state1 r n s (r1, state2) h3) rfl)) rfl
  · rw [if_neg h2] at h
    refine k_ifF (x := is_left) (t1 := [some (.lst true [eScr state1.1, eI state1.2.1, eI state1.2.2]), some (eI n), some (eI s), some (eB is_left), some ((eL true eQ) r), none]) (b_pu rfl (.inl (fzB _))) (Bool.eq_false_iff.mpr h2) ?_
    obtain ⟨⟨r2, state3⟩, h4, h⟩ := bd h
    dsimp only at h
    obtain ⟨r3, h5, h⟩ := bd h
    refine k_nx (t' := [some (.lst true [eScr state3.1, eI state3.2.1, eI state3.2.2]), some (eI n), some (eI s), some (eB is_left), some ((eL true eQ) r), some ((eL true eQ) r3)]) (sset (bcall (t3 := [some (.lst true [eScr state3.1, eI state3.2.1, eI state3.2.2]), some (eI n), some (eI s), some (eB is_left), some ((eL true eQ) r), none]) (eov (bcall (t3 := [some (.lst true [eScr state3.1, eI state3.2.1, eI state3.2.2]), some (eI n), some (eI s), some (eB is_left), some ((eL true eQ) r), none]) (eor rfl (eor rfl (eov (b_pu rfl (.inl (fzI _))) (eov (b_pu rfl (.inl (fzI _))) eo0)))) rfl (ok_detoured (j + 24) true true true state1 r n s (r2, state3) h4) rfl) eo0) rfl (ok_turned (j + 25) false true r2 r3 h5) rfl) rfl rfl) ?_
    obtain ⟨⟨r4, state4⟩, h6, h⟩ := bd h
    dsimp only at h
    obtain ⟨l, h7, h⟩ := bd h
    obtain ⟨l1, h8, h⟩ := bd h
    have e := Option.some.inj h; subst e
    exact k_rt (sret (bq (eov (bq (eov (bcall (t3 := [some (.lst true [eScr state4.1, eI state4.2.1, eI state4.2.2]), some (eI n), some (eI s), some (eB is_left), some ((eL true eQ) r), some ((eL true eQ) r3)]) (eor rfl (eor rfl (eov (b_pu rfl (.inl (fzI _))) (eov (b_pu rfl (.inl (fzI _))) eo0)))) rfl (ok_detoured (j + 24) true true true state3 r n s (r4, state4) h6) rfl) (eov (b_pu rfl (.inr rfl)) eo0)) rfl (g_cat (o := true) (o' := true) (e := eQ) (xs := r4) (ys := [(Q.tup [(Q.str ("show" : Str))])]) fzQ h7)) (eor rfl eo0)) rfl (g_cat (o := true) (o' := true) (e := eQ) (xs := l) (ys := r3) fzQ h8))) rfl
theorem le_plan {L : Nat} (hL : 27 ≤ L) (l0 : Bool) (state : (List Int × Int × Int)) (n : Int) (s : Int) (is_left : Bool) (r : (List (Q) × ((List Int × Int × Int)))) (h : f_plan state n s is_left = some r) : callN (tabOf ds) fu (L) ("_law_plan", none) [(l0, (eF3 eScr eI eI) state), (false, eI n), (false, eI s), (false, eB is_left)] = some (.ok ((eL true eQ) (r.1)) [if l0 = true then some ((eF3 eScr eI eI) (r.2)) else none, none, none, none]) := by
  obtain ⟨j, rfl⟩ := Nat.exists_eq_add_of_le' hL
  exact ok_plan j l0 state n s is_left r h
theorem ok_size (j : Nat) (l0 : Bool) (state : (List Int × Int × Int)) (is_left : Bool) (most : Int) (r : (((Int × Int)) × ((List Int × Int × Int)))) (h : f_size state is_left most = some r) : callN (tabOf ds) fu (j + 2) ("_law_size", none) [(l0, (eF3 eScr eI eI) state), (false, eB is_left), (false, eI most)] = some (.ok ((eT2 eI eI) (r.1)) [if l0 = true then some ((eF3 eScr eI eI) (r.2)) else none, none, none]) := by
  refine k_def (df := d__law_size) rfl rfl (by cases l0 <;> rfl) (t0 := [some (.lst true [eScr state.1, eI state.2.1, eI state.2.2]), some (eB is_left), some (eI most), none]) rfl ?_
  unfold f_size at h
  obtain ⟨⟨r, state1⟩, h1, h⟩ := bd h
  dsimp only at h
  obtain ⟨s, h2, h⟩ := bd h
  refine k_nx (t' := [some (.lst true [eScr state1.1, eI state1.2.1, eI state1.2.2]), some (eB is_left), some (eI most), some (eI s)]) (sset (blift (e := eI) h2 (bq (eov (b_pu rfl (.inr rfl)) (eov (bcall (t3 := [some (.lst true [eScr state1.1, eI state1.2.1, eI state1.2.2]), some (eB is_left), some (eI most), none]) (eor rfl (eov (b_pu rfl (.inr rfl)) eo0)) rfl (ok_draw j true state 4 (r, state1) h1) rfl) eo0)) rfl rfl)) rfl rfl) ?_
  obtain ⟨⟨r1, state2⟩, h3, h⟩ := bd h
  dsimp only at h
  obtain ⟨s2, h7, h⟩ := bd h
  refine k_if (x := (decide (r1 = 1))) (t1 := [some (.lst true [eScr state2.1, eI state2.2.1, eI state2.2.2]), some (eB is_left), some (eI most), some (eI s)]) (t2 := [some (.lst true [eScr s2.1.1, eI s2.1.2.1, eI s2.1.2.2]), some (eB is_left), some (eI most), some (eI s2.2)]) (bq (eov (bcall (t3 := [some (.lst true [eScr state2.1, eI state2.2.1, eI state2.2.2]), some (eB is_left), some (eI most), some (eI s)]) (eor rfl (eov (b_pu rfl (.inr rfl)) eo0)) rfl (ok_draw j true state1 8 (r1, state2) h3) rfl) (eov (b_pu rfl (.inr rfl)) eo0)) rfl (g_eqI _ _)) (fun h4 => ?_) (fun h4 => ?_) ?_
  · rw [if_pos h4] at h7
    have h := h7
    obtain ⟨⟨r2, state3⟩, h5, h⟩ := bd h
    dsimp only at h
    obtain ⟨s1, h6, h⟩ := bd h
    refine k_nx (t' := [some (.lst true [eScr state3.1, eI state3.2.1, eI state3.2.2]), some (eB is_left), some (eI most), some (eI s1)]) (sset (blift (e := eI) h6 (bq (eov (b_pu rfl (.inr rfl)) (eov (bcall (t3 := [some (.lst true [eScr state3.1, eI state3.2.1, eI state3.2.2]), some (eB is_left), some (eI most), some (eI s)]) (eor rfl (eov (b_pu rfl (.inr rfl)) eo0)) rfl (ok_draw j true state2 4 (r2, state3) h5) rfl) eo0)) rfl rfl)) rfl rfl) ?_
    have e := Option.some.inj h; subst e
    exact k_nil rfl
  · rw [if_neg (nt h4)] at h7
    have h := h7
    have e := Option.some.inj h; subst e
    exact k_nil rfl
  obtain ⟨r3, h8, h⟩ := bd h
  obtain ⟨⟨r4, state4⟩, h9, h⟩ := bd h
  dsimp only at h
  have e := Option.some.inj h; subst e
  exact k_rt (sret (btup (eov (bq (eov (b_pu rfl (.inr rfl)) (eov (bcall (t3 := [some (.lst true [eScr state4.1, eI state4.2.1, eI state4.2.2]), some (eB is_left), some (eI most), some (eI s2.2)]) (eor rfl (eov (bq (eov (b_pu rfl (.inl (fzI _))) (eov (bcall (t3 := [some (.lst true [eScr s2.1.1, eI s2.1.2.1, eI s2.1.2.2]), some (eB is_left), some (eI most), some (eI s2.2)]) (eov (b_pu rfl (.inl (fzI _))) (eov (b_pu rfl (.inl (fzB _))) eo0)) rfl (ok_cap j  s2.2 is_left r3 h8) rfl) eo0)) rfl rfl) eo0)) rfl (ok_draw j true s2.1 (imin most r3) (r4, state4) h9) rfl) eo0)) rfl rfl) (eov (b_pu rfl (.inl (fzI _))) eo0)) rfl rfl)) rfl
theorem le_size {L : Nat} (hL : 2 ≤ L) (l0 : Bool) (state : (List Int × Int × Int)) (is_left : Bool) (most : Int) (r : (((Int × Int)) × ((List Int × Int × Int)))) (h : f_size state is_left most = some r) : callN (tabOf ds) fu (L) ("_law_size", none) [(l0, (eF3 eScr eI eI) state), (false, eB is_left), (false, eI most)] = some (.ok ((eT2 eI eI) (r.1)) [if l0 = true then some ((eF3 eScr eI eI) (r.2)) else none, none, none]) := by
  obtain ⟨j, rfl⟩ := Nat.exists_eq_add_of_le' hL
  exact ok_size j l0 state is_left most r h
theorem rec_kinds (j : Nat) : ∀ n_ : Nat, (∀ (l0 : Bool) (l1 : Bool) (o0 : Bool) (o1 : Bool) (found : Q) (due : Q) (r : Bool), f_kinds n_ found due = some r → callN (tabOf ds) fu (j + 0 + n_) ("_law_kinds", none) [(l0, (eQo o0) found), (l1, (eQo o1) due)] = some (.ok (eB (r)) [if l0 = true then some ((eQo o0) found) else none, if l1 = true then some ((eQo o1) due) else none]))
  | 0 => by
    refine ?_ <;> (intros; rename_i h; first | (rw [f_kinds] at h; cases h))
  | n_ + 1 => by
    have ih := rec_kinds j n_
    have ih_kinds := ih
    · intro l0 l1 o0 o1 found due r h
      refine k_def (k := j + 0 + n_) (df := d__law_kinds) rfl rfl (by cases l0 <;> cases l1 <;> rfl) (t0 := [some ((eQo o0) found), some ((eQo o1) due), none, none]) rfl ?_
      rw [f_kinds] at h
      obtain ⟨c, h1, h⟩ := bd h
      by_cases h2 : c = true
      · rw [if_pos h2] at h
        refine k_ifT (x := c) (t1 := [some ((eQo o0) found), some ((eQo o1) due), none, none]) (b_pu (a2 rfl rfl (g_isiT (o := o1) h1)) (.inr rfl)) h2 ?_
        obtain ⟨c1, h3, h⟩ := bd h
        obtain ⟨c2, h4, h⟩ := bd h
        obtain ⟨c3, h5, h⟩ := bd h
        obtain ⟨c5, h7, h⟩ := bd h
        by_cases h8 : c5 = true
        · rw [if_pos h8] at h
          refine k_ifT (x := c5) (t1 := [some ((eQo o0) found), some ((eQo o1) due), none, none]) (b_pu (aor (orp (a2 (a2 rfl rfl (isi_Qo (o := o0) h3)) (a2 rfl rfl (isi_Qo (o := o1) h4)) (g_ne h5)) (fun y h => by obtain ⟨c4, h6, h⟩ := bd h; have e := Option.some.inj h; subst e; exact or1 (anot (a2 rfl rfl (g_isiT (o := o0) h6)))) h7)) (.inr rfl)) h8 ?_
          have e := Option.some.inj h; subst e
          exact k_rt (sret (b_pu rfl (.inr rfl))) rfl
        · rw [if_neg h8] at h
          refine k_ifF (x := c5) (t1 := [some ((eQo o0) found), some ((eQo o1) due), none, none]) (b_pu (aor (orp (a2 (a2 rfl rfl (isi_Qo (o := o0) h3)) (a2 rfl rfl (isi_Qo (o := o1) h4)) (g_ne h5)) (fun y h => by obtain ⟨c4, h6, h⟩ := bd h; have e := Option.some.inj h; subst e; exact or1 (anot (a2 rfl rfl (g_isiT (o := o0) h6)))) h7)) (.inr rfl)) (Bool.eq_false_iff.mpr h8) ?_
          obtain ⟨n, h9, h⟩ := bd h
          obtain ⟨n1, h10, h⟩ := bd h
          by_cases h11 : (!(decide (n = n1))) = true
          · rw [if_pos h11] at h
            refine k_ifT (x := (!(decide (n = n1)))) (t1 := [some ((eQo o0) found), some ((eQo o1) due), none, none]) (b_pu (a2 (a1 rfl (l_Qo (o := o0) h9)) (a1 rfl (l_Qo (o := o1) h10)) (g_neI _ _)) (.inr rfl)) h11 ?_
            have e := Option.some.inj h; subst e
            exact k_rt (sret (b_pu rfl (.inr rfl))) rfl
          · rw [if_neg h11] at h
            refine k_ifF (x := (!(decide (n = n1)))) (t1 := [some ((eQo o0) found), some ((eQo o1) due), none, none]) (b_pu (a2 (a1 rfl (l_Qo (o := o0) h9)) (a1 rfl (l_Qo (o := o1) h10)) (g_neI _ _)) (.inr rfl)) (Bool.eq_false_iff.mpr h11) ?_
            obtain ⟨l, h12, h⟩ := bd h
            obtain ⟨l1, h14, h⟩ := bd h
            have e := Option.some.inj h; subst e
            exact k_rt (sret (bq (eov (blcM (own := [(("_law_one" : Str), 2), (("_law_other" : Str), 3)]) (e := (eT2 eQ eQ)) (e' := eB) h14 (eor rfl (eor rfl eo0)) rfl rfl (w_zipQ (o := o0) (o' := o1) h12) rfl (fun x y h => by obtain ⟨r, h13, h⟩ := bd h; have e := Option.some.inj h; subst e; exact ⟨[some ((eQo o0) found), some ((eQo o1) due), some (eQ x.1), some (eQ x.2)], _, rfl, bcall (t3 := [some ((eQo o0) found), some ((eQo o1) due), some (eQ x.1), some (eQ x.2)]) (eov (beqv (b_pu rfl (.inl (fzQ _))) ((fun x => ((fun _ => rfl) x).trans (qo_f _)) x.1)) (eov (beqv (b_pu rfl (.inl (fzQ _))) ((fun x => ((fun _ => rfl) x).trans (qo_f _)) x.2)) eo0)) rfl (ih_kinds false false false false x.1 x.2 r h13) rfl, rfl⟩)) eo0) rfl (t_all (o := true) (ns := l1)))) rfl
      · rw [if_neg h2] at h
        refine k_ifF (x := c) (t1 := [some ((eQo o0) found), some ((eQo o1) due), none, none]) (b_pu (a2 rfl rfl (g_isiT (o := o1) h1)) (.inr rfl)) (Bool.eq_false_iff.mpr h2) ?_
        obtain ⟨c6, h15, h⟩ := bd h
        by_cases h16 : c6 = true
        · rw [if_pos h16] at h
          refine k_ifT (x := c6) (t1 := [some ((eQo o0) found), some ((eQo o1) due), none, none]) (b_pu (a2 rfl rfl (isi_Qo (o := o1) h15)) (.inr rfl)) h16 ?_
          obtain ⟨c7, h17, h⟩ := bd h
          obtain ⟨c9, h19, h⟩ := bd h
          have e := Option.some.inj h; subst e
          exact k_rt (sret (b_pu (aand (andp (a2 rfl rfl (isi_Qo (o := o0) h17)) (fun y h => by obtain ⟨c8, h18, h⟩ := bd h; have e := Option.some.inj h; subst e; exact and1 (a2 rfl rfl (g_eq ((eqD_Qo2 _ _).trans ((eqD_Qo1 _ _).trans h18))))) h19)) (.inr rfl))) rfl
        · rw [if_neg h16] at h
          refine k_ifF (x := c6) (t1 := [some ((eQo o0) found), some ((eQo o1) due), none, none]) (b_pu (a2 rfl rfl (isi_Qo (o := o1) h15)) (.inr rfl)) (Bool.eq_false_iff.mpr h16) ?_
          obtain ⟨c10, h20, h⟩ := bd h
          obtain ⟨c14, h24, h⟩ := bd h
          have e := Option.some.inj h; subst e
          exact k_rt (sret (b_pu (aand (andp (a2 rfl rfl (isi_Qo (o := o0) h20)) (fun y h => by obtain ⟨c11, h21, h⟩ := bd h; obtain ⟨c13, h23, h⟩ := bd h; have e := Option.some.inj h; subst e; exact andp (anot (a2 rfl rfl (isi_Qo (o := o0) h21))) (fun y h => by obtain ⟨c12, h22, h⟩ := bd h; have e := Option.some.inj h; subst e; exact and1 (a2 rfl rfl (g_eq ((eqD_Qo2 _ _).trans ((eqD_Qo1 _ _).trans h22))))) h23) h24)) (.inr rfl))) rfl
theorem ok_kinds (j : Nat) (l0 : Bool) (l1 : Bool) (o0 : Bool) (o1 : Bool) (found : Q) (due : Q) (r : Bool) (h : f_kinds 12 found due = some r) : callN (tabOf ds) fu (j + 12) ("_law_kinds", none) [(l0, (eQo o0) found), (l1, (eQo o1) due)] = some (.ok (eB (r)) [if l0 = true then some ((eQo o0) found) else none, if l1 = true then some ((eQo o1) due) else none]) := by
  have z := (rec_kinds j 12)
  exact z l0 l1 o0 o1 found due r h
theorem le_kinds {L : Nat} (hL : 12 ≤ L) (l0 : Bool) (l1 : Bool) (o0 : Bool) (o1 : Bool) (found : Q) (due : Q) (r : Bool) (h : f_kinds 12 found due = some r) : callN (tabOf ds) fu (L) ("_law_kinds", none) [(l0, (eQo o0) found), (l1, (eQo o1) due)] = some (.ok (eB (r)) [if l0 = true then some ((eQo o0) found) else none, if l1 = true then some ((eQo o1) due) else none]) := by
  obtain ⟨j, rfl⟩ := Nat.exists_eq_add_of_le' hL
  exact ok_kinds j l0 l1 o0 o1 found due r h

theorem ok_any_moves (j : Nat) (l0 : Bool) (state : (List Int × Int × Int)) (r : (List (Q) × ((List Int × Int × Int)))) (h : f_any_moves state = some r) : callN (tabOf ds) fu (j + 2) ("_law_any_moves", none) [(l0, (eF3 eScr eI eI) state)] = some (.ok ((eL true eQ) (r.1)) [if l0 = true then some ((eF3 eScr eI eI) (r.2)) else none]) := by
  refine k_def (df := d__law_any_moves) rfl rfl (by cases l0 <;> rfl) (t0 := [some (.lst true [eScr state.1, eI state.2.1, eI state.2.2]), none, none, none]) rfl ?_
  unfold f_any_moves at h
  obtain ⟨found, h1, h⟩ := bd h
  refine k_nx (t' := [some (.lst true [eScr state.1, eI state.2.1, eI state.2.2]), some ((eL true eQ) found), none, none]) (sset (blift (e := (eL true eQ)) h1 (b_pu rfl (.inr rfl))) rfl rfl) ?_
  obtain ⟨⟨r, state1⟩, h2, h⟩ := bd h
  dsimp only at h
  obtain ⟨r1, h3, h⟩ := bd h
  obtain ⟨s1, h13, h⟩ := bd h
  refine k_for (e := eI) (fun (s : (((List Int × Int × Int)) × List (Q))) => [some (.lst true [eScr s.1.1, eI s.1.2.1, eI s.1.2.2]), some ((eL true eQ) s.2), none, none]) h13 (eov (bcall (t3 := [some (.lst true [eScr state1.1, eI state1.2.1, eI state1.2.2]), some ((eL true eQ) found), none, none]) (eor rfl (eov (b_pu rfl (.inr rfl)) eo0)) rfl (ok_draw j true state 41 (r, state1) h2) rfl) eo0) rfl (w_rng1 h3) (fun _ => rfl) ?_ ?_
  · intro s x s2 h
    refine ⟨_, rfl, ?_⟩
    obtain ⟨⟨r2, state2⟩, h4, h⟩ := bd h
    dsimp only at h
    obtain ⟨i, h5, h⟩ := bd h
    obtain ⟨⟨r3, state3⟩, h6, h⟩ := bd h
    dsimp only at h
    obtain ⟨⟨r4, state4⟩, h7, h⟩ := bd h
    dsimp only at h
    obtain ⟨x1, h8, h⟩ := bd h
    refine k_nx (t' := [some (.lst true [eScr state4.1, eI state4.2.1, eI state4.2.2]), some ((eL true eQ) s.2), some (eI x), some (eI x1)]) (sset (bq (eov (blst (eov (bcall (t3 := [some (.lst true [eScr state2.1, eI state2.2.1, eI state2.2.2]), some ((eL true eQ) s.2), some (eI x), none]) (eor rfl (eov (b_pu rfl (.inr rfl)) eo0)) rfl (ok_draw j true s.1 25 (r2, state2) h4) rfl) (eov (bcall (t3 := [some (.lst true [eScr state3.1, eI state3.2.1, eI state3.2.2]), some ((eL true eQ) s.2), some (eI x), none]) (eor rfl (eov (b_pu (a2 rfl rfl (g_pow h5)) (.inr rfl)) eo0)) rfl (ok_draw j true state2 i (r3, state3) h6) rfl) (eov (b_pu rfl (.inr rfl)) (eov (b_pu rfl (.inr rfl)) eo0)))) rfl rfl) (eov (bcall (t3 := [some (.lst true [eScr state4.1, eI state4.2.1, eI state4.2.2]), some ((eL true eQ) s.2), some (eI x), none]) (eor rfl (eov (b_pu rfl (.inr rfl)) eo0)) rfl (ok_draw j true state3 4 (r4, state4) h7) rfl) eo0)) rfl (j_L (o := true) (e := eI) (xs := [r2, r3, 9999, 0]) fzI h8)) rfl rfl) ?_
    obtain ⟨⟨r5, state5⟩, h9, h⟩ := bd h
    dsimp only at h
    obtain ⟨i1, h10, h⟩ := bd h
    obtain ⟨x2, h11, h⟩ := bd h
    obtain ⟨found1, h12, h⟩ := bd h
    refine k_nx (t' := [some (.lst true [eScr state5.1, eI state5.2.1, eI state5.2.2]), some ((eL true eQ) found1), some (eI x), some (eI x1)]) (sex (bmut (eov (bq (eov (b_pu rfl (.inr rfl)) (eov (bq (eov (bcall (t3 := [some (.lst true [eScr state5.1, eI state5.2.1, eI state5.2.2]), some ((eL true eQ) s.2), some (eI x), some (eI x1)]) (eor rfl (eov (b_pu rfl (.inr rfl)) eo0)) rfl (ok_draw j true state4 8 (r5, state5) h9) rfl) (eov (b_pu rfl (.inr rfl)) eo0)) rfl (g_mod h10)) eo0)) rfl (j_L (o := true) (e := eQ) (xs := [(Q.tup [(Q.str ("lay" : Str)), (Q.int x1)]), (Q.tup [(Q.str ("clear" : Str)), (Q.int x1)]), (Q.tup [(Q.str ("show" : Str))])]) fzQ h11)) eo0) ⟨_, rfl, rfl⟩ rfl rfl (m_app (e := eQ) (xs := s.2) (x := x2) h12))) ?_
    refine k_fg (t' := [some (.lst true [eScr state5.1, eI state5.2.1, eI state5.2.2]), some ((eL true eQ) found1), none, none]) rfl ?_
    have e := Option.some.inj h; subst e
    exact k_nil rfl
  have e := Option.some.inj h; subst e
  exact k_rt (sret (bmv rfl)) rfl
theorem le_any_moves {L : Nat} (hL : 2 ≤ L) (l0 : Bool) (state : (List Int × Int × Int)) (r : (List (Q) × ((List Int × Int × Int)))) (h : f_any_moves state = some r) : callN (tabOf ds) fu (L) ("_law_any_moves", none) [(l0, (eF3 eScr eI eI) state)] = some (.ok ((eL true eQ) (r.1)) [if l0 = true then some ((eF3 eScr eI eI) (r.2)) else none]) := by
  obtain ⟨j, rfl⟩ := Nat.exists_eq_add_of_le' hL
  exact ok_any_moves j l0 state r h
theorem ok_word (j : Nat)  (move : Q) (r : Str) (h : f_word move = some r) : callN (tabOf ds) fu (j + 1) ("_law_word", none) [(false, eQ move)] = some (.ok (eS (r)) [none]) := by
  refine k_def (df := d__law_word) rfl rfl (by rfl) (t0 := [some (eQ move)]) rfl ?_
  unfold f_word at h
  obtain ⟨x, h1, h⟩ := bd h
  obtain ⟨c, h2, h⟩ := bd h
  by_cases h3 : c = true
  · rw [if_pos h3] at h
    refine k_ifT (x := c) (t1 := [some (eQ move)]) (b_pu (a2 (aix rfl rfl (i_Q h1)) rfl (g_eq h2)) (.inr rfl)) h3 ?_
    have e := Option.some.inj h; subst e
    exact k_rt (sret (b_pu rfl (.inr rfl))) rfl
  · rw [if_neg h3] at h
    refine k_ifF (x := c) (t1 := [some (eQ move)]) (b_pu (a2 (aix rfl rfl (i_Q h1)) rfl (g_eq h2)) (.inr rfl)) (Bool.eq_false_iff.mpr h3) ?_
    obtain ⟨x1, h4, h⟩ := bd h
    obtain ⟨c1, h5, h⟩ := bd h
    obtain ⟨x2, h6, h⟩ := bd h
    obtain ⟨x3, h7, h⟩ := bd h
    obtain ⟨i, h8, h⟩ := bd h
    obtain ⟨t, h9, h⟩ := bd h
    obtain ⟨t1, h10, h⟩ := bd h
    have e := Option.some.inj h; subst e
    exact k_rt (sret (bq (eov (b_pu (aix rfl (a1 (a2 (aix rfl rfl (i_Q h4)) rfl (g_eq h5)) rfl) (i_L (o := true) (e := eS) (xs := [("+" : Str), ("-" : Str)]) h6)) (.inl (fzS _))) (eov (bq (eov (beqv (b_pu (aix rfl rfl (i_Q h7)) (.inl (fzQ _))) (c_I h8)) eo0) rfl (t_str h9)) eo0)) rfl (g_catS h10))) rfl
theorem le_word {L : Nat} (hL : 1 ≤ L)  (move : Q) (r : Str) (h : f_word move = some r) : callN (tabOf ds) fu (L) ("_law_word", none) [(false, eQ move)] = some (.ok (eS (r)) [none]) := by
  obtain ⟨j, rfl⟩ := Nat.exists_eq_add_of_le' hL
  exact ok_word j  move r h
theorem ok_both_ways (j : Nat) (l0 : Bool) (o0 : Bool) (plan_here : List (Q)) (r : Bool) (h : f_both_ways plan_here = some r) : callN (tabOf ds) fu (j + 13) ("_law_both_ways", none) [(l0, (eL o0 eQ) plan_here)] = some (.ok (eB (r)) [if l0 = true then some ((eL o0 eQ) plan_here) else none]) := by
  refine k_def (df := d__law_both_ways) rfl rfl (by cases l0 <;> rfl) (t0 := [some ((eL o0 eQ) plan_here), none, none, none, none, none]) rfl ?_
  unfold f_both_ways at h
  obtain ⟨l, h2, h⟩ := bd h
  obtain ⟨t, h3, h⟩ := bd h
  refine k_nx (t' := [some ((eL o0 eQ) plan_here), some (eS t), none, none, none, none]) (sset (bqm (b_pu rfl (.inr rfl)) rfl (eov (b_pu rfl (.inr rfl)) (eov (blcM (own := [(("_law_move" : Str), 5)]) (e := eQ) (e' := eS) h2 (eor rfl eo0) rfl rfl (w_L (o := o0) (e := eQ) (xs := plan_here) fzQ) rfl (fun x y h => by obtain ⟨r, h1, h⟩ := bd h; have e := Option.some.inj h; subst e; exact ⟨[some ((eL o0 eQ) plan_here), none, none, none, none, some (eQ x)], _, rfl, bcall (t3 := [some ((eL o0 eQ) plan_here), none, none, none, none, some (eQ x)]) (eov (b_pu rfl (.inl (fzQ _))) eo0) rfl (ok_word (j + 11)  x r h1) rfl, rfl⟩)) eo0)) rfl (t_join (o := true) h3)) rfl rfl) ?_
  refine k_nx (t' := [some ((eL o0 eQ) plan_here), some (eS t), some ((eL true eQ) plan_here), none, none, none]) (sset (b_pu (a1 rfl (t_list (o := o0) (e := eQ) (xs := plan_here) fzQ)) (.inr rfl)) rfl rfl) ?_
  obtain ⟨r1, h4, h⟩ := bd h
  refine k_nx (t' := [some ((eL o0 eQ) plan_here), some (eS t), some ((eL true eQ) plan_here), some (eS r1), none, none]) (sset (bcall (t3 := [some ((eL o0 eQ) plan_here), some (eS t), some ((eL true eQ) plan_here), none, none, none]) (eor rfl eo0) rfl (ok_show_plan (j + 10) true true plan_here r1 h4) rfl) rfl rfl) ?_
  obtain ⟨c3, h8, h⟩ := bd h
  by_cases h9 : c3 = true
  · rw [if_pos h9] at h
    refine k_ifT (x := c3) (t1 := [some ((eL o0 eQ) plan_here), some (eS t), some ((eL true eQ) plan_here), some (eS r1), none, none]) (b_pu (aor (orp rfl (fun y h => by obtain ⟨c, h5, h⟩ := bd h; obtain ⟨c2, h7, h⟩ := bd h; have e := Option.some.inj h; subst e; exact orp (a2 rfl rfl (g_ne h5)) (fun y h => by obtain ⟨c1, h6, h⟩ := bd h; have e := Option.some.inj h; subst e; exact or1 (a2 rfl rfl (g_ne h6))) h7) h8)) (.inr rfl)) h9 ?_
    have e := Option.some.inj h; subst e
    exact k_rt (sret (b_pu rfl (.inr rfl))) rfl
  · rw [if_neg h9] at h
    refine k_ifF (x := c3) (t1 := [some ((eL o0 eQ) plan_here), some (eS t), some ((eL true eQ) plan_here), some (eS r1), none, none]) (b_pu (aor (orp rfl (fun y h => by obtain ⟨c, h5, h⟩ := bd h; obtain ⟨c2, h7, h⟩ := bd h; have e := Option.some.inj h; subst e; exact orp (a2 rfl rfl (g_ne h5)) (fun y h => by obtain ⟨c1, h6, h⟩ := bd h; have e := Option.some.inj h; subst e; exact or1 (a2 rfl rfl (g_ne h6))) h7) h8)) (.inr rfl)) (Bool.eq_false_iff.mpr h9) ?_
    obtain ⟨r2, h10, h⟩ := bd h
    refine k_nx (t' := [some ((eL o0 eQ) plan_here), some (eS t), some ((eL true eQ) plan_here), some (eS r1), some ((eL true eQ) r2), none]) (sset (bcall (t3 := [some ((eL o0 eQ) plan_here), some (eS t), some ((eL true eQ) plan_here), some (eS r1), none, none]) (eov (b_pu rfl (.inl (fzS _))) eo0) rfl (ok_read_plan (j + 9)  t r2 h10) rfl) rfl rfl) ?_
    obtain ⟨r3, h11, h⟩ := bd h
    by_cases h12 : (!r3) = true
    · rw [if_pos h12] at h
      refine k_ifT (x := (!r3)) (t1 := [some ((eL o0 eQ) plan_here), some (eS t), some ((eL true eQ) plan_here), some (eS r1), some ((eL true eQ) r2), none]) (bnot (bcall (t3 := [some ((eL o0 eQ) plan_here), some (eS t), some ((eL true eQ) plan_here), some (eS r1), some ((eL true eQ) r2), none]) (eor rfl (eor rfl eo0)) rfl (by have z := ok_kinds j true true true o0 (Q.lst r2) (Q.lst plan_here) r3 h11; rw [← cvLo0 r2, ← cvLo0 plan_here] at z; exact z) rfl)) h12 ?_
      have e := Option.some.inj h; subst e
      exact k_rt (sret (b_pu rfl (.inr rfl))) rfl
    · rw [if_neg h12] at h
      refine k_ifF (x := (!r3)) (t1 := [some ((eL o0 eQ) plan_here), some (eS t), some ((eL true eQ) plan_here), some (eS r1), some ((eL true eQ) r2), none]) (bnot (bcall (t3 := [some ((eL o0 eQ) plan_here), some (eS t), some ((eL true eQ) plan_here), some (eS r1), some ((eL true eQ) r2), none]) (eor rfl (eor rfl eo0)) rfl (by have z := ok_kinds j true true true o0 (Q.lst r2) (Q.lst plan_here) r3 h11; rw [← cvLo0 r2, ← cvLo0 plan_here] at z; exact z) rfl)) (Bool.eq_false_iff.mpr h12) ?_
      obtain ⟨found, h13, h⟩ := bd h
      refine k_nx (t' := [some ((eL o0 eQ) plan_here), some (eS t), some ((eL true eQ) plan_here), some (eS r1), some ((eL true eQ) found), none]) (sex (bmut (eov (b_pu rfl (.inr rfl)) eo0) ⟨_, rfl, rfl⟩ rfl rfl (m_app (e := eQ) (xs := r2) (x := (Q.tup [(Q.str ("show" : Str))])) h13))) ?_
      obtain ⟨r4, h14, h⟩ := bd h
      obtain ⟨r5, h15, h⟩ := bd h
      have e := Option.some.inj h; subst e
      exact k_rt (sret (bcall (t3 := [some ((eL o0 eQ) plan_here), some (eS t), some ((eL true eQ) plan_here), some (eS r1), some ((eL true eQ) found), none]) (eov (beqv (bcall (t3 := [some ((eL o0 eQ) plan_here), some (eS t), some ((eL true eQ) plan_here), some (eS r1), some ((eL true eQ) found), none]) (eov (b_pu rfl (.inl (fzS _))) eo0) rfl (ok_read_plan (j + 9)  r1 r4 h14) rfl) (cvLo0 r4)) (eor rfl eo0)) rfl (by have z := ok_kinds j false true true o0 (Q.lst r4) (Q.lst plan_here) r5 h15; rw [← cvLo0 plan_here] at z; exact z) rfl)) rfl
theorem le_both_ways {L : Nat} (hL : 13 ≤ L) (l0 : Bool) (o0 : Bool) (plan_here : List (Q)) (r : Bool) (h : f_both_ways plan_here = some r) : callN (tabOf ds) fu (L) ("_law_both_ways", none) [(l0, (eL o0 eQ) plan_here)] = some (.ok (eB (r)) [if l0 = true then some ((eL o0 eQ) plan_here) else none]) := by
  obtain ⟨j, rfl⟩ := Nat.exists_eq_add_of_le' hL
  exact ok_both_ways j l0 o0 plan_here r h
theorem ok_law (j : Nat)  (script : List Int) (r : Bool) (h : f_law script = some r) : callN (tabOf ds) fu (j + 28) ("law", none) [(false, eScr script)] = some (.ok (eB (r)) [none]) := by
  refine k_def (df := d_law) rfl rfl (by rfl) (t0 := [some (eScr script), none, none, none, none, none, none]) rfl ?_
  unfold f_law at h
  refine k_nx (t' := [some (eScr script), some (.lst true [eScr (script, 0, 0).1, eI (script, 0, 0).2.1, eI (script, 0, 0).2.2]), none, none, none, none, none]) (sset (blst (eov (b_pu rfl (.inl (fzScr _))) (eov (b_pu rfl (.inr rfl)) (eov (b_pu rfl (.inr rfl)) eo0))) rfl rfl) rfl rfl) ?_
  obtain ⟨⟨r, state⟩, h1, h⟩ := bd h
  dsimp only at h
  refine k_nx (t' := [some (eScr script), some (.lst true [eScr state.1, eI state.2.1, eI state.2.2]), some ((eL true eQ) r), none, none, none, none]) (sset (bcall (t3 := [some (eScr script), some (.lst true [eScr state.1, eI state.2.1, eI state.2.2]), none, none, none, none, none]) (eor rfl eo0) rfl (ok_any_moves (j + 25) true (script, 0, 0) (r, state) h1) rfl) rfl rfl) ?_
  obtain ⟨⟨r1, state1⟩, h2, h⟩ := bd h
  dsimp only at h
  obtain ⟨is_left, h3, h⟩ := bd h
  refine k_nx (t' := [some (eScr script), some (.lst true [eScr state1.1, eI state1.2.1, eI state1.2.2]), some ((eL true eQ) r), some (eB is_left), none, none, none]) (sset (blift (e := eB) h3 (bq (eov (bcall (t3 := [some (eScr script), some (.lst true [eScr state1.1, eI state1.2.1, eI state1.2.2]), some ((eL true eQ) r), none, none, none, none]) (eor rfl (eov (b_pu rfl (.inr rfl)) eo0)) rfl (ok_draw (j + 26) true state 2 (r1, state1) h2) rfl) (eov (b_pu rfl (.inr rfl)) eo0)) rfl (g_eqI _ _))) rfl rfl) ?_
  obtain ⟨⟨r2, state2⟩, h4, h⟩ := bd h
  dsimp only at h
  refine k_nx (t' := [some (eScr script), some (.lst true [eScr state2.1, eI state2.2.1, eI state2.2.2]), some ((eL true eQ) r), some (eB is_left), none, some (eI r2.1), some (eI r2.2)]) (sasg (bcall (t3 := [some (eScr script), some (.lst true [eScr state2.1, eI state2.2.1, eI state2.2.2]), some ((eL true eQ) r), some (eB is_left), none, none, none]) (eor rfl (eov (b_pu rfl (.inl (fzB _))) (eov (b_pu rfl (.inr rfl)) eo0))) rfl (ok_size (j + 25) true state1 is_left 10 (r2, state2) h4) rfl) (rfl)) ?_
  obtain ⟨⟨r3, state3⟩, h5, h⟩ := bd h
  dsimp only at h
  refine k_nx (t' := [some (eScr script), some (.lst true [eScr state3.1, eI state3.2.1, eI state3.2.2]), some ((eL true eQ) r), some (eB is_left), some ((eL true eQ) r3), some (eI r2.1), some (eI r2.2)]) (sset (bcall (t3 := [some (eScr script), some (.lst true [eScr state3.1, eI state3.2.1, eI state3.2.2]), some ((eL true eQ) r), some (eB is_left), none, some (eI r2.1), some (eI r2.2)]) (eor rfl (eov (b_pu rfl (.inl (fzI _))) (eov (b_pu rfl (.inl (fzI _))) (eov (b_pu rfl (.inl (fzB _))) eo0)))) rfl (ok_plan j true state2 r2.1 r2.2 is_left (r3, state3) h5) rfl) rfl rfl) ?_
  obtain ⟨r4, h6, h⟩ := bd h
  obtain ⟨c2, h12, h⟩ := bd h
  have e := Option.some.inj h; subst e
  exact k_rt (sret (band (band2 (bcall (t3 := [some (eScr script), some (.lst true [eScr state3.1, eI state3.2.1, eI state3.2.2]), some ((eL true eQ) r), some (eB is_left), some ((eL true eQ) r3), some (eI r2.1), some (eI r2.2)]) (eor rfl eo0) rfl (ok_both_ways (j + 14) true true r r4 h6) rfl) (fun y h => by obtain ⟨r5, h7, h⟩ := bd h; obtain ⟨c1, h11, h⟩ := bd h; have e := Option.some.inj h; subst e; exact band2 (bcall (t3 := [some (eScr script), some (.lst true [eScr state3.1, eI state3.2.1, eI state3.2.2]), some ((eL true eQ) r), some (eB is_left), some ((eL true eQ) r3), some (eI r2.1), some (eI r2.2)]) (eov (b_pu (a2 rfl rfl (t_hi (slG_L (o := true) (e := eQ) (xs := r3) fzQ))) (.inr rfl)) eo0) rfl (ok_both_ways (j + 14) false true (cutL r3 none (some 1000)) r5 h7) rfl) (fun y h => by obtain ⟨r6, h8, h⟩ := bd h; obtain ⟨c, h10, h⟩ := bd h; have e := Option.some.inj h; subst e; exact band2 (bcall (t3 := [some (eScr script), some (.lst true [eScr state3.1, eI state3.2.1, eI state3.2.2]), some ((eL true eQ) r), some (eB is_left), some ((eL true eQ) r3), some (eI r2.1), some (eI r2.2)]) (eov (b_pu rfl (.inr rfl)) eo0) rfl (ok_both_ways (j + 14) false true ([] : List (Q)) r6 h8) rfl) (fun y h => by obtain ⟨r7, h9, h⟩ := bd h; have e := Option.some.inj h; subst e; exact band1 (bcall (t3 := [some (eScr script), some (.lst true [eScr state3.1, eI state3.2.1, eI state3.2.2]), some ((eL true eQ) r), some (eB is_left), some ((eL true eQ) r3), some (eI r2.1), some (eI r2.2)]) (eor rfl eo0) rfl (ok_both_ways (j + 14) true true r r7 h9) rfl)) h10) h11) h12))) rfl
theorem le_law {L : Nat} (hL : 28 ≤ L)  (script : List Int) (r : Bool) (h : f_law script = some r) : callN (tabOf ds) fu (L) ("law", none) [(false, eScr script)] = some (.ok (eB (r)) [none]) := by
  obtain ⟨j, rfl⟩ := Nat.exists_eq_add_of_le' hL
  exact ok_law j  script r h
/-! ### a draw, the state a script, a count and a rest -/
def Src (s : List Int × Int × Int) : Prop := 0 ≤ s.2.1 ∧ 0 ≤ s.2.2
theorem absI_nn (i : Int) : 0 ≤ absI i := by unfold absI; split <;> omega
theorem divmodO_eq {a b : Int} (hb : 0 < b) (h : b < 2 ^ 64) : divmodO a b = some (a / b, a % b) := by unfold divmodO; rw [if_pos ⟨hb, h⟩]
theorem draw_cell {xs : List Int} {k c : Int} (hk : 0 ≤ k) : Ok (if (decide (0 < (xs.length : Int))) = true then
      Option.bind (modO k (xs.length : Int)) fun i1 =>
      Option.bind (ixO xs i1) fun x =>
      some x
    else
      some c) fun _ => True := by
  refine ok_iff (fun h => ?_) fun _ => ok_some trivial
  have h := of_decide_eq_true h
  rw [modO_eq h, Option.bind_some, ixO_at (Int.emod_nonneg _ (by omega)) (Int.emod_lt_of_pos _ h), Option.bind_some]
  exact ok_some trivial
theorem draw_ok {s : List Int × Int × Int} {m : Int} (h : Src s) (hm : 0 < m) (h2 : m < 2 ^ 64) : Ok (f_draw s m) fun p => 0 ≤ p.1 ∧ p.1 < m ∧ Src p.2 := by
  obtain ⟨xs, k, r⟩ := s
  obtain ⟨hk, hr⟩ := h
  simp only at hk hr
  unfold f_draw
  refine ok_bind (p := fun w => match w with
    | .rt v => 0 ≤ v.1 ∧ v.1 < m ∧ Src v.2
    | .nx s => Src s.1 ∧ 0 ≤ s.2) ?_ fun w hw => ?_
  · refine ok_iff (fun c => ?_) fun c => ok_some ⟨⟨hk, hr⟩, hr⟩
    rw [Option.bind_some, mulO_eq (.inl (by decide)), Option.bind_some, Option.bind_some]
    refine ok_bind (draw_cell hk) fun cell _ => ?_
    rw [Option.bind_some]
    refine ok_bind (p := fun _ => True) (ok_iff (fun _ => ok_some trivial) fun _ => ?_) fun c1 _ => ?_
    · rw [powO_eq (by decide) (by decide) (by decide), Option.bind_some]; exact ok_some trivial
    · refine ok_iff (fun _ => ?_) fun _ => ok_some ⟨⟨by show 0 ≤ k + 1; omega, hr⟩, absI_nn _⟩
      rw [modO_eq (by decide), Option.bind_some]
      have b1 := Int.emod_nonneg cell (b := 2147483629) (by decide)
      have b2 := Int.emod_lt_of_pos cell (b := 2147483629) (by decide)
      rw [mulO_eq (.inl (by omega)), Option.bind_some, mulO_eq (.inl (by decide)), Option.bind_some]
      refine ok_bind (p := fun o => 0 ≤ o ∧ o < 2147483629) (ok_mod (by decide) fun a b => ⟨a, b⟩) fun o ho => ?_
      rw [mulO_eq (.inl (by omega)), Option.bind_some]
      refine ok_bind (p := fun o => 0 ≤ o ∧ o < 2147483587) (ok_mod (by decide) fun a b => ⟨a, b⟩) fun q hq => ?_
      rw [mulO_eq (.inl (by omega)), Option.bind_some, modO_eq (by decide), Option.bind_some, modO_eq hm, Option.bind_some]
      exact ok_some ⟨Int.emod_nonneg _ (by omega), Int.emod_lt_of_pos _ hm, by show 0 ≤ k + 1; omega, hr⟩
  · match w, hw with
    | .rt v, hw => exact ok_some hw
    | .nx s, hw =>
      show Ok (Option.bind (divmodO s.2 m) _) _
      rw [divmodO_eq hm h2, Option.bind_some]
      exact ok_some ⟨Int.emod_nonneg _ (by omega), Int.emod_lt_of_pos _ hm, hw.1.1, Int.ediv_nonneg hw.2 (by omega)⟩
/-! ### moves by the rules, ways -/
structure Mv where
  lay : Bool
  k : Nat
def Mv.q (v : Mv) : Q := .tup [.str (if v.lay = true then "lay" else "clear"), .int (v.k : Int)]
def wordS (b : Bool) : Str := if b = true then "lay" else "clear"
theorem wordS_ok (b : Bool) : PyData.strOk (wordS b) = true := by cases b <;> decide +kernel
theorem Mv.q_dp (v : Mv) : v.q.dp 60 = true := by
  show (PyData.strOk (if v.lay = true then "lay" else "clear") && (Q.dp 59 (.int (v.k : Int)) && true)) = true
  have h := wordS_ok v.lay
  unfold wordS at h
  rw [h]; rfl
theorem Mv.q_gd (v : Mv) : v.q.gd = true := Q.gd_of v.q_dp (by decide)
theorem lay_ne : ("lay" : Str) ≠ "clear" := by decide +kernel
theorem word_lay (v : Mv) : decide ((Q.str (if v.lay = true then ("lay" : Str) else "clear")) = Q.str "lay") = v.lay := by
  cases h : v.lay with
  | true => simp
  | false =>
    simp only [Bool.false_eq_true, if_false, decide_eq_false_iff_not, Q.str.injEq]
    exact fun e => lay_ne e.symm
theorem word_clear (v : Mv) : decide ((Q.str (if v.lay = true then ("lay" : Str) else "clear")) = Q.str "clear") = !v.lay := by
  cases h : v.lay with
  | false => simp
  | true =>
    simp only [if_true, Bool.not_true, decide_eq_false_iff_not, Q.str.injEq]
    exact lay_ne
/-! ### sets of marks as lists; moves by the rules -/
def Mv.step (v : Mv) (A : List Nat) : List Nat := if v.lay = true then v.k :: A else A.filter fun x => x != v.k
def Mv.flip (v : Mv) : Mv := ⟨!v.lay, v.k⟩
def Legal (n S : Nat) (A : List Nat) (v : Mv) : Prop := 1 ≤ v.k ∧ v.k ≤ n ∧ (v.k = 1 ∨ v.k - 1 ∈ A) ∧ (v.lay = true → v.k ∉ A ∧ A.length < S) ∧ (v.lay = false → v.k ∈ A)
def Runs (n S : Nat) : List Nat → List Mv → List Nat → Prop
  | A, [], B => A.Perm B
  | A, v :: w, B => Legal n S A v ∧ Runs n S (v.step A) w B
structure StA (S : Nat) (A : List Nat) : Prop where
  nd : A.Nodup
  le : A.length ≤ S
theorem Legal.perm {n S : Nat} {A B : List Nat} {v : Mv} (h : A.Perm B) (hl : Legal n S A v) : Legal n S B v := by
  obtain ⟨h1, h2, h3, h4, h5⟩ := hl
  exact ⟨h1, h2, h3.imp id fun h3 => h.mem_iff.mp h3, fun e => ⟨fun k => (h4 e).1 (h.mem_iff.mpr k), h.length_eq ▸ (h4 e).2⟩, fun e => h.mem_iff.mp (h5 e)⟩
theorem Mv.step_perm {A B : List Nat} (v : Mv) (h : A.Perm B) : (v.step A).Perm (v.step B) := by
  unfold Mv.step; split
  · exact h.cons _
  · exact h.filter _
theorem Runs.perm {n S : Nat} : ∀ {w : List Mv} {A A' B : List Nat}, A.Perm A' → Runs n S A w B → Runs n S A' w B
  | [], _, _, _, h, r => h.symm.trans r
  | v :: _, _, _, _, h, r => ⟨r.1.perm h, Runs.perm (v.step_perm h) r.2⟩
theorem Runs.permR {n S : Nat} : ∀ {w : List Mv} {A B B' : List Nat}, B.Perm B' → Runs n S A w B → Runs n S A w B'
  | [], _, _, _, h, r => List.Perm.trans r h
  | _ :: _, _, _, _, h, r => ⟨r.1, Runs.permR h r.2⟩
theorem Runs.append {n S : Nat} : ∀ {w w' : List Mv} {A B C : List Nat}, Runs n S A w B → Runs n S B w' C → Runs n S A (w ++ w') C
  | [], _, _, _, _, r, r' => r'.perm (List.Perm.symm r)
  | _ :: _, _, _, _, _, r, r' => ⟨r.1, r.2.append r'⟩
theorem filter_ne_self {A : List Nat} {k : Nat} (h : k ∉ A) : A.filter (fun x => x != k) = A := by
  rw [List.filter_eq_self]
  intro a ha
  simp only [bne_iff_ne, ne_eq]
  exact fun e => h (e ▸ ha)
theorem filter_perm {A : List Nat} {k : Nat} (hn : A.Nodup) (h : k ∈ A) : (k :: A.filter (fun x => x != k)).Perm A := by
  have e := List.perm_cons_erase h
  rw [← hn.erase_eq_filter] 
  exact e.symm
theorem Legal.st {n S : Nat} {A : List Nat} {v : Mv} (hl : Legal n S A v) (h : StA S A) : StA S (v.step A) := by
  unfold Mv.step; split
  · rename_i e
    exact ⟨List.nodup_cons.mpr ⟨(hl.2.2.2.1 e).1, h.nd⟩, (hl.2.2.2.1 e).2⟩
  · exact ⟨h.nd.filter _, Nat.le_trans (List.length_filter_le _ _) h.le⟩
theorem Runs.st {n S : Nat} : ∀ {w : List Mv} {A B : List Nat}, Runs n S A w B → StA S A → StA S B
  | [], _, _, r, h => ⟨List.Perm.nodup r h.nd, List.Perm.length_eq r ▸ h.le⟩
  | _ :: _, _, _, r, h => r.2.st (r.1.st h)
theorem Legal.flip {n S : Nat} {A : List Nat} {v : Mv} (hl : Legal n S A v) (h : StA S A) : Legal n S (v.step A) v.flip ∧ (v.flip.step (v.step A)).Perm A := by
  obtain ⟨h1, h2, h3, h4, h5⟩ := hl
  obtain ⟨lay, k⟩ := v
  cases lay with
  | true =>
    have h4 := h4 rfl
    simp only at h1 h2 h3 h4
    refine ⟨⟨h1, h2, h3.imp id fun h3 => List.mem_cons_of_mem _ h3, fun e => (by simp [Mv.flip] at e), fun _ => List.mem_cons_self⟩, ?_⟩
    simp only [Mv.flip, Mv.step, Bool.not_true, Bool.false_eq_true, if_false, if_true]
    rw [List.filter_cons]
    simp only [bne_self_eq_false, Bool.false_eq_true, if_false]
    rw [filter_ne_self h4.1]
  | false =>
    have h5 := h5 rfl
    simp only at h1 h2 h3 h5
    have hp := filter_perm h.nd h5
    refine ⟨⟨h1, h2, ?_, fun _ => ⟨by simp [Mv.step, Mv.flip], ?_⟩, fun e => (by simp [Mv.flip] at e)⟩, ?_⟩
    · show k = 1 ∨ k - 1 ∈ List.filter _ A
      rcases h3 with h3 | h3
      · exact .inl h3
      · refine .inr (List.mem_filter.mpr ⟨h3, ?_⟩)
        simp only [bne_iff_ne, ne_eq]; omega
    · have := hp.length_eq
      have hle := h.le
      simp only [List.length_cons] at this
      show (List.filter (fun x => x != k) A).length < S
      omega
    · exact hp
theorem Runs.flip {n S : Nat} : ∀ {w : List Mv} {A B : List Nat}, Runs n S A w B → StA S A → Runs n S B (w.reverse.map Mv.flip) A
  | [], _, _, r, _ => List.Perm.symm r
  | v :: w, A, B, r, h => by
    rw [List.reverse_cons, List.map_append]
    have k := r.1.flip h
    exact (r.2.flip (r.1.st h)).append ⟨k.1, k.2⟩
theorem Runs.legal {n S : Nat} {w w' : List Mv} {A B : List Nat} {v : Mv} : Runs n S A (w ++ v :: w') B → ∃ C, Runs n S A w C ∧ Legal n S C v ∧ Runs n S (v.step C) w' B := by
  induction w generalizing A with
  | nil => exact fun r => ⟨A, List.Perm.refl _, r.1, r.2⟩
  | cons u w ih =>
    intro r
    obtain ⟨C, h1, h2, h3⟩ := ih r.2
    exact ⟨C, ⟨r.1, h1⟩, h2, h3⟩
/-! ### moves of a plan: a show is none -/
def pq : Option Mv → Q
  | none => .tup [.str "show"]
  | some v => v.q
def pw : Option Mv → Str
  | none => "show"
  | some v => if v.lay = true then "lay" else "clear"
def isLay : Option Mv → Bool
  | none => false
  | some v => v.lay
def isClear : Option Mv → Bool
  | none => false
  | some v => !v.lay
theorem show_ok : PyData.strOk ("show" : Str) = true := by decide +kernel
theorem lay_ok : PyData.strOk ("lay" : Str) = true := by decide +kernel
theorem clear_ok : PyData.strOk ("clear" : Str) = true := by decide +kernel
theorem pw_ok (v : Option Mv) : PyData.strOk (pw v) = true := by
  match v with
  | none => exact show_ok
  | some ⟨true, _⟩ => exact lay_ok
  | some ⟨false, _⟩ => exact clear_ok
theorem str_gd {s : Str} (h : PyData.strOk s = true) : (Q.str s).gd = true := Q.gd_of (n := 60) (q := .str s) h (by decide)
theorem eqW {a b : Str} (ha : PyData.strOk a = true) (hb : PyData.strOk b = true) : eqD (eQ (Q.str a)) (eS b) = some (decide (a = b)) := by
  have h := eqQ_gd (str_gd ha) (str_gd hb)
  have e : decide (Q.str a = Q.str b) = decide (a = b) := by rw [decide_eq_decide]; exact ⟨fun h => by cases h; rfl, fun h => by rw [h]⟩
  rw [e] at h
  exact h
theorem pq_0 (v : Option Mv) : ixQ (pq v) 0 = some (Q.str (pw v)) := by cases v <;> rfl
theorem pq_1 (v : Mv) : ixQ (pq (some v)) 1 = some (Q.int (v.k : Int)) := rfl
theorem pw_show (v : Option Mv) : decide (pw v = "show") = v.isNone := by
  match v with
  | none => decide +kernel
  | some ⟨true, _⟩ => exact (show decide (("lay" : Str) = "show") = false by decide +kernel)
  | some ⟨false, _⟩ => exact (show decide (("clear" : Str) = "show") = false by decide +kernel)
theorem pw_lay (v : Option Mv) : decide (pw v = "lay") = isLay v := by
  match v with
  | none => decide +kernel
  | some ⟨true, _⟩ => exact (show decide (("lay" : Str) = "lay") = true by decide +kernel)
  | some ⟨false, _⟩ => exact (show decide (("clear" : Str) = "lay") = false by decide +kernel)
theorem pw_clear (v : Option Mv) : decide (pw v = "clear") = isClear v := by
  match v with
  | none => decide +kernel
  | some ⟨true, _⟩ => exact (show decide (("lay" : Str) = "clear") = false by decide +kernel)
  | some ⟨false, _⟩ => exact (show decide (("clear" : Str) = "clear") = true by decide +kernel)
theorem eq_show (v : Option Mv) : eqD (eQ (Q.str (pw v))) (eS ("show" : Str)) = some v.isNone := by rw [eqW (pw_ok v) show_ok, pw_show]
theorem eq_lay (v : Option Mv) : eqD (eQ (Q.str (pw v))) (eS ("lay" : Str)) = some (isLay v) := by rw [eqW (pw_ok v) lay_ok, pw_lay]
theorem eq_clear (v : Option Mv) : eqD (eQ (Q.str (pw v))) (eS ("clear" : Str)) = some (isClear v) := by rw [eqW (pw_ok v) clear_ok, pw_clear]
theorem pq_dp (v : Option Mv) : (pq v).dp 60 = true := by
  cases v with
  | some v => exact v.q_dp
  | none =>
    show (PyData.strOk ("show" : Str) && true) = true
    rw [show_ok]; rfl
theorem pqs_dp {l : List (Option Mv)} : ∀ x ∈ l.map pq, x.dp 60 = true := by
  intro x hx
  obtain ⟨v, _, rfl⟩ := List.mem_map.mp hx
  exact pq_dp v
/-- turned about -/
def turn (l : List (Option Mv)) : List (Option Mv) := l.reverse.map (Option.map Mv.flip)
theorem turned_ok {l : List (Option Mv)} (h : l.length < sizeLine) : f_turned (l.map pq) = some ((turn l).map pq) := by
  unfold f_turned
  rw [Option.bind_some, ← List.map_reverse]
  refine ok_is (ok_bind (p := fun r => r = (turn l).map pq) ?_ fun r h => ok_some h)
  refine ok_mono (ok_forM (g := pq) (fun pre s => s = (pre.map (Option.map Mv.flip)).map pq) rfl fun pre x post s e hs => ?_) fun r h => h
  subst hs
  have hl : ((pre.map (Option.map Mv.flip)).map pq).length < sizeLine := by
    have := congrArg List.length e
    simp only [List.length_reverse, List.length_append, List.length_cons, List.length_map] at this ⊢; omega
  rw [pq_0, Option.bind_some, eq_show, Option.bind_some]
  refine ok_bind (p := fun r => r = ((pre ++ [x]).map (Option.map Mv.flip)).map pq) ?_ fun r h => ok_some h
  cases x with
  | none =>
    simp only [Option.isNone_none, if_true]
    rw [appO_eq hl, Option.bind_some]
    exact ok_some (by simp)
  | some v =>
    simp only [Option.isNone_some, Bool.false_eq_true, if_false]
    rw [Option.bind_some, eq_lay, Option.bind_some]
    have e : ixO [("lay" : Str), ("clear" : Str)] (boI (isLay (some v))) = some (pw (some v.flip)) := by
      match v with
      | ⟨true, _⟩ => rfl
      | ⟨false, _⟩ => rfl
    rw [e, Option.bind_some, pq_1, Option.bind_some, appO_eq hl, Option.bind_some]
    exact ok_some (by simp [pq, pw, Mv.q, Mv.flip])
/-! ### texts of numbers -/
def nT (k : Nat) : Str := toString ((k : Nat) : Int)
theorem tl_nT (k : Nat) : (nT k).cps.toList = TL.numL k := TL.tl_num k
theorem nT_size (k : Nat) : (nT k).cps.size = (TL.numL k).length := by rw [← tl_nT, Array.length_toList]
theorem nT_len (k : Nat) : (nT k).length = (TL.numL k).length := nT_size k
theorem numL_pos (k : Nat) : 1 ≤ (TL.numL k).length := by
  have := TL.numL_ne k
  cases h : TL.numL k with
  | nil => exact absurd h this
  | cons a b => simp
theorem strO_nT {k : Nat} (h : k < 10 ^ 10) : strO (k : Int) = some (nT k) := by
  unfold strO
  rw [if_pos ?_]
  · rfl
  rw [Int.natAbs_natCast]
  by_cases h0 : k = 0
  · subst h0; decide
  · have h1 : k.log2 < 34 := (Nat.log2_lt h0).mpr (by have : (10 : Nat) ^ 10 ≤ 2 ^ 34 := by decide
                                                      omega)
    omega
theorem cutS_tl (x : Str) (lo hi : Option Int) : (cutS x lo hi).cps.toList = cutL x.cps.toList lo hi := by
  have e : x.length = x.cps.toList.length := TL.len_tl x
  unfold cutS cutL
  rw [e]
theorem cutSO_hd {x : Str} {c : Nat} {r : List Nat} (h : x.cps.toList = c :: r) (hl : x.length ≤ 1000) : cutSO x none (some 1) = some ⟨#[c]⟩ := by
  unfold cutSO
  rw [if_pos (by rw [sz]; omega)]
  refine congrArg some (TL.ext_tl ?_)
  show (cutS x none (some 1)).cps.toList = [c]
  rw [cutS_tl, h, cut_hi (by decide)]
  rfl
theorem cutSO_tl {x : Str} {c : Nat} {r : List Nat} (h : x.cps.toList = c :: r) (hl : x.length ≤ 1000) : cutSO x (some 1) none = some ⟨r.toArray⟩ := by
  unfold cutSO
  rw [if_pos (by rw [sz]; omega)]
  refine congrArg some (TL.ext_tl ?_)
  show (cutS x (some 1) none).cps.toList = r
  rw [cutS_tl, h, cut_lo (by decide)]
  rfl
theorem dig_ok {c : Nat} (h1 : 48 ≤ c) (h2 : c ≤ 57) : decide (c ∈ ("0123456789" : Str).cps.toList) = true := by
  have e : ("0123456789" : Str).cps.toList = [48, 49, 50, 51, 52, 53, 54, 55, 56, 57] := by decide +kernel
  rw [e]
  have : c = 48 ∨ c = 49 ∨ c = 50 ∨ c = 51 ∨ c = 52 ∨ c = 53 ∨ c = 54 ∨ c = 55 ∨ c = 56 ∨ c = 57 := by omega
  simpa using this
theorem inFO_sgn (c : Nat) (z : Str) : inFO (eS ⟨#[c]⟩) (eS z) = some (decide (c ∈ z.cps.toList)) := rfl
theorem sgns_nT (k : Nat) : sgns (nT k) = (TL.numL k).map fun c => (⟨#[c]⟩ : Str) := by unfold sgns; rw [tl_nT]
theorem digs_nT {k : Nat} (h : (TL.numL k).length ≤ 1000) : mapO (fun x1 => Option.bind (inFO (eS x1) (eS ("0123456789" : Str))) fun c4 => some c4) (sgns (nT k)) = some ((TL.numL k).map fun _ => true) := by
  rw [sgns_nT, mapO_map]
  refine mapO_eq (by rw [sz]; omega) fun c hc => ?_
  have := TL.numL_digits k c hc
  rw [inFO_sgn, Option.bind_some, dig_ok (by omega) (by omega)]
theorem all_true {α : Type} (l : List α) : (l.map fun _ => true).all id = true := by simp
theorem numL_head : ∀ {n : Nat}, 1 ≤ n → ∃ c r, TL.numL n = c :: r ∧ 49 ≤ c ∧ c ≤ 57 := by
  intro n
  induction n using Nat.strongRecOn with
  | _ n ih =>
    intro hn
    by_cases h : n < 10
    · exact ⟨48 + n, [], TL.numL_lt h, by omega, by omega⟩
    · obtain ⟨c, r, e, h1, h2⟩ := ih (n / 10) (by omega) (by omega)
      exact ⟨c, r ++ [48 + n % 10], by rw [TL.numL_step (by omega), e]; rfl, h1, h2⟩
theorem intT_nT {k : Nat} (h : (TL.numL k).length ≤ 640) : intTO (nT k) = some (k : Int) := by
  unfold intTO
  rw [if_pos (by rw [nT_len]; exact h)]
  exact TL.int_num (by omega)
theorem nT_ok (k : Nat) : PyData.strOk (nT k) = true := by
  show (nT k).cps.all (· < 0x110000) = true
  rw [← Array.all_toList, tl_nT, List.all_eq_true]
  intro c hc
  have := TL.numL_digits k c hc
  exact decide_eq_true (by omega)
theorem eqS_ok {a b : Str} (ha : PyData.strOk a = true) (hb : PyData.strOk b = true) : eqD (eS a) (eS b) = some (decide (a = b)) := by
  have h := eqQ_gd (Q.gd_of (n := 60) (q := .str a) ha (by decide)) (Q.gd_of (n := 60) (q := .str b) hb (by decide))
  have e : decide (Q.str a = Q.str b) = decide (a = b) := by rw [decide_eq_decide]; exact ⟨fun h => by cases h; rfl, fun h => by rw [h]⟩
  rw [e] at h
  exact h
theorem zero_ok : PyData.strOk ("0" : Str) = true := by decide +kernel
/-- the first sign is a nought only of nought -/
theorem lead_nT {k : Nat} (h : (TL.numL k).length ≤ 1000) : (Option.bind (ixSO (nT k) 0) fun x => Option.bind (eqD (eS x) (eS ("0" : Str))) fun c => Option.bind (if c = true then (Option.bind (eqD (eS (nT k)) (eS ("0" : Str))) fun c1 => some (!c1)) else some false) fun c2 => some c2) = some false := by
  unfold ixSO
  rw [if_pos (by rw [nT_len, sz]; omega), tl_nT]
  by_cases hk : k = 0
  · subst hk
    have e : TL.numL 0 = [48] := TL.numL_lt (by decide)
    rw [e]
    have e1 : atI [48] 0 = some 48 := rfl
    rw [e1, Option.map_some, Option.bind_some]
    have e2 : eqD (eS (⟨#[48]⟩ : Str)) (eS ("0" : Str)) = some true := by
      rw [eqS_ok (by decide +kernel) zero_ok]; exact congrArg some (by decide +kernel)
    have e3 : nT 0 = ("0" : Str) := by decide +kernel
    rw [e2, Option.bind_some, if_pos rfl, e3, eqS_ok zero_ok zero_ok, Option.bind_some]
    simp
  · obtain ⟨c, r, e, h1, h2⟩ := numL_head (n := k) (by omega)
    rw [e]
    have e1 : atI (c :: r) 0 = some c := ixO_nat (n := 0) rfl
    rw [e1, Option.map_some, Option.bind_some]
    have e2 : eqD (eS (⟨#[c]⟩ : Str)) (eS ("0" : Str)) = some false := by
      have ho : PyData.strOk (⟨#[c]⟩ : Str) = true := by
        show (#[c] : Array Nat).all (· < 0x110000) = true
        rw [← Array.all_toList]
        simp only [List.all_cons, List.all_nil, Bool.and_true]
        exact decide_eq_true (by omega)
      rw [eqS_ok ho zero_ok]
      refine congrArg some (decide_eq_false fun e => ?_)
      have e4 := congrArg (fun z : Str => z.cps.toList) e
      have e5 : ("0" : Str).cps.toList = [48] := by decide +kernel
      simp only [e5] at e4
      have : c = 48 := by simpa using e4
      omega
    rw [e2, Option.bind_some, if_neg Bool.false_ne_true]
    rfl
/-! ### marks as texts -/
theorem markof_ok {k : Nat} (h : k < 10 ^ 4) : f_mark_of (nT k) = some (some (k : Int)) := by
  have hl := TL.numL_len (k := 4) (by decide) h
  have hp := numL_pos k
  unfold f_mark_of
  have e0 : lenSO (nT k) = some ((TL.numL k).length : Int) := by
    unfold lenSO
    rw [if_pos (by rw [nT_len, sz]; omega), nT_len]
  rw [e0, Option.bind_some]
  have e1 : (!((decide ((1 : Int) ≤ ((TL.numL k).length : Int))) && (decide (((TL.numL k).length : Int) ≤ 4)))) = false := by
    rw [decide_eq_true (by omega), decide_eq_true (by omega)]; rfl
  rw [e1, if_neg Bool.false_ne_true, lead_nT (by omega), Option.bind_some, if_neg Bool.false_ne_true, digs_nT (by omega), Option.bind_some, all_true]
  rw [if_neg (by simp), intT_nT (by omega), Option.bind_some]
/-! ### moves as words -/
def wS (b : Bool) : Str := if b = true then ("+" : Str) else "-"
def wM : Option Mv → Str
  | none => "!"
  | some v => wS v.lay ++ nT v.k
def Sm (v : Option Mv) : Prop := match v with
  | none => True
  | some v => v.k < 10 ^ 4
theorem catS_eq {a b : Str} (h : a.length + b.length ≤ sizeLine) : catS a b = some (a ++ b) := by unfold catS; rw [if_pos h]
theorem wS_len (b : Bool) : (wS b).length = 1 := by cases b <;> decide +kernel
theorem word_ok {v : Option Mv} (h : Sm v) : f_word (pq v) = some (wM v) := by
  unfold f_word
  rw [pq_0, Option.bind_some, eq_show, Option.bind_some]
  match v, h with
  | none, _ => rfl
  | some v, h =>
    have h : v.k < 10 ^ 4 := h
    have hl := TL.numL_len (k := 4) (by decide) h
    rw [if_neg (by simp), Option.bind_some, eq_clear, Option.bind_some]
    have e : ixO [("+" : Str), ("-" : Str)] (boI (isClear (some v))) = some (wS v.lay) := by
      match v with
      | ⟨true, _⟩ => rfl
      | ⟨false, _⟩ => rfl
    rw [e, Option.bind_some, pq_1, Option.bind_some]
    show Option.bind (strO (v.k : Int)) _ = _
    rw [strO_nT (by omega), Option.bind_some, catS_eq (by rw [wS_len, nT_len, sz]; omega), Option.bind_some]
    rfl
theorem signs_ok (v : Mv) : kv_SIGNS.lookup (pw (some v)) = some (wS v.lay) := by
  match v with
  | ⟨true, _⟩ => exact (show kv_SIGNS.lookup ("lay" : Str) = some ("+" : Str) by decide +kernel)
  | ⟨false, _⟩ => exact (show kv_SIGNS.lookup ("clear" : Str) = some ("-" : Str) by decide +kernel)
theorem moveword_ok {v : Option Mv} (h : Sm v) : f_move_word (pq v) = some (wM v) := by
  unfold f_move_word
  rw [pq_0, Option.bind_some, eq_show, Option.bind_some]
  match v, h with
  | none, _ => rfl
  | some v, h =>
    have h : v.k < 10 ^ 4 := h
    have hl := TL.numL_len (k := 4) (by decide) h
    rw [if_neg (by simp), Option.bind_some]
    show Option.bind (some (pw (some v))) _ = _
    rw [Option.bind_some, signs_ok, Option.bind_some, pq_1, Option.bind_some]
    show Option.bind (strO (v.k : Int)) _ = _
    rw [strO_nT (by omega), Option.bind_some, catS_eq (by rw [wS_len, nT_len, sz]; omega), Option.bind_some]
    rfl
/-- the signs of a word -/
def sg (b : Bool) : Nat := if b = true then 43 else 45
theorem tl_wS (b : Bool) : (wS b).cps.toList = [sg b] := by cases b <;> decide +kernel
theorem tl_wM (v : Mv) : (wM (some v)).cps.toList = sg v.lay :: TL.numL v.k := by
  show TL.tl (wS v.lay ++ nT v.k) = _
  rw [TL.tl_append]
  show (wS v.lay).cps.toList ++ (nT v.k).cps.toList = _
  rw [tl_wS, tl_nT]; rfl
theorem tl_show : (wM none).cps.toList = [33] := by decide +kernel
theorem sg_eq (b : Bool) : (⟨#[sg b]⟩ : Str) = wS b := by cases b <;> decide +kernel
theorem wM_len (v : Option Mv) (h : Sm v) : 1 ≤ (wM v).length ∧ (wM v).length ≤ 5 := by
  match v, h with
  | none, _ => decide +kernel
  | some v, h =>
    have hl := TL.numL_len (k := 4) (by decide) (show v.k < 10 ^ 4 from h)
    have := TL.len_tl (wM (some v))
    rw [this]
    show 1 ≤ ((wM (some v)).cps.toList).length ∧ _
    rw [show TL.tl (wM (some v)) = _ from tl_wM v, tl_wM, List.length_cons]
    omega
theorem wM_free (v : Option Mv) : 32 ∉ (wM v).cps.toList := by
  match v with
  | none => rw [tl_show]; decide
  | some v =>
    rw [tl_wM]
    intro h
    rcases List.mem_cons.mp h with h | h
    · cases hb : v.lay <;> rw [hb] at h <;> simp [sg] at h
    · exact TL.numL_free (.inl (by decide)) h
theorem wM_ok (v : Option Mv) : PyData.strOk (wM v) = true := by
  match v with
  | none => decide +kernel
  | some v =>
    show (wM (some v)).cps.all (· < 0x110000) = true
    rw [← Array.all_toList, tl_wM, List.all_eq_true]
    intro c hc
    rcases List.mem_cons.mp hc with rfl | hc
    · cases v.lay <;> decide
    · have := TL.numL_digits v.k c hc
      exact decide_eq_true (by omega)
theorem words_look (b : Bool) : kv_WORDS.lookup (wS b) = some (wordS b) := by cases b <;> decide +kernel
theorem bang_ok : PyData.strOk ("!" : Str) = true := by decide +kernel
theorem moveof_ok {v : Option Mv} (h : Sm v) : f_move_of (wM v) = some (pq v) := by
  unfold f_move_of
  have hl := wM_len v h
  rw [eqS_ok (wM_ok v) bang_ok, Option.bind_some]
  match v, h with
  | none, _ =>
    rw [if_pos (by decide +kernel)]; rfl
  | some v, h =>
    have h : v.k < 10 ^ 4 := h
    have ne : ¬ decide (wM (some v) = ("!" : Str)) = true := by
      intro e
      have e := of_decide_eq_true e
      have e2 := congrArg (fun z : Str => z.cps.toList) e
      have e3 : ("!" : Str).cps.toList = [33] := by decide +kernel
      simp only [e3, tl_wM, List.cons.injEq] at e2
      exact absurd e2.2 (TL.numL_ne v.k)
    have et : (⟨(TL.numL v.k).toArray⟩ : Str) = nT v.k := TL.ext_tl (tl_nT v.k).symm
    have hx : ixSO (wM (some v)) 0 = some (wS v.lay) := by
      unfold ixSO
      rw [if_pos (by rw [sz]; omega), tl_wM, show atI (sg v.lay :: TL.numL v.k) 0 = some (sg v.lay) from ixO_nat (n := 0) rfl, Option.map_some, sg_eq]
    rw [if_neg ne, cutSO_hd (tl_wM v) (by omega), Option.bind_some, sg_eq, words_look, cutSO_tl (tl_wM v) (by omega), et]
    simp only [Option.isSome_some, Bool.not_true, Bool.false_eq_true, if_false, Option.bind_some, markof_ok h, Option.isNone_some, hx, words_look]
    rfl
/-! ### joined texts -/
theorem joinL_mem {S : List Nat} : ∀ {parts : List (List Nat)} {c : Nat}, c ∈ TL.joinL S parts → c ∈ S ∨ ∃ p ∈ parts, c ∈ p
  | [], c, h => by simp [TL.joinL] at h
  | [p], c, h => .inr ⟨p, List.mem_singleton.mpr rfl, h⟩
  | p :: q :: r, c, h => by
    simp only [TL.joinL, List.mem_append] at h
    rcases h with h | h | h
    · exact .inr ⟨p, List.mem_cons_self, h⟩
    · exact .inl h
    · rcases joinL_mem h with h | ⟨z, hz, h⟩
      · exact .inl h
      · exact .inr ⟨z, List.mem_cons_of_mem _ hz, h⟩
theorem joinL_len {S : List Nat} {m : Nat} : ∀ {parts : List (List Nat)}, (∀ p ∈ parts, p.length ≤ m) → (TL.joinL S parts).length ≤ parts.length * (m + S.length)
  | [], h => by simp [TL.joinL]
  | [p], h => by
    have := h p (List.mem_singleton.mpr rfl)
    simp only [TL.joinL, List.length_cons, List.length_nil]; omega
  | p :: q :: r, h => by
    have h1 := h p List.mem_cons_self
    have h2 := joinL_len (S := S) (parts := q :: r) fun z hz => h z (List.mem_cons_of_mem _ hz)
    have e : (p :: q :: r).length * (m + S.length) = (q :: r).length * (m + S.length) + (m + S.length) := by
      rw [List.length_cons (a := p), Nat.succ_mul]
    rw [e]
    simp only [TL.joinL, List.length_append]
    omega
theorem joinL_ne {S : List Nat} {p : List Nat} {ps : List (List Nat)} (h : p ≠ []) : TL.joinL S (p :: ps) ≠ [] := by
  cases ps with
  | nil => exact h
  | cons q r =>
    intro e
    simp only [TL.joinL, List.append_eq_nil_iff] at e
    exact h e.1
theorem sum_le {l : List Nat} {m : Nat} (h : ∀ x ∈ l, x ≤ m) : l.sum ≤ l.length * m := by
  induction l with
  | nil => simp
  | cons a r ih =>
    have h1 := h a List.mem_cons_self
    have h2 := ih fun x hx => h x (List.mem_cons_of_mem _ hx)
    rw [List.sum_cons, List.length_cons, Nat.succ_mul]; omega
theorem joinS_eq {a : Str} {ys : List Str} {m : Nat} (h : ∀ y ∈ ys, y.length ≤ m) (hb : ys.length * (m + a.length) ≤ 16777216) : joinS a ys = some (Txt.join a ys) := by
  unfold joinS
  have h1 : (ys.map (·.length)).sum ≤ ys.length * m := by
    have := sum_le (l := ys.map (·.length)) (m := m) fun x hx => by
      obtain ⟨y, hy, rfl⟩ := List.mem_map.mp hx
      exact h y hy
    rwa [List.length_map] at this
  rw [Nat.mul_add] at hb
  rw [if_pos (by omega)]
theorem tl_joinT (a : Str) (ys : List Str) : (Txt.join a ys).cps.toList = TL.joinL a.cps.toList (ys.map fun y => y.cps.toList) := by
  rw [TL.join_eq]; exact TL.tl_join a ys
theorem join_len {a : Str} {ys : List Str} {m : Nat} (h : ∀ y ∈ ys, y.length ≤ m) : (Txt.join a ys).length ≤ ys.length * (m + a.length) := by
  have e := TL.len_tl (Txt.join a ys)
  have e1 := TL.len_tl a
  have h2 := joinL_len (S := a.cps.toList) (m := m) (parts := ys.map fun y => y.cps.toList) fun p hp => by
    obtain ⟨y, hy, rfl⟩ := List.mem_map.mp hp
    have := TL.len_tl y
    have := h y hy
    show (TL.tl y).length ≤ m
    omega
  rw [List.length_map] at h2
  rw [e, show TL.tl (Txt.join a ys) = _ from tl_joinT a ys, e1]
  exact h2
theorem join_ok {a : Str} {ys : List Str} (ha : PyData.strOk a = true) (h : ∀ y ∈ ys, PyData.strOk y = true) : PyData.strOk (Txt.join a ys) = true := by
  show (Txt.join a ys).cps.all (· < 0x110000) = true
  rw [← Array.all_toList, tl_joinT, List.all_eq_true]
  intro c hc
  have all : ∀ z : Str, PyData.strOk z = true → ∀ c ∈ z.cps.toList, decide (c < 0x110000) = true := by
    intro z hz c hc
    have hz : z.cps.all (· < 0x110000) = true := hz
    rw [← Array.all_toList, List.all_eq_true] at hz
    exact hz c hc
  rcases joinL_mem hc with hc | ⟨p, hp, hc⟩
  · exact all a ha c hc
  · obtain ⟨y, hy, rfl⟩ := List.mem_map.mp hp
    exact all y (h y hy) c hc
theorem splitO_eq {a b : Str} (h : (b.length == 0) = false) (h2 : a.length + 2 ≤ sizeLine) : splitO a b = some (Txt.split a b) := by
  unfold splitO; rw [if_pos ⟨h, h2⟩]
/-! ### plans as texts -/
def planT (l : List (Option Mv)) : Str := Txt.join (" " : Str) (l.map wM)
theorem blank_ok : PyData.strOk (" " : Str) = true := by decide +kernel
theorem empty_ok : PyData.strOk ("" : Str) = true := by decide +kernel
theorem tl_blank : (" " : Str).cps.toList = [32] := by decide +kernel
theorem len_blank : (" " : Str).length = 1 := by decide +kernel
def SmL (l : List (Option Mv)) : Prop := (∀ v ∈ l, Sm v) ∧ l.length ≤ 1000
theorem wMs_len {l : List (Option Mv)} (h : SmL l) : ∀ y ∈ l.map wM, y.length ≤ 5 := by
  intro y hy
  obtain ⟨v, hv, rfl⟩ := List.mem_map.mp hy
  exact (wM_len v (h.1 v hv)).2
theorem joinP {l : List (Option Mv)} (h : SmL l) : joinS (" " : Str) (l.map wM) = some (planT l) :=
  joinS_eq (wMs_len h) (by have := h.2; rw [List.length_map, len_blank]; omega)
theorem due_ok' {l : List (Option Mv)} (h : SmL l) : mapO (fun x => Option.bind (f_word x) fun r => some r) (l.map pq) = some (l.map wM) := by
  rw [mapO_map]
  refine mapO_eq (by have := h.2; rw [sz]; omega) fun v hv => ?_
  rw [word_ok (h.1 v hv), Option.bind_some]
theorem show_ok' {l : List (Option Mv)} (h : SmL l) : f_show_plan (l.map pq) = some (planT l) := by
  unfold f_show_plan
  have e : mapO (fun x => Option.bind (f_move_word x) fun r => some r) (l.map pq) = some (l.map wM) := by
    rw [mapO_map]
    refine mapO_eq (by have := h.2; rw [sz]; omega) fun v hv => ?_
    rw [moveword_ok (h.1 v hv), Option.bind_some]
  rw [e, Option.bind_some, joinP h, Option.bind_some]
theorem planT_ok (l : List (Option Mv)) : PyData.strOk (planT l) = true := join_ok blank_ok fun y hy => by
  obtain ⟨v, _, rfl⟩ := List.mem_map.mp hy
  exact wM_ok v
theorem planT_len {l : List (Option Mv)} (h : SmL l) : (planT l).length ≤ 6000 := by
  have := join_len (a := (" " : Str)) (wMs_len h)
  rw [List.length_map, len_blank] at this
  have := h.2
  unfold planT
  omega
theorem planT_ne {v : Option Mv} {l : List (Option Mv)} : planT (v :: l) ≠ ("" : Str) := by
  intro e
  have e1 := congrArg (fun z : Str => z.cps.toList) e
  have e2 : ("" : Str).cps.toList = [] := by decide +kernel
  simp only [e2] at e1
  unfold planT at e1
  rw [tl_joinT, List.map_cons, List.map_cons] at e1
  refine joinL_ne ?_ e1
  match v with
  | none => rw [tl_show]; simp
  | some v => rw [tl_wM]; simp
theorem read_ok {l : List (Option Mv)} (h : SmL l) : f_read_plan (planT l) = some (l.map pq) := by
  unfold f_read_plan
  rw [eqS_ok (planT_ok l) empty_ok, Option.bind_some]
  cases l with
  | nil => rw [if_pos (by decide +kernel)]; rfl
  | cons v l =>
    rw [if_neg (by simpa using planT_ne), Option.bind_some, splitO_eq (by decide +kernel) (by have := planT_len h; rw [sz]; omega), Option.bind_some]
    have e : Txt.split (planT (v :: l)) (" " : Str) = (v :: l).map wM := by
      refine TL.split_join (s := 32) (S := []) tl_blank (by decide +kernel) (by simp) fun p hp => ?_
      obtain ⟨w, _, rfl⟩ := List.mem_map.mp hp
      exact wM_free w
    rw [e]
    refine ok_is ?_
    refine ok_bind (p := fun w => w = .nx ((v :: l).map pq)) (ok_forNE (g := wM) (fun pre s => s = pre.map pq) rfl (fun pre x post s e hs => ?_) fun s hs => by rw [hs]) fun w hw => ?_
    · subst hs
      have hl : ((pre.map pq)).length < sizeLine := by
        have h1 := congrArg List.length e
        have h2 := h.2
        simp only [List.length_append, List.length_cons, List.length_map] at h1 h2 ⊢
        rw [sz]; omega
      rw [moveof_ok (h.1 x (by rw [e]; simp)), Option.bind_some]
      have nn : isNonQ (pq x) = false := by cases x <;> rfl
      rw [nn, if_neg Bool.false_ne_true, appO_eq hl, Option.bind_some]
      exact ok_some ⟨_, rfl, by simp⟩
    · subst hw
      exact ok_some rfl
/-! ### kind by kind -/
theorem ki_str {n : Nat} {s : Str} (h : PyData.strOk s = true) : f_kinds (n + 1) (.str s) (.str s) = some true := by
  rw [f_kinds]
  have e1 : isiTQ (.str s) ["tuple", "list"] = some false := rfl
  have e2 : isiQ (.str s) "str" = some true := rfl
  have e3 : eqD ((eQo true) (.str s)) ((eQo true) (.str s)) = some true := by
    show eqD (eS s) (eS s) = _
    rw [eqS_ok h h]; simp
  simp only [e1, e2, e3, Option.bind_some, Bool.false_eq_true, if_false, if_true]
theorem ki_int {n : Nat} {i : Int} : f_kinds (n + 1) (.int i) (.int i) = some true := by
  rw [f_kinds]
  have e1 : isiTQ (.int i) ["tuple", "list"] = some false := rfl
  have e2 : isiQ (.int i) "str" = some false := rfl
  have e3 : isiQ (.int i) "int" = some true := rfl
  have e4 : isiQ (.int i) "bool" = some false := rfl
  have e5 : eqD ((eQo true) (.int i)) ((eQo true) (.int i)) = some true := by
    have := eqQ_gd (a := .int i) (b := .int i) (Q.gd_of (n := 60) rfl (by decide)) (Q.gd_of (n := 60) rfl (by decide))
    rw [decide_eq_true rfl] at this
    exact this
  simp only [e1, e2, e3, e4, e5, Option.bind_some, Bool.false_eq_true, if_false, if_true, Bool.not_false]
theorem eqB_self (b : Bool) : eqD (eB b) (eB b) = some true := by cases b <;> rfl
theorem ki_tup {n : Nat} {xs : List Q} (hl : xs.length ≤ 100000) (h : ∀ x ∈ xs, f_kinds n x x = some true) : f_kinds (n + 1) (.tup xs) (.tup xs) = some true := by
  rw [f_kinds]
  have e1 : isiTQ (.tup xs) ["tuple", "list"] = some true := rfl
  have e2 : isiQ (.tup xs) "tuple" = some true := rfl
  have e3 : lenQ (.tup xs) = some (xs.length : Int) := rfl
  have e4 : zipQ (.tup xs) (.tup xs) = some (xs.zip xs) := rfl
  have e5 : mapO (fun x => Option.bind (f_kinds n x.1 x.2) fun r => some r) (xs.zip xs) = some ((xs.zip xs).map fun _ => true) := by
    refine mapO_eq (by rw [List.length_zip, sz]; omega) fun p hp => ?_
    obtain ⟨i, hi, e⟩ := List.getElem_of_mem hp
    rw [List.getElem_zip] at e
    subst e
    rw [h _ (List.getElem_mem _), Option.bind_some]
  simp only [e1, e2, e3, e4, e5, eqB_self, Option.bind_some, Bool.false_eq_true, if_false, if_true, Bool.not_true, decide_true, all_true]
theorem ki_lst {n : Nat} {xs : List Q} (hl : xs.length ≤ 100000) (h : ∀ x ∈ xs, f_kinds n x x = some true) : f_kinds (n + 1) (.lst xs) (.lst xs) = some true := by
  rw [f_kinds]
  have e1 : isiTQ (.lst xs) ["tuple", "list"] = some true := rfl
  have e2 : isiQ (.lst xs) "tuple" = some false := rfl
  have e3 : lenQ (.lst xs) = some (xs.length : Int) := rfl
  have e4 : zipQ (.lst xs) (.lst xs) = some (xs.zip xs) := rfl
  have e5 : mapO (fun x => Option.bind (f_kinds n x.1 x.2) fun r => some r) (xs.zip xs) = some ((xs.zip xs).map fun _ => true) := by
    refine mapO_eq (by rw [List.length_zip, sz]; omega) fun p hp => ?_
    obtain ⟨i, hi, e⟩ := List.getElem_of_mem hp
    rw [List.getElem_zip] at e
    subst e
    rw [h _ (List.getElem_mem _), Option.bind_some]
  simp only [e1, e2, e3, e4, e5, eqB_self, Option.bind_some, Bool.false_eq_true, if_false, if_true, Bool.not_true, decide_true, all_true]
theorem ki_pq {n : Nat} (v : Option Mv) : f_kinds (n + 2) (pq v) (pq v) = some true := by
  cases v with
  | none =>
    refine ki_tup (by decide) fun x hx => ?_
    rw [List.mem_singleton.mp hx]
    exact ki_str show_ok
  | some v =>
    refine ki_tup (by simp) fun x hx => ?_
    rcases List.mem_cons.mp hx with rfl | hx
    · exact ki_str (wordS_ok v.lay)
    · rw [List.mem_singleton.mp hx]
      exact ki_int
theorem ki_plan {l : List (Option Mv)} (h : l.length ≤ 1000) : f_kinds 12 (.lst (l.map pq)) (.lst (l.map pq)) = some true :=
  ki_lst (by rw [List.length_map]; omega) fun x hx => by
    obtain ⟨v, _, rfl⟩ := List.mem_map.mp hx
    exact ki_pq v
theorem both_ok {l : List (Option Mv)} (h : SmL l) : f_both_ways (l.map pq) = some true := by
  unfold f_both_ways
  have e1 : eqD (eS (planT l)) (eS (planT l)) = some true := by rw [eqS_ok (planT_ok l) (planT_ok l)]; simp
  have e2 : eqD ((eL true eQ) (l.map pq)) ((eL true eQ) (l.map pq)) = some true := by rw [eqLQ pqs_dp pqs_dp]; simp
  have hl : (l.map pq).length < sizeLine := by have := h.2; rw [List.length_map, sz]; omega
  simp only [due_ok' h, joinP h, show_ok' h, Option.bind_some, e1, e2, Bool.not_true, Bool.false_eq_true, if_false, read_ok h, ki_plan h.2, appO_eq hl]
/-! ### how far marks reach, and a way -/
def capN : Nat → Bool → Nat
  | 0, _ => 0
  | s + 1, true => 2 ^ s
  | s + 1, false => 2 ^ (s + 1) - 1
theorem cap_ok {s : Nat} (h : s ≤ 1000) (a : Bool) : f_cap (s : Int) a = some (capN s a : Int) := by
  unfold f_cap
  cases s with
  | zero => rfl
  | succ s =>
    have e : ¬ ((s + 1 : Nat) : Int) = 0 := by omega
    rw [if_neg (by simpa using e), shlO_eq (by omega) (by omega) (by decide), Option.bind_some, shlO_eq (by omega) (by omega) (by decide), Option.bind_some]
    have e1 : ((s + 1 : Nat) : Int).toNat = s + 1 := by omega
    have e2 : (((s + 1 : Nat) : Int) - 1).toNat = s := by omega
    rw [e1, e2]
    have hp : 1 ≤ 2 ^ (s + 1) := Nat.one_le_two_pow
    cases a with
    | true =>
      show some _ = some _
      rw [show (capN (s + 1) true) = 2 ^ s from rfl]; congr 1; simp [Int.natCast_pow]
    | false =>
      show some _ = some _
      rw [show (capN (s + 1) false) = 2 ^ (s + 1) - 1 from rfl]; congr 1
      rw [Int.natCast_sub hp]; simp [Int.natCast_pow]
theorem cap_half {s L : Nat} {a : Bool} (h2 : 2 ≤ L) (h : L ≤ capN s a) : 2 ≤ s ∧ (L + 1) / 2 ≤ capN (s - (boI a).toNat) true ∧ L / 2 ≤ capN (s - 1) a := by
  match s, a with
  | 0, _ => simp [capN] at h; omega
  | 1, true => simp [capN] at h; omega
  | 1, false => simp [capN] at h; omega
  | s + 2, true =>
    have e : capN (s + 2) true = 2 * 2 ^ s := by show 2 ^ (s + 1) = _; rw [Nat.pow_succ, Nat.mul_comm]
    have e1 : capN (s + 2 - (boI true).toNat) true = 2 ^ s := rfl
    have e2 : capN (s + 2 - 1) true = 2 ^ s := rfl
    rw [e] at h; rw [e1, e2]
    omega
  | s + 2, false =>
    have e : capN (s + 2) false = 2 * 2 ^ (s + 1) - 1 := by show 2 ^ (s + 2) - 1 = _; rw [Nat.pow_succ, Nat.mul_comm]
    have e1 : capN (s + 2 - (boI false).toNat) true = 2 ^ (s + 1) := rfl
    have e2 : capN (s + 2 - 1) false = 2 ^ (s + 1) - 1 := rfl
    rw [e] at h; rw [e1, e2]
    omega
def WaySp (first last s : Nat) (alone : Bool) (w : List Mv) : Prop := ∀ n S A, StA S A → last ≤ n → (first = 0 ∨ first ∈ A) → (∀ k ∈ A, first < k → k ≤ last → False) → A.length + s ≤ S → ∃ B, Runs n S A w B ∧ last ∈ B ∧ (alone = true → B.Perm (last :: A))
theorem way_one {first last s : Nat} {a : Bool} (h : last = first + 1) (hs : 1 ≤ s) : WaySp first last s a [⟨true, last⟩] := by
  intro n S A hA hn hf hk hl
  have hm : last ∉ A := fun hm => hk last hm (by omega) (by omega)
  refine ⟨last :: A, ⟨⟨by show 1 ≤ last; omega, hn, ?_, fun _ => ⟨hm, by omega⟩, fun e => by cases e⟩, List.Perm.refl _⟩, List.mem_cons_self, fun _ => List.Perm.refl _⟩
  show last = 1 ∨ last - 1 ∈ A
  rcases hf with hf | hf
  · left; omega
  · right; rw [h]; exact hf
theorem way_open {first m last s : Nat} {w1 w2 : List Mv} (h1 : first < m) (h2 : m < last) (hs : 2 ≤ s) (p1 : WaySp first m s true w1) (p2 : WaySp m last (s - 1) false w2) : WaySp first last s false (w1 ++ w2) := by
  intro n S A hA hn hf hk hl
  obtain ⟨B, r1, _, e1⟩ := p1 n S A hA (by omega) hf (fun k hk1 a b => hk k hk1 a (by omega)) hl
  have r1 := r1.permR (e1 rfl)
  have hB := r1.st hA
  obtain ⟨C, r2, hm, _⟩ := p2 n S (m :: A) hB hn (.inr List.mem_cons_self) (fun k hk1 a b => by
    rcases List.mem_cons.mp hk1 with rfl | hk1
    · omega
    · exact hk k hk1 (by omega) b) (by simp only [List.length_cons]; omega)
  exact ⟨C, r1.append r2, hm, fun e => by cases e⟩
theorem way_alone {first m last s : Nat} {w1 w2 w3 : List Mv} (h1 : first < m) (h2 : m < last) (hs : 2 ≤ s) (p1 : WaySp first m s true w1) (p2 : WaySp m last (s - 1) true w2) (p3 : WaySp first m (s - 1) true w3) : WaySp first last s true (w1 ++ w2 ++ w3.reverse.map Mv.flip) := by
  intro n S A hA hn hf hk hl
  obtain ⟨B, r1, _, e1⟩ := p1 n S A hA (by omega) hf (fun k hk1 a b => hk k hk1 a (by omega)) hl
  have r1 := r1.permR (e1 rfl)
  have hB := r1.st hA
  obtain ⟨C, r2, hm, e2⟩ := p2 n S (m :: A) hB hn (.inr List.mem_cons_self) (fun k hk1 a b => by
    rcases List.mem_cons.mp hk1 with rfl | hk1
    · omega
    · exact hk k hk1 (by omega) b) (by simp only [List.length_cons]; omega)
  have r2 := r2.permR (e2 rfl)
  have hlA : last ∉ A := fun h => hk last h (by omega) (by omega)
  have hD : StA S (last :: A) := ⟨List.nodup_cons.mpr ⟨hlA, hA.nd⟩, by simp only [List.length_cons]; omega⟩
  obtain ⟨D, r3, _, e3⟩ := p3 n S (last :: A) hD (by omega) (hf.imp id fun h => List.mem_cons_of_mem _ h) (fun k hk1 a b => by
    rcases List.mem_cons.mp hk1 with rfl | hk1
    · omega
    · exact hk k hk1 a (by omega)) (by simp only [List.length_cons]; omega)
  have r3 := ((r3.permR (e3 rfl)).flip hD).perm (List.Perm.swap last m A)
  exact ⟨last :: A, (r1.append r2).append r3, List.mem_cons_self, fun _ => List.Perm.refl _⟩
/-! ### the law's way -/
def fitsN (first last s : Nat) (a : Bool) : List Nat := ((List.range ((last - first + 1) / 2)).filter fun i => decide (i + 1 ≤ capN (s - (boI a).toNat) true) && decide (last - (first + 1 + i) ≤ capN (s - 1) a)).map fun i => first + 1 + i
theorem fits_ok {first last s : Nat} {a : Bool} (hs : 2 ≤ s) (hs2 : s ≤ 1000) (hL : first + 2 ≤ last) (hb : last ≤ 1000) : Ok (Option.bind (divO (((last : Int) - (first : Int)) + 1) 2) fun i =>
      Option.bind (rngO ((first : Int) + 1) (((first : Int) + 1) + i)) fun r =>
      (forO (fun (s1 : List (Int)) x =>
        Option.bind (f_cap ((s : Int) - (boI a)) true) fun r1 =>
        Option.bind (if (decide ((x - (first : Int)) ≤ r1)) = true then (Option.bind (f_cap ((s : Int) - 1) a) fun r2 => some (decide (((last : Int) - x) ≤ r2))) else some false) fun c =>
        Option.bind (if c = true then
          Option.bind (appO s1 x) fun fits1 =>
          some fits1
        else
          some s1
        ) fun fits2 =>
        some fits2
      ) r [])) fun l => l = (fitsN first last s a).map Nat.cast := by
  rw [divO_eq (by decide) (by decide), Option.bind_some, rngO_eq (by omega) (by omega) (by omega) (by omega), Option.bind_some]
  have er : rng ((first : Int) + 1) (((first : Int) + 1) + (((last : Int) - (first : Int)) + 1) / 2) = (List.range ((last - first + 1) / 2)).map fun i : Nat => ((first + 1 + i : Nat) : Int) := by
    unfold rng
    rw [show ((first : Int) + 1 + ((last : Int) - first + 1) / 2 - ((first : Int) + 1)).toNat = (last - first + 1) / 2 from by omega]
    exact List.map_congr_left fun i _ => by omega
  rw [er]
  have ha : (boI a).toNat ≤ 1 := by cases a <;> decide
  have eb : (s : Int) - boI a = ((s - (boI a).toNat : Nat) : Int) := by cases a <;> simp [boI] <;> omega
  have e1 : (s : Int) - 1 = ((s - 1 : Nat) : Int) := by omega
  rw [eb, e1, cap_ok (by omega) true, cap_ok (by omega) a]
  have k := ok_forM (f := fun (s1 : List (Int)) x =>
        Option.bind (some (capN (s - (boI a).toNat) true : Int)) fun r1 =>
        Option.bind (if (decide ((x - (first : Int)) ≤ r1)) = true then (Option.bind (some (capN (s - 1) a : Int)) fun r2 => some (decide (((last : Int) - x) ≤ r2))) else some false) fun c =>
        Option.bind (if c = true then
          Option.bind (appO s1 x) fun fits1 =>
          some fits1
        else
          some s1
        ) fun fits2 =>
        some fits2) (g := fun i : Nat => ((first + 1 + i : Nat) : Int)) (l := List.range ((last - first + 1) / 2)) (s0 := []) (fun pre l => l = ((pre.filter fun i => decide (i + 1 ≤ capN (s - (boI a).toNat) true) && decide (last - (first + 1 + i) ≤ capN (s - 1) a)).map fun i => first + 1 + i).map Nat.cast) rfl ?_
  · exact k
  · intro pre x post l e hl
    have hx : x < (last - first + 1) / 2 := List.mem_range.mp (e ▸ by simp)
    have hpl : pre.length < 1000 := by
      have := congrArg List.length e
      simp only [List.length_range, List.length_append, List.length_cons] at this; omega
    have hll : l.length < sizeLine := by
      have := List.length_filter_le (fun i => decide (i + 1 ≤ capN (s - (boI a).toNat) true) && decide (last - (first + 1 + i) ≤ capN (s - 1) a)) pre
      rw [hl, sz]; simp only [List.length_map]; omega
    simp only [Option.bind_some]
    have c1 : decide ((((first + 1 + x : Nat) : Int) - (first : Int)) ≤ (capN (s - (boI a).toNat) true : Int)) = decide (x + 1 ≤ capN (s - (boI a).toNat) true) := by rw [decide_eq_decide]; omega
    have c2 : decide (((last : Int) - ((first + 1 + x : Nat) : Int)) ≤ (capN (s - 1) a : Int)) = decide (last - (first + 1 + x) ≤ capN (s - 1) a) := by rw [decide_eq_decide]; omega
    rw [c1, c2, appO_eq hll]
    rw [List.filter_append]
    simp only [List.filter_cons, List.filter_nil]
    cases h1 : decide (x + 1 ≤ capN (s - (boI a).toNat) true) with
    | false => exact ok_some (by simp [hl])
    | true =>
      cases h2 : decide (last - (first + 1 + x) ≤ capN (s - 1) a) with
      | false => exact ok_some (by simp [hl])
      | true => exact ok_some (by simp [hl])
theorem fitsN_mem {first last s m : Nat} {a : Bool} (h : m ∈ fitsN first last s a) : first < m ∧ m - first ≤ (last - first + 1) / 2 ∧ m - first ≤ capN (s - (boI a).toNat) true ∧ last - m ≤ capN (s - 1) a := by
  obtain ⟨i, hi, rfl⟩ := List.mem_map.mp h
  obtain ⟨h1, h2⟩ := List.mem_filter.mp hi
  have h1 := List.mem_range.mp h1
  simp only [Bool.and_eq_true, decide_eq_true_eq] at h2
  refine ⟨by omega, by omega, by omega, h2.2⟩
theorem fitsN_ne {first last s : Nat} {a : Bool} (hL : first + 2 ≤ last) (h : last - first ≤ capN s a) : 0 < (fitsN first last s a).length := by
  obtain ⟨_, h1, h2⟩ := cap_half (by omega) h
  refine List.length_pos_of_mem (a := first + 1 + ((last - first + 1) / 2 - 1)) (List.mem_map.mpr ⟨_, List.mem_filter.mpr ⟨List.mem_range.mpr (by omega), ?_⟩, rfl⟩)
  simp only [Bool.and_eq_true, decide_eq_true_eq]
  refine ⟨by omega, ?_⟩
  have : last - (first + 1 + ((last - first + 1) / 2 - 1)) = (last - first) / 2 := by omega
  rw [this]; exact h2
theorem fitsN_len (first last s : Nat) (a : Bool) : (fitsN first last s a).length ≤ last := by
  have := List.length_filter_le (fun i => decide (i + 1 ≤ capN (s - (boI a).toNat) true) && decide (last - (first + 1 + i) ≤ capN (s - 1) a)) (List.range ((last - first + 1) / 2))
  unfold fitsN
  simp only [List.length_map, List.length_range] at this ⊢; omega
theorem sq_split {L a : Nat} (h1 : 1 ≤ a) (h2 : a ≤ (L + 1) / 2) (hL : 2 ≤ L) : 2 * (a * a) + (L - a) * (L - a) ≤ L * L := by
  obtain ⟨b, rfl⟩ : ∃ b, L = a + b := ⟨L - a, by omega⟩
  have hb : a ≤ b + 1 := by omega
  rw [Nat.add_sub_cancel_left]
  have e : (a + b) * (a + b) = a * a + 2 * (a * b) + b * b := by
    rw [Nat.add_mul, Nat.mul_add, Nat.mul_add, Nat.mul_comm b a]; omega
  rw [e]
  have : a * a ≤ 2 * (a * b) := by
    have : a ≤ 2 * b := by omega
    have := Nat.mul_le_mul_left a this
    rw [Nat.mul_left_comm] at this
    exact this
  omega
theorem way_law : ∀ (N first last s : Nat) (a : Bool) (st : List Int × Int × Int), Src st → first < last → last - first ≤ capN s a → last - first ≤ N → s ≤ 1000 → last ≤ 1000 → Ok (f_way N st (first : Int) (last : Int) (s : Int) a) fun p => Src p.2 ∧ ∃ w : List Mv, p.1 = (w.map some).map pq ∧ w.length ≤ (last - first) * (last - first) ∧ WaySp first last s a w
  | 0, first, last, s, a, st, _, h1, _, h2, _, _ => by omega
  | N + 1, first, last, s, a, st, hst, h1, h2, h3, h4, h5 => by
    rw [f_way]
    refine ok_iff (fun c => ?_) fun c => ?_
    · have c := of_decide_eq_true c
      have hs : 1 ≤ s := by
        cases s with
        | zero => simp [capN] at h2; omega
        | succ s => omega
      have e : last = first + 1 := by omega
      refine ok_some ⟨hst, [⟨true, last⟩], rfl, ?_, way_one e hs⟩
      have : last - first = 1 := by omega
      rw [this]; exact Nat.le_refl 1
    · have c : ¬ ((last : Int) - (first : Int) = 1) := fun e => c (decide_eq_true e)
      have hL : first + 2 ≤ last := by omega
      obtain ⟨hs, _, _⟩ := cap_half (by omega) h2
      rw [Option.bind_some]
      refine Exists.elim (fits_ok (a := a) hs h4 hL h5) fun fits hf => ?_
      obtain ⟨hf, ef⟩ := hf
      obtain ⟨i, hi, hf⟩ := bd hf
      obtain ⟨r, hr, hf⟩ := bd hf
      rw [hi, Option.bind_some, hr, Option.bind_some, hf, Option.bind_some, ef]
      have hne := fitsN_ne hL h2
      have hln := fitsN_len first last s a
      have el : ((((fitsN first last s a).map Nat.cast : List Int).length : Nat) : Int) = ((fitsN first last s a).length : Int) := by rw [List.length_map]
      rw [el]
      refine ok_bind (draw_ok hst (by omega) (by omega)) fun p hp => ?_
      obtain ⟨d, st1⟩ := p
      obtain ⟨p1, p2, p3⟩ := hp
      simp only at p1 p2 p3
      have hd : d.toNat < (fitsN first last s a).length := by omega
      have em : ixO ((fitsN first last s a).map Nat.cast : List Int) d = some ((fitsN first last s a)[d.toNat] : Int) := by
        rw [ixO_at p1 (by rw [List.length_map]; exact p2)]
        simp
      show Ok (Option.bind (ixO ((fitsN first last s a).map Nat.cast : List Int) d) _) _
      rw [em, Option.bind_some]
      generalize hm : (fitsN first last s a)[d.toNat] = m
      have hm : m ∈ fitsN first last s a := hm ▸ List.getElem_mem hd
      obtain ⟨m1, m2, m3, m4⟩ := fitsN_mem hm
      have hcap : capN (s - (boI a).toNat) true ≤ capN s true := by
        cases a with
        | false => exact Nat.le_refl _
        | true =>
          obtain ⟨s, rfl⟩ : ∃ s', s = s' + 2 := ⟨s - 2, by omega⟩
          show 2 ^ s ≤ 2 ^ (s + 1)
          exact Nat.pow_le_pow_right (by decide) (by omega)
      refine ok_bind (way_law N first m s true st1 p3 m1 (by omega) (by omega) h4 (by omega)) fun p hp => ?_
      obtain ⟨r1, st2⟩ := p
      obtain ⟨q1, w1, e1, l1, s1⟩ := hp
      simp only at q1 e1
      have es : (s : Int) - 1 = ((s - 1 : Nat) : Int) := by omega
      show Ok (Option.bind (f_way N st2 (m : Int) (last : Int) ((s : Int) - 1) a) _) _
      rw [es]
      refine ok_bind (way_law N m last (s - 1) a st2 q1 (by omega) m4 (by omega) (by omega) h5) fun p hp => ?_
      obtain ⟨r2, st3⟩ := p
      obtain ⟨q2, w2, e2, l2, s2⟩ := hp
      simp only at q2 e2
      subst e1; subst e2
      have hsq : 2 * ((m - first) * (m - first)) + (last - m) * (last - m) ≤ (last - first) * (last - first) := by
        have := sq_split (L := last - first) (a := m - first) (by omega) m2 (by omega)
        rwa [show last - first - (m - first) = last - m by omega] at this
      have hbig : (last - first) * (last - first) ≤ 1000 * 1000 := Nat.mul_le_mul (by omega) (by omega)
      show Ok (Option.bind (catO ((w1.map some).map pq) ((w2.map some).map pq)) _) _
      rw [catO_eq (by rw [sz]; simp only [List.length_map]; omega), Option.bind_some]
      cases a with
      | false =>
        simp only [Bool.false_eq_true, if_false, Option.bind_some]
        exact ok_some ⟨q2, w1 ++ w2, by simp, by rw [List.length_append]; omega, way_open m1 (by omega) hs s1 s2⟩
      | true =>
        simp only [if_true]
        have m5 : m - first ≤ capN (s - 1) true := m3
        refine ok_bind (p := fun q : (List Int × Int × Int) × List Q => Src q.1 ∧ ∃ w : List Mv, q.2 = (w.map some).map pq ∧ w.length ≤ (last - first) * (last - first) ∧ WaySp first last s true w) ?_ fun q hq => ok_some hq
        refine ok_bind (way_law N first m (s - 1) true st3 q2 m1 m5 (by omega) (by omega) (by omega)) fun p hp => ?_
        obtain ⟨r3, st4⟩ := p
        obtain ⟨q3, w3, e3, l3, s3⟩ := hp
        simp only at q3 e3
        subst e3
        show Ok (Option.bind (f_turned ((w3.map some).map pq)) _) _
        rw [turned_ok (by rw [sz]; simp only [List.length_map]; omega), Option.bind_some]
        have et : turn (w3.map some) = (w3.reverse.map Mv.flip).map some := by
          unfold turn
          rw [← List.map_reverse, List.map_map, List.map_map]; rfl
        rw [et, catO_eq (by rw [sz]; simp only [List.length_append, List.length_map, List.length_reverse]; omega), Option.bind_some]
        exact ok_some ⟨q3, w1 ++ w2 ++ w3.reverse.map Mv.flip, by simp, by simp only [List.length_append, List.length_map, List.length_reverse]; omega, way_alone m1 (by omega) hs s1 s2 s3⟩
/-! ### the law's sets, moves and detours -/
def Th (there : List Int) (A : List Nat) : Prop := there.Perm (A.map Nat.cast)
theorem Th.mem {there : List Int} {A : List Nat} (h : Th there A) (k : Nat) : ((k : Int) ∈ there) ↔ k ∈ A := by
  rw [List.Perm.mem_iff h, List.mem_map]
  exact ⟨fun ⟨a, ha, e⟩ => (Int.ofNat_inj.mp e) ▸ ha, fun h => ⟨k, h, rfl⟩⟩
theorem Th.len {there : List Int} {A : List Nat} (h : Th there A) : there.length = A.length := by
  rw [List.Perm.length_eq h, List.length_map]
theorem Th.perm {there : List Int} {A B : List Nat} (h : Th there A) (p : A.Perm B) : Th there B := List.Perm.trans h (p.map _)
theorem eqD_I (x y : Int) : eqD (eI x) (eQ (Q.int y)) = some (decide (x = y)) := by
  have h := eqQ_gd (Q.gd_of (n := 60) (q := .int x) rfl (by decide)) (Q.gd_of (n := 60) (q := .int y) rfl (by decide))
  have e : decide (Q.int x = Q.int y) = decide (x = y) := by rw [decide_eq_decide]; exact ⟨fun h => by cases h; rfl, fun h => by rw [h]⟩
  rw [e] at h
  exact h
theorem filterMap_ne (k : Nat) (l : List Int) : l.filterMap (fun x => if (!(decide (x = (k : Int)))) = true then some x else none) = l.filter fun x => x != (k : Int) := by
  induction l with
  | nil => rfl
  | cons x l ih => rw [List.filterMap_cons, List.filter_cons, ih]; by_cases h : x = (k : Int) <;> simp [h]
theorem map_filter_ne (k : Nat) (A : List Nat) : (A.map Nat.cast).filter (fun x : Int => x != (k : Int)) = (A.filter fun x => x != k).map Nat.cast := by
  induction A with
  | nil => rfl
  | cons x l ih =>
    rw [List.map_cons, List.filter_cons, List.filter_cons, ih]
    by_cases h : x = k
    · subst h; simp
    · have h2 : ¬ (x : Int) = (k : Int) := fun e => h (Int.ofNat_inj.mp e)
      have e1 : ((x : Int) != (k : Int)) = true := by simpa using h2
      have e2 : (x != k) = true := by simpa using h
      rw [e1, e2]; rfl
theorem behindL_ok {there : List Int} {A : List Nat} (h : Th there A) (hl : A.length < 10000000) (v : Mv) : Ok (f_behind there (pq (some v))) fun r => Th r (v.step A) := by
  unfold f_behind
  rw [pq_0, Option.bind_some, eq_lay, Option.bind_some]
  have hl2 := h.len
  have e0 : isLay (some v) = v.lay := rfl
  rw [e0]
  refine ok_iff (fun c => ?_) fun c => ?_
  · rw [pq_1, Option.bind_some]
    show Ok (Option.bind (catO there [(v.k : Int)]) _) _
    rw [catO_eq (by rw [sz]; simp; omega), Option.bind_some]
    refine ok_some ?_
    unfold Mv.step
    rw [if_pos c]
    refine (sortI_perm _).trans ?_
    refine (List.perm_append_comm).trans ?_
    exact List.Perm.cons _ h
  · rw [filO_eq (g := fun x => if (!(decide (x = (v.k : Int)))) = true then some x else none) (by rw [sz]; omega) (fun x _ => ?_)]
    · rw [Option.bind_some, filterMap_ne]
      refine ok_some ?_
      unfold Mv.step
      rw [if_neg c]
      refine (List.Perm.filter _ h).trans ?_
      rw [map_filter_ne]
    · rw [pq_1, Option.bind_some, eqD_I, Option.bind_some]
      cases decide (x = (v.k : Int)) <;> rfl
def mvA (A : List Nat) (S k : Nat) : List Mv := if k = 1 ∨ k - 1 ∈ A then (if k ∈ A then [⟨false, k⟩] else if A.length < S then [⟨true, k⟩] else []) else []
def movesA (A : List Nat) (n S : Nat) : List Mv := (List.range n).flatMap fun i => mvA A S (i + 1)
theorem mem_mvA {A : List Nat} {S k : Nat} {v : Mv} : v ∈ mvA A S k ↔ v.k = k ∧ (k = 1 ∨ k - 1 ∈ A) ∧ (v.lay = true → k ∉ A ∧ A.length < S) ∧ (v.lay = false → k ∈ A) := by
  obtain ⟨lay, j⟩ := v
  unfold mvA
  by_cases h1 : k = 1 ∨ k - 1 ∈ A
  · rw [if_pos h1]
    by_cases h2 : k ∈ A
    · rw [if_pos h2]
      cases lay <;> simp [h1, h2]
    · rw [if_neg h2]
      by_cases h3 : A.length < S
      · rw [if_pos h3]; cases lay <;> simp [h1, h2, h3]
      · rw [if_neg h3]; cases lay <;> simp [h1, h2, h3]
  · rw [if_neg h1]; simp [h1]
theorem mem_movesA {A : List Nat} {n S : Nat} {v : Mv} : v ∈ movesA A n S ↔ Legal n S A v := by
  unfold movesA
  rw [List.mem_flatMap]
  constructor
  · rintro ⟨i, hi, h⟩
    obtain ⟨e, h1, h2, h3⟩ := mem_mvA.mp h
    have hi := List.mem_range.mp hi
    rw [← e] at h1 h2 h3
    exact ⟨by omega, by omega, h1, h2, h3⟩
  · rintro ⟨h1, h2, h3, h4, h5⟩
    refine ⟨v.k - 1, List.mem_range.mpr (by omega), ?_⟩
    rw [show v.k - 1 + 1 = v.k by omega]
    exact mem_mvA.mpr ⟨rfl, h3, h4, h5⟩
theorem mvA_len (A : List Nat) (S k : Nat) : (mvA A S k).length ≤ 1 := by
  unfold mvA; split
  · split
    · simp
    · split <;> simp
  · simp
theorem flat_len (f : Nat → List Mv) (h : ∀ i, (f i).length ≤ 1) : ∀ l : List Nat, (l.flatMap f).length ≤ l.length
  | [] => by simp
  | a :: l => by
    have h1 := h a
    have h2 := flat_len f h l
    simp only [List.flatMap_cons, List.length_append, List.length_cons]; omega
theorem movesA_len (A : List Nat) (n S : Nat) : (movesA A n S).length ≤ n := by
  have := flat_len (fun i => mvA A S (i + 1)) (fun i => mvA_len _ _ _) (List.range n)
  rw [List.length_range] at this; exact this
theorem rng_1 (n : Nat) : rng 1 ((n : Int) + 1) = (List.range n).map fun i : Nat => ((i + 1 : Nat) : Int) := by
  simp only [rng]
  rw [show ((n : Int) + 1 - 1).toNat = n from by omega]
  refine List.map_congr_left fun i _ => ?_
  omega
theorem moves_ok {there : List Int} {A : List Nat} (h : Th there A) {n S : Nat} (hn : n ≤ 1000) : f_moves there (n : Int) (S : Int) = some (((movesA A n S).map some).map pq) := by
  unfold f_moves
  rw [Option.bind_some, rngO_eq (by omega) (by omega) (by omega) (by omega), Option.bind_some, rng_1]
  refine ok_is (ok_bind (p := fun r => r = ((movesA A n S).map some).map pq) ?_ fun r h => ok_some h)
  refine ok_mono (ok_forM (g := fun i : Nat => ((i + 1 : Nat) : Int)) (fun pre l => l = ((pre.flatMap fun i => mvA A S (i + 1)).map some).map pq) rfl fun pre x post l e hl => ?_) fun r h => h
  have hlen : l.length < sizeLine := by
    have h1 := flat_len (fun i => mvA A S (i + 1)) (fun i => mvA_len _ _ _) pre
    have h2 := congrArg List.length e
    simp only [List.length_range, List.length_append, List.length_cons] at h2
    rw [hl, sz]; simp only [List.length_map]; omega
  have c1 : (decide (((x + 1 : Nat) : Int) = 1) || decide (((x + 1 : Nat) : Int) - 1 ∈ there)) = decide (x + 1 = 1 ∨ x + 1 - 1 ∈ A) := by
    have e2 : decide ((x : Int) ∈ there) = decide (x ∈ A) := decide_eq_decide.mpr (h.mem x)
    rw [show ((x + 1 : Nat) : Int) - 1 = ((x : Nat) : Int) by omega, e2]
    rw [show decide (((x + 1 : Nat) : Int) = 1) = decide (x + 1 = 1) by rw [decide_eq_decide]; omega]
    rw [Nat.add_sub_cancel]
    by_cases h1 : x + 1 = 1 <;> by_cases h2 : x ∈ A <;> simp [h1, h2]
  have c2 : decide (((x + 1 : Nat) : Int) ∈ there) = decide (x + 1 ∈ A) := decide_eq_decide.mpr (h.mem (x + 1))
  have c3 : decide ((there.length : Int) < (S : Int)) = decide (A.length < S) := by rw [decide_eq_decide, h.len]; omega
  rw [c1, c2, c3, appO_eq hlen, appO_eq hlen, List.flatMap_append]
  simp only [List.flatMap_cons, List.flatMap_nil, List.append_nil, List.map_append, ← hl]
  unfold mvA
  by_cases h1 : x + 1 = 1 ∨ x + 1 - 1 ∈ A
  · rw [if_pos h1, if_pos (decide_eq_true h1)]
    by_cases h2 : x + 1 ∈ A
    · rw [if_pos h2, if_pos (decide_eq_true h2)]; exact ok_some rfl
    · rw [if_neg h2, if_neg (by simpa using h2)]
      by_cases h3 : A.length < S
      · rw [if_pos h3, if_pos (decide_eq_true h3)]; exact ok_some rfl
      · rw [if_neg h3, if_neg (by simpa using h3)]; exact ok_some (by simp)
  · rw [if_neg h1, if_neg (fun e => h1 (of_decide_eq_true e))]; exact ok_some (by simp)
theorem Runs.det {n S : Nat} : ∀ {w : List Mv} {A B C : List Nat}, Runs n S A w B → Runs n S A w C → B.Perm C
  | [], _, _, _, r, r' => List.Perm.trans (List.Perm.symm r) r'
  | _ :: _, _, _, _, r, r' => r.2.det r'.2
theorem Runs.snoc {n S : Nat} {w : List Mv} {A B : List Nat} {v : Mv} (r : Runs n S A w B) (h : Legal n S B v) : Runs n S A (w ++ [v]) (v.step B) := r.append ⟨h, List.Perm.refl _⟩
abbrev mq (w : List Mv) : List Q := (w.map some).map pq
theorem mq_app (u w : List Mv) : mq (u ++ w) = mq u ++ mq w := by simp [mq]
theorem mq_len (w : List Mv) : (mq w).length = w.length := by simp [mq]
theorem mq_map (w : List Mv) : mq w = w.map fun v => pq (some v) := by simp [mq, List.map_map, Function.comp_def]
theorem aside_ok {st : List Int × Int × Int} {there : List Int} {A : List Nat} {n S : Nat} {k : Int} {x : Mv} (hst : Src st) (hT : Th there A) (hA : StA S A) (hn : n ≤ 900) (hS : S ≤ 900) (hx : Legal n S A x) (hk0 : 0 ≤ k) (hk : k < 3) : Ok (Option.bind (rngO 0 (1 + k)) fun r2 =>
      (forO (fun (s4 : (((List Int × Int × Int)) × List (Int) × List (Q))) x1 =>
        Option.bind (f_moves s4.2.1 (n : Int) (S : Int)) fun r3 =>
        Option.bind (f_draw s4.1 (r3.length : Int)) fun (r4, state3) =>
        Option.bind (ixO r3 r4) fun x2 =>
        Option.bind (appO s4.2.2 x2) fun aside1 =>
        Option.bind (ixO aside1 (-1)) fun x3 =>
        Option.bind (f_behind s4.2.1 x3) fun r5 =>
        some (state3, r5, aside1)
      ) r2 (st, there, []))) fun s => Src s.1 ∧ ∃ wa B, s.2.2 = mq wa ∧ wa.length ≤ 3 ∧ Runs n S A wa B ∧ Th s.2.1 B := by
  rw [rngO_eq (by omega) (by omega) (by omega) (by omega), Option.bind_some]
  have hlen : (rng 0 (1 + k)).length ≤ 3 := by rw [rng_length]; omega
  refine ok_mono (ok_forO (fun pre (s : (List Int × Int × Int) × List Int × List Q) => Src s.1 ∧ ∃ wa B, s.2.2 = mq wa ∧ wa.length = pre.length ∧ Runs n S A wa B ∧ Th s.2.1 B ∧ ∃ v, Legal n S B v) ⟨hst, [], A, rfl, rfl, List.Perm.refl _, hT, x, hx⟩ fun pre x1 post s e hs => ?_) fun s hs => ?_
  · obtain ⟨st, there, aside⟩ := s
    obtain ⟨hst, wa, B, ea, la, hr, hT, v, hv⟩ := hs
    simp only at ea hT hst
    have hB := hr.st hA
    show Ok (Option.bind (f_moves there (n : Int) (S : Int)) _) _
    rw [moves_ok hT (by omega), Option.bind_some]
    have hpos : 0 < (movesA B n S).length := List.length_pos_of_mem (mem_movesA.mpr hv)
    have hle := movesA_len B n S
    have el : (((((movesA B n S).map some).map pq).length : Nat) : Int) = ((movesA B n S).length : Int) := by simp only [List.length_map]
    rw [el]
    refine ok_bind (draw_ok hst (by omega) (by omega)) fun p hp => ?_
    obtain ⟨d, st1⟩ := p
    obtain ⟨p1, p2, p3⟩ := hp
    simp only at p1 p2 p3
    have hd : d.toNat < (movesA B n S).length := by omega
    show Ok (Option.bind (ixO (((movesA B n S).map some).map pq) d) _) _
    rw [ixO_at p1 (by simp only [List.length_map]; exact p2), Option.bind_some]
    simp only [List.getElem_map]
    generalize hm : (movesA B n S)[d.toNat] = u
    have hu : Legal n S B u := mem_movesA.mp (hm ▸ List.getElem_mem hd)
    have hpl : pre.length ≤ 3 := by
      have := congrArg List.length e
      simp only [List.length_append, List.length_cons] at this; omega
    rw [appO_eq (by rw [ea, mq_len, sz]; omega), Option.bind_some, ixO_last, Option.bind_some]
    refine ok_bind (behindL_ok hT (by have := hB.le; omega) u) fun r hr2 => ?_
    refine ok_some ⟨p3, wa ++ [u], u.step B, ?_, by simp only [List.length_append, List.length_cons, List.length_nil, la], hr.snoc hu, hr2, u.flip, (hu.flip hB).1⟩
    show aside ++ [pq (some u)] = mq (wa ++ [u])
    rw [ea, mq_app]; rfl
  · obtain ⟨hst, wa, B, ea, la, hr, hT, _⟩ := hs
    exact ⟨hst, wa, B, ea, by omega, hr, hT⟩
theorem undo_ok {there : List Int} {A B : List Nat} {n S : Nat} {w : List Mv} (hT : Th there A) (hA : StA S A) (hS : S ≤ 900) (hr : Runs n S A w B) : Ok (forO (fun (s7 : List (Int)) x4 =>
        Option.bind (f_behind s7 x4) fun r7 =>
        some r7
      ) (mq w) there) fun t => Th t B := by
  rw [mq_map]
  refine ok_mono (ok_forM (g := fun v => pq (some v)) (fun pre t => ∃ C, Runs n S A pre C ∧ Th t C) ⟨A, List.Perm.refl _, hT⟩ fun pre x post t e hs => ?_) fun t hs => ?_
  · obtain ⟨C, hC, ht⟩ := hs
    subst e
    obtain ⟨D, h1, h2, h3⟩ := hr.legal
    have hx := h2.perm (h1.det hC)
    refine ok_bind (behindL_ok ht (by have := (hC.st hA).le; omega) x) fun r hr2 => ok_some ⟨_, hC.snoc hx, hr2⟩
  · obtain ⟨C, hC, ht⟩ := hs
    exact ht.perm (hC.det hr)
theorem detour_ok {st : List Int × Int × Int} {n S : Nat} {w : List Mv} {B : List Nat} (hst : Src st) (hr : Runs n S [] w B) (hn : n ≤ 900) (hS : S ≤ 900) (hw : w.length ≤ 1000000) : Ok (f_detoured st (mq w) (n : Int) (S : Int)) fun p => Src p.2 ∧ ∃ v, p.1 = mq v ∧ v.length ≤ 7 * w.length ∧ Runs n S [] v B := by
  have h0 : StA S [] := ⟨List.nodup_nil, Nat.zero_le _⟩
  unfold f_detoured
  rw [Option.bind_some, Option.bind_some]
  refine ok_bind (p := fun s : (List Int × Int × Int) × List Q × List Int => Src s.1 ∧ ∃ v, s.2.1 = mq v ∧ v.length ≤ 7 * w.length ∧ Runs n S [] v B) ?_ fun s hs => ok_some hs
  rw [mq_map]
  refine ok_mono (ok_forM (g := fun v => pq (some v)) (fun pre (s : (List Int × Int × Int) × List Q × List Int) => Src s.1 ∧ ∃ v A, s.2.1 = mq v ∧ v.length ≤ 7 * pre.length ∧ Runs n S [] v A ∧ Runs n S [] pre A ∧ Th s.2.2 A) ⟨hst, [], [], rfl, Nat.le_refl _, List.Perm.refl _, List.Perm.refl _, List.Perm.refl _⟩ fun pre x post s e hs => ?_) fun s hs => ?_
  · obtain ⟨st, found, there⟩ := s
    obtain ⟨hst, v, A, ev, lv, rv, rp, hT⟩ := hs
    simp only at ev hT hst
    subst e
    obtain ⟨D, h1, h2, _⟩ := hr.legal
    have hx := h2.perm (h1.det rp)
    have hA := rv.st h0
    have hpl : pre.length + 1 ≤ 1000000 := by simp only [List.length_append, List.length_cons] at hw; omega
    refine ok_bind (draw_ok hst (by decide) (by decide)) fun q hq => ?_
    obtain ⟨c, st1⟩ := q
    obtain ⟨_, _, hq⟩ := hq
    simp only at hq
    refine ok_bind (p := fun s : (List Int × Int × Int) × List Q × List Int => Src s.1 ∧ ∃ v, s.2.1 = mq v ∧ v.length ≤ 7 * pre.length + 6 ∧ Runs n S [] v A ∧ Th s.2.2 A) ?_ fun s hs => ?_
    · refine ok_iff (fun _ => ?_) fun _ => ok_some ⟨hq, v, ev, by omega, rv, hT⟩
      rw [Option.bind_some]
      refine ok_bind (draw_ok hq (by decide) (by decide)) fun p hp => ?_
      obtain ⟨k, st2⟩ := p
      obtain ⟨p1, p2, p3⟩ := hp
      refine Exists.elim (aside_ok p3 hT hA hn hS hx p1 p2) fun s5 hs5 => ?_
      obtain ⟨hs5, q1, wa, C, q2, q3, q4, q5⟩ := hs5
      obtain ⟨r2, hr2, hs5⟩ := bd hs5
      show Ok (Option.bind (rngO 0 (1 + k)) _) _
      rw [hr2, Option.bind_some, hs5, Option.bind_some, q2]
      have hC := q4.st hA
      have ht : f_turned (mq wa) = some (mq (wa.reverse.map Mv.flip)) := by
        show f_turned ((wa.map some).map pq) = _
        rw [turned_ok (by rw [sz]; simp only [List.length_map]; omega)]
        simp [turn, mq, ← List.map_reverse]
      rw [ht, Option.bind_some]
      refine ok_bind (undo_ok q5 hC hS (q4.flip hA)) fun t1 ht1 => ?_
      show Ok (Option.bind (catO found (mq wa)) _) _
      rw [ev, catO_eq (by rw [mq_len, mq_len, sz]; omega), Option.bind_some, Option.bind_some, ← mq_app, catO_eq (by rw [mq_len, mq_len, sz]; simp only [List.length_append, List.length_map, List.length_reverse]; omega), Option.bind_some, ← mq_app]
      exact ok_some ⟨q1, v ++ wa ++ wa.reverse.map Mv.flip, rfl, by simp only [List.length_append, List.length_map, List.length_reverse]; omega, (rv.append q4).append (q4.flip hA), ht1⟩
    · obtain ⟨st9, found9, there9⟩ := s
      obtain ⟨q1, v9, q2, q3, q4, q5⟩ := hs
      simp only at q1 q2 q5
      show Ok (Option.bind (appO found9 (pq (some x))) _) _
      rw [q2, appO_eq (by rw [mq_len, sz]; omega), Option.bind_some]
      refine ok_bind (behindL_ok q5 (by have := hA.le; omega) x) fun r9 hr9 => ?_
      exact ok_some ⟨q1, v9 ++ [x], x.step A, by rw [mq_app]; rfl, by simp only [List.length_append, List.length_cons, List.length_nil]; omega, q4.snoc hx, rp.snoc hx, hr9⟩
  · obtain ⟨h1, v, A, h2, h3, h4, h5, _⟩ := hs
    exact ⟨h1, v, h2, h3, h4.permR (h5.det hr)⟩
/-! ### plans, sizes, prices -/
def RunsO (n S : Nat) : List Nat → List (Option Mv) → List Nat → Prop
  | A, [], B => A.Perm B
  | A, none :: w, B => RunsO n S A w B
  | A, some v :: w, B => Legal n S A v ∧ RunsO n S (v.step A) w B
theorem Runs.o {n S : Nat} : ∀ {w : List Mv} {A B : List Nat}, Runs n S A w B → RunsO n S A (w.map some) B
  | [], _, _, r => r
  | _ :: _, _, _, r => ⟨r.1, Runs.o r.2⟩
theorem RunsO.perm {n S : Nat} : ∀ {w : List (Option Mv)} {A A' B : List Nat}, A.Perm A' → RunsO n S A w B → RunsO n S A' w B
  | [], _, _, _, h, r => h.symm.trans r
  | none :: w, _, _, _, h, r => RunsO.perm (w := w) h r
  | some v :: _, _, _, _, h, r => ⟨r.1.perm h, RunsO.perm (v.step_perm h) r.2⟩
theorem RunsO.append {n S : Nat} : ∀ {w w' : List (Option Mv)} {A B C : List Nat}, RunsO n S A w B → RunsO n S B w' C → RunsO n S A (w ++ w') C
  | [], _, _, _, _, r, r' => r'.perm (List.Perm.symm r)
  | none :: w, _, _, _, _, r, r' => RunsO.append (w := w) r r'
  | some _ :: _, _, _, _, _, r, r' => ⟨r.1, r.2.append r'⟩
structure PlanSp (n s : Nat) (left : Bool) (pl : List (Option Mv)) : Prop where
  run : ∃ B, RunsO n s [] pl B
  len : pl.length ≤ 100000
  one : left = true → ∃ u, pl = u.map some ∧ Runs n s [] u [n]
  both : left = false → ∃ u v B, pl = u.map some ++ [none] ++ v.map some ∧ Runs n s [] u B ∧ n ∈ B ∧ Runs n s B v []
theorem plan_ok {st : List Int × Int × Int} {n s : Nat} {left : Bool} (hst : Src st) (h1 : 1 ≤ n) (h2 : n ≤ capN s left) (h3 : n ≤ 25) (h4 : s ≤ 900) : Ok (f_plan st (n : Int) (s : Int) left) fun p => Src p.2 ∧ ∃ pl, p.1 = pl.map pq ∧ PlanSp n s left pl := by
  have h0 : StA s [] := ⟨List.nodup_nil, Nat.zero_le _⟩
  unfold f_plan
  refine ok_bind (way_law 25 0 n s left st hst h1 (by omega) h3 (by omega) (by omega)) fun p hp => ?_
  obtain ⟨r, st1⟩ := p
  obtain ⟨q1, w, e1, l1, s1⟩ := hp
  simp only at q1 e1
  subst e1
  have hsq : n * n ≤ 25 * 25 := Nat.mul_le_mul h3 h3
  rw [Nat.sub_zero] at l1
  obtain ⟨B, hr, hB, hal⟩ := s1 n s [] h0 (Nat.le_refl _) (.inl rfl) (by simp) (by simp)
  refine ok_iff (fun hleft => ?_) fun hleft => ?_
  · refine ok_bind (detour_ok q1 hr (by omega) h4 (by omega)) fun p hp => ?_
    obtain ⟨r, st2⟩ := p
    obtain ⟨q2, v, e2, l2, r2⟩ := hp
    exact ok_some ⟨q2, v.map some, e2, ⟨_, r2.o⟩, by rw [List.length_map]; omega, fun e => ⟨v, rfl, r2.permR (hal e)⟩, fun e => (by rw [hleft] at e; cases e)⟩
  · refine ok_bind (detour_ok q1 hr (by omega) h4 (by omega)) fun p hp => ?_
    obtain ⟨r, st2⟩ := p
    obtain ⟨q2, v, e2, l2, r2⟩ := hp
    simp only at q2 e2
    subst e2
    have ht : f_turned (mq v) = some (mq (v.reverse.map Mv.flip)) := by
      show f_turned ((v.map some).map pq) = _
      rw [turned_ok (by rw [sz]; simp only [List.length_map]; omega)]
      simp [turn, mq, ← List.map_reverse]
    show Ok (Option.bind (f_turned (mq v)) _) _
    rw [ht, Option.bind_some]
    refine ok_bind (detour_ok q2 hr (by omega) h4 (by omega)) fun p hp => ?_
    obtain ⟨r, st3⟩ := p
    obtain ⟨q3, u, e3, l3, r3⟩ := hp
    simp only at q3 e3
    subst e3
    show Ok (Option.bind (catO (mq u) [pq none]) _) _
    rw [catO_eq (by rw [mq_len, sz]; simp only [List.length_cons, List.length_nil]; omega), Option.bind_some, catO_eq (by simp only [List.length_append, mq_len, sz, List.length_cons, List.length_nil, List.length_map, List.length_reverse]; omega), Option.bind_some]
    refine ok_some ⟨q3, u.map some ++ [none] ++ (v.reverse.map Mv.flip).map some, by simp [mq], ⟨[], ?_⟩, ?_, fun e => absurd e hleft, fun _ => ⟨u, v.reverse.map Mv.flip, B, rfl, r3, hB, r2.flip h0⟩⟩
    · exact (r3.o.append (w' := [none]) (B := B) (C := B) (List.Perm.refl _)).append (r2.flip h0).o
    · simp only [List.length_append, List.length_map, List.length_cons, List.length_nil, List.length_reverse]; omega
theorem capN_pos {s : Nat} {a : Bool} (h : 1 ≤ s) : 1 ≤ capN s a := by
  obtain ⟨s, rfl⟩ : ∃ t, s = t + 1 := ⟨s - 1, by omega⟩
  cases a with
  | true => exact Nat.one_le_two_pow
  | false =>
    show 1 ≤ 2 ^ (s + 1) - 1
    have : 1 ≤ 2 ^ s := Nat.one_le_two_pow
    rw [Nat.pow_succ]; omega
theorem size_ok {st : List Int × Int × Int} {left : Bool} {most : Nat} (hst : Src st) (h1 : 1 ≤ most) (h2 : most ≤ 1000) : Ok (f_size st left (most : Int)) fun p => Src p.2 ∧ ∃ n s : Nat, p.1 = ((n : Int), (s : Int)) ∧ 1 ≤ n ∧ n ≤ most ∧ n ≤ capN s left ∧ 1 ≤ s ∧ s ≤ 8 := by
  unfold f_size
  refine ok_bind (draw_ok hst (by decide) (by decide)) fun p hp => ?_
  obtain ⟨r, st1⟩ := p
  obtain ⟨a1, a2, a3⟩ := hp
  simp only at a1 a2 a3
  show Ok (Option.bind (some (1 + r)) _) _
  rw [Option.bind_some]
  refine ok_bind (draw_ok a3 (by decide) (by decide)) fun p hp => ?_
  obtain ⟨r1, st2⟩ := p
  obtain ⟨b1, b2, b3⟩ := hp
  simp only at b1 b2 b3
  refine ok_bind (p := fun q : (List Int × Int × Int) × Int => Src q.1 ∧ ∃ s : Nat, q.2 = (s : Int) ∧ 1 ≤ s ∧ s ≤ 8) ?_ fun q hq => ?_
  · refine ok_iff (fun _ => ?_) fun _ => ok_some ⟨b3, (1 + r).toNat, by show 1 + r = _; omega, by omega, by omega⟩
    refine ok_bind (draw_ok b3 (by decide) (by decide)) fun p hp => ?_
    obtain ⟨r2, st3⟩ := p
    obtain ⟨c1, c2, c3⟩ := hp
    simp only at c1 c2 c3
    exact ok_some ⟨c3, (5 + r2).toNat, by show 5 + r2 = _; omega, by omega, by omega⟩
  · obtain ⟨st3, s'⟩ := q
    obtain ⟨q1, s, e, s1, s2⟩ := hq
    simp only at q1 e
    subst e
    show Ok (Option.bind (f_cap (s : Int) left) _) _
    rw [cap_ok (by omega) left, Option.bind_some]
    have hc := capN_pos (a := left) s1
    have em : imin (most : Int) (capN s left : Int) = ((min most (capN s left) : Nat) : Int) := by unfold imin; split <;> omega
    rw [em]
    refine ok_bind (draw_ok q1 (by omega) (by omega)) fun p hp => ?_
    obtain ⟨d, st4⟩ := p
    obtain ⟨d1, d2, d3⟩ := hp
    simp only at d1 d2 d3
    exact ok_some ⟨d3, (1 + d).toNat, s, by show (1 + d, (s : Int)) = _; rw [show ((1 + d).toNat : Int) = 1 + d by omega], by omega, by omega, by omega, s1, s2⟩
theorem ok_filS' {α β σ : Type} {f : σ → α → Option (Option β × σ)} {R : β → Prop} {J : σ → Prop} : ∀ (xs : List α) (s : σ), J s → (∀ x ∈ xs, ∀ s, J s → Ok (f s x) fun p => (∃ y, p.1 = some y ∧ R y) ∧ J p.2) → Ok (filS' f xs s) fun p => p.1.length = xs.length ∧ (∀ y ∈ p.1, R y) ∧ J p.2
  | [], s, h, _ => ok_some ⟨rfl, by simp, h⟩
  | x :: xs, s, h, k => by
    rw [filS']
    refine ok_bind (k x List.mem_cons_self s h) fun p hp => ?_
    obtain ⟨o, s1⟩ := p
    obtain ⟨⟨y, e, hy⟩, hs1⟩ := hp
    simp only at e hs1
    subst e
    refine ok_bind (ok_filS' xs s1 hs1 fun x hx => k x (List.mem_cons_of_mem _ hx)) fun p hp => ?_
    obtain ⟨h1, h2, h3⟩ := hp
    refine ok_some ⟨by simp [h1], fun z hz => ?_, h3⟩
    rcases List.mem_cons.mp hz with rfl | hz
    · exact hy
    · exact h2 z hz
theorem ok_filS {α β σ : Type} {f : σ → α → Option (Option β × σ)} {R : β → Prop} {J : σ → Prop} {xs : List α} {s : σ} (hl : xs.length ≤ sizeLine) (h : J s) (k : ∀ x ∈ xs, ∀ s, J s → Ok (f s x) fun p => (∃ y, p.1 = some y ∧ R y) ∧ J p.2) : Ok (filS f xs s) fun p => p.1.length = xs.length ∧ (∀ y ∈ p.1, R y) ∧ J p.2 := by
  unfold filS; rw [if_pos hl]; exact ok_filS' xs s h k
/-! ### the law -/
theorem dr {st : List Int × Int × Int} {m : Int} {β : Type} {f : Int × (List Int × Int × Int) → Option β} {p : β → Prop} (h : Src st) (hm : 0 < m) (h2 : m < 2 ^ 64) (k : ∀ r st', 0 ≤ r → r < m → Src st' → Ok (f (r, st')) p) : Ok (Option.bind (f_draw st m) f) p :=
  ok_bind (draw_ok h hm h2) fun q hq => k q.1 q.2 hq.1 hq.2.1 hq.2.2
theorem pick4 {a b c d : Int} {i : Int} (h1 : 0 ≤ i) (h2 : i < 4) : Ok (ixO [a, b, c, d] i) fun x => x = a ∨ x = b ∨ x = c ∨ x = d := by
  have : i = 0 ∨ i = 1 ∨ i = 2 ∨ i = 3 := by omega
  rcases this with rfl | rfl | rfl | rfl
  · exact ⟨a, rfl, .inl rfl⟩
  · exact ⟨b, rfl, .inr (.inl rfl)⟩
  · exact ⟨c, rfl, .inr (.inr (.inl rfl))⟩
  · exact ⟨d, rfl, .inr (.inr (.inr rfl))⟩
theorem any_ok {st : List Int × Int × Int} (h : Src st) : Ok (f_any_moves st) fun p => Src p.2 ∧ ∃ l, p.1 = l.map pq ∧ SmL l := by
  unfold f_any_moves
  rw [Option.bind_some]
  refine dr h (by decide) (by decide) fun r st1 a1 a2 a3 => ?_
  dsimp only
  rw [rngO_eq (by decide) (by decide) (by omega) (by omega), Option.bind_some]
  refine ok_bind (p := fun q : (List Int × Int × Int) × List Q => Src q.1 ∧ ∃ l : List (Option Mv), q.2 = l.map pq ∧ (∀ v ∈ l, Sm v) ∧ l.length = (rng 0 r).length) ?_ fun q hq => ?_
  · refine ok_forO (fun pre (q : (List Int × Int × Int) × List Q) => Src q.1 ∧ ∃ l : List (Option Mv), q.2 = l.map pq ∧ (∀ v ∈ l, Sm v) ∧ l.length = pre.length) ⟨a3, [], rfl, by simp, rfl⟩ fun pre x post q e hq => ?_
    obtain ⟨st2, q2⟩ := q
    obtain ⟨b1, l, rfl, b3, b4⟩ := hq
    simp only at b1
    refine dr b1 (by decide) (by decide) fun r2 st3 c1 c2 c3 => ?_
    dsimp only
    rw [powO_eq (by decide) (by decide) (by decide), Option.bind_some]
    refine dr c3 (by decide) (by decide) fun r3 st4 d1 d2 d3 => ?_
    refine dr d3 (by decide) (by decide) fun r4 st5 e1 e2 e3 => ?_
    have d2 : r3 < 10000 := d2
    refine ok_bind (pick4 e1 e2) fun x1 hx => ?_
    have hx' : 0 ≤ x1 ∧ x1 < 10000 := by omega
    obtain ⟨k, rfl⟩ := Int.eq_ofNat_of_zero_le hx'.1
    refine dr e3 (by decide) (by decide) fun r5 st6 g1 g2 g3 => ?_
    dsimp only
    rw [modO_eq (by decide), Option.bind_some]
    have m1 := Int.emod_nonneg r5 (b := 3) (by decide)
    have m2 := Int.emod_lt_of_pos r5 (b := 3) (by decide)
    have hl : (l.map pq).length < sizeLine := by
      have h1 := congrArg List.length e
      rw [rng_length, List.length_append, List.length_cons] at h1
      rw [List.length_map, sz]; omega
    have pk : ∃ v : Option Mv, ixO [(Q.tup [(Q.str ("lay" : Str)), (Q.int (k : Int))]), (Q.tup [(Q.str ("clear" : Str)), (Q.int (k : Int))]), (Q.tup [(Q.str ("show" : Str))])] (r5 % 3) = some (pq v) ∧ Sm v := by
      have : r5 % 3 = 0 ∨ r5 % 3 = 1 ∨ r5 % 3 = 2 := by omega
      rcases this with h | h | h
      · exact ⟨some ⟨true, k⟩, by rw [h]; rfl, by show k < 10 ^ 4; omega⟩
      · exact ⟨some ⟨false, k⟩, by rw [h]; rfl, by show k < 10 ^ 4; omega⟩
      · exact ⟨none, by rw [h]; rfl, trivial⟩
    obtain ⟨v, e5, hv⟩ := pk
    show Ok (Option.bind (ixO [(Q.tup [(Q.str ("lay" : Str)), (Q.int (k : Int))]), (Q.tup [(Q.str ("clear" : Str)), (Q.int (k : Int))]), (Q.tup [(Q.str ("show" : Str))])] (r5 % 3)) _) _
    rw [e5, Option.bind_some, appO_eq hl, Option.bind_some]
    refine ok_some ⟨g3, l ++ [v], by simp, fun w hw => ?_, by simp [b4]⟩
    rcases List.mem_append.mp hw with hw | hw
    · exact b3 w hw
    · rw [List.mem_singleton.mp hw]; exact hv
  · obtain ⟨st2, q2⟩ := q
    obtain ⟨b1, l, rfl, b3, b4⟩ := hq
    rw [rng_length] at b4
    exact ok_some ⟨b1, l, rfl, b3, by omega⟩
theorem good_small {n s : Nat} : ∀ {w : List (Option Mv)} {A B : List Nat}, RunsO n s A w B → ∀ v ∈ w, match v with
    | none => True
    | some v => v.k ≤ n
  | [], _, _, _, v, hv => by simp at hv
  | none :: w, A, B, r, v, hv => by
    rcases List.mem_cons.mp hv with rfl | hv
    · trivial
    · exact good_small (w := w) r v hv
  | some u :: w, A, B, r, v, hv => by
    rcases List.mem_cons.mp hv with rfl | hv
    · exact r.1.2.1
    · exact good_small r.2 v hv
theorem law_true (ns : List Int) : f_law ns = some true := by
  refine ok_is ?_
  unfold f_law
  refine ok_bind (any_ok (st := (ns, 0, 0)) ⟨by show (0 : Int) ≤ 0; decide, by show (0 : Int) ≤ 0; decide⟩) fun p hp => ?_
  obtain ⟨r, st1⟩ := p
  obtain ⟨a1, l, rfl, hl⟩ := hp
  simp only at a1
  refine dr a1 (by decide) (by decide) fun r1 st2 _ _ a3 => ?_
  show Ok (Option.bind (some (decide (r1 = 1))) _) _
  rw [Option.bind_some]
  generalize decide (r1 = 1) = left
  refine ok_bind (size_ok (most := 10) a3 (by decide) (by decide)) fun p hp => ?_
  obtain ⟨ns', st3⟩ := p
  obtain ⟨c1, n, s, rfl, n1, n2, n3, s1, s2⟩ := hp
  simp only at c1
  refine ok_bind (plan_ok c1 n1 n3 (by omega) (by omega)) fun p hp => ?_
  obtain ⟨r4, st4⟩ := p
  obtain ⟨d1, pl, e4, hP⟩ := hp
  obtain ⟨B, hB⟩ := hP.run
  simp only at d1 e4
  subst e4
  have hpl : SmL (pl.take 1000) := by
    refine ⟨fun v hv => ?_, by rw [List.length_take]; omega⟩
    have := (good_small hB) v (List.mem_of_mem_take hv)
    match v, this with
    | none, _ => trivial
    | some v, h => show v.k < 10 ^ 4; have : v.k ≤ n := h; omega
  have e0 : SmL [] := ⟨by simp, by simp⟩
  have ec : cutL (pl.map pq) none (some 1000) = (pl.take 1000).map pq := by rw [cut_hi (by decide), ← List.map_take]; rfl
  have en : f_both_ways ([] : List Q) = some true := both_ok e0
  show Ok (Option.bind (f_both_ways (l.map pq)) _) _
  rw [both_ok hl, Option.bind_some]
  simp only [if_true, ec, both_ok hpl, en, both_ok hl, Option.bind_some]
  exact ok_some rfl
set_option maxHeartbeats 0
theorem law_call (ns : List Int) : ∃ o, callN (tabOf ds) fu 110 ("law", none) [(false, .scr ns)] = some (.ok (.bl true) o) := by
  have h := ok_law 82 ns true (law_true ns)
  exact ⟨_, h⟩
abbrev RW0 := PySem.Challenge.rw_nolitter_k54_plans_as_texts
def fn : List He.DefD := ds.map (·.d)
def fas : List (List He.Fa) := [fnN.map He.Fa.glo, ckN.map He.Fa.glo, ckN.map He.Fa.cls, ckN.map He.Fa.mkr, attN.map (fun p => He.Fa.noat p.1 p.2), mtN.map (fun p => He.Fa.meth p.1 p.2), bltNames.map He.Fa.free, conI.map (fun p => He.Fa.int p.1 p.2), conS.map (fun p => He.Fa.str p.1 p.2), dtN.map (fun p => He.Fa.glo p.1)]
def fa : List He.Fa := fas.flatten
def loose : List Str := [("__name__" : Str), ("LitterError" : Str), ("BadText" : Str), ("__name__" : Str), ("SIGNS" : Str), ("WORDS" : Str), ("FIGURES" : Str), ("MOST_FIGURES" : Str), ("move_word" : Str), ("show_plan" : Str), ("mark_of" : Str), ("move_of" : Str), ("read_plan" : Str), ("__name__" : Str), ("_law_draw" : Str), ("_law_cap" : Str), ("_law_turned" : Str), ("_law_way" : Str), ("_law_moves" : Str), ("_law_behind" : Str), ("_law_detoured" : Str), ("_law_plan" : Str), ("_law_size" : Str), ("_law_kinds" : Str), ("_law_any_moves" : Str), ("_law_word" : Str), ("_law_both_ways" : Str)]
abbrev RO : PySem.W.OpenRow := PySem.W.OpenLaw.row RW0
abbrev hk : PySem.W.Hook := He.hookX 6 fa fn (tabsOf dtN) [] (exOf dtN)
def ob (s : PySem.W.SharedT) : He.AlX := He.obsX 6 fa fn (tabsOf dtN) [] (exOf dtN) (HandSHeadRun.getT s)
theorem ob_eq (s : PySem.W.SharedT) : ob s = hk.obs s.abs := He.obsX_eq (HandSHeadRun.getT_eq s)
theorem runF (w : World) : HandSHeadRun.RunEq RO (PySem.W.view RO.prog [27]) hk ob 4000 loose (w.withFollow "special-get-raises" false) := by
  intro os
  kernel_rfl
theorem runT (w : World) : HandSHeadRun.RunEq RO (PySem.W.view RO.prog [27]) hk ob 4000 loose (w.withFollow "special-get-raises" true) := by
  intro os
  kernel_rfl
theorem run (w : World) : HandSHeadRun.RunEq RO (PySem.W.view RO.prog [27]) hk ob 4000 loose w := PySem.W.byRow2 "special-get-raises" runF runT w
theorem in_fa {l : List He.Fa} (h : l ∈ fas) {f : He.Fa} (hf : f ∈ l) : f ∈ fa := List.mem_flatten.mpr ⟨l, h, hf⟩
theorem fa_glo {f : Str} (h : f ∈ fnN) : He.Fa.glo f ∈ fa := in_fa (by simp [fas]) (List.mem_map_of_mem h)
theorem fa_ck {f : Str} (h : f ∈ ckN) : He.Fa.glo f ∈ fa := in_fa (l := ckN.map He.Fa.glo) (by simp [fas]) (List.mem_map_of_mem h)
theorem fa_cls {f : Str} (h : f ∈ ckN) : He.Fa.cls f ∈ fa := in_fa (l := ckN.map He.Fa.cls) (by simp [fas]) (List.mem_map_of_mem h)
theorem fa_mkr {f : Str} (h : f ∈ ckN) : He.Fa.mkr f ∈ fa := in_fa (l := ckN.map He.Fa.mkr) (by simp [fas]) (List.mem_map_of_mem h)
theorem fa_noat {C f : Str} (h : (C, f) ∈ attN) : He.Fa.noat C f ∈ fa := in_fa (l := attN.map (fun p => He.Fa.noat p.1 p.2)) (by simp [fas]) (List.mem_map_of_mem (f := fun p : Str × Str => He.Fa.noat p.1 p.2) h)
theorem fa_meth {C f : Str} (h : (C, f) ∈ mtN) : He.Fa.meth C f ∈ fa := in_fa (l := mtN.map (fun p => He.Fa.meth p.1 p.2)) (by simp [fas]) (List.mem_map_of_mem (f := fun p : Str × Str => He.Fa.meth p.1 p.2) h)
theorem fa_free {x : Str} (h : x ∈ bltNames) : He.Fa.free x ∈ fa := in_fa (l := bltNames.map He.Fa.free) (by simp [fas]) (List.mem_map_of_mem h)
theorem fa_int {x : Str} {i : Int} (h : (x, i) ∈ conI) : He.Fa.int x i ∈ fa := in_fa (l := conI.map (fun p => He.Fa.int p.1 p.2)) (by simp [fas]) (List.mem_map_of_mem (f := fun p : Str × Int => He.Fa.int p.1 p.2) h)
theorem fa_str {x z : Str} (h : (x, z) ∈ conS) : He.Fa.str x z ∈ fa := in_fa (l := conS.map (fun p => He.Fa.str p.1 p.2)) (by simp [fas]) (List.mem_map_of_mem (f := fun p : Str × Str => He.Fa.str p.1 p.2) h)
theorem fa_dt : ∀ p ∈ dtN, He.Fa.glo p.1 ∈ fa := fun p h => in_fa (l := dtN.map (fun p => He.Fa.glo p.1)) (by simp [fas]) (List.mem_map_of_mem (f := fun p : Str × List (Str × Str) => He.Fa.glo p.1) h)
theorem att_all : attN.all (fun p => ckN.contains p.1) = true := by decide +kernel
theorem mt_all : mtN.all (fun p => ckN.contains p.1 && (tabOf ds (p.1, some p.2)).isSome) = true := by decide +kernel
theorem fv_all : fvN.all (fun f => fnN.contains f) = true := by decide +kernel
theorem ck_all : ckN.all (fun C => (tabOf ds (C, some "__init__")).isSome) = true := by decide +kernel
theorem fn_all : fnN.all (fun f => (tabOf ds (f, none)).isSome) = true := by decide +kernel
theorem dk_ok (C : Str) (dv : D) (e : P.dk C = some dv) (d : Df P) (hd : tabOf ds (C, some "__init__") = some d) : dv ∈ d.dv := by
  have e : glF dkL [] C = some dv := e
  rcases glF_ok e with ⟨i, rfl, hm⟩ | ⟨z, rfl, hm⟩
  · simp only [dkL, List.mem_cons, Prod.mk.injEq, List.not_mem_nil, or_false] at hm
  · exact absurd hm List.not_mem_nil
theorem pg {w : World} {K : PySem.W.Frag} {h : Heap} {mg : Str → Option Value} (X : K.In h) (G : h.Ns mainGlobals mg) (c : He.SaysX fa fn (tabsOf dtN) [] (exOf dtN) w h K) : PgOk P (tabOf ds) K mg w :=
  pg_ofC X G c.t.d rfl dok_all (fun x d e => by
      rcases glX_ok e with ⟨i, rfl, hm⟩ | ⟨z, rfl, hm⟩ | ⟨rfl, hm⟩
      · exact .inl ⟨i, rfl, fa_int hm⟩
      · exact .inr (.inl ⟨z, rfl, fa_str hm⟩)
      · exact .inr (.inr ⟨rfl, fa_glo (List.contains_iff_mem.mp (List.all_eq_true.mp fv_all _ hm))⟩))
    (fun C f hf => by
      have hm : (C, f) ∈ attN := List.contains_iff_mem.mp hf
      have hc : C ∈ ckN := List.contains_iff_mem.mp (List.all_eq_true.mp att_all _ hm)
      exact ⟨fa_ck hc, fa_cls hc, fa_noat hm⟩)
    (fun C m hf => by
      have hm : (C, m) ∈ mtN := List.contains_iff_mem.mp hf
      have hq := Bool.and_eq_true_iff.mp (List.all_eq_true.mp mt_all _ hm)
      have hc : C ∈ ckN := List.contains_iff_mem.mp hq.1
      exact ⟨fa_ck hc, fa_cls hc, fa_meth hm, hq.2⟩)
    (fun C hf => by
      have hc : C ∈ ckN := List.contains_iff_mem.mp hf
      exact ⟨fa_ck hc, fa_mkr hc, List.all_eq_true.mp ck_all _ hc⟩)
    dk_ok
    (fun f hf => by
      have hm : f ∈ fnN := List.contains_iff_mem.mp hf
      exact ⟨fa_glo hm, List.all_eq_true.mp fn_all f hm⟩)
    (fun x hx => fa_free hx)
    (fun x kvs e => dts_of X G c.t c.more fa_dt x kvs e)
end LawP
end
open PySem PySem.W PySem.Calls PyProof.Rows
set_option maxRecDepth 100000 in
set_option maxHeartbeats 0 in
theorem PySem.Challenge.cw_nolitter_k54_plans_as_texts_holds : PySem.Challenge.rw_nolitter_k54_plans_as_texts.Holds := by
  w_on; o_law
  refine HandSHeadRun.head_any (r := OpenLaw.row LawP.RW0) (q := view (OpenLaw.row LawP.RW0).prog [27]) (H := LawP.hk) (ob := LawP.ob) (M := 4000) (loose := LawP.loose) (d := HandSHeadRun.topDef (OpenLaw.row LawP.RW0).prog 27) (kwd := []) LawP.ob_eq
    (by kernel_rfl) (fun s => by kernel_rfl) LawP.run (by kernel_rfl) (by kernel_rfl) (by kernel_rfl) (by rfl) (by first | assumption | decide +kernel) (by decide +kernel) ⟨rfl, rfl, rfl, rfl, rfl, by decide +kernel⟩ ?hw ?hc
  case hw => w_witness2
  case hc =>
    exact Ev.walkW (row := LawP.RW0) (nn := 63) (kk := 220) (j := 110) (x := "_law_script") rfl (by decide) (by kernel_rfl) ⟨rfl, by decide, by decide⟩ rfl (by kernel_rfl) (SD := fun w h K => He.SaysX LawP.fa LawP.fn (Ev.tabsOf LawP.dtN) [] (Ev.exOf LawP.dtN) w h K) (fun w K h mg X G c => LawP.pg X G c) rfl rfl rfl rfl LawP.law_call
