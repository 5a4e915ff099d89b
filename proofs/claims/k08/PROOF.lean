import PyProof.Rows.All
import Wide.All
import OpenK.AllK
import Wide.FinOn
import HandS.ForMost
import HandS.Exc
import HandS.IsInst
import HandS.Conv
import HandS.TupAny
import HandS.WideBits
import HandS.Wide
import HandS.SortInts
import HandS.More
import HandS.Deep
import HandS.Style
import HandS.TupLe
import HandS.HeadWalk
import HandS.ExcOwn
import HandS.NoneIn
import HandS.Defaults
import HandS.HeadHook1
import HandS.HeadHook2
import HandS.Rev
import HandS.RevTup
import HandS.Zip
import HandS.Iter
import HandS.Ends
import HandS.HeadEnd
import HandS.HeadHook4
import HandS.Head0
import HandS.Head1
import HandS.Head2
import HandS.Text
import HandS.TupMul
import PyProof.StrOps2
import HandS.Words
import HandS.WordsExc
import PySem.Challenge.RW_nolitter_k08_rounds_written_out
set_option Elab.async false
set_option linter.all false
section
set_option maxRecDepth 100000
namespace Ev
open PySem L2

/-- data as trees: o tells whether a container is owned (may be changed) or shared -/
inductive D where
  | non | bl (b : Bool) | int (i : Int) | str (x : Str)
  | tup (xs : List D)
  | lst (o : Bool) (xs : List D)
  | dic (o : Bool) (ks : List Key) (xs : List D)
  | ins (o : Bool) (C : Str) (fs : List Str) (xs : List D)
  | fn (f : Str)
  | ty (n : String)
  | scr (xs : List Int)

mutual
def frz : D → D
  | .tup xs => .tup (frzs xs)
  | .lst _ xs => .lst false (frzs xs)
  | .dic _ ks xs => .dic false ks (frzs xs)
  | .ins _ C fs xs => .ins false C fs (frzs xs)
  | .non => .non
  | .bl b => .bl b
  | .int i => .int i
  | .str x => .str x
  | .fn f => .fn f
  | .ty f => .ty f
  | .scr xs => .scr xs
def frzs : List D → List D
  | [] => []
  | d :: r => frz d :: frzs r
end
mutual
def isF : D → Bool
  | .tup xs => isFs xs
  | .lst o xs => !o && isFs xs
  | .dic o ks xs => !o && isFs xs
  | .ins o C fs xs => !o && isFs xs
  | .non => true
  | .bl _ => true
  | .int _ => true
  | .str _ => true
  | .fn _ => true
  | .ty _ => true
  | .scr _ => true
def isFs : List D → Bool
  | [] => true
  | d :: r => isF d && isFs r
end

section
variable (K : PySem.W.Frag) (mg : Str → Option Value)
mutual
/-- the value v stands for the tree d: what is owned stands in H at the cells c, in the tree's order; what is shared stands in F -/
def Rp (H F : Hp) : D → V → List Addr → Prop
  | .non, v, c => v = .non ∧ c = []
  | .bl b, v, c => v = .bl b ∧ c = []
  | .int i, v, c => v = .int i ∧ c = []
  | .str x, v, c => v = .str x ∧ c = []
  | .fn f, v, c => (∃ a, v = .ref a ∧ mg f = some (.ref a)) ∧ c = []
  | .ty n, v, c => v = .ty n ∧ c = []
  | .scr xs, v, c => ∃ a, v = .ref a ∧ SqL K F a (xs.map V.int) ∧ c = []
  | .tup xs, v, c => ∃ a vs, v = .ref a ∧ SqT K F a vs ∧ Rps H F xs vs c
  | .lst true xs, v, c => ∃ a vs c', v = .ref a ∧ H a = some (.lst vs) ∧ Rps H F xs vs c' ∧ c = a :: c'
  | .lst false xs, v, c => ∃ a vs, v = .ref a ∧ Rd F a (.lst vs) ∧ Rps H F xs vs c
  | .dic true ks xs, v, c => ∃ a vs c', v = .ref a ∧ ks.length = xs.length ∧ ks.Nodup ∧ H a = some (.dK (ks.zip vs)) ∧ Rps H F xs vs c' ∧ c = a :: c'
  | .dic false ks xs, v, c => ∃ a vs, v = .ref a ∧ ks.length = xs.length ∧ ks.Nodup ∧ F a = some (.dK (ks.zip vs)) ∧ Rps H F xs vs c
  | .ins true C fs xs, v, c => ∃ a A dx vs c', v = .ref a ∧ mg C = some (.ref A) ∧ fs.length = xs.length ∧ H a = some (.ins A dx (fs.zip vs)) ∧ Rps H F xs vs c' ∧ c = a :: c'
  | .ins false C fs xs, v, c => ∃ a A dx vs, v = .ref a ∧ mg C = some (.ref A) ∧ fs.length = xs.length ∧ F a = some (.ins A dx (fs.zip vs)) ∧ Rps H F xs vs c
def Rps (H F : Hp) : List D → List V → List Addr → Prop
  | [], vs, c => vs = [] ∧ c = []
  | d :: r, vs, c => ∃ v w c1 c2, vs = v :: w ∧ c = c1 ++ c2 ∧ Rp H F d v c1 ∧ Rps H F r w c2
end
/-- the slots' trees: cs the cells slot by slot -/
def SR (H F : Hp) : List (Option D) → St → List Addr → Prop
  | [], σ, c => σ = [] ∧ c = []
  | none :: t, σ, c => ∃ v w, σ = v :: w ∧ SR H F t w c
  | some d :: t, σ, c => ∃ v w c1 c2, σ = some v :: w ∧ c.Perm (c1 ++ c2) ∧ Rp K mg H F d v c1 ∧ SR H F t w c2
end
def Le (F F' : Hp) : Prop := ∀ a o, F a = some o → F' a = some o
theorem Le.refl (F : Hp) : Le F F := fun _ _ h => h
theorem Le.trans {F G I : Hp} (h : Le F G) (k : Le G I) : Le F I := fun a o e => k a o (h a o e)
/-- the shared part lies in the heap; the cells are unlike, tracked, and not shared -/
structure Good (H F : Hp) (c : List Addr) : Prop where
  sub : Le F H
  nd : c.Nodup
  own : ∀ a ∈ c, F a = none ∧ ∃ o, H a = some o

section
variable {K : PySem.W.Frag} {mg : Str → Option Value} {H F H' F' : Hp}
theorem Good.sublist {c c' : List Addr} (g : Good H F c) (s : c'.Sublist c) : Good H F c' := ⟨g.sub, s.nodup g.nd, fun a h => g.own a (s.subset h)⟩
theorem Good.perm {c c' : List Addr} (g : Good H F c) (s : c'.Perm c) : Good H F c' := ⟨g.sub, s.nodup_iff.mpr g.nd, fun a h => g.own a (s.subset h)⟩
theorem Good.nil (h : Le F H) : Good H F [] := ⟨h, List.nodup_nil, fun _ h => by simp at h⟩
theorem Good.fresh {c : List Addr} (g : Good H F c) {p : Addr} (h : H p = none) : F p = none ∧ p ∉ c := by
  refine ⟨?_, fun hp => ?_⟩
  · cases e : F p with
    | none => rfl
    | some o => rw [g.sub p o e] at h; cases h
  · obtain ⟨_, o, e⟩ := g.own p hp
    rw [e] at h; cases h
theorem Le.rd {a : Addr} {u : HO} (l : Le F F') (h : Rd F a u) : Rd F' a u := by
  rcases h with h | ⟨o, h⟩
  · exact .inl (l a _ h)
  · exact .inr ⟨o, l a _ h⟩
theorem Le.sqL {a : Addr} {xs : List V} (l : Le F F') (h : SqL K F a xs) : SqL K F' a xs := by
  rcases h with h | h
  · exact .inl (l.rd h)
  · exact .inr h
theorem Le.sqT {a : Addr} {xs : List V} (l : Le F F') (h : SqT K F a xs) : SqT K F' a xs := by
  rcases h with h | h
  · exact .inl (l.rd h)
  · exact .inr h
mutual
theorem Rp.keep (l : Le F F') : ∀ (d : D) (v : V) (c : List Addr), Rp K mg H F d v c → (∀ a ∈ c, H' a = H a) → Rp K mg H' F' d v c
  | .non, v, c, h, _ => by simpa only [Rp] using h
  | .bl _, v, c, h, _ => by simpa only [Rp] using h
  | .int _, v, c, h, _ => by simpa only [Rp] using h
  | .str _, v, c, h, _ => by simpa only [Rp] using h
  | .fn _, v, c, h, _ => by simpa only [Rp] using h
  | .ty _, v, c, h, _ => by simpa only [Rp] using h
  | .scr xs, v, c, h, _ => by
    simp only [Rp] at h ⊢
    obtain ⟨a, e, q, r⟩ := h
    exact ⟨a, e, l.sqL q, r⟩
  | .tup xs, v, c, h, k => by
    simp only [Rp] at h ⊢
    obtain ⟨a, vs, e, q, r⟩ := h
    exact ⟨a, vs, e, l.sqT q, Rps.keep l xs vs c r k⟩
  | .lst true xs, v, c, h, k => by
    simp only [Rp] at h ⊢
    obtain ⟨a, vs, c', e, q, r, rfl⟩ := h
    exact ⟨a, vs, c', e, (k a (by simp)).trans q, Rps.keep l xs vs c' r fun b hb => k b (by simp [hb]), rfl⟩
  | .lst false xs, v, c, h, k => by
    simp only [Rp] at h ⊢
    obtain ⟨a, vs, e, q, r⟩ := h
    exact ⟨a, vs, e, l.rd q, Rps.keep l xs vs c r k⟩
  | .dic true ks xs, v, c, h, k => by
    simp only [Rp] at h ⊢
    obtain ⟨a, vs, c', e, n1, n2, q, r, rfl⟩ := h
    exact ⟨a, vs, c', e, n1, n2, (k a (by simp)).trans q, Rps.keep l xs vs c' r fun b hb => k b (by simp [hb]), rfl⟩
  | .dic false ks xs, v, c, h, k => by
    simp only [Rp] at h ⊢
    obtain ⟨a, vs, e, n1, n2, q, r⟩ := h
    exact ⟨a, vs, e, n1, n2, l _ _ q, Rps.keep l xs vs c r k⟩
  | .ins true C fs xs, v, c, h, k => by
    simp only [Rp] at h ⊢
    obtain ⟨a, A, dx, vs, c', e, n1, n2, q, r, rfl⟩ := h
    exact ⟨a, A, dx, vs, c', e, n1, n2, (k a (by simp)).trans q, Rps.keep l xs vs c' r fun b hb => k b (by simp [hb]), rfl⟩
  | .ins false C fs xs, v, c, h, k => by
    simp only [Rp] at h ⊢
    obtain ⟨a, A, dx, vs, e, n1, n2, q, r⟩ := h
    exact ⟨a, A, dx, vs, e, n1, n2, l _ _ q, Rps.keep l xs vs c r k⟩
theorem Rps.keep (l : Le F F') : ∀ (ds : List D) (vs : List V) (c : List Addr), Rps K mg H F ds vs c → (∀ a ∈ c, H' a = H a) → Rps K mg H' F' ds vs c
  | [], vs, c, h, _ => by simpa only [Rps] using h
  | d :: r, vs, c, h, k => by
    simp only [Rps] at h ⊢
    obtain ⟨v, w, c1, c2, e, rfl, h1, h2⟩ := h
    exact ⟨v, w, c1, c2, e, rfl, Rp.keep l d v c1 h1 fun a ha => k a (by simp [ha]), Rps.keep l r w c2 h2 fun a ha => k a (by simp [ha])⟩
end
mutual
theorem Rp.nocell : ∀ (d : D) (v : V) (c : List Addr), Rp K mg H F d v c → isF d = true → c = []
  | .non, v, c, h, _ => by simp only [Rp] at h; exact h.2
  | .bl _, v, c, h, _ => by simp only [Rp] at h; exact h.2
  | .int _, v, c, h, _ => by simp only [Rp] at h; exact h.2
  | .str _, v, c, h, _ => by simp only [Rp] at h; exact h.2
  | .fn _, v, c, h, _ => by simp only [Rp] at h; exact h.2
  | .ty _, v, c, h, _ => by simp only [Rp] at h; exact h.2
  | .scr _, v, c, h, _ => by simp only [Rp] at h; obtain ⟨_, _, _, h⟩ := h; exact h
  | .tup xs, v, c, h, k => by
    simp only [Rp] at h
    obtain ⟨a, vs, e, q, r⟩ := h
    exact Rps.nocell xs vs c r (by simpa only [isF] using k)
  | .lst true xs, v, c, h, k => by simp [isF] at k
  | .lst false xs, v, c, h, k => by
    simp only [Rp] at h
    obtain ⟨a, vs, e, q, r⟩ := h
    exact Rps.nocell xs vs c r (by simpa [isF] using k)
  | .dic true ks xs, v, c, h, k => by simp [isF] at k
  | .dic false ks xs, v, c, h, k => by
    simp only [Rp] at h
    obtain ⟨a, vs, e, n1, n2, q, r⟩ := h
    exact Rps.nocell xs vs c r (by simpa [isF] using k)
  | .ins true C fs xs, v, c, h, k => by simp [isF] at k
  | .ins false C fs xs, v, c, h, k => by
    simp only [Rp] at h
    obtain ⟨a, A, dx, vs, e, n1, n2, q, r⟩ := h
    exact Rps.nocell xs vs c r (by simpa [isF] using k)
theorem Rps.nocell : ∀ (ds : List D) (vs : List V) (c : List Addr), Rps K mg H F ds vs c → isFs ds = true → c = []
  | [], vs, c, h, _ => by simp only [Rps] at h; exact h.2
  | d :: r, vs, c, h, k => by
    simp only [Rps] at h
    obtain ⟨v, w, c1, c2, e, rfl, h1, h2⟩ := h
    obtain ⟨k1, k2⟩ := Bool.and_eq_true_iff.mp (show (isF d && isFs r) = true by simpa only [isFs] using k)
    rw [Rp.nocell d v c1 h1 k1, Rps.nocell r w c2 h2 k2]; rfl
end
mutual
theorem frz_isF : ∀ (d : D), isF d = true → frz d = d
  | .non, _ => rfl
  | .bl _, _ => rfl
  | .int _, _ => rfl
  | .str _, _ => rfl
  | .fn _, _ => rfl
  | .ty _, _ => rfl
  | .scr _, _ => rfl
  | .tup xs, k => by simp only [frz]; rw [frzs_isF xs (by simpa only [isF] using k)]
  | .lst o xs, k => by
    simp [isF] at k
    simp only [frz]; rw [frzs_isF xs k.2, k.1]
  | .dic o ks xs, k => by
    simp [isF] at k
    simp only [frz]; rw [frzs_isF xs k.2, k.1]
  | .ins o C fs xs, k => by
    simp [isF] at k
    simp only [frz]; rw [frzs_isF xs k.2, k.1]
theorem frzs_isF : ∀ (ds : List D), isFs ds = true → frzs ds = ds
  | [], _ => rfl
  | d :: r, k => by
    obtain ⟨k1, k2⟩ := Bool.and_eq_true_iff.mp (show (isF d && isFs r) = true by simpa only [isFs] using k)
    simp only [frzs]; rw [frz_isF d k1, frzs_isF r k2]
end
mutual
theorem isF_frz : ∀ (d : D), isF (frz d) = true
  | .non => rfl
  | .bl _ => rfl
  | .int _ => rfl
  | .str _ => rfl
  | .fn _ => rfl
  | .ty _ => rfl
  | .scr _ => rfl
  | .tup xs => by simp only [frz, isF]; exact isFs_frzs xs
  | .lst o xs => by simp only [frz, isF]; rw [isFs_frzs xs]; rfl
  | .dic o ks xs => by simp only [frz, isF]; rw [isFs_frzs xs]; rfl
  | .ins o C fs xs => by simp only [frz, isF]; rw [isFs_frzs xs]; rfl
theorem isFs_frzs : ∀ (ds : List D), isFs (frzs ds) = true
  | [] => rfl
  | d :: r => by simp only [frzs, isFs]; rw [isF_frz d, isFs_frzs r]; rfl
end
theorem frzs_len : ∀ ds : List D, (frzs ds).length = ds.length
  | [] => rfl
  | d :: r => by simp only [frzs, List.length_cons, frzs_len r]
/-- the cells c of H become shared -/
def join (F H : Hp) (c : List Addr) : Hp := fun a => if a ∈ c then H a else F a
theorem join_in {c : List Addr} {a : Addr} (h : a ∈ c) : join F H c a = H a := if_pos h
theorem join_out {c : List Addr} {a : Addr} (h : a ∉ c) : join F H c a = F a := if_neg h
theorem join_le {c : List Addr} (h : ∀ a ∈ c, F a = none) : Le F (join F H c) := fun a o e => by
  by_cases k : a ∈ c
  · rw [h a k] at e; cases e
  · rw [join_out k]; exact e
theorem join_sub {c : List Addr} (h : Le F H) : Le (join F H c) H := fun a o e => by
  by_cases k : a ∈ c
  · rw [join_in k] at e; exact e
  · rw [join_out k] at e; exact h a o e
theorem Good.join {c c' : List Addr} (g : Good H F (c ++ c')) : Good H (join F H c) c' := by
  have nd := List.nodup_append.mp g.nd
  refine ⟨join_sub g.sub, nd.2.1, fun a h => ⟨?_, (g.own a (by simp [h])).2⟩⟩
  rw [join_out (fun k => nd.2.2 a k a h rfl)]
  exact (g.own a (by simp [h])).1
theorem Good.le_join {c c' : List Addr} (g : Good H F (c ++ c')) : Le F (Ev.join F H c) := join_le fun a h => (g.own a (by simp [h])).1
mutual
theorem Rp.frz {G : Hp} (l : Le F G) : ∀ (d : D) (v : V) (c : List Addr), Rp K mg H F d v c → (∀ a ∈ c, G a = H a) → Rp K mg H G (frz d) v []
  | .non, v, c, h, _ => by simp only [Ev.frz, Rp] at h ⊢; exact ⟨h.1, trivial⟩
  | .bl _, v, c, h, _ => by simp only [Ev.frz, Rp] at h ⊢; exact ⟨h.1, trivial⟩
  | .int _, v, c, h, _ => by simp only [Ev.frz, Rp] at h ⊢; exact ⟨h.1, trivial⟩
  | .str _, v, c, h, _ => by simp only [Ev.frz, Rp] at h ⊢; exact ⟨h.1, trivial⟩
  | .fn _, v, c, h, _ => by simp only [Ev.frz, Rp] at h ⊢; exact ⟨h.1, trivial⟩
  | .ty _, v, c, h, _ => by simp only [Ev.frz, Rp] at h ⊢; exact ⟨h.1, trivial⟩
  | .scr xs, v, c, h, _ => by
    simp only [Ev.frz, Rp] at h ⊢
    obtain ⟨a, e, q, r⟩ := h
    exact ⟨a, e, l.sqL q, trivial⟩
  | .tup xs, v, c, h, k => by
    simp only [Ev.frz, Rp] at h ⊢
    obtain ⟨a, vs, e, q, r⟩ := h
    exact ⟨a, vs, e, l.sqT q, Rps.frz l xs vs c r k⟩
  | .lst true xs, v, c, h, k => by
    simp only [Ev.frz, Rp] at h ⊢
    obtain ⟨a, vs, c', e, q, r, rfl⟩ := h
    exact ⟨a, vs, e, Rd.of ((k a (by simp)).trans q), Rps.frz l xs vs c' r fun b hb => k b (by simp [hb])⟩
  | .lst false xs, v, c, h, k => by
    simp only [Ev.frz, Rp] at h ⊢
    obtain ⟨a, vs, e, q, r⟩ := h
    exact ⟨a, vs, e, l.rd q, Rps.frz l xs vs c r k⟩
  | .dic true ks xs, v, c, h, k => by
    simp only [Ev.frz, Rp] at h ⊢
    obtain ⟨a, vs, c', e, n1, n2, q, r, rfl⟩ := h
    exact ⟨a, vs, e, by rw [frzs_len]; exact n1, n2, (k a (by simp)).trans q, Rps.frz l xs vs c' r fun b hb => k b (by simp [hb])⟩
  | .dic false ks xs, v, c, h, k => by
    simp only [Ev.frz, Rp] at h ⊢
    obtain ⟨a, vs, e, n1, n2, q, r⟩ := h
    exact ⟨a, vs, e, by rw [frzs_len]; exact n1, n2, l _ _ q, Rps.frz l xs vs c r k⟩
  | .ins true C fs xs, v, c, h, k => by
    simp only [Ev.frz, Rp] at h ⊢
    obtain ⟨a, A, dx, vs, c', e, n1, n2, q, r, rfl⟩ := h
    exact ⟨a, A, dx, vs, e, n1, by rw [frzs_len]; exact n2, (k a (by simp)).trans q, Rps.frz l xs vs c' r fun b hb => k b (by simp [hb])⟩
  | .ins false C fs xs, v, c, h, k => by
    simp only [Ev.frz, Rp] at h ⊢
    obtain ⟨a, A, dx, vs, e, n1, n2, q, r⟩ := h
    exact ⟨a, A, dx, vs, e, n1, by rw [frzs_len]; exact n2, l _ _ q, Rps.frz l xs vs c r k⟩
theorem Rps.frz {G : Hp} (l : Le F G) : ∀ (ds : List D) (vs : List V) (c : List Addr), Rps K mg H F ds vs c → (∀ a ∈ c, G a = H a) → Rps K mg H G (frzs ds) vs []
  | [], vs, c, h, _ => by simp only [Ev.frzs, Rps] at h ⊢; exact ⟨h.1, trivial⟩
  | d :: r, vs, c, h, k => by
    simp only [Ev.frzs, Rps] at h ⊢
    obtain ⟨v, w, c1, c2, e, rfl, h1, h2⟩ := h
    exact ⟨v, w, [], [], e, rfl, Rp.frz l d v c1 h1 fun a ha => k a (by simp [ha]), Rps.frz l r w c2 h2 fun a ha => k a (by simp [ha])⟩
end
end
end Ev
end
section
set_option maxRecDepth 100000
namespace Ev
open PySem PySem.Spec L2

/-! ### slots -/
abbrev Tr := List (Option D)
section
variable {K : PySem.W.Frag} {mg : Str → Option Value} {H F H' F' : Hp}
theorem SR.perm : ∀ {t : Tr} {σ : St} {c c' : List Addr}, SR K mg H F t σ c → c'.Perm c → SR K mg H F t σ c'
  | [], σ, c, c', h, p => by
    simp only [SR] at h ⊢
    obtain ⟨h1, h2⟩ := h
    subst h2
    exact ⟨h1, p.eq_nil⟩
  | none :: t, σ, c, c', h, p => by
    simp only [SR] at h ⊢
    obtain ⟨v, w, e, h⟩ := h
    exact ⟨v, w, e, h.perm p⟩
  | some d :: t, σ, c, c', h, p => by
    simp only [SR] at h ⊢
    obtain ⟨v, w, c1, c2, e, q, h⟩ := h
    exact ⟨v, w, c1, c2, e, p.trans q, h⟩
theorem SR.len : ∀ {t : Tr} {σ : St} {c : List Addr}, SR K mg H F t σ c → t.length = σ.length
  | [], σ, c, h => by simp only [SR] at h; rw [h.1]; rfl
  | none :: t, σ, c, h => by
    simp only [SR] at h
    obtain ⟨v, w, e, h⟩ := h
    rw [e, List.length_cons, List.length_cons, h.len]
  | some d :: t, σ, c, h => by
    simp only [SR] at h
    obtain ⟨v, w, c1, c2, e, q, _, h⟩ := h
    rw [e, List.length_cons, List.length_cons, h.len]
theorem SR.keep (l : Le F F') : ∀ {t : Tr} {σ : St} {c : List Addr}, SR K mg H F t σ c → (∀ a ∈ c, H' a = H a) → SR K mg H' F' t σ c
  | [], σ, c, h, _ => by simpa only [SR] using h
  | none :: t, σ, c, h, k => by
    simp only [SR] at h ⊢
    obtain ⟨v, w, e, h⟩ := h
    exact ⟨v, w, e, h.keep l k⟩
  | some d :: t, σ, c, h, k => by
    simp only [SR] at h ⊢
    obtain ⟨v, w, c1, c2, e, q, h1, h2⟩ := h
    have k' : ∀ a ∈ c1 ++ c2, H' a = H a := fun a ha => k a (q.symm.subset ha)
    exact ⟨v, w, c1, c2, e, q, Rp.keep l d v c1 h1 fun a ha => k' a (by simp [ha]), h2.keep l fun a ha => k' a (by simp [ha])⟩
/-- a slot's tree taken out -/
theorem SR.take : ∀ {t : Tr} {σ : St} {c : List Addr} {i : Nat} {d : D}, SR K mg H F t σ c → t[i]? = some (some d) →
    ∃ v c1 c2, σ[i]? = some (some v) ∧ Rp K mg H F d v c1 ∧ SR K mg H F (t.set i none) σ c2 ∧ c.Perm (c1 ++ c2)
  | [], σ, c, i, d, h, e => by simp at e
  | none :: t, σ, c, 0, d, h, e => by simp at e
  | some d0 :: t, σ, c, 0, d, h, e => by
    simp only [SR] at h
    obtain ⟨v, w, c1, c2, es, q, h1, h2⟩ := h
    simp at e
    subst e
    refine ⟨v, c1, c2, by rw [es]; rfl, h1, ?_, q⟩
    show SR K mg H F (none :: t) σ c2
    simp only [SR]
    exact ⟨_, w, es, h2⟩
  | none :: t, σ, c, i + 1, d, h, e => by
    simp only [SR] at h
    obtain ⟨v, w, es, h⟩ := h
    obtain ⟨v', c1, c2, e1, r, s, p⟩ := h.take (i := i) (d := d) (by simpa using e)
    refine ⟨v', c1, c2, by rw [es]; simpa using e1, r, ?_, p⟩
    show SR K mg H F (none :: t.set i none) σ c2
    simp only [SR]
    exact ⟨_, w, es, s⟩
  | some d0 :: t, σ, c, i + 1, d, h, e => by
    simp only [SR] at h
    obtain ⟨v, w, c1, c2, es, q, h1, h⟩ := h
    obtain ⟨v', c3, c4, e1, r, s, p⟩ := h.take (i := i) (d := d) (by simpa using e)
    refine ⟨v', c3, c1 ++ c4, by rw [es]; simpa using e1, r, ?_, ?_⟩
    · show SR K mg H F (some d0 :: t.set i none) σ (c1 ++ c4)
      simp only [SR]
      exact ⟨v, w, c1, c4, es, List.Perm.refl _, h1, s⟩
    · refine q.trans ((p.append_left c1).trans ?_)
      rw [← List.append_assoc, ← List.append_assoc]
      exact List.perm_append_comm.append_right _
/-- .. and put in again -/
theorem SR.put : ∀ {t : Tr} {σ : St} {c c1 : List Addr} {i : Nat} {d : D} {v : V}, SR K mg H F (t.set i none) σ c → i < t.length → σ[i]? = some (some v) → Rp K mg H F d v c1 → SR K mg H F (t.set i (some d)) σ (c1 ++ c)
  | [], σ, c, c1, i, d, v, h, hi, e, r => by simp at hi
  | x :: t, σ, c, c1, 0, d, v, h, hi, e, r => by
    have h : SR K mg H F (none :: t) σ c := h
    simp only [SR] at h
    obtain ⟨v', w, es, h⟩ := h
    rw [es] at e
    simp at e
    subst e
    show SR K mg H F (some d :: t) σ (c1 ++ c)
    simp only [SR]
    exact ⟨v, w, c1, c, es, List.Perm.refl _, r, h⟩
  | none :: t, σ, c, c1, i + 1, d, v, h, hi, e, r => by
    have h : SR K mg H F (none :: t.set i none) σ c := h
    simp only [SR] at h
    obtain ⟨v', w, es, h⟩ := h
    show SR K mg H F (none :: t.set i (some d)) σ (c1 ++ c)
    simp only [SR]
    exact ⟨v', w, es, SR.put h (by simpa using hi) (by rw [es] at e; simpa using e) r⟩
  | some d0 :: t, σ, c, c1, i + 1, d, v, h, hi, e, r => by
    have h : SR K mg H F (some d0 :: t.set i none) σ c := h
    simp only [SR] at h
    obtain ⟨v', w, c2, c3, es, q, r2, h⟩ := h
    show SR K mg H F (some d0 :: t.set i (some d)) σ (c1 ++ c)
    simp only [SR]
    refine ⟨v', w, c2, c1 ++ c3, es, ?_, r2, SR.put h (by simpa using hi) (by rw [es] at e; simpa using e) r⟩
    refine (q.append_left c1).trans ?_
    rw [← List.append_assoc, ← List.append_assoc]
    exact List.perm_append_comm.append_right _
/-- a slot forgotten -/
theorem SR.drop {t : Tr} {σ : St} {c : List Addr} {i : Nat} (h : SR K mg H F t σ c) : ∃ c', SR K mg H F (t.set i none) σ c' ∧ ∃ r, c.Perm (r ++ c') := by
  by_cases hi : i < t.length
  · cases e : t[i]? with
    | none => rw [List.getElem?_eq_none_iff] at e; omega
    | some o =>
      cases o with
      | none =>
        refine ⟨c, ?_, [], List.Perm.refl _⟩
        have : t.set i none = t := by
          obtain ⟨h1, h2⟩ := List.getElem?_eq_some_iff.mp e
          rw [← h2, List.set_getElem_self]
        rw [this]; exact h
      | some d =>
        obtain ⟨v, c1, c2, _, _, s, p⟩ := h.take e
        exact ⟨c2, s, c1, p⟩
  · refine ⟨c, ?_, [], List.Perm.refl _⟩
    rw [List.set_eq_of_length_le (by omega)]; exact h
/-- a value is stored in a slot whose tree is out -/
theorem SR.store : ∀ {t : Tr} {σ : St} {c : List Addr} {i : Nat} {w : Option V}, SR K mg H F (t.set i none) σ c → SR K mg H F (t.set i none) (σ.set i w) c
  | [], σ, c, i, w, h => by
    simp only [List.set_nil, SR] at h ⊢
    rw [h.1]
    exact ⟨rfl, h.2⟩
  | x :: t, σ, c, 0, w, h => by
    have h : SR K mg H F (none :: t) σ c := h
    simp only [SR] at h
    obtain ⟨v', u, es, h⟩ := h
    show SR K mg H F (none :: t) (σ.set 0 w) c
    simp only [SR]
    exact ⟨w, u, by rw [es]; rfl, h⟩
  | none :: t, σ, c, i + 1, w, h => by
    have h : SR K mg H F (none :: t.set i none) σ c := h
    simp only [SR] at h
    obtain ⟨v', u, es, h⟩ := h
    show SR K mg H F (none :: t.set i none) (σ.set (i + 1) w) c
    simp only [SR]
    exact ⟨v', u.set i w, by rw [es]; rfl, SR.store h⟩
  | some d0 :: t, σ, c, i + 1, w, h => by
    have h : SR K mg H F (some d0 :: t.set i none) σ c := h
    simp only [SR] at h
    obtain ⟨v', u, c1, c2, es, q, r, h⟩ := h
    show SR K mg H F (some d0 :: t.set i none) (σ.set (i + 1) w) c
    simp only [SR]
    exact ⟨v', u.set i w, c1, c2, by rw [es]; rfl, q, r, SR.store h⟩
/-- fewer trees are told -/
theorem SR.start {ds : List D} {vs : List V} {c : List Addr} (h : Rps K mg H F ds vs c) (n : Nat) : SR K mg H F (ds.map some ++ List.replicate n none) (vs.map some ++ List.replicate n none) c := by
  have rep : ∀ n : Nat, SR K mg H F (List.replicate n none) (List.replicate n none) [] := by
    intro n
    induction n with
    | zero => simp only [List.replicate, SR]; exact ⟨trivial, trivial⟩
    | succ n ih => simp only [List.replicate, SR]; exact ⟨none, _, rfl, ih⟩
  induction ds generalizing vs c with
  | nil =>
    simp only [Rps] at h
    rw [h.1, h.2]
    simpa using rep n
  | cons d r ih =>
    simp only [Rps] at h
    obtain ⟨v, w, c1, c2, e1, e2, h1, h2⟩ := h
    subst e1 e2
    simp only [List.map_cons, List.cons_append, SR]
    exact ⟨v, _, c1, c2, rfl, List.Perm.refl _, h1, ih h2⟩
end

/-! ### the weakest reading -/
def mx (X : Cx) (e : Expr) : TE := fun σ H Q => ∃ t, PE X e t ∧ t σ H Q
theorem pe_mx {X : Cx} {e : Expr} : PE X e (mx X e) := ⟨fun pins s σ H Q I ⟨t, p, h⟩ => p.run pins s σ H Q I h⟩
def mxT (X : Cx) (e : Expr) : TT := fun σ H Q => ∃ t, PT X e t ∧ t σ H Q
theorem pt_mx {X : Cx} {e : Expr} : PT X e (mxT X e) := ⟨fun pins s σ H Q I ⟨t, p, h⟩ => p.run pins s σ H Q I h⟩
def mxS (X : Cx) (e : Stmt) : TS := fun D σ H => ∃ t, PS X e t ∧ t D σ H
theorem ps_mx {X : Cx} {e : Stmt} : PS X e (mxS X e) := ⟨fun pins s σ H D I ⟨t, p, h⟩ => p.run pins s σ H D I h⟩
def mxSs (X : Cx) (e : List Stmt) : TS := fun D σ H => ∃ t, PSs X e t ∧ t D σ H
theorem pss_mx {X : Cx} {e : List Stmt} : PSs X e (mxSs X e) := ⟨fun pins s σ H D I ⟨t, p, h⟩ => p.run pins s σ H D I h⟩
def mxG (X : Cx) (e : Expr) : TG := fun v σ H Q => ∃ t, PG X e t ∧ t v σ H Q
theorem pg_mx {X : Cx} {e : Expr} : PG X e (mxG X e) := ⟨fun pins s σ H v u Q I r ⟨t, p, h⟩ => p.run pins s σ H v u Q I r h⟩
theorem mx_of {X : Cx} {e : Expr} {t : TE} (p : PE X e t) {σ : St} {H : Hp} {Q : VK} (h : t σ H Q) : mx X e σ H Q := ⟨t, p, h⟩

/-- the operands' values one by one, then the operation -/
def tOps : List TE → (List V → Hp → VK → Prop) → TE
  | [], r => fun _ H Q => r [] H Q
  | t :: ts, r => fun σ H Q => t σ H fun x H1 => tOps ts (fun vs => r (x :: vs)) σ H1 Q
inductive AllPE (X : Cx) : List Expr → List TE → Prop
  | nil : AllPE X [] []
  | cons {e es t ts} : PE X e t → AllPE X es ts → AllPE X (e :: es) (t :: ts)
theorem allPE_mx {X : Cx} : ∀ es : List Expr, AllPE X es (es.map (mx X))
  | [] => .nil
  | _ :: es => .cons pe_mx (allPE_mx es)
def HasOp (X : Cx) (e : Expr) (es : List Expr) (R : List V → Hp → VK → Prop) : Prop := ∀ ts, AllPE X es ts → PE X e (tOps ts R)
def HasOpT (X : Cx) (e : Expr) (es : List Expr) (R : List V → Hp → VK → Prop) : Prop := ∀ ts, AllPE X es ts → PT X e (tB (tOps ts R))
theorem hasT_of {X : Cx} {e : Expr} {es : List Expr} {R : List V → Hp → VK → Prop} (h : HasOp X e es R) (he : ∀ whole, isTrue e X.env whole = (do let v ← whole; standAt e.pos; holding [v] (truthy v))) : HasOpT X e es R :=
  fun ts hts => pt_val (h ts hts) he
theorem mxT_op {X : Cx} {e : Expr} {es : List Expr} {R : List V → Hp → VK → Prop} (h : HasOpT X e es R) {σ : L2.St} {H : Hp} {Q : Bool → Hp → Prop} (k : tOps (es.map (mx X)) R σ H (fun x H1 => ∃ c, x = .bl c ∧ Q c H1)) : mxT X e σ H Q := ⟨_, h _ (allPE_mx es), k⟩
theorem mx_op {X : Cx} {e : Expr} {es : List Expr} {R : List V → Hp → VK → Prop} (h : HasOp X e es R) {σ : St} {H : Hp} {Q : VK} (k : tOps (es.map (mx X)) R σ H Q) : mx X e σ H Q := ⟨_, h _ (allPE_mx es), k⟩

/-! ### plain expressions -/
def plainX : Expr → Bool
  | .Starred .. => false
  | .Slice .. => false
  | .Set .. => false
  | .NamedExpr .. => false
  | .Call (.Name id _) [] [] _ => id != ("super" : Str)
  | _ => true
def noComp : Expr → Bool
  | .ListComp .. => false
  | .SetComp .. => false
  | .DictComp .. => false
  | _ => true
theorem star_cons {e : Expr} {es : List Expr} {env : Env} (h : plainX e = true) : starEach (e :: es) env = (false, eval e env) :: starEach es env := by
  cases e <;> first | rfl | (simp [plainX] at h)
theorem plainIx {e : Expr} (h : plainX e = true) : PlainIx e := by
  intro o i
  cases e <;> first | rfl | (simp [plainX] at h)
theorem noSl {e : Expr} (h : plainX e = true) : NoSl e := by
  intro o i
  cases e <;> first | rfl | (simp [plainX] at h)
theorem marks {e : Expr} {op : CmpOp} (h : plainX e = true) : behindInMarks op e = false := by
  cases e <;> first | rfl | (simp [plainX] at h)
theorem base_of {e : Expr} {f : Str} {env : Env} {w : Sem Value} (h : plainX e = true) : attributeBase e f env w = w := by
  cases e with
  | Call fn as ks pos =>
    cases fn with
    | Name id p =>
      cases as with
      | nil =>
        cases ks with
        | nil =>
          have hid : (id != ("super" : Str)) = true := h
          unfold attributeBase
          simp only [hid, Bool.true_or, if_true]
        | cons k ks => rfl
      | cons a as => rfl
    | _ => rfl
  | _ => rfl
theorem fold_of {e : Expr} {env : Env} {x : Value} (h : plainX e = true) : foldedSetIterable e env x = pure x := by
  cases e <;> first | rfl | (simp [plainX] at h)
theorem swaps_of {e : Expr} {t : Option Expr} {l : Nat} {env : Env} (h : noComp e = true) : swapsWith e t l env = pure false := by
  cases e <;> first | rfl | (simp [noComp] at h)
theorem noStar : ∀ {es : List Expr} {env : Env} {pos : Pos}, es.all plainX = true → (backTo pos (starEach es env)).any (·.1) = false
  | [], _, _, _ => rfl
  | e :: es, env, pos, h => by
    rw [List.all_cons, Bool.and_eq_true] at h
    rw [star_cons h.1]
    show (false || (backTo pos (starEach es env)).any (·.1)) = false
    rw [noStar h.2]; rfl
def tL : List TE → TA
  | [] => tNil
  | t :: ts => tCons t (tL ts)
theorem pa_all {X : Cx} : ∀ {es : List Expr} {ts : List TE}, AllPE X es ts → es.all plainX = true → PA X es (tL ts)
  | [], _, .nil, _ => pa_nil
  | e :: es, _, .cons p r, h => by
    rw [List.all_cons, Bool.and_eq_true] at h
    exact pa_cons p (pa_all r h.2) (star_cons h.1)
theorem tL_ops : ∀ (ts : List TE) (R : List V → Hp → VK → Prop) (σ : L2.St) (H : Hp) (Q : VK), tOps ts R σ H Q = tL ts σ H (fun vs H' => R vs H' Q)
  | [], _, _, _, _ => rfl
  | t :: ts, R, σ, H, Q => congrArg (t σ H) (funext fun x => funext fun H1 => tL_ops ts (fun vs => R (x :: vs)) σ H1 Q)
end Ev
end
section
set_option maxRecDepth 100000
namespace Ev
open PySem PySem.Spec L2

/-! ### what a program of the top gives to the evaluator -/
structure Pg where
  gl : Str → Option D
  att : Str → Str → Bool
  fn : Str → Bool
  mt : Str → Str → Bool
  ck : Str → Bool
  /-- the default of a class's last parameter -/
  dk : Str → Option D
  /-- classes of errors that may be raised, the field of each -/
  xc : Str → Option (Option Str)
  /-- written dicts of the top, texts to texts -/
  dt : Str → Option (List (Str × Str))
/-- a written dict of the top -/
def KTab (K : PySem.W.Frag) (w : World) (a : Addr) (kvs : List (Str × Str)) : Prop :=
  ∃ es n, KDict K w a es n ∧ (∀ z y, kvs.lookup z = some y → ∃ t, PySem.W.nsIn K a z = some (some (.str y t))) ∧ ∀ z, kvs.lookup z = none → PySem.W.nsIn K a z = some none
def bltNames : List Str := ["len", "abs", "int", "str", "max", "min", "sum", "list", "tuple", "sorted", "range", "isinstance", "divmod", "enumerate", "zip", "reversed", "all", "any", "dict", "bool", "set", "repr"]
def isBlt (x : Str) : Bool := bltNames.contains x
/-- what the evaluator leans on in a context -/
structure XOk (P : Pg) (X : Cx) (N : List Str) (sc : Scope) : Prop where
  calm : X.calm = true
  names : X.N = N
  nd : N.Nodup
  scope : X.env.scope = sc
  units : X.A.units + 66 < cLine
  blt : ∀ x, isBlt x = true → X.mg x = none
  glob : ∀ x d, P.gl x = some d → ∃ v u, X.mg x = some u ∧ RelV v u ∧ isF d = true ∧ ∀ H F, Rp X.K X.mg H F d v []
  cls : ∀ C A f, P.att C f = true → X.mg C = some (.ref A) → Cls X.K A ∧ NoAttr X.K A f
  tab : ∀ x kvs, P.dt x = some kvs → ∃ a, X.mg x = some (.ref a) ∧ KTab X.K X.w a kvs
def glB (sc : Scope) (x : Str) : Bool := sc.names.lookup x == some .globalImplicit
theorem XOk.gl {P : Pg} {X : Cx} {N : List Str} {sc : Scope} (ok : XOk P X N sc) {x : Str} (h : glB sc x = true) : Gl X x := by
  show X.env.scope.names.lookup x = _
  rw [ok.scope]; exact beq_iff_eq.mp h

/-! ### the values of operands: each a tree, its cells among c -/
section
variable (K : PySem.W.Frag) (mg : Str → Option Value)
def RpE (H F : Hp) (c : List Addr) : List D → List V → Prop
  | [], vs => vs = []
  | d :: r, vs => ∃ v w cd, vs = v :: w ∧ Rp K mg H F d v cd ∧ (∀ a ∈ cd, a ∈ c) ∧ RpE H F c r w
/-- what is to be shown of an operation's answer -/
def PostN (H F : Hp) (c : List Addr) (d : D) (Q : VK) : Prop :=
  ∀ v H' F' cd, Le F F' → (∀ a ∈ c, H' a = H a) → Good H' F' (cd ++ c) → Rp K mg H' F' d v cd → Q v H'
end
/-- an operation: its answer by trees, where it stands in the text, that it is so -/
structure Opr (P : Pg) where
  f : List D → Option D
  sh : Scope → Expr → Option (List Expr)
  ok : ∀ (X : Cx) (N : List Str) (sc : Scope), XOk P X N sc → ∀ (e : Expr) (es : List Expr), sh sc e = some es → ∀ (ds : List D) (d : D), f ds = some d →
    ∃ R, HasOp X e es R ∧ HasOpT X e es R ∧ ∀ (vs : List V) (H F : Hp) (c : List Addr) (Q : VK), RpE X.K X.mg H F c ds vs → Good H F c → PostN X.K X.mg H F c d Q → R vs H Q
  pl : ∀ (sc : Scope) (e : Expr) (es : List Expr), sh sc e = some es → noComp e = true
  sound : ∀ (X : Cx) (N : List Str) (sc : Scope), XOk P X N sc → ∀ (e : Expr) (es : List Expr), sh sc e = some es → ∃ R, HasOp X e es R ∧ HasOpT X e es R

/-- a method of a built-in type: the receiver first, what must be known of it ahead of the operands -/
def HasM (X : Cx) (e x : Expr) (ys : List Expr) (Mid : V → Hp → Prop) (R : List V → Hp → VK → Prop) : Prop := ∀ t ts, PE X x t → AllPE X ys ts → PE X e (fun σ H Q => t σ H fun v H1 => Mid v H1 ∧ tOps ts (fun vs => R (v :: vs)) σ H1 Q)
structure OprM (P : Pg) where
  f : List D → Option D
  hd : D → Bool
  Mid : PySem.W.Frag → V → Hp → Prop
  sh : Scope → Expr → Option (Expr × List Expr)
  fh : ∀ d r y, f (d :: r) = some y → hd d = true
  mid : ∀ (K : PySem.W.Frag) (mg : Str → Option Value) (d : D), hd d = true → ∀ (x : V) (H F : Hp) (c : List Addr), Rp K mg H F d x c → Le F H → Mid K x H
  ok : ∀ (X : Cx) (N : List Str) (sc : Scope), XOk P X N sc → ∀ (e x : Expr) (ys : List Expr), sh sc e = some (x, ys) → ∀ (ds : List D) (d : D), f ds = some d →
    ∃ R, HasM X e x ys (Mid X.K) R ∧ ∀ (vs : List V) (H F : Hp) (c : List Addr) (Q : VK), RpE X.K X.mg H F c ds vs → Good H F c → PostN X.K X.mg H F c d Q → R vs H Q
  pl : ∀ (sc : Scope) (e x : Expr) (ys : List Expr), sh sc e = some (x, ys) → noComp e = true
  sound : ∀ (X : Cx) (N : List Str) (sc : Scope), XOk P X N sc → ∀ (e x : Expr) (ys : List Expr), sh sc e = some (x, ys) → ∃ R, HasM X e x ys (Mid X.K) R

section
variable {K : PySem.W.Frag} {mg : Str → Option Value} {H F H' F' : Hp} {c : List Addr} {Q : VK}
/-- a new object beside all that stands -/
theorem Good.new {p : Addr} {o : HO} (g : Good H F c) (h : H p = none) : Good (upd H p o) F (p :: c) ∧ ∀ a ∈ c, upd H p o a = H a := by
  obtain ⟨hf, hc⟩ := g.fresh h
  have k : ∀ a ∈ c, upd H p o a = H a := fun a ha => upd_ne fun e => hc (e ▸ ha)
  refine ⟨⟨fun a u e => ?_, List.nodup_cons.mpr ⟨hc, g.nd⟩, fun a ha => ?_⟩, k⟩
  · rw [upd_ne (ne_of_none (g.sub a u e) h)]; exact g.sub a u e
  · rcases List.mem_cons.mp ha with rfl | ha
    · exact ⟨hf, o, upd_same⟩
    · rw [k a ha]; exact g.own a ha
/-- a new object that is shared at once -/
theorem Good.newF {p : Addr} {o : HO} (g : Good H F c) (h : H p = none) : Good (upd H p o) (upd F p o) c ∧ (∀ a ∈ c, upd H p o a = H a) ∧ Le F (upd F p o) := by
  obtain ⟨hf, hc⟩ := g.fresh h
  have k : ∀ a ∈ c, upd H p o a = H a := fun a ha => upd_ne fun e => hc (e ▸ ha)
  refine ⟨⟨fun a u e => ?_, g.nd, fun a ha => ?_⟩, k, fun a u e => ?_⟩
  · by_cases hp : a = p
    · subst hp; rw [upd_same] at e ⊢; exact e
    · rw [upd_ne hp] at e; rw [upd_ne hp]; exact g.sub a u e
  · have hp : a ≠ p := fun e => hc (e ▸ ha)
    rw [k a ha, upd_ne hp]; exact g.own a ha
  · rw [upd_ne (ne_of_none e hf)]; exact e
/-- the end for an answer without cells in the heap as it stands -/
theorem PostN.flat {d : D} {v : V} (h : PostN K mg H F c d Q) (g : Good H F c) (r : Rp K mg H F d v []) : Q v H := h v H F [] (Le.refl F) (fun _ _ => rfl) g r
theorem PostN.int {i : Int} (h : PostN K mg H F c (.int i) Q) (g : Good H F c) : Q (.int i) H := h.flat g (by simp only [Rp]; exact ⟨trivial, trivial⟩)
theorem PostN.bl {b : Bool} (h : PostN K mg H F c (.bl b) Q) (g : Good H F c) : Q (.bl b) H := h.flat g (by simp only [Rp]; exact ⟨trivial, trivial⟩)
theorem PostN.str {b : Str} (h : PostN K mg H F c (.str b) Q) (g : Good H F c) : Q (.str b) H := h.flat g (by simp only [Rp]; exact ⟨trivial, trivial⟩)
theorem PostN.non (h : PostN K mg H F c .non Q) (g : Good H F c) : Q .non H := h.flat g (by simp only [Rp]; exact ⟨trivial, trivial⟩)
/-- .. for a new list of shared items -/
theorem PostN.lst {xs : List D} {vs : List V} {p : Addr} (h : PostN K mg H F c (.lst true xs) Q) (g : Good H F c) (hp : H p = none) (r : Rps K mg H F xs vs []) : Q (.ref p) (upd H p (.lst vs)) := by
  obtain ⟨g', k⟩ := g.new (o := .lst vs) hp
  refine h _ _ F [p] (Le.refl F) k g' ?_
  simp only [Rp]
  exact ⟨p, vs, [], rfl, upd_same, Rps.keep (Le.refl F) xs vs [] r (fun a ha => by simp at ha), rfl⟩
theorem PostN.tup {xs : List D} {vs : List V} {p : Addr} (h : PostN K mg H F c (.tup xs) Q) (g : Good H F c) (hp : H p = none) (r : Rps K mg H F xs vs []) : Q (.ref p) (upd H p (.tup vs)) := by
  obtain ⟨g', k, l⟩ := g.newF (o := .tup vs) hp
  refine h _ _ _ [] l k g' ?_
  simp only [Rp]
  exact ⟨p, vs, rfl, SqT.of upd_same, Rps.keep l xs vs [] r (fun a ha => by simp at ha)⟩
/-- readings -/
theorem RpE.one {d : D} {vs : List V} (h : RpE K mg H F c [d] vs) : ∃ v cd, vs = [v] ∧ Rp K mg H F d v cd ∧ ∀ a ∈ cd, a ∈ c := by
  simp only [RpE] at h
  obtain ⟨v, w, cd, e, r, k, e2⟩ := h
  exact ⟨v, cd, by rw [e, e2], r, k⟩
theorem RpE.two {d d' : D} {vs : List V} (h : RpE K mg H F c [d, d'] vs) : ∃ v v' cd cd', vs = [v, v'] ∧ Rp K mg H F d v cd ∧ (∀ a ∈ cd, a ∈ c) ∧ Rp K mg H F d' v' cd' ∧ ∀ a ∈ cd', a ∈ c := by
  simp only [RpE] at h
  obtain ⟨v, w, cd, e, r, k, v', w', cd', e', r', k', e2⟩ := h
  exact ⟨v, v', cd, cd', by rw [e, e', e2], r, k, r', k'⟩
theorem Rp.intE {i : Int} {v : V} {cd : List Addr} (h : Rp K mg H F (.int i) v cd) : v = .int i := by simp only [Rp] at h; exact h.1
theorem Rp.blE {i : Bool} {v : V} {cd : List Addr} (h : Rp K mg H F (.bl i) v cd) : v = .bl i := by simp only [Rp] at h; exact h.1
theorem Rp.strE {i : Str} {v : V} {cd : List Addr} (h : Rp K mg H F (.str i) v cd) : v = .str i := by simp only [Rp] at h; exact h.1
theorem Rp.nonE {v : V} {cd : List Addr} (h : Rp K mg H F .non v cd) : v = .non := by simp only [Rp] at h; exact h.1
theorem Rp.lstE {o : Bool} {xs : List D} {v : V} {cd : List Addr} (h : Rp K mg H F (.lst o xs) v cd) (l : Le F H) : ∃ a vs cs, v = .ref a ∧ Rd H a (.lst vs) ∧ Rps K mg H F xs vs cs ∧ ∀ b ∈ cs, b ∈ cd := by
  cases o with
  | true =>
    simp only [Rp] at h
    obtain ⟨a, vs, c', e, q, r, rfl⟩ := h
    exact ⟨a, vs, c', e, .of q, r, fun b hb => by simp [hb]⟩
  | false =>
    simp only [Rp] at h
    obtain ⟨a, vs, e, q, r⟩ := h
    exact ⟨a, vs, cd, e, l.rd q, r, fun b hb => hb⟩
theorem Rp.tupE {xs : List D} {v : V} {cd : List Addr} (h : Rp K mg H F (.tup xs) v cd) (l : Le F H) : ∃ a vs, v = .ref a ∧ SqT K H a vs ∧ Rps K mg H F xs vs cd := by
  simp only [Rp] at h
  obtain ⟨a, vs, e, q, r⟩ := h
  exact ⟨a, vs, e, l.sqT q, r⟩
theorem Rps.length : ∀ {xs : List D} {vs : List V} {cd : List Addr}, Rps K mg H F xs vs cd → xs.length = vs.length
  | [], _, _, h => by simp only [Rps] at h; rw [h.1]; rfl
  | d :: r, _, _, h => by
    simp only [Rps] at h
    obtain ⟨v, w, c1, c2, e, _, _, h2⟩ := h
    rw [e, List.length_cons, List.length_cons, Rps.length h2]
theorem Rps.flat {xs : List D} {vs : List V} {cd : List Addr} (h : Rps K mg H F xs vs cd) (f : isFs xs = true) : Rps K mg H F xs vs [] := by
  have e := Rps.nocell xs vs cd h f
  subst e; exact h
theorem Rp.flat {d : D} {v : V} {cd : List Addr} (h : Rp K mg H F d v cd) (f : isF d = true) : Rp K mg H F d v [] := by
  have e := Rp.nocell d v cd h f
  subst e; exact h
theorem Rps.append : ∀ {xs ys : List D} {vs ws : List V} {c1 c2 : List Addr}, Rps K mg H F xs vs c1 → Rps K mg H F ys ws c2 → Rps K mg H F (xs ++ ys) (vs ++ ws) (c1 ++ c2)
  | [], ys, vs, ws, c1, c2, h, k => by
    simp only [Rps] at h
    rw [h.1, h.2]; exact k
  | d :: r, ys, vs, ws, c1, c2, h, k => by
    simp only [Rps] at h
    obtain ⟨v, w, a1, a2, e, e2, h1, h2⟩ := h
    subst e e2
    simp only [List.cons_append, Rps]
    exact ⟨v, _, a1, a2 ++ c2, rfl, by rw [List.append_assoc], h1, Rps.append h2 k⟩
theorem isFs_append : ∀ xs ys : List D, isFs (xs ++ ys) = (isFs xs && isFs ys)
  | [], ys => by simp [isFs]
  | d :: r, ys => by simp only [List.cons_append, isFs, isFs_append r ys, Bool.and_assoc]
theorem isFs_all : ∀ xs : List D, isFs xs = xs.all isF
  | [] => rfl
  | d :: r => by simp only [isFs, List.all_cons, isFs_all r]
theorem Rps.get : ∀ {xs : List D} {vs : List V} {cd : List Addr} {i : Nat} {d : D}, Rps K mg H F xs vs cd → xs[i]? = some d → ∃ v c1, vs[i]? = some v ∧ Rp K mg H F d v c1 ∧ ∀ a ∈ c1, a ∈ cd
  | [], _, _, _, _, _, e => by simp at e
  | x :: r, vs, cd, 0, d, h, e => by
    simp only [Rps] at h
    obtain ⟨v, w, a1, a2, e1, e2, h1, h2⟩ := h
    simp at e; subst e; subst e1 e2
    exact ⟨v, a1, rfl, h1, fun a ha => by simp [ha]⟩
  | x :: r, vs, cd, i + 1, d, h, e => by
    simp only [Rps] at h
    obtain ⟨v, w, a1, a2, e1, e2, h1, h2⟩ := h
    subst e1 e2
    obtain ⟨v', c1, q, rr, k⟩ := h2.get (i := i) (d := d) (by simpa using e)
    exact ⟨v', c1, by simpa using q, rr, fun a ha => by simp [k a ha]⟩
theorem Rps.of_flat : ∀ {xs : List D} {vs : List V}, xs.length = vs.length → (∀ (i : Nat) d v, xs[i]? = some d → vs[i]? = some v → Rp K mg H F d v []) → Rps K mg H F xs vs []
  | [], [], _, _ => by simp only [Rps]; exact ⟨trivial, trivial⟩
  | [], _ :: _, h, _ => by simp at h
  | _ :: _, [], h, _ => by simp at h
  | d :: r, v :: w, h, k => by
    simp only [Rps]
    exact ⟨v, w, [], [], rfl, rfl, k 0 d v rfl rfl, Rps.of_flat (by simpa using h) fun i d' v' e1 e2 => k (i + 1) d' v' (by simpa using e1) (by simpa using e2)⟩
theorem Rps.item {xs : List D} {vs : List V} {i : Nat} {d : D} {v : V} (h : Rps K mg H F xs vs []) (e1 : xs[i]? = some d) (e2 : vs[i]? = some v) : Rp K mg H F d v [] := by
  obtain ⟨v', c1, e, r, k⟩ := h.get e1
  rw [e] at e2; cases e2
  have : c1 = [] := by
    cases c1 with
    | nil => rfl
    | cons a _ => have := k a (by simp); simp at this
  subst this; exact r
end
/-! ### shapes -/
def R1of (r : V → Hp → VK → Prop) : List V → Hp → VK → Prop := fun vs H Q => match vs with
  | [x] => r x H Q
  | _ => False
def R2of (r : R2) : List V → Hp → VK → Prop := fun vs H Q => match vs with
  | [x, y] => r x y H Q
  | _ => False
theorem hasOp1 {X : Cx} {e a : Expr} {r : V → Hp → VK → Prop} (h : ∀ ta, PE X a ta → PE X e (fun σ H Q => ta σ H fun x H1 => r x H1 Q)) : HasOp X e [a] (R1of r) := by
  intro ts hts
  cases hts with
  | cons p1 hts =>
    cases hts
    exact h _ p1
theorem hasOp2 {X : Cx} {e a b : Expr} {r : R2} (h : ∀ ta tb, PE X a ta → PE X b tb → PE X e (tOp r ta tb)) : HasOp X e [a, b] (R2of r) := by
  intro ts hts
  cases hts with
  | cons p1 hts =>
    cases hts with
    | cons p2 hts =>
      cases hts
      exact h _ _ p1 p2
theorem hasOp2T {X : Cx} {e a b : Expr} {r : R2} (h : ∀ ta tb, PE X a ta → PE X b tb → PT X e (tTest (tOp r ta tb))) : HasOpT X e [a, b] (R2of r) := by
  intro ts hts
  cases hts with
  | cons p1 hts =>
    cases hts with
    | cons p2 hts =>
      cases hts
      exact h _ _ p1 p2
theorem hasOpL {X : Cx} {e : Expr} {es : List Expr} {r : List V → Hp → VK → Prop} (h : ∀ t, PA X es t → PE X e (tCB r t)) (hp : es.all plainX = true) : HasOp X e es r := by
  intro ts hts
  have e1 : tOps ts r = tCB r (tL ts) := by
    funext σ H Q
    exact propext (by rw [tL_ops]; exact Iff.rfl)
  rw [e1]
  exact h _ (pa_all hts hp)
section
variable {P : Pg}
/-- what an operation on two trees owes -/
def Two (P : Pg) (mk : Cx → R2 → Prop) (f : D → D → Option D) : Prop :=
  ∀ (X : Cx) (N : List Str) (sc : Scope), XOk P X N sc → ∀ (a b d : D), f a b = some d → ∃ r, mk X r ∧
    ∀ (x y : V) (H F : Hp) (c ca cb : List Addr) (Q : VK), Rp X.K X.mg H F a x ca → (∀ z ∈ ca, z ∈ c) → Rp X.K X.mg H F b y cb → (∀ z ∈ cb, z ∈ c) → Good H F c → PostN X.K X.mg H F c d Q → r x y H Q
def f2 (f : D → D → Option D) : List D → Option D
  | [a, b] => f a b
  | _ => none
theorem f2_some {f : D → D → Option D} {ds : List D} {d : D} (h : f2 f ds = some d) : ∃ a b, ds = [a, b] ∧ f a b = some d := by
  match ds, h with
  | [a, b], h => exact ⟨a, b, rfl, h⟩
def f1 (f : D → Option D) : List D → Option D
  | [a] => f a
  | _ => none
theorem f1_some {f : D → Option D} {ds : List D} {d : D} (h : f1 f ds = some d) : ∃ a, ds = [a] ∧ f a = some d := by
  match ds, h with
  | [a], h => exact ⟨a, rfl, h⟩
theorem two_end {X : Cx} {r : R2} {a b d : D}
    (h : ∀ (x y : V) (H F : Hp) (c ca cb : List Addr) (Q : VK), Rp X.K X.mg H F a x ca → (∀ z ∈ ca, z ∈ c) → Rp X.K X.mg H F b y cb → (∀ z ∈ cb, z ∈ c) → Good H F c → PostN X.K X.mg H F c d Q → r x y H Q)
    (vs : List V) (H F : Hp) (c : List Addr) (Q : VK) (hr : RpE X.K X.mg H F c [a, b] vs) (g : Good H F c) (k : PostN X.K X.mg H F c d Q) : R2of r vs H Q := by
  obtain ⟨x, y, ca, cb, rfl, r1, k1, r2, k2⟩ := hr.two
  exact h x y H F c ca cb Q r1 k1 r2 k2 g k
def shBin (op : Operator) (_ : Scope) : Expr → Option (List Expr)
  | .BinOp a o b _ => if o = op ∧ plainX a = true ∧ plainX b = true then some [a, b] else none
  | _ => none
def opBin (op : Operator) (f : D → D → Option D) (h : Two P (fun X r => OpR X (binaryOp op) r) f) : Opr P where
  f := f2 f
  sh := shBin op
  ok := by
    intro X N sc ok e es he ds d hd
    obtain ⟨a, b, rfl, hf⟩ := f2_some hd
    cases e with
    | BinOp l o r pos =>
      simp only [shBin] at he
      split at he
      · rename_i hc
        obtain ⟨rfl, h1, h2⟩ := hc
        cases he
        obtain ⟨rr, hr, k⟩ := h X N sc ok a b d hf
        exact ⟨R2of rr, hasOp2 fun ta tb p q => pe_op hr p q, hasT_of (hasOp2 fun ta tb p q => pe_op hr p q) (fun _ => rfl), two_end k⟩
      · cases he
    | _ => simp [shBin] at he
  pl := by
    intro sc e es he
    cases e <;> first | rfl | simp [shBin] at he
  sound := by
    intro X N sc ok e es he
    cases e with
    | BinOp l o r pos =>
      simp only [shBin] at he
      split at he
      · rename_i hc
        obtain ⟨rfl, h1, h2⟩ := hc
        cases he
        have hr : OpR X (binaryOp o) (fun _ _ _ _ => False) := fun _ _ _ _ _ _ _ _ _ _ _ _ h => h.elim
        exact ⟨R2of fun _ _ _ _ => False, hasOp2 fun ta tb p q => pe_op hr p q, hasT_of (hasOp2 fun ta tb p q => pe_op hr p q) (fun _ => rfl)⟩
      · cases he
    | _ => simp [shBin] at he
def shCmp (op : CmpOp) (_ : Scope) : Expr → Option (List Expr)
  | .Compare a [o] [b] _ => if o = op ∧ plainX a = true ∧ plainX b = true then some [a, b] else none
  | _ => none
theorem shCmp_some {op : CmpOp} {sc : Scope} {e : Expr} {es : List Expr} (h : shCmp op sc e = some es) : ∃ a b pos, e = .Compare a [op] [b] pos ∧ plainX a = true ∧ plainX b = true ∧ es = [a, b] := by
  unfold shCmp at h
  split at h
  · split at h
    · rename_i hc
      obtain ⟨rfl, h1, h2⟩ := hc
      exact ⟨_, _, _, rfl, h1, h2, (Option.some.inj h).symm⟩
    · cases h
  · cases h
def opCmp (op : CmpOp) (f : D → D → Option D) (h : Two P (fun X r => OpR X (compareOp op) r) f) : Opr P where
  f := f2 f
  sh := shCmp op
  ok := by
    intro X N sc ok e es he ds d hd
    obtain ⟨a, b, rfl, hf⟩ := f2_some hd
    obtain ⟨l, r, pos, rfl, h1, h2, rfl⟩ := shCmp_some he
    obtain ⟨rr, hr, k⟩ := h X N sc ok a b d hf
    exact ⟨R2of rr, hasOp2 fun ta tb p q => pe_cmpR hr p q (marks h2), hasOp2T fun ta tb p q => pt_cmpR hr p q (marks h2), two_end k⟩
  pl := by
    intro sc e es he
    obtain ⟨l, r, pos, rfl, h1, h2, rfl⟩ := shCmp_some he
    rfl
  sound := by
    intro X N sc ok e es he
    obtain ⟨l, r, pos, rfl, h1, h2, rfl⟩ := shCmp_some he
    have hr : OpR X (compareOp op) (fun _ _ _ _ => False) := fun _ _ _ _ _ _ _ _ _ _ _ _ h => h.elim
    exact ⟨R2of fun _ _ _ _ => False, hasOp2 fun ta tb p q => pe_cmpR hr p q (marks h2), hasOp2T fun ta tb p q => pt_cmpR hr p q (marks h2)⟩
def shUn (op : UnaryOp) (_ : Scope) : Expr → Option (List Expr)
  | .UnaryOp o a _ => if o = op ∧ plainX a = true then some [a] else none
  | _ => none
/-- what a call of values owes -/
def Many (P : Pg) (mk : Cx → (List V → Hp → VK → Prop) → Prop) (f : List D → Option D) : Prop :=
  ∀ (X : Cx) (N : List Str) (sc : Scope), XOk P X N sc → ∀ (ds : List D) (d : D), f ds = some d → ∃ r, mk X r ∧
    ∀ (vs : List V) (H F : Hp) (c : List Addr) (Q : VK), RpE X.K X.mg H F c ds vs → Good H F c → PostN X.K X.mg H F c d Q → r vs H Q
def shCall (x : Str) (n : Nat) (sc : Scope) : Expr → Option (List Expr)
  | .Call (.Name y _) as [] _ => if y = x ∧ as.length = n ∧ glB sc x = true ∧ as.all plainX = true ∧ n ≠ 0 then some as else none
  | _ => none
theorem shCall_some {x : Str} {n : Nat} {sc : Scope} {e : Expr} {es : List Expr} (h : shCall x n sc e = some es) : ∃ p pos, e = .Call (.Name x p) es [] pos ∧ es.length = n ∧ glB sc x = true ∧ es.all plainX = true ∧ n ≠ 0 := by
  unfold shCall at h
  split at h
  · split at h
    · rename_i hc
      obtain ⟨rfl, h1⟩ := hc
      cases h
      exact ⟨_, _, rfl, h1⟩
    · cases h
  · cases h
def opB (x : Str) (id : String) (n : Nat) (f : List D → Option D) (hb : isBlt x = true) (hv : bootBuiltins x = some (.builtin id)) (hn : x ≠ "__name__") (hd : (x == ("__debug__" : Str)) = false) (h : Many P (fun X r => CallR X (.builtin id) r) f) : Opr P where
  f := f
  sh := shCall x n
  ok := by
    intro X N sc ok e es he ds d hf
    obtain ⟨p, pos, rfl, hl, h1, h2, h3⟩ := shCall_some he
    obtain ⟨rr, hr, k⟩ := h X N sc ok ds d hf
    have hh : HasOp X (.Call (.Name x p) es [] pos) es rr := by
      refine hasOpL (fun t ht => ?_) h2
      cases es with
      | nil => simp at hl; exact absurd hl.symm h3
      | cons a as =>
        rw [List.all_cons, Bool.and_eq_true] at h2
        exact pe_callB hr (ok.gl h1) (ok.blt _ hb) hv ht hn hd (star_cons h2.1) (noStar h2.2)
    exact ⟨rr, hh, hasT_of hh (fun _ => rfl), k⟩
  pl := by
    intro sc e es he
    obtain ⟨p, pos, rfl, _⟩ := shCall_some he
    rfl
  sound := by
    intro X N sc ok e es he
    obtain ⟨p, pos, rfl, hl, h1, h2, h3⟩ := shCall_some he
    have hr : CallR X (.builtin id) (fun _ _ _ => False) := fun _ _ _ _ _ _ _ _ _ h => h.elim
    have hh : HasOp X (.Call (.Name x p) es [] pos) es (fun _ _ _ => False) := by
      refine hasOpL (fun t ht => ?_) h2
      cases es with
      | nil => simp at hl; exact absurd hl.symm h3
      | cons a as =>
        rw [List.all_cons, Bool.and_eq_true] at h2
        exact pe_callB hr (ok.gl h1) (ok.blt _ hb) hv ht hn hd (star_cons h2.1) (noStar h2.2)
    exact ⟨_, hh, hasT_of hh (fun _ => rfl)⟩
def opTy (x : Str) (T : String) (n : Nat) (f : List D → Option D) (hb : isBlt x = true) (hv : bootBuiltins x = some (.type T)) (hn : x ≠ "__name__") (hd : (x == ("__debug__" : Str)) = false) (h : Many P (fun X r => CallR X (.type T) r) f) : Opr P where
  f := f
  sh := shCall x n
  ok := by
    intro X N sc ok e es he ds d hf
    obtain ⟨p, pos, rfl, hl, h1, h2, h3⟩ := shCall_some he
    obtain ⟨rr, hr, k⟩ := h X N sc ok ds d hf
    have hh : HasOp X (.Call (.Name x p) es [] pos) es rr := by
      refine hasOpL (fun t ht => ?_) h2
      cases es with
      | nil => simp at hl; exact absurd hl.symm h3
      | cons a as =>
        rw [List.all_cons, Bool.and_eq_true] at h2
        exact pe_callTy hr (ok.gl h1) (ok.blt _ hb) hv ht hn hd (star_cons h2.1) (noStar h2.2)
    exact ⟨rr, hh, hasT_of hh (fun _ => rfl), k⟩
  pl := by
    intro sc e es he
    obtain ⟨p, pos, rfl, _⟩ := shCall_some he
    rfl
  sound := by
    intro X N sc ok e es he
    obtain ⟨p, pos, rfl, hl, h1, h2, h3⟩ := shCall_some he
    have hr : CallR X (.type T) (fun _ _ _ => False) := fun _ _ _ _ _ _ _ _ _ h => h.elim
    have hh : HasOp X (.Call (.Name x p) es [] pos) es (fun _ _ _ => False) := by
      refine hasOpL (fun t ht => ?_) h2
      cases es with
      | nil => simp at hl; exact absurd hl.symm h3
      | cons a as =>
        rw [List.all_cons, Bool.and_eq_true] at h2
        exact pe_callTy hr (ok.gl h1) (ok.blt _ hb) hv ht hn hd (star_cons h2.1) (noStar h2.2)
    exact ⟨_, hh, hasT_of hh (fun _ => rfl)⟩
/-! ### arithmetic -/
/-- an operation on two ints under a condition -/
theorem two_int {op : Operator} {g : Int → Int → Int} {C : Int → Int → Prop} (rule : ∀ X : Cx, OpR X (binaryOp op) (rI C fun i j => .int (g i j))) {f : D → D → Option D}
    (hf : ∀ a b d, f a b = some d → ∃ i j, a = .int i ∧ b = .int j ∧ C i j ∧ d = .int (g i j)) : Two P (fun X r => OpR X (binaryOp op) r) f := by
  intro X N sc ok a b d hd
  obtain ⟨i, j, rfl, rfl, hc, rfl⟩ := hf a b d hd
  refine ⟨_, rule X, fun x y H F c ca cb Q ra _ rb _ g k => ?_⟩
  exact ⟨i, j, ra.intE, rb.intE, hc, k.int g⟩
def fI (C : Int → Int → Bool) (g : Int → Int → Int) : D → D → Option D
  | .int i, .int j => if C i j then some (.int (g i j)) else none
  | _, _ => none
theorem fI_some {C : Int → Int → Bool} {g : Int → Int → Int} {a b d : D} (h : fI C g a b = some d) : ∃ i j, a = .int i ∧ b = .int j ∧ C i j = true ∧ d = .int (g i j) := by
  match a, b, h with
  | .int i, .int j, h =>
    simp only [fI] at h
    split at h
    · rename_i hc; cases h; exact ⟨i, j, rfl, rfl, hc, rfl⟩
    · cases h
theorem opR0 {X : Cx} {op : Operator} {g : Int → Int → Int} (h : OpR X (binaryOp op) (rI0 fun i j => .int (g i j))) : OpR X (binaryOp op) (rI (fun _ _ => True) fun i j => .int (g i j)) :=
  fun pins s σ H x y v u Q I rx ry ⟨i, j, e1, e2, _, q⟩ => h pins s σ H x y v u Q I rx ry ⟨i, j, e1, e2, q⟩
def cT : Int → Int → Bool := fun _ _ => true
def opSub : Opr P := opBin .Sub (fI cT (· - ·)) (two_int (C := fun _ _ => True) (fun X => opR0 op_sub) fun a b d h => by
  obtain ⟨i, j, h1, h2, _, h4⟩ := fI_some h; exact ⟨i, j, h1, h2, trivial, h4⟩)
def opXor : Opr P := opBin .BitXor (fI cT Builtin.bitXor) (two_int (C := fun _ _ => True) (fun X => opR0 op_xor) fun a b d h => by
  obtain ⟨i, j, h1, h2, _, h4⟩ := fI_some h; exact ⟨i, j, h1, h2, trivial, h4⟩)
def opAnd : Opr P := opBin .BitAnd (fI cT Builtin.bitAnd) (two_int (C := fun _ _ => True) (fun X => opR0 op_and) fun a b d h => by
  obtain ⟨i, j, h1, h2, _, h4⟩ := fI_some h; exact ⟨i, j, h1, h2, trivial, h4⟩)
def opOr : Opr P := opBin .BitOr (fI cT Builtin.bitOr) (two_int (C := fun _ _ => True) (fun X => opR0 op_or) fun a b d h => by
  obtain ⟨i, j, h1, h2, _, h4⟩ := fI_some h; exact ⟨i, j, h1, h2, trivial, h4⟩)
def cMod : Int → Int → Bool := fun _ j => decide (0 < j)
def opMod : Opr P := opBin .Mod (fI cMod (· % ·)) (two_int (fun X => op_mod) fun a b d h => by
  obtain ⟨i, j, h1, h2, h3, h4⟩ := fI_some h; exact ⟨i, j, h1, h2, of_decide_eq_true h3, h4⟩)
def cDiv : Int → Int → Bool := fun _ j => decide (0 < j) && decide (j < 2 ^ 64)
theorem cDiv_ok {i j : Int} (h : cDiv i j = true) : CDivW i j := by
  simp only [cDiv, Bool.and_eq_true, decide_eq_true_eq] at h
  exact wide_div (b := 64) h.1 (by omega) (by decide) (by decide)
def opDiv : Opr P := opBin .FloorDiv (fI cDiv (· / ·)) (two_int (fun X => op_fdivW) fun a b d h => by
  obtain ⟨i, j, h1, h2, h3, h4⟩ := fI_some h; exact ⟨i, j, h1, h2, cDiv_ok h3, h4⟩)
def cPow : Int → Int → Bool := fun i j => decide (0 ≤ j) && decide (j ≤ 1000000) && decide (i.natAbs < 2 ^ 64)
theorem cPow_ok {i j : Int} (h : cPow i j = true) : CPow i j := by
  simp only [cPow, Bool.and_eq_true, decide_eq_true_eq] at h
  exact ⟨h.1.1, h.1.2, h.2⟩
def opPow : Opr P := opBin .Pow (fI cPow fun i j => i ^ j.toNat) (two_int (fun X => op_pow) fun a b d h => by
  obtain ⟨i, j, h1, h2, h3, h4⟩ := fI_some h; exact ⟨i, j, h1, h2, cPow_ok h3, h4⟩)
def opShl : Opr P := opBin .LShift (fI cPow fun i j => i * 2 ^ j.toNat) (two_int (fun X => op_shl) fun a b d h => by
  obtain ⟨i, j, h1, h2, h3, h4⟩ := fI_some h; exact ⟨i, j, h1, h2, cPow_ok h3, h4⟩)
def cShr : Int → Int → Bool := fun _ j => decide (0 ≤ j)
def opShr : Opr P := opBin .RShift (fI cShr fun i j => i / 2 ^ j.toNat) (two_int (fun X => op_shr) fun a b d h => by
  obtain ⟨i, j, h1, h2, h3, h4⟩ := fI_some h; exact ⟨i, j, h1, h2, of_decide_eq_true h3, h4⟩)
end
end Ev
end
section
set_option maxRecDepth 100000
set_option maxHeartbeats 4000000
namespace Ev
open PySem PySem.Spec L2
variable {P : Pg}

/-! ### list + list, also a locked one -/
theorem lstR {X : Cx} {pins : List (Addr × Obj)} {σ : L2.St} {H : Hp} {s : Shared} {l : Addr} {xs : List V} (I : Inv X pins σ H s) (hH : Rd H l (.lst xs)) : xs.length ≤ sizeLine ∧ ∃ (its : List Value) (n : Nat), Vals xs its ∧ xs.length = its.length ∧ s.heap.get? l = some { cls := .type "list", data := .seq its.toArray n } := by
  obtain ⟨z, its, n, r, e⟩ := hH.ok I.hok
  exact ⟨z, its, n, r, r.length, e⟩
def rCatR : R2 := fun x y H Q => ∃ l b xs zs, x = .ref l ∧ y = .ref b ∧ Rd H l (.lst xs) ∧ Rd H b (.lst zs) ∧ xs.length + zs.length ≤ sizeLine ∧ ∀ p, H p = none → Q (.ref p) (upd H p (.lst (xs ++ zs)))
theorem op_catR {X : Cx} : OpR X (binaryOp .Add) rCatR := by
  intro pins s σ H x y v u Q I rx ry h
  obtain ⟨l, b, xs, zs, rfl, rfl, hH, hB, hz, q⟩ := h
  cases rx
  cases ry
  obtain ⟨z, its, n, r, hl, e⟩ := lstR I hH
  obtain ⟨z2, its2, n2, r2, hl2, e2⟩ := lstR I hB
  refine PySem.P.add_list e e2 ?_ (by rw [List.size_toArray, List.size_toArray]; omega)
  have ea : its.toArray ++ its2.toArray = (its ++ its2).toArray := by simp
  rw [ea]
  exact ⟨.ref _, _, I.lnew (t' := s.toks) (r.append r2) (by rw [List.length_append]; omega), rfl, q _ I.fresh⟩

/-! ### + -/
def addF : D → D → Option D
  | .int i, .int j => some (.int (i + j))
  | .str a, .str b => if a.length + b.length ≤ sizeLine then some (.str (a ++ b)) else none
  | .lst _ xs, .lst _ ys => if isFs xs = true ∧ isFs ys = true ∧ xs.length + ys.length ≤ sizeLine then some (.lst true (xs ++ ys)) else none
  | .tup xs, .tup ys => if isFs xs = true ∧ isFs ys = true ∧ xs.length + ys.length ≤ sizeLine then some (.tup (xs ++ ys)) else none
  | _, _ => none
theorem two_add : Two P (fun X r => OpR X (binaryOp .Add) r) addF := by
  intro X N sc ok a b d h
  match a, b, h with
  | .int i, .int j, h =>
    cases h
    exact ⟨_, op_add, fun x y H F c ca cb Q ra _ rb _ g k => ⟨i, j, ra.intE, rb.intE, k.int g⟩⟩
  | .str i, .str j, h =>
    simp only [addF] at h
    split at h
    · rename_i hl
      cases h
      exact ⟨_, op_add_str, fun x y H F c ca cb Q ra _ rb _ g k => ⟨i, j, ra.strE, rb.strE, hl, k.str g⟩⟩
    · cases h
  | .lst o xs, .lst o' ys, h =>
    simp only [addF] at h
    split at h
    · rename_i hl
      obtain ⟨f1, f2, hl⟩ := hl
      cases h
      refine ⟨_, op_catR, fun x y H F c ca cb Q ra _ rb _ g k => ?_⟩
      obtain ⟨p1, vs, c1, e1, q1, r1, _⟩ := ra.lstE g.sub
      obtain ⟨p2, ws, c2, e2, q2, r2, _⟩ := rb.lstE g.sub
      refine ⟨p1, p2, vs, ws, e1, e2, q1, q2, by rw [← r1.length, ← r2.length]; exact hl, fun p hp => ?_⟩
      exact k.lst g hp ((r1.flat f1).append (r2.flat f2))
    · cases h
  | .tup xs, .tup ys, h =>
    simp only [addF] at h
    split at h
    · rename_i hl
      obtain ⟨f1, f2, hl⟩ := hl
      cases h
      refine ⟨_, op_catA, fun x y H F c ca cb Q ra _ rb _ g k => ?_⟩
      have ra0 : Rp X.K X.mg H F (.tup xs) x [] := ra.flat (by simpa only [isF] using f1)
      have rb0 : Rp X.K X.mg H F (.tup ys) y [] := rb.flat (by simpa only [isF] using f2)
      obtain ⟨p1, vs, e1, q1, r1⟩ := ra0.tupE g.sub
      obtain ⟨p2, ws, e2, q2, r2⟩ := rb0.tupE g.sub
      refine ⟨p1, p2, vs, ws, e1, e2, q1, q2, by rw [← r1.length, ← r2.length]; exact hl, fun en => ?_, fun en em => ?_, fun _ _ p hp => ?_⟩
      · have : xs = [] := by
          have := r1.length; rw [en] at this; exact List.eq_nil_of_length_eq_zero (by simpa using this)
        subst this
        rw [← e2]; exact k.flat g rb0
      · have : ys = [] := by
          have := r2.length; rw [em] at this; exact List.eq_nil_of_length_eq_zero (by simpa using this)
        subst this
        rw [← e1]; exact k.flat g (by rw [List.append_nil]; exact ra0)
      · exact k.tup g hp (r1.append r2)
    · cases h
def opAdd : Opr P := opBin .Add addF two_add

/-! ### * -/
def mulF : D → D → Option D
  | .int i, .int j => if i.natAbs < 2 ^ 64 ∨ j.natAbs < 2 ^ 64 then some (.int (i * j)) else none
  | .lst true xs, .int k => if isFs xs = true ∧ -(2 ^ 63) ≤ k ∧ k < 2 ^ 63 ∧ xs.length * k.toNat ≤ sizeLine then some (.lst true (List.replicate k.toNat xs).flatten) else none
  | _, _ => none
theorem Rps.rep {K : PySem.W.Frag} {mg : Str → Option Value} {H F : Hp} {xs : List D} {vs : List V} (r : Rps K mg H F xs vs []) : ∀ n : Nat, Rps K mg H F (List.replicate n xs).flatten (List.replicate n vs).flatten []
  | 0 => by simp only [List.replicate, List.flatten, Rps]; exact ⟨trivial, trivial⟩
  | n + 1 => by
    simp only [List.replicate_succ, List.flatten_cons]
    exact r.append (Rps.rep r n)
theorem two_mul : Two P (fun X r => OpR X (binaryOp .Mult) r) mulF := by
  intro X N sc ok a b d h
  match a, b, h with
  | .int i, .int j, h =>
    simp only [mulF] at h
    split at h
    · rename_i hc
      cases h
      refine ⟨_, op_mul, fun x y H F c ca cb Q ra _ rb _ g k => ⟨i, j, ra.intE, rb.intE, ?_, k.int g⟩⟩
      rcases hc with h | h
      · exact .inl ⟨by omega, by omega⟩
      · exact .inr ⟨by omega, by omega⟩
    · cases h
  | .lst true xs, .int n, h =>
    simp only [mulF] at h
    split at h
    · rename_i hc
      obtain ⟨f1, h1, h2, h3⟩ := hc
      cases h
      refine ⟨_, op_rep, fun x y H F c ca cb Q ra _ rb _ g k => ?_⟩
      simp only [Rp] at ra
      obtain ⟨p1, vs, c1, e1, q1, r1, _⟩ := ra
      exact ⟨p1, n, vs, e1, rb.intE, q1, h1, h2, by rw [← r1.length]; exact h3, fun p hp => k.lst g hp ((r1.flat f1).rep _)⟩
    · cases h
def opMul : Opr P := opBin .Mult mulF two_mul

/-! ### -x, not x as an operation on bools is E.not -/
def negF : D → Option D
  | .int i => some (.int (-i))
  | _ => none
def opNeg : Opr P where
  f := f1 negF
  sh := shUn .USub
  ok := by
    intro X N sc ok e es he ds d hd
    obtain ⟨a, rfl, hf⟩ := f1_some hd
    cases e with
    | UnaryOp o x pos =>
      simp only [shUn] at he
      split at he
      · rename_i hc
        obtain ⟨rfl, h1⟩ := hc
        cases he
        refine ⟨R1of (rU fun i => .int (-i)), hasOp1 fun ta p => pe_un un_neg p, hasT_of (hasOp1 fun ta p => pe_un un_neg p) (fun _ => rfl), fun vs H F c Q hr g k => ?_⟩
        obtain ⟨v, cd, rfl, r, _⟩ := hr.one
        match a, hf with
        | .int i, hf => cases hf; exact ⟨i, r.intE, k.int g⟩
      · cases he
    | _ => simp [shUn] at he
  pl := by
    intro sc e es he
    cases e <;> first | rfl | simp [shUn] at he
  sound := by
    intro X N sc ok e es he
    cases e with
    | UnaryOp o x pos =>
      simp only [shUn] at he
      split at he
      · rename_i hc
        obtain ⟨rfl, h1⟩ := hc
        cases he
        exact ⟨R1of (rU fun i => .int (-i)), hasOp1 fun ta p => pe_un un_neg p, hasT_of (hasOp1 fun ta p => pe_un un_neg p) (fun _ => rfl)⟩
      · cases he
    | _ => simp [shUn] at he

/-! ### comparisons of ints -/
def cmpF (g : Int → Int → Bool) : D → D → Option D
  | .int i, .int j => some (.bl (g i j))
  | _, _ => none
theorem two_cmp {op : CmpOp} {g : Int → Int → Bool} (rule : ∀ X : Cx, OpR X (compareOp op) (rI0 fun i j => .bl (g i j))) : Two P (fun X r => OpR X (compareOp op) r) (cmpF g) := by
  intro X N sc ok a b d h
  match a, b, h with
  | .int i, .int j, h =>
    cases h
    exact ⟨_, rule X, fun x y H F c ca cb Q ra _ rb _ g k => ⟨i, j, ra.intE, rb.intE, k.bl g⟩⟩
def opLt : Opr P := opCmp .Lt (cmpF fun i j => decide (i < j)) (two_cmp fun _ => op_lt)
def opLe : Opr P := opCmp .LtE (cmpF fun i j => decide (i ≤ j)) (two_cmp fun _ => op_le)
def opGt : Opr P := opCmp .Gt (cmpF fun i j => decide (j < i)) (two_cmp fun _ => op_gt)
def opGe : Opr P := opCmp .GtE (cmpF fun i j => decide (j ≤ i)) (two_cmp fun _ => op_ge)

/-! ### == and != of data -/
mutual
def toPy : D → Option PyData
  | .non => some .none
  | .bl b => some (.bool b)
  | .int i => some (.int i)
  | .str x => some (.str x)
  | .tup xs => (toPys xs).map .tuple
  | .lst _ xs => (toPys xs).map .list
  | _ => none
def toPys : List D → Option (List PyData)
  | [] => some []
  | d :: r => match toPy d, toPys r with
    | some p, some q => some (p :: q)
    | _, _ => none
end
mutual
theorem dp_of {K : PySem.W.Frag} {mg : Str → Option Value} {H F : Hp} (l : Le F H) : ∀ (d : D) (v : V) (c : List Addr) (p : PyData), Rp K mg H F d v c → toPy d = some p → Dp K H v p
  | .non, v, c, p, h, e => by cases e; rw [h.nonE]; exact .non
  | .bl b, v, c, p, h, e => by cases e; rw [h.blE]; exact .bl b
  | .int b, v, c, p, h, e => by cases e; rw [h.intE]; exact .int b
  | .str b, v, c, p, h, e => by cases e; rw [h.strE]; exact .str b
  | .tup xs, v, c, p, h, e => by
    simp only [toPy] at e
    cases q : toPys xs with
    | none => rw [q] at e; cases e
    | some ps =>
      rw [q] at e; cases e
      obtain ⟨a, vs, rfl, s, r⟩ := h.tupE l
      exact .tup s (dps_of l xs vs c ps r q)
  | .lst o xs, v, c, p, h, e => by
    simp only [toPy] at e
    cases q : toPys xs with
    | none => rw [q] at e; cases e
    | some ps =>
      rw [q] at e; cases e
      obtain ⟨a, vs, cs, rfl, s, r, _⟩ := h.lstE l
      exact .lst (.inl s) (dps_of l xs vs cs ps r q)
  | .dic o ks xs, v, c, p, h, e => by simp [toPy] at e
  | .ins o C fs xs, v, c, p, h, e => by simp [toPy] at e
  | .fn f, v, c, p, h, e => by simp [toPy] at e
  | .ty f, v, c, p, h, e => by simp [toPy] at e
  | .scr xs, v, c, p, h, e => by simp [toPy] at e
theorem dps_of {K : PySem.W.Frag} {mg : Str → Option Value} {H F : Hp} (l : Le F H) : ∀ (ds : List D) (vs : List V) (c : List Addr) (ps : List PyData), Rps K mg H F ds vs c → toPys ds = some ps → DpAll K H vs ps
  | [], vs, c, ps, h, e => by
    simp only [Rps] at h; cases e; rw [h.1]; exact .nil
  | d :: r, vs, c, ps, h, e => by
    simp only [Rps] at h
    obtain ⟨v, w, c1, c2, rfl, rfl, h1, h2⟩ := h
    simp only [toPys] at e
    split at e
    · rename_i p q e1 e2
      cases e
      exact .cons (dp_of l d v c1 p h1 e1) (dps_of l r w c2 q h2 e2)
    · cases e
end
/-- whether two data are alike, where that can be told -/
def eqD (a b : D) : Option Bool := match toPy a, toPy b with
  | some p, some q => if SeqAt.shaped p = true ∧ SeqAt.shaped q = true then some (PyData.eqv p q) else none
  | _, _ => none
theorem eqD_some {a b : D} {r : Bool} (h : eqD a b = some r) : ∃ p q, toPy a = some p ∧ toPy b = some q ∧ SeqAt.shaped p = true ∧ SeqAt.shaped q = true ∧ r = PyData.eqv p q := by
  unfold eqD at h
  split at h
  · rename_i p q e1 e2
    split at h
    · rename_i hc
      cases h
      exact ⟨p, q, e1, e2, hc.1, hc.2, rfl⟩
    · cases h
  · cases h
def eqF (neg : Bool) (a b : D) : Option D := (eqD a b).map fun r => .bl (if neg then !r else r)
theorem two_eq : Two P (fun X r => OpR X (compareOp .Eq) r) (eqF false) := by
  intro X N sc ok a b d h
  unfold eqF at h
  cases e : eqD a b with
  | none => rw [e] at h; cases h
  | some r =>
    rw [e] at h; cases h
    obtain ⟨p, q, e1, e2, s1, s2, rfl⟩ := eqD_some e
    have := ok.units
    exact ⟨_, op_eqD (by omega), fun x y H F c ca cb Q ra _ rb _ g k => ⟨p, q, dp_of g.sub _ _ _ _ ra e1, dp_of g.sub _ _ _ _ rb e2, s1, s2, k.bl g⟩⟩
theorem two_ne : Two P (fun X r => OpR X (compareOp .NotEq) r) (eqF true) := by
  intro X N sc ok a b d h
  unfold eqF at h
  cases e : eqD a b with
  | none => rw [e] at h; cases h
  | some r =>
    rw [e] at h; cases h
    obtain ⟨p, q, e1, e2, s1, s2, rfl⟩ := eqD_some e
    have := ok.units
    exact ⟨_, op_neD (by omega), fun x y H F c ca cb Q ra _ rb _ g k => ⟨p, q, dp_of g.sub _ _ _ _ ra e1, dp_of g.sub _ _ _ _ rb e2, s1, s2, k.bl g⟩⟩
def opEq : Opr P := opCmp .Eq (eqF false) two_eq
def opNe : Opr P := opCmp .NotEq (eqF true) two_ne

/-! ### is None -/
def isNonD : D → Bool
  | .non => true
  | _ => false
def isF' (neg : Bool) : D → D → Option D
  | a, .non => some (.bl (if neg then !isNonD a else isNonD a))
  | .bl a, .bl b => some (.bl (if neg then !decide (a = b) else decide (a = b)))
  | _, _ => none
theorem isNonV {K : PySem.W.Frag} {mg : Str → Option Value} {H F : Hp} {a : D} {x : V} {c : List Addr} (r : Rp K mg H F a x c) (l : Le F H) : decide (x = .non) = isNonD a := by
  cases a with
  | non => rw [r.nonE]; rfl
  | bl b => rw [r.blE]; rfl
  | int b => rw [r.intE]; rfl
  | str b => rw [r.strE]; rfl
  | tup xs => obtain ⟨_, _, e, _⟩ := r.tupE l; rw [e]; rfl
  | lst o xs => obtain ⟨_, _, _, e, _⟩ := r.lstE l; rw [e]; rfl
  | dic o ks xs => cases o <;> (simp only [Rp] at r; obtain ⟨_, _, r⟩ := r; first | (obtain ⟨_, e, _⟩ := r; rw [e]; rfl) | (obtain ⟨e, _⟩ := r; rw [e]; rfl))
  | ins o C fs xs => cases o <;> (simp only [Rp] at r; obtain ⟨_, _, _, _, r⟩ := r; first | (obtain ⟨_, e, _⟩ := r; rw [e]; rfl) | (obtain ⟨e, _⟩ := r; rw [e]; rfl))
  | fn f => simp only [Rp] at r; obtain ⟨⟨_, e, _⟩, _⟩ := r; rw [e]; rfl
  | ty f => simp only [Rp] at r; obtain ⟨e, _⟩ := r; rw [e]; rfl
  | scr xs => simp only [Rp] at r; obtain ⟨_, e, _⟩ := r; rw [e]; rfl
theorem two_is : Two P (fun X r => OpR X (compareOp .Is) r) (isF' false) := by
  intro X N sc ok a b d h
  match b, h with
  | .non, h =>
    cases h
    refine ⟨_, op_isN, fun x y H F c ca cb Q ra _ rb _ g k => ⟨rb.nonE, ?_⟩⟩
    rw [isNonV ra g.sub]; exact k.bl g
  | .bl b, h =>
    match a, h with
    | .bl a, h =>
      cases h
      exact ⟨_, op_is_bl, fun x y H F c ca cb Q ra _ rb _ g k => ⟨a, b, ra.blE, rb.blE, k.bl g⟩⟩
theorem two_isnot : Two P (fun X r => OpR X (compareOp .IsNot) r) (isF' true) := by
  intro X N sc ok a b d h
  match b, h with
  | .non, h =>
    cases h
    refine ⟨_, op_notN, fun x y H F c ca cb Q ra _ rb _ g k => ⟨rb.nonE, ?_⟩⟩
    rw [isNonV ra g.sub]; exact k.bl g
  | .bl b, h =>
    match a, h with
    | .bl a, h =>
      cases h
      exact ⟨_, op_isnot_bl, fun x y H F c ca cb Q ra _ rb _ g k => ⟨a, b, ra.blE, rb.blE, k.bl g⟩⟩
def opIs : Opr P := opCmp .Is (isF' false) two_is
def opIsNot : Opr P := opCmp .IsNot (isF' true) two_isnot

/-! ### in, not in: lists and tuples of flat items; one sign in a text; keys of a dict -/
def flatD : D → Bool
  | .non => true
  | .bl _ => true
  | .int _ => true
  | .str _ => true
  | _ => false
def eqFl : D → D → Bool
  | .non, .non => true
  | .bl a, .bl b => a == b
  | .bl a, .int b => (if a then 1 else 0) == b
  | .int a, .bl b => a == (if b then 1 else 0)
  | .int a, .int b => a == b
  | .str a, .str b => a == b
  | _, _ => false
def inFl (a : D) (xs : List D) : Bool := xs.any fun y => eqFl y a
theorem flatDV {K : PySem.W.Frag} {mg : Str → Option Value} {H F : Hp} {a : D} {x : V} {c : List Addr} (r : Rp K mg H F a x c) (f : flatD a = true) : flatV x = true := by
  cases a with
  | non => rw [r.nonE]; rfl
  | bl b => rw [r.blE]; rfl
  | int b => rw [r.intE]; rfl
  | str b => rw [r.strE]; rfl
  | _ => cases f
theorem eqFlV {K : PySem.W.Frag} {mg : Str → Option Value} {H F : Hp} {a b : D} {x y : V} {c c' : List Addr} (r : Rp K mg H F a x c) (r' : Rp K mg H F b y c') (f : flatD a = true) (f' : flatD b = true) : eqV x y = eqFl a b := by
  cases a with
  | non => rw [r.nonE]; cases b with
    | non => rw [r'.nonE]; rfl
    | bl b => rw [r'.blE]; rfl
    | int b => rw [r'.intE]; rfl
    | str b => rw [r'.strE]; rfl
    | _ => cases f'
  | bl a => rw [r.blE]; cases b with
    | non => rw [r'.nonE]; rfl
    | bl b => rw [r'.blE]; rfl
    | int b => rw [r'.intE]; rfl
    | str b => rw [r'.strE]; rfl
    | _ => cases f'
  | int a => rw [r.intE]; cases b with
    | non => rw [r'.nonE]; rfl
    | bl b => rw [r'.blE]; rfl
    | int b => rw [r'.intE]; rfl
    | str b => rw [r'.strE]; rfl
    | _ => cases f'
  | str a => rw [r.strE]; cases b with
    | non => rw [r'.nonE]; rfl
    | bl b => rw [r'.blE]; rfl
    | int b => rw [r'.intE]; rfl
    | str b => rw [r'.strE]; rfl
    | _ => cases f'
  | _ => cases f
theorem inFlV {K : PySem.W.Frag} {mg : Str → Option Value} {H F : Hp} {a : D} {x : V} {c : List Addr} (r : Rp K mg H F a x c) (f : flatD a = true) : ∀ {xs : List D} {vs : List V} {c' : List Addr}, Rps K mg H F xs vs c' → xs.all flatD = true → vs.all flatV = true ∧ inV x vs = inFl a xs
  | [], vs, c', h, _ => by simp only [Rps] at h; rw [h.1]; exact ⟨rfl, rfl⟩
  | d :: t, vs, c', h, fa => by
    simp only [Rps] at h
    obtain ⟨v, w, c1, c2, rfl, rfl, h1, h2⟩ := h
    rw [List.all_cons, Bool.and_eq_true] at fa
    obtain ⟨i1, i2⟩ := inFlV r f h2 fa.2
    refine ⟨by rw [List.all_cons, flatDV h1 fa.1, i1]; rfl, ?_⟩
    show (eqV v x || inV x w) = (eqFl d a || inFl a t)
    rw [eqFlV h1 r fa.1 f, i2]
theorem Rps.ints {K : PySem.W.Frag} {mg : Str → Option Value} {H F : Hp} : ∀ {ns : List Int} {vs : List V} {c : List Addr}, Rps K mg H F (ns.map D.int) vs c → vs = ns.map V.int
  | [], vs, c, h => by simp only [List.map_nil, Rps] at h; exact h.1
  | n :: ns, vs, c, h => by
    simp only [List.map_cons, Rps] at h
    obtain ⟨v, w, c1, c2, rfl, rfl, h1, h2⟩ := h
    rw [h1.intE, Rps.ints h2]; rfl
theorem Rps.to_ints {K : PySem.W.Frag} {mg : Str → Option Value} {H F : Hp} : ∀ ns : List Int, Rps K mg H F (ns.map D.int) (ns.map V.int) []
  | [] => by simp only [List.map_nil, Rps]; exact ⟨trivial, trivial⟩
  | n :: ns => by
    simp only [List.map_cons, Rps]
    exact ⟨_, _, [], [], rfl, rfl, by simp only [Rp]; exact ⟨trivial, trivial⟩, Rps.to_ints ns⟩
theorem Rps.to_strs {K : PySem.W.Frag} {mg : Str → Option Value} {H F : Hp} : ∀ ns : List Str, Rps K mg H F (ns.map D.str) (ns.map V.str) []
  | [] => by simp only [List.map_nil, Rps]; exact ⟨trivial, trivial⟩
  | n :: ns => by
    simp only [List.map_cons, Rps]
    exact ⟨_, _, [], [], rfl, rfl, by simp only [Rp]; exact ⟨trivial, trivial⟩, Rps.to_strs ns⟩
theorem Rps.strs {K : PySem.W.Frag} {mg : Str → Option Value} {H F : Hp} : ∀ {ns : List Str} {vs : List V} {c : List Addr}, Rps K mg H F (ns.map D.str) vs c → vs = ns.map V.str
  | [], vs, c, h => by simp only [List.map_nil, Rps] at h; exact h.1
  | n :: ns, vs, c, h => by
    simp only [List.map_cons, Rps] at h
    obtain ⟨v, w, c1, c2, rfl, rfl, h1, h2⟩ := h
    rw [h1.strE, Rps.strs h2]; rfl
theorem Rps.bls {K : PySem.W.Frag} {mg : Str → Option Value} {H F : Hp} : ∀ {ns : List Bool} {vs : List V} {c : List Addr}, Rps K mg H F (ns.map D.bl) vs c → vs = ns.map V.bl
  | [], vs, c, h => by simp only [List.map_nil, Rps] at h; exact h.1
  | n :: ns, vs, c, h => by
    simp only [List.map_cons, Rps] at h
    obtain ⟨v, w, c1, c2, rfl, rfl, h1, h2⟩ := h
    rw [h1.blE, Rps.bls h2]; rfl
/-- the members of a sequence -/
def inF (neg : Bool) : D → D → Option D
  | a, .lst _ xs => if flatD a = true ∧ xs.all flatD = true then some (.bl (if neg then !inFl a xs else inFl a xs)) else none
  | a, .tup xs => if flatD a = true ∧ xs.all flatD = true then some (.bl (if neg then !inFl a xs else inFl a xs)) else none
  | .str x, .str z => if x.length = 1 then some (.bl (if neg then !decide (x.cps.getD 0 0 ∈ z.cps.toList) else decide (x.cps.getD 0 0 ∈ z.cps.toList))) else none
  | _, _ => none
theorem sign_of {x : Str} (h : x.length = 1) : x = ⟨#[x.cps.getD 0 0]⟩ := by
  obtain ⟨a⟩ := x
  have h : a.size = 1 := h
  obtain ⟨l⟩ := a
  match l, h with
  | [c], _ => rfl
theorem two_in : Two P (fun X r => OpR X (compareOp .In) r) (inF false) := by
  intro X N sc ok a b d h
  match b, h with
  | .lst o xs, h =>
    simp only [inF] at h
    split at h
    · rename_i hc
      cases h
      refine ⟨_, op_in_seq, fun x y H F c ca cb Q ra _ rb _ g k => ?_⟩
      obtain ⟨p, vs, cs, e, q, r, _⟩ := rb.lstE g.sub
      obtain ⟨i1, i2⟩ := inFlV ra hc.1 r hc.2
      exact ⟨p, vs, e, .inl (.inl q), flatDV ra hc.1, i1, by rw [i2]; exact k.bl g⟩
    · cases h
  | .tup xs, h =>
    simp only [inF] at h
    split at h
    · rename_i hc
      cases h
      refine ⟨_, op_in_seq, fun x y H F c ca cb Q ra _ rb _ g k => ?_⟩
      obtain ⟨p, vs, e, q, r⟩ := rb.tupE g.sub
      obtain ⟨i1, i2⟩ := inFlV ra hc.1 r hc.2
      exact ⟨p, vs, e, .inr q, flatDV ra hc.1, i1, by rw [i2]; exact k.bl g⟩
    · cases h
  | .str z, h =>
    match a, h with
    | .str x, h =>
      simp only [inF] at h
      split at h
      · rename_i hc
        cases h
        refine ⟨_, op_in_sign, fun x' y H F c ca cb Q ra _ rb _ g k => ?_⟩
        exact ⟨x.cps.getD 0 0, z, by rw [ra.strE, ← sign_of hc], rb.strE, k.bl g⟩
      · cases h
theorem two_notin : Two P (fun X r => OpR X (compareOp .NotIn) r) (inF true) := by
  intro X N sc ok a b d h
  match b, h with
  | .lst o xs, h =>
    simp only [inF] at h
    split at h
    · rename_i hc
      cases h
      refine ⟨_, op_notIn_seq, fun x y H F c ca cb Q ra _ rb _ g k => ?_⟩
      obtain ⟨p, vs, cs, e, q, r, _⟩ := rb.lstE g.sub
      obtain ⟨i1, i2⟩ := inFlV ra hc.1 r hc.2
      exact ⟨p, vs, e, .inl (.inl q), flatDV ra hc.1, i1, by rw [i2]; exact k.bl g⟩
    · cases h
  | .tup xs, h =>
    simp only [inF] at h
    split at h
    · rename_i hc
      cases h
      refine ⟨_, op_notIn_seq, fun x y H F c ca cb Q ra _ rb _ g k => ?_⟩
      obtain ⟨p, vs, e, q, r⟩ := rb.tupE g.sub
      obtain ⟨i1, i2⟩ := inFlV ra hc.1 r hc.2
      exact ⟨p, vs, e, .inr q, flatDV ra hc.1, i1, by rw [i2]; exact k.bl g⟩
    · cases h
  | .str z, h =>
    match a, h with
    | .str x, h =>
      simp only [inF] at h
      split at h
      · rename_i hc
        cases h
        refine ⟨_, op_notIn_sign, fun x' y H F c ca cb Q ra _ rb _ g k => ?_⟩
        exact ⟨x.cps.getD 0 0, z, by rw [ra.strE, ← sign_of hc], rb.strE, k.bl g⟩
      · cases h
def opIn : Opr P := opCmp .In (inF false) two_in
def opNotIn : Opr P := opCmp .NotIn (inF true) two_notin
end Ev
end
section
set_option maxRecDepth 100000
set_option maxHeartbeats 4000000
namespace Ev
open PySem PySem.Spec L2
/-! ### written dicts of the top: a text looked up, in, not in -/
section
variable {P : Pg}
def tabF (P : Pg) (x : Str) : List D → Option D
  | [.str z] => (P.dt x).bind fun kvs => (kvs.lookup z).map .str
  | _ => none
def tabInF (P : Pg) (neg : Bool) (x : Str) : List D → Option D
  | [.str z] => (P.dt x).map fun kvs => .bl (if neg = true then !(kvs.lookup z).isSome else (kvs.lookup z).isSome)
  | _ => none
def shTab (P : Pg) (x : Str) (sc : Scope) : Expr → Option (List Expr)
  | .Subscript (.Name y _) i _ => if y = x ∧ glB sc x = true ∧ plainX i = true ∧ (x == ("__debug__" : Str)) = false ∧ (P.dt x).isSome = true then some [i] else none
  | _ => none
theorem shTab_some {x : Str} {sc : Scope} {e : Expr} {es : List Expr} (h : shTab P x sc e = some es) : ∃ i p pos, e = .Subscript (.Name x p) i pos ∧ glB sc x = true ∧ plainX i = true ∧ (x == ("__debug__" : Str)) = false ∧ (∃ kvs, P.dt x = some kvs) ∧ es = [i] := by
  unfold shTab at h
  split at h
  · split at h
    · rename_i hc
      obtain ⟨rfl, h1, h2, h3, h4⟩ := hc
      exact ⟨_, _, _, rfl, h1, h2, h3, Option.isSome_iff_exists.mp h4, (Option.some.inj h).symm⟩
    · cases h
  · cases h
def shTabIn (P : Pg) (op : CmpOp) (x : Str) (sc : Scope) : Expr → Option (List Expr)
  | .Compare a [o] [.Name y _] _ => if o = op ∧ y = x ∧ glB sc x = true ∧ plainX a = true ∧ (x == ("__debug__" : Str)) = false ∧ (P.dt x).isSome = true then some [a] else none
  | _ => none
theorem shTabIn_some {op : CmpOp} {x : Str} {sc : Scope} {e : Expr} {es : List Expr} (h : shTabIn P op x sc e = some es) : ∃ a p pos, e = .Compare a [op] [.Name x p] pos ∧ glB sc x = true ∧ plainX a = true ∧ (x == ("__debug__" : Str)) = false ∧ (∃ kvs, P.dt x = some kvs) ∧ es = [a] := by
  unfold shTabIn at h
  split at h
  · split at h
    · rename_i hc
      obtain ⟨rfl, rfl, h1, h2, h3, h4⟩ := hc
      exact ⟨_, _, _, rfl, h1, h2, h3, Option.isSome_iff_exists.mp h4, (Option.some.inj h).symm⟩
    · cases h
  · cases h
theorem tab_str {x : Str} {ds : List D} {d : D} (h : tabF P x ds = some d) : ∃ z kvs y, ds = [.str z] ∧ P.dt x = some kvs ∧ kvs.lookup z = some y ∧ d = .str y := by
  unfold tabF at h
  split at h
  · obtain ⟨kvs, e1, e2⟩ := Option.bind_eq_some_iff.mp h
    obtain ⟨y, e3, e4⟩ := Option.map_eq_some_iff.mp e2
    exact ⟨_, kvs, y, rfl, e1, e3, e4.symm⟩
  · cases h
theorem tabIn_str {neg : Bool} {x : Str} {ds : List D} {d : D} (h : tabInF P neg x ds = some d) : ∃ z kvs, ds = [.str z] ∧ P.dt x = some kvs ∧ d = .bl (if neg = true then !(kvs.lookup z).isSome else (kvs.lookup z).isSome) := by
  unfold tabInF at h
  split at h
  · obtain ⟨kvs, e1, e2⟩ := Option.map_eq_some_iff.mp h
    exact ⟨_, kvs, rfl, e1, e2.symm⟩
  · cases h
theorem nsIn_of {K : PySem.W.Frag} {w : World} {a : Addr} {kvs : List (Str × Str)} (h : KTab K w a kvs) (z : Str) : ∃ r, PySem.W.nsIn K a z = some r ∧ r.isSome = (kvs.lookup z).isSome := by
  obtain ⟨es, n, D, k1, k2⟩ := h
  cases e : kvs.lookup z with
  | none => exact ⟨none, k2 z e, rfl⟩
  | some y =>
    obtain ⟨t, ht⟩ := k1 z y e
    exact ⟨_, ht, rfl⟩
def opTab (x : Str) : Opr P where
  f := tabF P x
  sh := shTab P x
  ok := by
    intro X N sc ok e es he ds d hd
    obtain ⟨i, p, pos, rfl, h1, h2, h3, _, rfl⟩ := shTab_some he
    obtain ⟨z, kvs, y, rfl, hk, hl, rfl⟩ := tab_str hd
    obtain ⟨a, hm, es, n, D, k1, k2⟩ := ok.tab x kvs hk
    have hh : HasOp X (.Subscript (.Name x p) i pos) [i] _ := hasOp1 (r := fun y H Q => rIxD X.K X.w (.ref a) y H Q) fun ta pi => pe_ix ix_kdict (pe_glob (v := .ref a) (ok.gl h1) hm rfl h3) pi (plainIx h2)
    refine ⟨_, hh, hasT_of hh (fun _ => rfl), fun vs H F c Q r g k => ?_⟩
    obtain ⟨v, cd, rfl, r1, _⟩ := r.one
    obtain ⟨t, ht⟩ := k1 z y hl
    exact ⟨a, z, .str y, rfl, r1.strE, ⟨es, n, _, D.at_, D.lit, ht, ⟨t, rfl⟩⟩, k.str g⟩
  pl := by
    intro sc e es he
    obtain ⟨_, _, _, rfl, _⟩ := shTab_some he; rfl
  sound := by
    intro X N sc ok e es he
    obtain ⟨i, p, pos, rfl, h1, h2, h3, ⟨kvs, hk⟩, rfl⟩ := shTab_some he
    obtain ⟨a, hm, es, n, D, k1, k2⟩ := ok.tab x kvs hk
    have hh : HasOp X (.Subscript (.Name x p) i pos) [i] _ := hasOp1 (r := fun y H Q => rIxD X.K X.w (.ref a) y H Q) fun ta pi => pe_ix ix_kdict (pe_glob (v := .ref a) (ok.gl h1) hm rfl h3) pi (plainIx h2)
    exact ⟨_, hh, hasT_of hh (fun _ => rfl)⟩
abbrev rInK (X : Cx) (neg : Bool) (a : Addr) (x : V) (H : Hp) (Q : VK) : Prop := ∃ (z : Str) (r : Option Value), x = .str z ∧ V.ref a = .ref a ∧ PySem.W.nsIn X.K a z = some r ∧ Q (.bl (if neg = true then !r.isSome else r.isSome)) H
def opTabIn (x : Str) : Opr P where
  f := tabInF P false x
  sh := shTabIn P .In x
  ok := by
    intro X N sc ok e es he ds d hd
    obtain ⟨b, p, pos, rfl, h1, h2, h3, _, rfl⟩ := shTabIn_some he
    obtain ⟨z, kvs, rfl, hk, rfl⟩ := tabIn_str hd
    obtain ⟨a, hm, T⟩ := ok.tab x kvs hk
    obtain ⟨r0, hr0, hr1⟩ := nsIn_of T z
    obtain ⟨es, n, D, _⟩ := T
    refine ⟨_, hasOp1 (r := fun y H Q => rInK X false a y H Q) fun ta pi => pe_cmpR (op_in_kd D) pi (pe_glob (v := .ref a) (ok.gl h1) hm rfl h3) rfl, ?_, fun vs H F c Q r g k => ?_⟩
    · intro ts hts
      cases hts with
      | cons p1 hts =>
        cases hts
        exact pt_cmpR (op_in_kd D) p1 (pe_glob (v := .ref a) (ok.gl h1) hm rfl h3) rfl
    · obtain ⟨v, cd, rfl, r1, _⟩ := r.one
      refine ⟨z, r0, r1.strE, rfl, hr0, ?_⟩
      rw [hr1]
      exact k.bl g
  pl := by
    intro sc e es he
    obtain ⟨_, _, _, rfl, _⟩ := shTabIn_some he; rfl
  sound := by
    intro X N sc ok e es he
    obtain ⟨b, p, pos, rfl, h1, h2, h3, ⟨kvs, hk⟩, rfl⟩ := shTabIn_some he
    obtain ⟨a, hm, es, n, D, _⟩ := ok.tab x kvs hk
    refine ⟨_, hasOp1 (r := fun y H Q => rInK X false a y H Q) fun ta pi => pe_cmpR (op_in_kd D) pi (pe_glob (v := .ref a) (ok.gl h1) hm rfl h3) rfl, ?_⟩
    intro ts hts
    cases hts with
    | cons p1 hts =>
      cases hts
      exact pt_cmpR (op_in_kd D) p1 (pe_glob (v := .ref a) (ok.gl h1) hm rfl h3) rfl
def opTabNin (x : Str) : Opr P where
  f := tabInF P true x
  sh := shTabIn P .NotIn x
  ok := by
    intro X N sc ok e es he ds d hd
    obtain ⟨b, p, pos, rfl, h1, h2, h3, _, rfl⟩ := shTabIn_some he
    obtain ⟨z, kvs, rfl, hk, rfl⟩ := tabIn_str hd
    obtain ⟨a, hm, T⟩ := ok.tab x kvs hk
    obtain ⟨r0, hr0, hr1⟩ := nsIn_of T z
    obtain ⟨es, n, D, _⟩ := T
    refine ⟨_, hasOp1 (r := fun y H Q => rInK X true a y H Q) fun ta pi => pe_cmpR (op_notIn_kd D) pi (pe_glob (v := .ref a) (ok.gl h1) hm rfl h3) rfl, ?_, fun vs H F c Q r g k => ?_⟩
    · intro ts hts
      cases hts with
      | cons p1 hts =>
        cases hts
        exact pt_cmpR (op_notIn_kd D) p1 (pe_glob (v := .ref a) (ok.gl h1) hm rfl h3) rfl
    · obtain ⟨v, cd, rfl, r1, _⟩ := r.one
      refine ⟨z, r0, r1.strE, rfl, hr0, ?_⟩
      rw [hr1]
      exact k.bl g
  pl := by
    intro sc e es he
    obtain ⟨_, _, _, rfl, _⟩ := shTabIn_some he; rfl
  sound := by
    intro X N sc ok e es he
    obtain ⟨b, p, pos, rfl, h1, h2, h3, ⟨kvs, hk⟩, rfl⟩ := shTabIn_some he
    obtain ⟨a, hm, es, n, D, _⟩ := ok.tab x kvs hk
    refine ⟨_, hasOp1 (r := fun y H Q => rInK X true a y H Q) fun ta pi => pe_cmpR (op_notIn_kd D) pi (pe_glob (v := .ref a) (ok.gl h1) hm rfl h3) rfl, ?_⟩
    intro ts hts
    cases hts with
    | cons p1 hts =>
      cases hts
      exact pt_cmpR (op_notIn_kd D) p1 (pe_glob (v := .ref a) (ok.gl h1) hm rfl h3) rfl
/-! ### in values -/
theorem g_tab {x z y : Str} {kvs : List (Str × Str)} (hd : P.dt x = some kvs) (h : kvs.lookup z = some y) : (opTab x : Opr P).f [.str z] = some (.str y) := by
  show tabF P x [.str z] = _
  simp only [tabF, hd, Option.bind_some, h, Option.map_some]
theorem g_tabIn {x z : Str} {kvs : List (Str × Str)} (hd : P.dt x = some kvs) : (opTabIn x : Opr P).f [.str z] = some (.bl (kvs.lookup z).isSome) := by
  show tabInF P false x [.str z] = _
  simp only [tabInF, hd, Option.map_some, Bool.false_eq_true, if_false]
theorem g_tabNin {x z : Str} {kvs : List (Str × Str)} (hd : P.dt x = some kvs) : (opTabNin x : Opr P).f [.str z] = some (.bl (!(kvs.lookup z).isSome)) := by
  show tabInF P true x [.str z] = _
  simp only [tabInF, hd, Option.map_some, if_true]
end
end Ev
end
section
set_option maxRecDepth 100000
set_option maxHeartbeats 4000000
namespace Ev
open PySem PySem.Spec L2
theorem Rps.intsOf {K : PySem.W.Frag} {mg : Str → Option Value} {H F : Hp} : ∀ xs : List Int, Rps K mg H F (xs.map D.int) (xs.map V.int) []
  | [] => by simp only [List.map_nil, Rps]; exact ⟨trivial, trivial⟩
  | x :: xs => by
    simp only [List.map_cons, Rps]
    exact ⟨_, _, [], [], rfl, rfl, by simp only [Rp]; exact ⟨trivial, trivial⟩, Rps.intsOf xs⟩
/-! ### x[lo:], x[:hi], x[::-1] -/
def cutL {α : Type} (xs : List α) (lo hi : Option Int) : List α := (xs.drop (HT.sIx xs.length 0 lo)).take (HT.sIx xs.length xs.length hi - HT.sIx xs.length 0 lo)
theorem Rps.drop {K : PySem.W.Frag} {mg : Str → Option Value} {H F : Hp} : ∀ {xs : List D} {vs : List V} (n : Nat), Rps K mg H F xs vs [] → Rps K mg H F (xs.drop n) (vs.drop n) []
  | xs, vs, 0, h => by simpa using h
  | [], vs, n + 1, h => by
    simp only [Rps] at h
    rw [h.1]; simp only [List.drop_nil, Rps]; exact ⟨trivial, trivial⟩
  | d :: r, vs, n + 1, h => by
    simp only [Rps] at h
    obtain ⟨v, w, c1, c2, rfl, e, h1, h2⟩ := h
    obtain ⟨rfl, rfl⟩ := List.append_eq_nil_iff.mp e.symm
    simpa using Rps.drop n h2
theorem Rps.take {K : PySem.W.Frag} {mg : Str → Option Value} {H F : Hp} : ∀ {xs : List D} {vs : List V} (n : Nat), Rps K mg H F xs vs [] → Rps K mg H F (xs.take n) (vs.take n) []
  | xs, vs, 0, h => by simp only [List.take_zero, Rps]; exact ⟨trivial, trivial⟩
  | [], vs, n + 1, h => by
    simp only [Rps] at h
    rw [h.1]; simp only [List.take_nil, Rps]; exact ⟨trivial, trivial⟩
  | d :: r, vs, n + 1, h => by
    simp only [Rps] at h
    obtain ⟨v, w, c1, c2, rfl, e, h1, h2⟩ := h
    obtain ⟨rfl, rfl⟩ := List.append_eq_nil_iff.mp e.symm
    simp only [List.take_succ_cons, Rps]
    exact ⟨v, _, [], [], rfl, rfl, h1, Rps.take n h2⟩
theorem Rps.cut {K : PySem.W.Frag} {mg : Str → Option Value} {H F : Hp} {xs : List D} {vs : List V} (lo hi : Option Int) (h : Rps K mg H F xs vs []) : Rps K mg H F (cutL xs lo hi) (cutV vs lo hi) [] := by
  unfold cutL cutV
  rw [h.length]
  exact (h.drop _).take _
theorem cut_map {α β : Type} (f : α → β) (xs : List α) (lo hi : Option Int) : cutL (xs.map f) lo hi = (cutL xs lo hi).map f := by
  unfold cutL; rw [List.length_map, List.map_take, List.map_drop]
def slG (lo hi : Option Int) : D → Option D
  | .lst _ xs => if isFs xs = true then some (.lst true (cutL xs lo hi)) else none
  | .str z => if z.length ≤ sizeLine then some (.str (cutS z lo hi)) else none
  | .scr xs => some (.lst true ((cutL xs lo hi).map D.int))
  | .tup xs => if isFs xs = true then some (.tup (cutL xs lo hi)) else none
  | _ => none
theorem slG_ok {X : Cx} {d e : D} {lo hi : Option Int} (h : slG lo hi d = some e) : ∃ r, SlR X r ∧ ∀ (v : V) (H F : Hp) (c cd : List Addr) (Q : VK), Rp X.K X.mg H F d v cd → Good H F c → PostN X.K X.mg H F c e Q → r v lo hi H Q := by
  match d, h with
  | .lst o xs, h =>
    simp only [slG] at h
    split at h
    · rename_i hf
      cases h
      refine ⟨_, sl_list, fun v H F c cd Q r g k => ?_⟩
      obtain ⟨a, vs, cs, rfl, q, rs, _⟩ := r.lstE g.sub
      exact ⟨a, vs, rfl, .inl q, fun p hp => k.lst g hp ((rs.flat hf).cut lo hi)⟩
    · cases h
  | .str z, h =>
    simp only [slG] at h
    split at h
    · rename_i hz
      cases h
      refine ⟨_, sl_str, fun v H F c cd Q r g k => ?_⟩
      rw [r.strE]
      exact ⟨z, rfl, hz, k.str g⟩
    · cases h
  | .tup xs, h =>
    simp only [slG] at h
    split at h
    · rename_i hf
      cases h
      refine ⟨_, sl_tupA, fun v H F c cd Q r g k => ?_⟩
      have r0 : Rp X.K X.mg H F (.tup xs) v [] := r.flat (by simpa only [isF] using hf)
      obtain ⟨a, vs, rfl, q, rs⟩ := r0.tupE g.sub
      refine ⟨a, vs, rfl, q, fun hw => ?_, fun _ p hp => k.tup g hp (rs.cut lo hi)⟩
      have e : cutL xs lo hi = xs := by
        unfold cutL
        rw [rs.length, hw.1, hw.2, List.drop_zero, Nat.sub_zero, ← rs.length, List.take_length]
      exact k.flat g (by rw [e]; exact r0)
    · cases h
  | .scr xs, h =>
    cases h
    refine ⟨_, sl_list, fun v H F c cd Q r g k => ?_⟩
    simp only [Rp] at r
    obtain ⟨a, rfl, q, _⟩ := r
    refine ⟨a, _, rfl, g.sub.sqL q, fun p hp => k.lst g hp ?_⟩
    have := (Rps.intsOf (K := X.K) (mg := X.mg) (H := H) (F := F) xs).cut lo hi
    rwa [cut_map] at this
/-! ### a <= b < c -/
def cmpB : CmpOp → Int → Int → Bool
  | .Lt, i, j => decide (i < j)
  | .LtE, i, j => decide (i ≤ j)
  | .Gt, i, j => decide (j < i)
  | .GtE, i, j => decide (j ≤ i)
  | _, _, _ => false
def ordOp : CmpOp → Bool
  | .Lt => true
  | .LtE => true
  | .Gt => true
  | .GtE => true
  | _ => false
theorem ord_rule {op : CmpOp} (h : ordOp op = true) (X : Cx) : OpR X (compareOp op) (rI0 fun i j => .bl (cmpB op i j)) := by
  cases op <;> first | (simp [ordOp] at h; done) | exact op_lt | exact op_le | exact op_gt | exact op_ge
def shCh : Expr → Option (CmpOp × CmpOp × Expr × Expr × Expr)
  | .Compare x [p1, p2] [y, z] _ => some (p1, p2, x, y, z)
  | _ => none
theorem shCh_some {e : Expr} {q : CmpOp × CmpOp × Expr × Expr × Expr} (h : shCh e = some q) : ∃ pos, e = .Compare q.2.2.1 [q.1, q.2.1] [q.2.2.2.1, q.2.2.2.2] pos := by
  unfold shCh at h
  split at h
  · cases h; exact ⟨_, rfl⟩
  · cases h
def shSlc : Expr → Option (Expr × Expr × Expr)
  | .Subscript x (.Slice (some y) (some z) none _) _ => some (x, y, z)
  | _ => none
theorem shSlc_some {e : Expr} {q : Expr × Expr × Expr} (h : shSlc e = some q) : ∃ p2 pos, e = .Subscript q.1 (.Slice (some q.2.1) (some q.2.2) none p2) pos := by
  unfold shSlc at h
  split at h
  · cases h; exact ⟨_, _, rfl⟩
  · cases h
end Ev
end
section
set_option maxRecDepth 100000
namespace Ev
open PySem PySem.Spec L2

/-! ### expressions without effects -/
inductive A (P : Pg) where
  | v (i : Nat)
  | c (d : D) | g (x : Str)
  | p (o : Opr P) (es : List (A P))
  | pm (o : OprM P) (e : A P) (es : List (A P))
  | att (a : A P) (f : Str) | ix (a b : A P)
  | tup (es : List (A P)) | lst (es : List (A P)) | dic0
  | and (es : List (A P)) | or (es : List (A P)) | not (a : A P) | ite (c a b : A P)
  | ch (o1 o2 : CmpOp) (a b c : A P) | slc (a b c : A P)
/-- a slot's tree: of what is at hand, else of what may only be read -/
def look (tr rt : Tr) (i : Nat) : Option D := match tr[i]? with
  | some (some d) => some d
  | _ => match rt[i]? with
    | some (some d) => some d
    | _ => none
def getA (P : Pg) (f : Str) : D → Option D
  | .ins _ C fs xs => if P.att C f = true then (fs.zip xs).lookup f else none
  | _ => none
def keyD : D → Option Key
  | .int i => some (.inl i)
  | .str x => some (.inr x)
  | _ => none
def valD (ks : List Key) (xs : List D) (k : Key) : Option D := ((ks.zip xs).find? fun kv => decide (kv.1 = k)).map (·.2)
def getI : D → D → Option D
  | .lst _ xs, .int i => atI xs i
  | .tup xs, .int i => atI xs i
  | .str z, .int i => if z.length ≤ sizeLine then (atI z.cps.toList i).map fun c => .str ⟨#[c]⟩ else none
  | .dic _ ks xs, k => if ks.length = xs.length then (keyD k).bind (valD ks xs) else none
  | _, _ => none
mutual
def evA (tr rt : Tr) : A P → Option D
  | .v i => look tr rt i
  | .c d => some d
  | .g x => P.gl x
  | .p o es => (evAs tr rt es).bind o.f
  | .pm o e es => match evA tr rt e, evAs tr rt es with
    | some d, some ds => o.f (d :: ds)
    | _, _ => none
  | .att a f => (evA tr rt a).bind (getA P f)
  | .ix a b => match evA tr rt a, evA tr rt b with
    | some x, some y => getI x y
    | _, _ => none
  | .tup es => (evAs tr rt es).bind fun ds => if isFs ds = true ∧ ds.length ≤ sizeLine then some (.tup ds) else none
  | .lst es => (evAs tr rt es).bind fun ds => if isFs ds = true ∧ ds.length ≤ sizeLine then some (.lst true ds) else none
  | .dic0 => some (.dic true [] [])
  | .and es => evAnd tr rt es
  | .or es => evOr tr rt es
  | .not a => match evA tr rt a with
    | some (.bl b) => some (.bl (!b))
    | _ => none
  | .ite c a b => match evA tr rt c with
    | some (.bl k) => (if k then evA tr rt a else evA tr rt b).bind fun d => if isF d = true then some d else none
    | _ => none
  | .ch o1 o2 a b c => match evA tr rt a, evA tr rt b with
    | some (.int x), some (.int y) => if cmpB o1 x y = true then (match evA tr rt c with
      | some (.int z) => some (.bl (cmpB o2 y z))
      | _ => none) else some (.bl false)
    | _, _ => none
  | .slc a b c => match evA tr rt a, evA tr rt b, evA tr rt c with
    | some d, some (.int i), some (.int j) => slG (some i) (some j) d
    | _, _, _ => none
def evAs (tr rt : Tr) : List (A P) → Option (List D)
  | [] => some []
  | a :: r => match evA tr rt a, evAs tr rt r with
    | some x, some y => some (x :: y)
    | _, _ => none
def evAnd (tr rt : Tr) : List (A P) → Option D
  | [] => none
  | [a] => (evA tr rt a).bind fun d => if isF d = true then some d else none
  | a :: r => match evA tr rt a with
    | some (.bl true) => evAnd tr rt r
    | some (.bl false) => some (.bl false)
    | _ => none
def evOr (tr rt : Tr) : List (A P) → Option D
  | [] => none
  | [a] => (evA tr rt a).bind fun d => if isF d = true then some d else none
  | a :: r => match evA tr rt a with
    | some (.bl false) => evOr tr rt r
    | some (.bl true) => some (.bl true)
    | _ => none
end
def noIte : A P → Bool
  | .ite _ _ _ => false
  | _ => true
/-- what hands out a part of what stands -/
def shares : A P → Bool
  | .v _ => true
  | .att _ _ => true
  | .ix _ _ => true
  | _ => false

/-! ### where they stand in the text -/
def visB (N : List Str) (sc : Scope) (i : Nat) (x : Str) : Bool :=
  decide (N[i]? = some x) && (sc.names.lookup x == some .local || sc.names.lookup x == some .cell || sc.names.lookup x == some .free) && !(x == ("__debug__" : Str)) && !(x == ("__classdict__" : Str))
def constB : D → Const → Bool
  | .non, .none => true
  | .bl b, .bool c => b == c
  | .int i, .int j => decide (i = j)
  | .str x, .str y => decide (x = y)
  | _, _ => false
def testPl : Expr → Bool
  | .UnaryOp .. => false
  | .BoolOp .. => false
  | .IfExp .. => false
  | .Compare .. => false
  | _ => true
mutual
def chkA (N : List Str) (sc : Scope) : A P → Expr → Bool
  | .v i, .Name x _ => visB N sc i x
  | .c (.ty n), .Name x _ => decide (bootBuiltins x = some (.type n)) && isBlt x && glB sc x && !(x == ("__debug__" : Str)) && !(x == ("__name__" : Str))
  | .c d, .Constant k _ _ => constB d k
  | .g x, .Name y _ => decide (x = y) && glB sc x && !(x == ("__debug__" : Str))
  | .p o es, e => match o.sh sc e with
    | some xs => chkAs N sc es xs
    | none => false
  | .pm o a es, e => match o.sh sc e with
    | some (x, xs) => testPl e && chkA N sc a x && chkAs N sc es xs
    | none => false
  | .att a f, .Attribute e g _ => decide (f = g) && plainX e && chkA N sc a e
  | .ix a b, .Subscript e i _ => plainX i && chkA N sc a e && chkA N sc b i
  | .tup es, .Tuple xs _ _ => xs.all plainX && chkAs N sc es xs
  | .lst es, .List xs _ => xs.all plainX && chkAs N sc es xs
  | .dic0, .Dict [] [] _ => true
  | .and es, .BoolOp .And xs _ => chkTs N sc es xs
  | .or es, .BoolOp .Or xs _ => chkTs N sc es xs
  | .not a, .UnaryOp .Not x _ => noIte a && chkA N sc a x
  | .ite c a b, .IfExp x y z _ => noIte c && chkA N sc c x && chkA N sc a y && chkA N sc b z
  | .ch o1 o2 a b c, e => match shCh e with
    | some q => decide (q.1 = o1) && decide (q.2.1 = o2) && ordOp o1 && ordOp o2 && !(lastMarks [q.1, q.2.1] [q.2.2.2.1, q.2.2.2.2]) && chkA N sc a q.2.2.1 && chkA N sc b q.2.2.2.1 && chkA N sc c q.2.2.2.2
    | none => false
  | .slc a b c, e => match shSlc e with
    | some q => chkA N sc a q.1 && chkA N sc b q.2.1 && chkA N sc c q.2.2
    | none => false
  | _, _ => false
def chkAs (N : List Str) (sc : Scope) : List (A P) → List Expr → Bool
  | [], [] => true
  | a :: r, e :: t => chkA N sc a e && chkAs N sc r t
  | _, _ => false
def chkTs (N : List Str) (sc : Scope) : List (A P) → List Expr → Bool
  | [], [] => true
  | a :: r, e :: t => (noIte a && chkA N sc a e) && chkTs N sc r t
  | _, _ => false
end
/-- the state's relation: what is at hand, what may only be read, all among the cells c -/
structure Stt (K : PySem.W.Frag) (mg : Str → Option Value) (H F : Hp) (tr rt : Tr) (σ : L2.St) (c : List Addr) : Prop where
  a : ∃ cs, SR K mg H F tr σ cs ∧ ∀ b ∈ cs, b ∈ c
  r : ∃ cs, SR K mg H F rt σ cs ∧ ∀ b ∈ cs, b ∈ c
  g : Good H F c
section
variable {K : PySem.W.Frag} {mg : Str → Option Value} {H F H' F' : Hp} {tr rt : Tr} {σ : L2.St} {c c' : List Addr}
theorem Stt.keep (s : Stt K mg H F tr rt σ c) (l : Le F F') (k : ∀ a ∈ c, H' a = H a) (g : Good H' F' c') (hc : ∀ a ∈ c, a ∈ c') : Stt K mg H' F' tr rt σ c' := by
  obtain ⟨⟨c1, s1, k1⟩, ⟨c2, s2, k2⟩, _⟩ := s
  exact ⟨⟨c1, s1.keep l fun a ha => k a (k1 a ha), fun a ha => hc a (k1 a ha)⟩, ⟨c2, s2.keep l fun a ha => k a (k2 a ha), fun a ha => hc a (k2 a ha)⟩, g⟩
theorem Stt.look (s : Stt K mg H F tr rt σ c) {i : Nat} {d : D} (h : look tr rt i = some d) : ∃ v cd, σ[i]? = some (some v) ∧ Rp K mg H F d v cd ∧ ∀ a ∈ cd, a ∈ c := by
  obtain ⟨⟨c1, s1, k1⟩, ⟨c2, s2, k2⟩, _⟩ := s
  unfold Ev.look at h
  split at h
  · rename_i d' e
    cases h
    obtain ⟨v, a1, a2, e1, r, _, p⟩ := s1.take e
    exact ⟨v, a1, e1, r, fun a ha => k1 a (p.symm.subset (by simp [ha]))⟩
  · split at h
    · rename_i d' e
      cases h
      obtain ⟨v, a1, a2, e1, r, _, p⟩ := s2.take e
      exact ⟨v, a1, e1, r, fun a ha => k2 a (p.symm.subset (by simp [ha]))⟩
    · cases h
/-- what is to be shown of an expression's value; fr: it shares nothing with what stands -/
def PostQ (K : PySem.W.Frag) (mg : Str → Option Value) (fr : Bool) (H F : Hp) (c : List Addr) (d : D) (Q : VK) : Prop :=
  ∀ v H' F' c' cd, Le F F' → (∀ a ∈ c, H' a = H a) → Good H' F' c' → (∀ a ∈ c, a ∈ c') → (∀ a ∈ cd, a ∈ c') → (fr = true → Good H' F' (cd ++ c)) → Rp K mg H' F' d v cd → Q v H'
theorem Good.of (g : Good H F c) (g' : Good H' F' c') (h : ∀ a ∈ c, a ∈ c') : Good H' F' c := ⟨g'.sub, g.nd, fun a ha => g'.own a (h a ha)⟩
/-- of an operation -/
theorem PostQ.n {fr : Bool} {d : D} {Q : VK} (h : PostQ K mg fr H F c d Q) (l : Le F F') (k : ∀ a ∈ c, H' a = H a) (g : Good H F c) (hc : ∀ a ∈ c, a ∈ c') : PostN K mg H' F' c' d Q := by
  intro v H2 F2 cd l2 k2 g2 r
  refine h v H2 F2 (cd ++ c') cd (l.trans l2) (fun a ha => (k2 a (hc a ha)).trans (k a ha)) g2 (fun a ha => by simp [hc a ha]) (fun a ha => by simp [ha]) (fun _ => ?_) r
  have nd := List.nodup_append.mp g2.nd
  refine ⟨g2.sub, List.nodup_append.mpr ⟨nd.1, g.nd, fun a ha b hb => nd.2.2 a ha b (hc b hb)⟩, fun a ha => g2.own a ?_⟩
  rcases List.mem_append.mp ha with ha | ha
  · simp [ha]
  · simp [hc a ha]
/-- .. of a value without cells -/
theorem PostQ.flat {fr : Bool} {d : D} {v : V} {Q : VK} (h : PostQ K mg fr H F c d Q) (g : Good H F c) (r : Rp K mg H F d v []) : Q v H :=
  h v H F c [] (Le.refl F) (fun _ _ => rfl) g (fun _ ha => ha) (fun a ha => by simp at ha) (fun _ => g) r
/-- a post at a later state -/
theorem PostQ.later {fr : Bool} {d : D} {Q : VK} (h : PostQ K mg fr H F c d Q) (l : Le F F') (k : ∀ a ∈ c, H' a = H a) (g : Good H F c) (hc : ∀ a ∈ c, a ∈ c') : PostQ K mg fr H' F' c' d Q := by
  intro v H2 F2 c2 cd l2 k2 g2 h2 h3 f r
  refine h v H2 F2 c2 cd (l.trans l2) (fun a ha => (k2 a (hc a ha)).trans (k a ha)) g2 (fun a ha => h2 a (hc a ha)) h3 (fun e => ?_) r
  have g3 := f e
  have nd := List.nodup_append.mp g3.nd
  refine ⟨g3.sub, List.nodup_append.mpr ⟨nd.1, g.nd, fun a ha b hb => nd.2.2 a ha b (hc b hb)⟩, fun a ha => g3.own a ?_⟩
  rcases List.mem_append.mp ha with ha | ha
  · simp [ha]
  · simp [hc a ha]
end
theorem zip_lookup {f : Str} : ∀ {fs : List Str} {xs : List D} {d : D}, (fs.zip xs).lookup f = some d → ∃ i : Nat, xs[i]? = some d ∧ ∀ {vs : List V}, xs.length = vs.length → ∀ v, vs[i]? = some v → (fs.zip vs).lookup f = some v
  | [], xs, d, h => by simp at h
  | _ :: _, [], d, h => by simp at h
  | g :: fs, x :: xs, d, h => by
    rw [List.zip_cons_cons, List.lookup_cons] at h
    cases e : f == g with
    | true =>
      rw [e] at h
      cases h
      refine ⟨0, rfl, fun {vs} hl v hv => ?_⟩
      cases vs with
      | nil => simp at hv
      | cons w ws =>
        simp at hv; subst hv
        rw [List.zip_cons_cons, List.lookup_cons, e]
    | false =>
      rw [e] at h
      obtain ⟨i, h1, h2⟩ := zip_lookup h
      refine ⟨i + 1, by simpa using h1, fun {vs} hl v hv => ?_⟩
      cases vs with
      | nil => simp at hv
      | cons w ws =>
        rw [List.zip_cons_cons, List.lookup_cons, e]
        exact h2 (by simpa using hl) v (by simpa using hv)
theorem zip_find {k : Key} : ∀ {ks : List Key} {xs : List D} {d : D}, valD ks xs k = some d → ∃ i : Nat, xs[i]? = some d ∧ ks[i]? = some k ∧ ∀ {vs : List V}, xs.length = vs.length → ∀ v, vs[i]? = some v → valV (ks.zip vs) k = some v
  | [], xs, d, h => by simp [valD] at h
  | _ :: _, [], d, h => by simp [valD] at h
  | g :: ks, x :: xs, d, h => by
    by_cases e : g = k
    · subst e
      simp [valD] at h
      subst h
      refine ⟨0, rfl, rfl, fun {vs} hl v hv => ?_⟩
      cases vs with
      | nil => simp at hv
      | cons w ws =>
        simp at hv; subst hv
        rw [List.zip_cons_cons]; exact valV_pos rfl
    · have h' : valD ks xs k = some d := by
        simpa [valD, List.find?_cons, e] using h
      obtain ⟨i, h1, h2, h3⟩ := zip_find h'
      refine ⟨i + 1, by simpa using h1, by simpa using h2, fun {vs} hl v hv => ?_⟩
      cases vs with
      | nil => simp at hv
      | cons w ws =>
        rw [List.zip_cons_cons, valV_neg e]
        exact h3 (by simpa using hl) v (by simpa using hv)
theorem atI_of {α β : Type} {xs : List α} {ys : List β} {i : Int} {x : α} (hl : xs.length = ys.length) (h : atI xs i = some x) : ∃ j : Nat, xs[j]? = some x ∧ ∀ y, ys[j]? = some y → atI ys i = some y := by
  unfold atI at h
  cases e : ixN xs.length i with
  | none => rw [e] at h; cases h
  | some j =>
    rw [e] at h
    refine ⟨j, h, fun y hy => ?_⟩
    unfold atI
    rw [← hl, e]; exact hy
end Ev
end
section
set_option maxRecDepth 100000
namespace Ev
open PySem PySem.Spec L2
set_option maxHeartbeats 4000000
variable {P : Pg}
theorem visB_ok {X : Cx} {N : List Str} {sc : Scope} (ok : XOk P X N sc) {i : Nat} {x : Str} (h : visB N sc i x = true) : X.N[i]? = some x ∧ Vis X.env.scope x ∧ (x == ("__debug__" : Str)) = false ∧ (x == ("__classdict__" : Str)) = false := by
  unfold visB at h
  simp only [Bool.and_eq_true, Bool.or_eq_true, Bool.not_eq_true', decide_eq_true_eq, beq_iff_eq] at h
  obtain ⟨⟨⟨h1, h2⟩, h3⟩, h4⟩ := h
  refine ⟨by rw [ok.names]; exact h1, ?_, h3, h4⟩
  unfold Vis
  rw [ok.scope]
  rcases h2 with (h2 | h2) | h2
  · exact .inl h2
  · exact .inr (.inl h2)
  · exact .inr (.inr h2)
theorem fresh_sep {K : PySem.W.Frag} {mg : Str → Option Value} {fr : Bool} {H F H' F' : Hp} {c cd : List Addr} {d : D} {Q : VK} {v : V} (h : PostQ K mg fr H F c d Q) (l : Le F F') (k : ∀ a ∈ c, H' a = H a) (g : Good H' F' (cd ++ c)) (r : Rp K mg H' F' d v cd) : Q v H' :=
  h v H' F' (cd ++ c) cd l k g (fun a ha => by simp [ha]) (fun a ha => by simp [ha]) (fun _ => g) r
theorem RpE.rps {K : PySem.W.Frag} {mg : Str → Option Value} {H F : Hp} {c : List Addr} : ∀ {ds : List D} {vs : List V}, RpE K mg H F c ds vs → ∃ cv, Rps K mg H F ds vs cv ∧ ∀ a ∈ cv, a ∈ c
  | [], vs, h => by simp only [RpE] at h; exact ⟨[], by simp only [Rps]; exact ⟨h, trivial⟩, fun a ha => by simp at ha⟩
  | d :: r, vs, h => by
    simp only [RpE] at h
    obtain ⟨v, w, cd, e, rp, k, h2⟩ := h
    obtain ⟨cv, h3, h4⟩ := h2.rps
    refine ⟨cd ++ cv, by simp only [Rps]; exact ⟨v, w, cd, cv, e, rfl, rp, h3⟩, fun a ha => ?_⟩
    rcases List.mem_append.mp ha with ha | ha
    · exact k a ha
    · exact h4 a ha
/-- as a value -/
def Val (X : Cx) (tr rt : Tr) (a : A P) (e : Expr) : Prop := ∀ d, evA tr rt a = some d → ∀ (σ : L2.St) (H F : Hp) (c : List Addr) (Q : VK), Stt X.K X.mg H F tr rt σ c → PostQ X.K X.mg (!shares a) H F c d Q → mx X e σ H Q
/-- as a test -/
def Tst (X : Cx) (tr rt : Tr) (a : A P) (e : Expr) : Prop := noIte a = true → ∀ b, evA tr rt a = some (.bl b) → ∀ (σ : L2.St) (H F : Hp) (c : List Addr) (Q : Bool → Hp → Prop), Stt X.K X.mg H F tr rt σ c →
  (∀ H' F' c', Le F F' → (∀ a ∈ c, H' a = H a) → Good H' F' c' → (∀ a ∈ c, a ∈ c') → Q b H') → mxT X e σ H Q
abbrev testPlain : Expr → Bool := testPl
theorem testPlain_ok {e : Expr} {env : Env} (h : testPlain e = true) (whole : Sem Value) : isTrue e env whole = (do let v ← whole; standAt e.pos; holding [v] (truthy v)) := by
  cases e <;> first | rfl | (simp [testPl] at h)
theorem both {X : Cx} {tr rt : Tr} {a : A P} {e : Expr} (v : Val X tr rt a e) (h : testPlain e = true) : Val X tr rt a e ∧ Tst X tr rt a e := by
  refine ⟨v, fun _ b hb σ H F c Q s k => ?_⟩
  refine ⟨_, pt_val pe_mx (testPlain_ok h), ?_⟩
  refine v _ hb σ H F c _ s fun x H' F' c' cd l kk g' hcc hcd _ r => ?_
  exact ⟨b, r.blE, k H' F' c' l kk g' hcc⟩
def mxW (X : Cx) (e : Expr) : TT := fun σ H Q => ∃ t, PW X e t ∧ t σ H Q
theorem pw_mx {X : Cx} {e : Expr} : PW X e (mxW X e) := ⟨fun wh pins s σ H Q I ⟨t, p, h⟩ => p.run wh pins s σ H Q I h⟩
mutual
theorem evA_ok {X : Cx} {N : List Str} {sc : Scope} (ok : XOk P X N sc) {tr rt : Tr} : ∀ (a : A P) (e : Expr), chkA N sc a e = true → Val X tr rt a e ∧ Tst X tr rt a e
  | .v i, e, hc => by
    cases e with
    | Name x pos =>
      obtain ⟨h1, h2, h3, h4⟩ := visB_ok ok hc
      refine both (fun d hd σ H F c Q s k => ?_) rfl
      obtain ⟨v, cd, e1, r, h⟩ := s.look (show look tr rt i = some d from hd)
      refine mx_of (pe_var h1 h2 h3 h4) ⟨v, e1, ?_⟩
      exact k v H F c cd (Le.refl F) (fun _ _ => rfl) s.g (fun _ ha => ha) h (fun e => nomatch e) r
    | _ => simp [chkA] at hc
  | .c d0, e, hc => by
    cases e with
    | Constant kk j pos =>
      refine both (fun d hd σ H F c Q s k => ?_) rfl
      cases hd
      cases d0 <;> cases kk <;> first | (simp [chkA, constB] at hc; done) | skip
      · exact mx_of pe_non (k.flat s.g (by simp only [Rp]; exact ⟨trivial, trivial⟩))
      · simp only [chkA, constB, beq_iff_eq] at hc
        subst hc
        exact mx_of pe_bl (k.flat s.g (by simp only [Rp]; exact ⟨trivial, trivial⟩))
      · simp only [chkA, constB, decide_eq_true_eq] at hc
        subst hc
        exact mx_of pe_int (k.flat s.g (by simp only [Rp]; exact ⟨trivial, trivial⟩))
      · simp only [chkA, constB, decide_eq_true_eq] at hc
        subst hc
        exact mx_of pe_str (k.flat s.g (by simp only [Rp]; exact ⟨trivial, trivial⟩))
    | Name x pos =>
      refine both (fun d hd σ H F c Q s k => ?_) rfl
      cases hd
      cases d0 with
      | ty n =>
        simp only [chkA, Bool.and_eq_true, Bool.not_eq_true', decide_eq_true_eq] at hc
        obtain ⟨⟨⟨⟨h1, h2⟩, h3⟩, h4⟩, h5⟩ := hc
        exact mx_of (pe_bltn (v := .ty n) (ok.gl h3) (ok.blt _ h2) h1 rfl (by intro q; rw [q] at h5; simp at h5) h4) (k.flat s.g (by simp only [Rp]; exact ⟨trivial, trivial⟩))
      | _ => simp [chkA] at hc
    | _ => cases d0 <;> simp [chkA] at hc
  | .g x, e, hc => by
    cases e with
    | Name y pos =>
      simp only [chkA, Bool.and_eq_true, Bool.not_eq_true', decide_eq_true_eq] at hc
      obtain ⟨⟨rfl, h2⟩, h3⟩ := hc
      refine both (fun d hd σ H F c Q s k => ?_) rfl
      obtain ⟨v, u, e1, e2, _, e3⟩ := ok.glob x d hd
      exact mx_of (pe_glob (ok.gl h2) e1 e2 h3) (k.flat s.g (e3 H F))
    | _ => simp [chkA] at hc
  | .p o es, e, hc => by
    simp only [chkA] at hc
    split at hc
    · rename_i xs hsh
      refine ⟨fun d hd σ H F c Q s k => ?_, fun _ b hd σ H F c Q s k => ?_⟩
      · simp only [evA] at hd
        cases q : evAs tr rt es with
        | none => rw [q] at hd; cases hd
        | some ds =>
          rw [q] at hd
          obtain ⟨R, h1, _, h2⟩ := o.ok X N sc ok e xs hsh ds d hd
          refine mx_op h1 (evAs_ok ok es xs ds hc q σ H F c R Q s fun vs H' F' c' l kk g' hcc hr => ?_)
          exact h2 vs H' F' c' Q hr g' (k.n l kk s.g hcc)
      · simp only [evA] at hd
        cases q : evAs tr rt es with
        | none => rw [q] at hd; cases hd
        | some ds =>
          rw [q] at hd
          obtain ⟨R, _, h1, h2⟩ := o.ok X N sc ok e xs hsh ds _ hd
          refine mxT_op h1 (evAs_ok ok es xs ds hc q σ H F c R _ s fun vs H' F' c' l kk g' hcc hr => ?_)
          refine h2 vs H' F' c' _ hr g' fun v H2 F2 cd l2 k2 g2 r => ?_
          exact ⟨b, r.blE, k H2 F2 (cd ++ c') (l.trans l2) (fun z hz => (k2 z (hcc z hz)).trans (kk z hz)) g2 fun z hz => by simp [hcc z hz]⟩
    · cases hc
  | .pm o a es, e, hc => by
    simp only [chkA] at hc
    split at hc
    · rename_i x xs hsh
      simp only [Bool.and_eq_true] at hc
      refine both (fun d hd σ H F c Q s k => ?_) hc.1.1
      simp only [evA] at hd
      split at hd
      · rename_i da ds q1 q2
        obtain ⟨R, h1, h2⟩ := o.ok X N sc ok e x xs hsh _ d hd
        refine mx_of (h1 _ _ pe_mx (allPE_mx xs)) ?_
        refine (evA_ok ok a x hc.1.2).1 da q1 σ H F c _ s fun v H1 F1 c1 cd l1 k1 g1 hc1 hcd _ r1 => ?_
        refine ⟨o.mid _ _ _ (o.fh _ _ _ hd) v H1 F1 cd r1 g1.sub, ?_⟩
        refine evAs_ok ok es xs ds hc.2 q2 σ H1 F1 c1 (fun vs => R (v :: vs)) Q (s.keep l1 k1 g1 hc1) fun vs H' F' c' l kk g' hcc hr => ?_
        refine h2 (v :: vs) H' F' c' Q ?_ g' (k.n (l1.trans l) (fun z hz => (kk z (hc1 z hz)).trans (k1 z hz)) s.g fun z hz => hcc z (hc1 z hz))
        simp only [RpE]
        exact ⟨v, vs, cd, rfl, Rp.keep l _ _ _ r1 fun z hz => kk z (hcd z hz), fun z hz => hcc z (hcd z hz), hr⟩
      · cases hd
    · cases hc
  | .att a f, e, hc => by
    cases e with
    | Attribute x g pos =>
      simp only [chkA, Bool.and_eq_true, decide_eq_true_eq] at hc
      obtain ⟨⟨rfl, h2⟩, h3⟩ := hc
      refine both (fun d hd σ H F c Q s k => ?_) rfl
      simp only [evA] at hd
      cases q : evA tr rt a with
      | none => rw [q] at hd; cases hd
      | some da =>
        rw [q] at hd
        have hd : getA P f da = some d := hd
        refine mx_of (pe_fld (f := f) pe_mx (base_of h2)) ((evA_ok ok a x h3).1 da q σ H F c _ s fun v H' F' c' cd l kk g' hcc hcd fr r => ?_)
        match da, hd, r with
        | .ins o C fs xs, hd, r =>
          simp only [getA] at hd
          split at hd
          · rename_i hat
            obtain ⟨i, e1, e2⟩ := zip_lookup hd
            have main : ∃ b A dx vs cs, v = .ref b ∧ X.mg C = some (.ref A) ∧ H' b = some (.ins A dx (fs.zip vs)) ∧ Rps X.K X.mg H' F' xs vs cs ∧ ∀ z ∈ cs, z ∈ cd := by
              cases o with
              | true =>
                simp only [Rp] at r
                obtain ⟨b, A, dx, vs, c2, q1, q2, q3, q4, q5, rfl⟩ := r
                exact ⟨b, A, dx, vs, c2, q1, q2, q4, q5, fun z hz => by simp [hz]⟩
              | false =>
                simp only [Rp] at r
                obtain ⟨b, A, dx, vs, q1, q2, q3, q4, q5⟩ := r
                exact ⟨b, A, dx, vs, cd, q1, q2, g'.sub _ _ q4, q5, fun z hz => hz⟩
            obtain ⟨b, A, dx, vs, cs, rfl, q2, q4, q5, q6⟩ := main
            obtain ⟨v1, c1, z1, z2, z3⟩ := q5.get e1
            obtain ⟨y1, y2⟩ := ok.cls C A f hat q2
            refine ⟨b, A, dx, _, v1, rfl, q4, y1, y2, e2 q5.length v1 z1, ?_⟩
            exact k v1 H' F' c' c1 l kk g' hcc (fun z hz => hcd z (q6 z (z3 z hz))) (fun e => nomatch e) z2
          · cases hd
    | _ => simp [chkA] at hc
  | .ix a b, e, hc => by
    cases e with
    | Subscript x y pos =>
      simp only [chkA, Bool.and_eq_true] at hc
      obtain ⟨⟨h1, h2⟩, h3⟩ := hc
      refine both (fun d hd σ H F c Q s k => ?_) rfl
      simp only [evA] at hd
      split at hd
      · rename_i da db q1 q2
        have go : ∀ (r : R2), PE X (.Subscript x y pos) (tOp r (mx X x) (mx X y)) →
            (∀ v w H' F' c' cd cw, Le F F' → (∀ a ∈ c, H' a = H a) → Good H' F' c' → (∀ a ∈ c, a ∈ c') → (∀ a ∈ cd, a ∈ c') → Rp X.K X.mg H' F' da v cd → Rp X.K X.mg H' F' db w cw → r v w H' Q) → mx X (.Subscript x y pos) σ H Q := by
          intro r hp hr
          refine mx_of hp ((evA_ok ok a x h2).1 da q1 σ H F c _ s fun v H1 F1 c1 cd l1 k1 g1 hc1 hcd _ r1 => ?_)
          refine (evA_ok ok b y h3).1 db q2 σ H1 F1 c1 _ (s.keep l1 k1 g1 hc1) fun w H2 F2 c2 cw l2 k2 g2 hc2 hcw _ r2 => ?_
          exact hr v w H2 F2 c2 cd cw (l1.trans l2) (fun z hz => (k2 z (hc1 z hz)).trans (k1 z hz)) g2 (fun z hz => hc2 z (hc1 z hz)) (fun z hz => hc2 z (hcd z hz)) (Rp.keep l2 da v cd r1 fun z hz => k2 z (hcd z hz)) r2
        match da, db, hd, go with
        | .lst o xs, .int i, hd, go =>
          refine go _ (pe_ix ix_list pe_mx pe_mx (plainIx h1)) fun v w H' F' c' cd cw l kk g' hcc hcd r1 r2 => ?_
          obtain ⟨p, vs, cs, rfl, q, r, hh⟩ := r1.lstE g'.sub
          obtain ⟨j, e1, e2⟩ := atI_of r.length (show atI xs i = some d from hd)
          obtain ⟨v1, c1, z1, z2, z3⟩ := r.get e1
          exact ⟨p, vs, i, v1, rfl, r2.intE, .inl q, e2 v1 z1, k v1 H' F' c' c1 l kk g' hcc (fun z hz => hcd z (hh z (z3 z hz))) (fun e => nomatch e) z2⟩
        | .tup xs, .int i, hd, go =>
          refine go _ (pe_ix ix_tup pe_mx pe_mx (plainIx h1)) fun v w H' F' c' cd cw l kk g' hcc hcd r1 r2 => ?_
          obtain ⟨p, vs, rfl, q, r⟩ := r1.tupE g'.sub
          obtain ⟨j, e1, e2⟩ := atI_of r.length (show atI xs i = some d from hd)
          obtain ⟨v1, c1, z1, z2, z3⟩ := r.get e1
          exact ⟨p, vs, i, v1, rfl, r2.intE, q, e2 v1 z1, k v1 H' F' c' c1 l kk g' hcc (fun z hz => hcd z (z3 z hz)) (fun e => nomatch e) z2⟩
        | .str z, .int i, hd, go =>
          simp only [getI] at hd
          split at hd
          · rename_i hz
            cases e : atI z.cps.toList i with
            | none => rw [e] at hd; cases hd
            | some ch =>
              rw [e] at hd; cases hd
              refine go _ (pe_ix ix_str pe_mx pe_mx (plainIx h1)) fun v w H' F' c' cd cw l kk g' hcc hcd r1 r2 => ?_
              exact ⟨z, i, ch, r1.strE, r2.intE, hz, e, k _ H' F' c' [] l kk g' hcc (fun z hz => by simp at hz) (fun e => nomatch e) (by simp only [Rp]; exact ⟨trivial, trivial⟩)⟩
          · cases hd
        | .dic o ks xs, dk, hd, go =>
          simp only [getI] at hd
          split at hd
          · rename_i hl
            cases ek : keyD dk with
            | none => rw [ek] at hd; cases hd
            | some kk0 =>
              rw [ek] at hd
              have hd : valD ks xs kk0 = some d := hd
              obtain ⟨i, e1, _, e2⟩ := zip_find hd
              have hu := ok.units
              refine mx_of (pe_dget (by omega) pe_mx pe_mx (noSl h1)) ?_
              refine (evA_ok ok a x h2).1 _ q1 σ H F c _ s fun v H1 F1 c1 cd l1 k1 g1 hc1 hcd _ r1 => ?_
              refine (evA_ok ok b y h3).1 dk q2 σ H1 F1 c1 _ (s.keep l1 k1 g1 hc1) fun w H2 F2 c2 cw l2 k2 g2 hc2 hcw _ r2 => ?_
              have r1 := Rp.keep l2 _ v cd r1 (fun z hz => k2 z (hcd z hz))
              have main : ∃ p vs cs, v = .ref p ∧ H2 p = some (.dK (ks.zip vs)) ∧ Rps X.K X.mg H2 F2 xs vs cs ∧ ∀ z ∈ cs, z ∈ cd := by
                cases o with
                | true =>
                  simp only [Rp] at r1
                  obtain ⟨p, vs, c', z1, z2, z3, z4, z5, rfl⟩ := r1
                  exact ⟨p, vs, c', z1, z4, z5, fun z hz => by simp [hz]⟩
                | false =>
                  simp only [Rp] at r1
                  obtain ⟨p, vs, z1, z2, z3, z4, z5⟩ := r1
                  exact ⟨p, vs, cd, z1, g2.sub _ _ z4, z5, fun z hz => hz⟩
              obtain ⟨p, vs, cs, rfl, z4, z5, z6⟩ := main
              obtain ⟨v1, c1', y1, y2, y3⟩ := z5.get e1
              have hw : w = kV kk0 := by
                match dk, ek, r2 with
                | .int i, ek, r2 => cases ek; exact r2.intE
                | .str i, ek, r2 => cases ek; exact r2.strE
              refine ⟨p, v1, rfl, ?_, ?_⟩
              · rw [hw]
                exact .inl ⟨_, _, .inl z4, rfl, (e2 z5.length v1 y1).symm⟩
              · exact k v1 H2 F2 c2 c1' (l1.trans l2) (fun z hz => (k2 z (hc1 z hz)).trans (k1 z hz)) g2 (fun z hz => hc2 z (hc1 z hz)) (fun z hz => hc2 z (hcd z (z6 z (y3 z hz)))) (fun e => nomatch e) y2
          · cases hd
      · cases hd
    | _ => simp [chkA] at hc
  | .tup es, e, hc => by
    cases e with
    | Tuple xs kk pos =>
      simp only [chkA, Bool.and_eq_true] at hc
      refine both (fun d hd σ H F c Q s k => ?_) rfl
      simp only [evA] at hd
      cases q : evAs tr rt es with
      | none => rw [q] at hd; cases hd
      | some ds =>
        rw [q] at hd
        have hd : (if isFs ds = true ∧ ds.length ≤ sizeLine then some (D.tup ds) else none) = some d := hd
        split at hd
        · rename_i hf
          cases hd
          refine mx_of (pe_tup (pa_all (allPE_mx xs) hc.1)) ?_
          have z := evAs_ok ok es xs ds hc.2 q σ H F c (fun vs H1 Q => vs.length ≤ sizeLine ∧ ∀ p, H1 p = none → Q (.ref p) (upd H1 p (.tup vs))) Q s fun vs H' F' c' l kk g' hcc hr => ?_
          · rw [tL_ops] at z; exact z
          · obtain ⟨cv, rs, hcv⟩ := hr.rps
            have rs0 := rs.flat hf.1
            exact ⟨by rw [← rs.length]; exact hf.2, fun p hp => (k.n l kk s.g hcc).tup g' hp rs0⟩
        · cases hd
    | _ => simp [chkA] at hc
  | .lst es, e, hc => by
    cases e with
    | List xs pos =>
      simp only [chkA, Bool.and_eq_true] at hc
      refine both (fun d hd σ H F c Q s k => ?_) rfl
      simp only [evA] at hd
      cases q : evAs tr rt es with
      | none => rw [q] at hd; cases hd
      | some ds =>
        rw [q] at hd
        have hd : (if isFs ds = true ∧ ds.length ≤ sizeLine then some (D.lst true ds) else none) = some d := hd
        split at hd
        · rename_i hf
          cases hd
          refine mx_of (pe_lst (pa_all (allPE_mx xs) hc.1)) ?_
          have z := evAs_ok ok es xs ds hc.2 q σ H F c (fun vs H1 Q => vs.length ≤ sizeLine ∧ ∀ p, H1 p = none → Q (.ref p) (upd H1 p (.lst vs))) Q s fun vs H' F' c' l kk g' hcc hr => ?_
          · rw [tL_ops] at z; exact z
          · obtain ⟨cv, rs, hcv⟩ := hr.rps
            have rs0 := rs.flat hf.1
            exact ⟨by rw [← rs.length]; exact hf.2, fun p hp => (k.n l kk s.g hcc).lst g' hp rs0⟩
        · cases hd
    | _ => simp [chkA] at hc
  | .dic0, e, hc => by
    cases e with
    | Dict ks vs pos =>
      refine both (fun d hd σ H F c Q s k => ?_) rfl
      cases hd
      cases ks <;> cases vs <;> first | (simp [chkA] at hc; done) | skip
      refine mx_of pe_dnewK fun p hp => ?_
      obtain ⟨g', kk⟩ := s.g.new (o := .dK []) hp
      refine fresh_sep k (Le.refl F) kk (cd := [p]) g' ?_
      simp only [Rp, Rps]
      exact ⟨p, [], [], rfl, rfl, List.nodup_nil, upd_same, ⟨rfl, rfl⟩, rfl⟩
    | _ => simp [chkA] at hc
  | .and es, e, hc => by
    cases e with
    | BoolOp op xs pos =>
      cases op with
      | And =>
        simp only [chkA] at hc
        obtain ⟨h1, h2⟩ := evAnd_ok ok es xs pos hc
        exact ⟨fun d hd => h1 d hd, fun _ b hb σ H F c Q s k => ⟨_, pw_mx.pt, h2 b hb σ H F c Q s k⟩⟩
      | Or => simp [chkA] at hc
    | _ => simp [chkA] at hc
  | .or es, e, hc => by
    cases e with
    | BoolOp op xs pos =>
      cases op with
      | Or =>
        simp only [chkA] at hc
        obtain ⟨h1, h2⟩ := evOr_ok ok es xs pos hc
        exact ⟨fun d hd => h1 d hd, fun _ b hb σ H F c Q s k => ⟨_, pw_mx.pt, h2 b hb σ H F c Q s k⟩⟩
      | And => simp [chkA] at hc
    | _ => simp [chkA] at hc
  | .not a, e, hc => by
    cases e with
    | UnaryOp op x pos =>
      cases op with
      | Not =>
        simp only [chkA, Bool.and_eq_true] at hc
        refine ⟨fun d hd σ H F c Q s k => ?_, fun _ b hd σ H F c Q s k => ?_⟩
        · simp only [evA] at hd
          split at hd
          · rename_i b q
            cases hd
            refine mx_of (pe_not pe_mx) ((evA_ok ok a x hc.2).1 _ q σ H F c _ s fun v H' F' c' cd l kk g' hcc hcd _ r => ?_)
            exact ⟨b, r.blE, k _ H' F' c' [] l kk g' hcc (fun z hz => by simp at hz) (fun _ => s.g.of g' hcc) (by simp only [Rp]; exact ⟨trivial, trivial⟩)⟩
          · cases hd
        · simp only [evA] at hd
          split at hd
          · rename_i b q
            cases hd
            exact ⟨_, pt_not pt_mx, (evA_ok ok a x hc.2).2 hc.1 b q σ H F c _ s fun H' F' c' l kk g' hcc => k H' F' c' l kk g' hcc⟩
          · cases hd
      | _ => simp [chkA] at hc
    | _ => simp [chkA] at hc
  | .ite c' a b, e, hc => by
    cases e with
    | IfExp x y z pos =>
      simp only [chkA, Bool.and_eq_true] at hc
      obtain ⟨⟨⟨h0, h1⟩, h2⟩, h3⟩ := hc
      refine ⟨fun d hd σ H F c Q s k => ?_, fun h => nomatch h⟩
      simp only [evA] at hd
      split at hd
      · rename_i b0 q
        refine mx_of (pe_ifExp pt_mx pe_mx pe_mx) ((evA_ok ok c' x h1).2 h0 b0 q σ H F c _ s fun H' F' cc l kk g' hcc => ?_)
        cases b0 with
        | true =>
          rw [if_pos rfl] at hd ⊢
          cases q2 : evA tr rt a with
          | none => rw [q2] at hd; cases hd
          | some dd =>
            rw [q2] at hd
            have hd : (if isF dd = true then some dd else none) = some d := hd
            split at hd
            · rename_i hf
              cases hd
              refine (evA_ok ok a y h2).1 d q2 σ H' F' cc Q (s.keep l kk g' hcc) fun v H2 F2 c2 cd l2 k2 g2 hc2 hcd _ r => ?_
              exact k v H2 F2 c2 [] (l.trans l2) (fun z hz => (k2 z (hcc z hz)).trans (kk z hz)) g2 (fun z hz => hc2 z (hcc z hz)) (fun z hz => by simp at hz) (fun _ => s.g.of g2 fun z hz => hc2 z (hcc z hz)) (r.flat hf)
            · cases hd
        | false =>
          simp only [Bool.false_eq_true, if_false] at hd ⊢
          cases q2 : evA tr rt b with
          | none => rw [q2] at hd; cases hd
          | some dd =>
            rw [q2] at hd
            have hd : (if isF dd = true then some dd else none) = some d := hd
            split at hd
            · rename_i hf
              cases hd
              refine (evA_ok ok b z h3).1 d q2 σ H' F' cc Q (s.keep l kk g' hcc) fun v H2 F2 c2 cd l2 k2 g2 hc2 hcd _ r => ?_
              exact k v H2 F2 c2 [] (l.trans l2) (fun z hz => (k2 z (hcc z hz)).trans (kk z hz)) g2 (fun z hz => hc2 z (hcc z hz)) (fun z hz => by simp at hz) (fun _ => s.g.of g2 fun z hz => hc2 z (hcc z hz)) (r.flat hf)
            · cases hd
      · cases hd
    | _ => simp [chkA] at hc
  | .ch o1 o2 a b c0, e, hc => by
    simp only [chkA] at hc
    split at hc
    case h_2 => cases hc
    case h_1 q0 hq =>
    obtain ⟨p1, p2, x, y, z⟩ := q0
    obtain ⟨pos, rfl⟩ := shCh_some hq
    simp only [Bool.and_eq_true, decide_eq_true_eq, Bool.not_eq_true'] at hc
    obtain ⟨⟨⟨⟨⟨⟨⟨rfl, rfl⟩, g1⟩, g2⟩, hm⟩, h1⟩, h2⟩, h3⟩ := hc
    have go : ∀ d, evA tr rt (.ch p1 p2 a b c0) = some d → ∀ (σ : L2.St) (H F : Hp) (c : List Addr) (Q : VK), Stt X.K X.mg H F tr rt σ c → PostQ X.K X.mg true H F c d Q →
        tChain (rI0 fun i j => .bl (cmpB p1 i j)) (rI0 fun i j => .bl (cmpB p2 i j)) (mx X x) (mx X y) (mx X z) σ H Q := by
      intro d hd σ H F c Q s k
      simp only [evA] at hd
      split at hd
      · rename_i i j q1 q2
        refine (evA_ok ok a x h1).1 _ q1 σ H F c _ s fun v H1 F1 c1 cd l1 k1 gg1 hc1 hcd _ r1 => ?_
        refine (evA_ok ok b y h2).1 _ q2 σ H1 F1 c1 _ (s.keep l1 k1 gg1 hc1) fun w H2 F2 c2 cw l2 k2 gg2 hc2 hcw _ r2 => ?_
        have s2 := (s.keep l1 k1 gg1 hc1).keep l2 k2 gg2 hc2
        refine ⟨i, j, r1.intE, r2.intE, ⟨_, rfl, ?_⟩⟩
        have fin : ∀ (bb : Bool) (H3 F3 : Hp) (c3 : List Addr), d = .bl bb → Le F2 F3 → (∀ a ∈ c2, H3 a = H2 a) → Good H3 F3 c3 → (∀ a ∈ c2, a ∈ c3) → Q (.bl bb) H3 := by
          intro bb H3 F3 c3 e l3 k3 gg3 hc3
          subst e
          exact k (.bl bb) H3 F3 c3 [] (l1.trans (l2.trans l3)) (fun a ha => (k3 a (hc2 a (hc1 a ha))).trans ((k2 a (hc1 a ha)).trans (k1 a ha))) gg3 (fun a ha => hc3 a (hc2 a (hc1 a ha))) (fun a ha => by simp at ha) (fun _ => s.g.of gg3 fun a ha => hc3 a (hc2 a (hc1 a ha))) (by simp only [Rp]; exact ⟨trivial, trivial⟩)
        cases hb : cmpB p1 i j with
        | false =>
          rw [hb] at hd
          simp only [Bool.false_eq_true, if_false] at hd ⊢
          cases hd
          exact fin false H2 F2 c2 rfl (Le.refl _) (fun _ _ => rfl) gg2 (fun _ h => h)
        | true =>
          rw [hb] at hd
          simp only [if_true] at hd ⊢
          split at hd
          · rename_i kk q3
            cases hd
            refine (evA_ok ok c0 z h3).1 _ q3 σ H2 F2 c2 _ s2 fun u H3 F3 c3 cu l3 k3 gg3 hc3 hcu _ r3 => ?_
            exact ⟨j, kk, r2.intE, r3.intE, fin _ H3 F3 c3 rfl l3 k3 gg3 hc3⟩
          · cases hd
      · cases hd
    refine ⟨fun d hd σ H F c Q s k => mx_of (pe_chain (ord_rule g1 X) (ord_rule g2 X) pe_mx pe_mx pe_mx hm) (go d hd σ H F c Q s k), fun _ b0 hb σ H F c Q s k => ?_⟩
    refine ⟨_, pt_chain (ord_rule g1 X) (ord_rule g2 X) pe_mx pe_mx pe_mx hm, ?_⟩
    refine go _ hb σ H F c _ s fun v H' F' c' cd l kk g' hcc hcd _ r => ?_
    exact ⟨b0, r.blE, k H' F' c' l kk g' hcc⟩
  | .slc a b c0, e, hc => by
    simp only [chkA] at hc
    split at hc
    case h_2 => cases hc
    case h_1 q0 hq =>
    obtain ⟨x, y, z⟩ := q0
    obtain ⟨p2, pos, rfl⟩ := shSlc_some hq
    simp only [Bool.and_eq_true] at hc
    obtain ⟨⟨h1, h2⟩, h3⟩ := hc
    refine both (fun d hd σ H F c Q s k => ?_) rfl
    simp only [evA] at hd
    split at hd
    · rename_i dd i j q1 q2 q3
      obtain ⟨r, hr, hk⟩ := slG_ok (X := X) hd
      refine mx_of (pe_slice hr pe_mx (po_some pe_mx) (po_some pe_mx)) ?_
      refine (evA_ok ok a x h1).1 _ q1 σ H F c _ s fun v H1 F1 c1 cd l1 k1 gg1 hc1 hcd _ r1 => ?_
      refine (evA_ok ok b y h2).1 _ q2 σ H1 F1 c1 _ (s.keep l1 k1 gg1 hc1) fun w H2 F2 c2 cw l2 k2 gg2 hc2 hcw _ r2 => ?_
      refine ⟨i, r2.intE, ?_⟩
      refine (evA_ok ok c0 z h3).1 _ q3 σ H2 F2 c2 _ ((s.keep l1 k1 gg1 hc1).keep l2 k2 gg2 hc2) fun u H3 F3 c3 cu l3 k3 gg3 hc3 hcu _ r3 => ?_
      refine ⟨j, r3.intE, ?_⟩
      have r1' := Rp.keep l3 _ v cd (Rp.keep l2 _ v cd r1 fun a ha => k2 a (hcd a ha)) fun a ha => k3 a (hc2 a (hcd a ha))
      exact hk v H3 F3 c3 cd Q r1' gg3 (k.n (l1.trans (l2.trans l3)) (fun a ha => (k3 a (hc2 a (hc1 a ha))).trans ((k2 a (hc1 a ha)).trans (k1 a ha))) s.g (fun a ha => hc3 a (hc2 a (hc1 a ha))))
    · cases hd
theorem evAnd_ok {X : Cx} {N : List Str} {sc : Scope} (ok : XOk P X N sc) {tr rt : Tr} : ∀ (as : List (A P)) (es : List Expr) (pos : Pos), chkTs N sc as es = true →
    (∀ d, evAnd tr rt as = some d → ∀ (σ : L2.St) (H F : Hp) (c : List Addr) (Q : VK), Stt X.K X.mg H F tr rt σ c → PostQ X.K X.mg true H F c d Q → mx X (.BoolOp .And es pos) σ H Q) ∧
    (∀ b, evAnd tr rt as = some (.bl b) → ∀ (σ : L2.St) (H F : Hp) (c : List Addr) (Q : Bool → Hp → Prop), Stt X.K X.mg H F tr rt σ c → (∀ H' F' c', Le F F' → (∀ a ∈ c, H' a = H a) → Good H' F' c' → (∀ a ∈ c, a ∈ c') → Q b H') → mxW X (.BoolOp .And es pos) σ H Q)
  | [], es, pos, hc => ⟨fun d hd => by simp [evAnd] at hd, fun b hb => by simp [evAnd] at hb⟩
  | [a], es, pos, hc => by
    match es, hc with
    | [e], hc =>
      simp only [chkTs, Bool.and_eq_true] at hc
      refine ⟨fun d hd σ H F c Q s k => ?_, fun b hd σ H F c Q s k => ?_⟩
      · simp only [evAnd] at hd
        cases q : evA tr rt a with
        | none => rw [q] at hd; cases hd
        | some dd =>
          rw [q] at hd
          have hd : (if isF dd = true then some dd else none) = some d := hd
          split at hd
          · rename_i hf
            cases hd
            refine mx_of (pe_one pe_mx) ((evA_ok ok a e hc.1.2).1 d q σ H F c Q s fun v H2 F2 c2 cd l2 k2 g2 hc2 hcd _ r => ?_)
            exact k v H2 F2 c2 [] l2 k2 g2 hc2 (fun z hz => by simp at hz) (fun _ => s.g.of g2 hc2) (r.flat hf)
          · cases hd
      · simp only [evAnd] at hd
        cases q : evA tr rt a with
        | none => rw [q] at hd; cases hd
        | some dd =>
          rw [q] at hd
          have hd : (if isF dd = true then some dd else none) = some (.bl b) := hd
          split at hd
          · rename_i hf
            cases hd
            exact ⟨_, pw_and1 pt_mx, (evA_ok ok a e hc.1.2).2 hc.1.1 b q σ H F c Q s k⟩
          · cases hd
    | [], hc => simp [chkTs] at hc
    | _ :: _ :: _, hc => simp [chkTs] at hc
  | a :: a2 :: r, es, pos, hc => by
    match es, hc with
    | e :: e2 :: t, hc =>
      have hc' : chkTs N sc (a2 :: r) (e2 :: t) = true := by
        simp only [chkTs, Bool.and_eq_true] at hc ⊢
        exact hc.2
      have hca : noIte a = true ∧ chkA N sc a e = true := by
        simp only [chkTs, Bool.and_eq_true] at hc
        exact hc.1
      obtain ⟨i1, i2⟩ := evAnd_ok ok (a2 :: r) (e2 :: t) pos hc'
      refine ⟨fun d hd σ H F c Q s k => ?_, fun b hd σ H F c Q s k => ?_⟩
      · simp only [evAnd] at hd
        split at hd
        · rename_i q
          refine mx_of (pe_and pe_mx pe_mx) ((evA_ok ok a e hca.2).1 _ q σ H F c _ s fun v H2 F2 c2 cd l2 k2 g2 hc2 hcd _ r => ⟨true, r.blE, ?_⟩)
          rw [if_pos rfl]
          exact i1 d hd σ H2 F2 c2 Q (s.keep l2 k2 g2 hc2) (k.later l2 k2 s.g hc2)
        · rename_i q
          cases hd
          refine mx_of (pe_and pe_mx pe_mx) ((evA_ok ok a e hca.2).1 _ q σ H F c _ s fun v H2 F2 c2 cd l2 k2 g2 hc2 hcd _ r => ⟨false, r.blE, ?_⟩)
          simp only [Bool.false_eq_true, if_false]
          exact k _ H2 F2 c2 [] l2 k2 g2 hc2 (fun z hz => by simp at hz) (fun _ => s.g.of g2 hc2) (by simp only [Rp]; exact ⟨trivial, trivial⟩)
        · cases hd
      · simp only [evAnd] at hd
        split at hd
        · rename_i q
          refine ⟨_, pw_and pt_mx pw_mx, (evA_ok ok a e hca.2).2 hca.1 _ q σ H F c _ s fun H2 F2 c2 l2 k2 g2 hc2 => ?_⟩
          rw [if_pos rfl]
          exact i2 b hd σ H2 F2 c2 Q (s.keep l2 k2 g2 hc2) fun H3 F3 c3 l3 k3 g3 hc3 => k H3 F3 c3 (l2.trans l3) (fun z hz => (k3 z (hc2 z hz)).trans (k2 z hz)) g3 fun z hz => hc3 z (hc2 z hz)
        · rename_i q
          cases hd
          refine ⟨_, pw_and pt_mx pw_mx, (evA_ok ok a e hca.2).2 hca.1 _ q σ H F c _ s fun H2 F2 c2 l2 k2 g2 hc2 => ?_⟩
          simp only [Bool.false_eq_true, if_false]
          exact k H2 F2 c2 l2 k2 g2 hc2
        · cases hd
    | [], hc => simp [chkTs] at hc
    | [_], hc => simp [chkTs] at hc
theorem evOr_ok {X : Cx} {N : List Str} {sc : Scope} (ok : XOk P X N sc) {tr rt : Tr} : ∀ (as : List (A P)) (es : List Expr) (pos : Pos), chkTs N sc as es = true →
    (∀ d, evOr tr rt as = some d → ∀ (σ : L2.St) (H F : Hp) (c : List Addr) (Q : VK), Stt X.K X.mg H F tr rt σ c → PostQ X.K X.mg true H F c d Q → mx X (.BoolOp .Or es pos) σ H Q) ∧
    (∀ b, evOr tr rt as = some (.bl b) → ∀ (σ : L2.St) (H F : Hp) (c : List Addr) (Q : Bool → Hp → Prop), Stt X.K X.mg H F tr rt σ c → (∀ H' F' c', Le F F' → (∀ a ∈ c, H' a = H a) → Good H' F' c' → (∀ a ∈ c, a ∈ c') → Q b H') → mxW X (.BoolOp .Or es pos) σ H Q)
  | [], es, pos, hc => ⟨fun d hd => by simp [evOr] at hd, fun b hb => by simp [evOr] at hb⟩
  | [a], es, pos, hc => by
    match es, hc with
    | [e], hc =>
      simp only [chkTs, Bool.and_eq_true] at hc
      refine ⟨fun d hd σ H F c Q s k => ?_, fun b hd σ H F c Q s k => ?_⟩
      · simp only [evOr] at hd
        cases q : evA tr rt a with
        | none => rw [q] at hd; cases hd
        | some dd =>
          rw [q] at hd
          have hd : (if isF dd = true then some dd else none) = some d := hd
          split at hd
          · rename_i hf
            cases hd
            refine mx_of (pe_one pe_mx) ((evA_ok ok a e hc.1.2).1 d q σ H F c Q s fun v H2 F2 c2 cd l2 k2 g2 hc2 hcd _ r => ?_)
            exact k v H2 F2 c2 [] l2 k2 g2 hc2 (fun z hz => by simp at hz) (fun _ => s.g.of g2 hc2) (r.flat hf)
          · cases hd
      · simp only [evOr] at hd
        cases q : evA tr rt a with
        | none => rw [q] at hd; cases hd
        | some dd =>
          rw [q] at hd
          have hd : (if isF dd = true then some dd else none) = some (.bl b) := hd
          split at hd
          · rename_i hf
            cases hd
            exact ⟨_, pw_or1 pt_mx, (evA_ok ok a e hc.1.2).2 hc.1.1 b q σ H F c Q s k⟩
          · cases hd
    | [], hc => simp [chkTs] at hc
    | _ :: _ :: _, hc => simp [chkTs] at hc
  | a :: a2 :: r, es, pos, hc => by
    match es, hc with
    | e :: e2 :: t, hc =>
      have hc' : chkTs N sc (a2 :: r) (e2 :: t) = true := by
        simp only [chkTs, Bool.and_eq_true] at hc ⊢
        exact hc.2
      have hca : noIte a = true ∧ chkA N sc a e = true := by
        simp only [chkTs, Bool.and_eq_true] at hc
        exact hc.1
      obtain ⟨i1, i2⟩ := evOr_ok ok (a2 :: r) (e2 :: t) pos hc'
      refine ⟨fun d hd σ H F c Q s k => ?_, fun b hd σ H F c Q s k => ?_⟩
      · simp only [evOr] at hd
        split at hd
        · rename_i q
          refine mx_of (pe_or pe_mx pe_mx) ((evA_ok ok a e hca.2).1 _ q σ H F c _ s fun v H2 F2 c2 cd l2 k2 g2 hc2 hcd _ r => ⟨false, r.blE, ?_⟩)
          simp only [Bool.false_eq_true, if_false]
          exact i1 d hd σ H2 F2 c2 Q (s.keep l2 k2 g2 hc2) (k.later l2 k2 s.g hc2)
        · rename_i q
          cases hd
          refine mx_of (pe_or pe_mx pe_mx) ((evA_ok ok a e hca.2).1 _ q σ H F c _ s fun v H2 F2 c2 cd l2 k2 g2 hc2 hcd _ r => ⟨true, r.blE, ?_⟩)
          rw [if_pos rfl]
          exact k _ H2 F2 c2 [] l2 k2 g2 hc2 (fun z hz => by simp at hz) (fun _ => s.g.of g2 hc2) (by simp only [Rp]; exact ⟨trivial, trivial⟩)
        · cases hd
      · simp only [evOr] at hd
        split at hd
        · rename_i q
          refine ⟨_, pw_or pt_mx pw_mx, (evA_ok ok a e hca.2).2 hca.1 _ q σ H F c _ s fun H2 F2 c2 l2 k2 g2 hc2 => ?_⟩
          simp only [Bool.false_eq_true, if_false]
          exact i2 b hd σ H2 F2 c2 Q (s.keep l2 k2 g2 hc2) fun H3 F3 c3 l3 k3 g3 hc3 => k H3 F3 c3 (l2.trans l3) (fun z hz => (k3 z (hc2 z hz)).trans (k2 z hz)) g3 fun z hz => hc3 z (hc2 z hz)
        · rename_i q
          cases hd
          refine ⟨_, pw_or pt_mx pw_mx, (evA_ok ok a e hca.2).2 hca.1 _ q σ H F c _ s fun H2 F2 c2 l2 k2 g2 hc2 => ?_⟩
          rw [if_pos rfl]
          exact k H2 F2 c2 l2 k2 g2 hc2
        · cases hd
    | [], hc => simp [chkTs] at hc
    | [_], hc => simp [chkTs] at hc
theorem evAs_ok {X : Cx} {N : List Str} {sc : Scope} (ok : XOk P X N sc) {tr rt : Tr} : ∀ (as : List (A P)) (es : List Expr) (ds : List D), chkAs N sc as es = true → evAs tr rt as = some ds →
    ∀ (σ : L2.St) (H F : Hp) (c : List Addr) (R : List V → Hp → VK → Prop) (Q : VK), Stt X.K X.mg H F tr rt σ c →
      (∀ vs H' F' c', Le F F' → (∀ a ∈ c, H' a = H a) → Good H' F' c' → (∀ a ∈ c, a ∈ c') → RpE X.K X.mg H' F' c' ds vs → R vs H' Q) → tOps (es.map (mx X)) R σ H Q
  | [], es, ds, hc, hd, σ, H, F, c, R, Q, s, k => by
    cases es with
    | nil =>
      cases hd
      exact k [] H F c (Le.refl F) (fun _ _ => rfl) s.g (fun _ ha => ha) (by simp only [RpE])
    | cons _ _ => simp [chkAs] at hc
  | a :: r, es, ds, hc, hd, σ, H, F, c, R, Q, s, k => by
    cases es with
    | nil => simp [chkAs] at hc
    | cons e t =>
      simp only [chkAs, Bool.and_eq_true] at hc
      simp only [evAs] at hd
      split at hd
      · rename_i x y e1 e2
        cases hd
        show mx X e σ H _
        refine (evA_ok ok a e hc.1).1 x e1 σ H F c _ s fun v H1 F1 c1 cd l k1 g1 hcc hcd _ rp => ?_
        refine evAs_ok ok r t y hc.2 e2 σ H1 F1 c1 (fun vs => R (v :: vs)) Q (s.keep l k1 g1 hcc) fun vs H2 F2 c2 l2 k2 g2 h2 hr => ?_
        refine k (v :: vs) H2 F2 c2 (l.trans l2) (fun z hz => (k2 z (hcc z hz)).trans (k1 z hz)) g2 (fun z hz => h2 z (hcc z hz)) ?_
        simp only [RpE]
        exact ⟨v, vs, cd, rfl, Rp.keep l2 x v cd rp fun z hz => k2 z (hcd z hz), fun z hz => h2 z (hcd z hz), hr⟩
      · cases hd
end
end Ev
end
section
set_option maxRecDepth 100000
set_option maxHeartbeats 4000000
namespace Ev
open PySem PySem.Spec L2

/-- an error of an own class with its fields -/
structure Xn where
  C : Str
  fs : List Str
  xs : List D
inductive Rs (α : Type) where
  | ok (a : α) (t : Tr)
  | ex (x : Xn) (t : Tr)
/-- a call's end: the answer or the error, the trees of the arguments that were lent -/
inductive CR where
  | ok (d : D) (o : List (Option D))
  | ex (x : Xn) (o : List (Option D))
abbrev FKey := Str × Option Str
abbrev Cl := FKey → List (Bool × D) → Option CR
inductive Stp where
  | at (f : Str) | ix (n : Nat) | ky (k : Key)
inductive Opd where
  | ref (i : Nat) | val (d : D) | dp (i : Nat) (st : List Stp)
inductive Tg where
  | n (i : Nat)
  | t (l : List Tg)
inductive Fn where
  | glob (f : Str)
  | meth (C m : Str)
  | mk (C : Str)
  | mkd (C : Str) (d : D)
  /-- the operands are lent to be read; the answer holds none of them -/
  | globB (f : Str)
  /-- what the slot holds -/
  | fv (i : Nat)

/-- a built-in method that changes its receiver, or a store into it: f the receiver's tree and the operands' trees to the answer and the receiver's tree behind -/
structure Mut (P : Pg) where
  f : D → List D → Option (D × D)
  hd : D → Bool
  Mid : PySem.W.Frag → V → Hp → Prop
  sh : Scope → Expr → Option (Expr × List Expr)
  mid : ∀ (K : PySem.W.Frag) (mg : Str → Option Value) (d : D), hd d = true → ∀ (x : V) (H F : Hp) (c : List Addr), Rp K mg H F d x c → Le F H → Mid K x H
  pl : ∀ sc e x ys, sh sc e = some (x, ys) → noComp e = true
  sound : ∀ (X : Cx) (N : List Str) (sc : Scope), XOk P X N sc → ∀ (e x : Expr) (ys : List Expr), sh sc e = some (x, ys) → ∃ R, HasM X e x ys (Mid X.K) R
  ok : ∀ (X : Cx) (N : List Str) (sc : Scope), XOk P X N sc → ∀ (e x : Expr) (ys : List Expr), sh sc e = some (x, ys) → ∀ (d : D) (ds : List D) (a d' : D), f d ds = some (a, d') →
    ∃ R, HasM X e x ys (Mid X.K) R ∧ ∀ (x : V) (ws : List V) (H F : Hp) (c cd cw : List Addr) (Q : VK), Rp X.K X.mg H F d x cd → Rps X.K X.mg H F ds ws cw → Good H F (cd ++ cw ++ c) →
      (∀ v H' F' cr cd', Le F F' → (∀ b ∈ c, H' b = H b) → Good H' F' (cr ++ cd' ++ c) → Rp X.K X.mg H' F' a v cr → Rp X.K X.mg H' F' d' x cd' → Q v H') → R (x :: ws) H Q
/-- a walk: the operands' trees to the items -/
structure Itr (P : Pg) where
  f : List D → Option (List D)
  sh : Scope → Expr → Expr → Option (List Expr)
  pl : ∀ sc tg e es, sh sc tg e = some es → plainX e = true
  sound : ∀ (X : Cx) (N : List Str) (sc : Scope), XOk P X N sc → ∀ (tg e : Expr) (es : List Expr), sh sc tg e = some es →
    ∃ S : List V → Hp → (It → Hp → Prop) → Prop, ∀ ts, AllPE X es ts → PI X tg e (fun σ H R => tL ts σ H fun vs H1 => S vs H1 R)
  ok : ∀ (X : Cx) (N : List Str) (sc : Scope), XOk P X N sc → ∀ (tg e : Expr) (es : List Expr), sh sc tg e = some es → ∀ (ds l : List D), f ds = some l →
    ∃ S : List V → Hp → (It → Hp → Prop) → Prop, (∀ ts, AllPE X es ts → PI X tg e (fun σ H R => tL ts σ H fun vs H1 => S vs H1 R)) ∧
      ∀ vs, ∃ J : It, (∀ H F c R, RpE X.K X.mg H F c ds vs → Good H F c → R J H → S vs H R) ∧
        ∀ H F c, RpE X.K X.mg H F c ds vs → Good H F c → ∀ i : Nat, (∀ d, l[i]? = some d → J.go i H ∧ ∀ x H', J.yld i H x H' → ∃ F', Le F F' ∧ Good H' F' c ∧ (∀ a ∈ c, H' a = H a) ∧ Rp X.K X.mg H' F' d x []) ∧ (l.length ≤ i → J.stop i H)

inductive B (P : Pg) where
  | pu (a : A P) | nm (i : Nat) | mv (i : Nat)
  | fz (b : B P)
  | rf (i : Nat) | dp (a : A P)
  | q (o : Opr P) (es : List (B P))
  | qm (o : OprM P) (es : List (B P))
  | tup (es : List (B P)) | lst (es : List (B P))
  | and (es : List (B P)) | or (es : List (B P)) | not (a : B P)
  | call (f : Fn) (hid : Option Nat) (es : List (B P))
  | mut (o : Mut P) (hid : Option Nat) (es : List (B P))
  | lc (elt : B P) (tg : Tg) (own : List (Str × Nat)) (it : Itr P) (es : List (B P)) (ifs : List (B P))

/-! ### paths -/
def getS : D → Stp → Option D
  | .ins _ _ fs xs, .at f => (fs.zip xs).lookup f
  | .lst _ xs, .ix n => xs[n]?
  | .tup xs, .ix n => xs[n]?
  | .dic _ ks xs, .ky k => valD ks xs k
  | _, _ => none
def idxOf (f : Str) : List Str → Option Nat
  | [] => none
  | g :: r => if g = f then some 0 else (idxOf f r).map (· + 1)
def idxOfK (f : Key) : List Key → Option Nat
  | [] => none
  | g :: r => if g = f then some 0 else (idxOfK f r).map (· + 1)
def setS : D → Stp → D → Option D
  | .ins o C fs xs, .at f, d => (idxOf f fs).map fun i => .ins o C fs (xs.set i d)
  | .lst o xs, .ix n, d => some (.lst o (xs.set n d))
  | .tup xs, .ix n, d => some (.tup (xs.set n d))
  | .dic o ks xs, .ky k, d => (idxOfK k ks).map fun i => .dic o ks (xs.set i d)
  | _, _, _ => none
def getP : D → List Stp → Option D
  | d, [] => some d
  | d, s :: r => (getS d s).bind fun e => getP e r
def putP : D → List Stp → D → Option D
  | _, [], d' => some d'
  | d, s :: r, d' => (getS d s).bind fun e => (putP e r d').bind fun e' => setS d s e'
/-- the step that an index is -/
def stpOf : D → D → Option Stp
  | .lst _ xs, .int i => (ixN xs.length i).map .ix
  | .tup xs, .int i => (ixN xs.length i).map .ix
  | _, _ => none
section
variable {P : Pg}
def pth (tr rt : Tr) : A P → Option (Nat × List Stp)
  | .v i => some (i, [])
  | .att a f => (pth tr rt a).map fun q => (q.1, q.2 ++ [.at f])
  | .ix a b => match pth tr rt a, evA tr rt a, evA tr rt b with
    | some q, some x, some y => (stpOf x y).map fun s => (q.1, q.2 ++ [s])
    | _, _, _ => none
  | _ => none

/-! ### lending -/
/-- q: the tree of the path that is lent -/
def lend : Option D → List Opd → Tr → Option (List (Bool × D) × Tr)
  | none, [], t => some ([], t)
  | some _, [], _ => none
  | q, .ref i :: r, t => match t[i]? with
    | some (some d) => (lend q r (t.set i none)).map fun z => ((true, d) :: z.1, z.2)
    | _ => none
  | q, .val d :: r, t => (lend q r t).map fun z => ((false, d) :: z.1, z.2)
  | some d, .dp _ _ :: r, t => (lend none r t).map fun z => ((true, d) :: z.1, z.2)
  | none, .dp _ _ :: _, _ => none
def giveB : List Opd → List (Option D) → Tr → Option D → Option (Tr × Option D)
  | [], [], t, q => some (t, q)
  | .ref i :: r, o :: os, t, q => giveB r os (t.set i o) q
  | .val _ :: r, none :: os, t, q => giveB r os t q
  | .dp _ _ :: r, o :: os, t, _ => giveB r os t o
  | _, _, _, _ => none
/-- the operands' trees at the operation -/
def opdD (t : Tr) : Opd → Option D
  | .ref i => match t[i]? with
    | some (some d) => some d
    | _ => none
  | .val d => some d
  | .dp _ _ => none
def opdDs (t : Tr) : List Opd → Option (List D)
  | [] => some []
  | o :: r => match opdD t o, opdDs t r with
    | some x, some y => some (x :: y)
    | _, _ => none
def valsOf : List Opd → Option (List D)
  | [] => some []
  | .val d :: r => (valsOf r).map fun z => d :: z
  | _ => none
mutual
def asg : Tg → D → Tr → Option Tr
  | .n i, d, t => if i < t.length then some (t.set i (some d)) else none
  | .t l, .tup xs, t => asgs l xs t
  | .t l, .lst _ xs, t => asgs l xs t
  | .t _, _, _ => none
def asgs : List Tg → List D → Tr → Option Tr
  | [], [], t => some t
  | g :: gs, d :: ds, t => (asg g d t).bind fun t' => asgs gs ds t'
  | _, _, _ => none
end
def bindR {α β : Type} (m : Option (Rs α)) (k : α → Tr → Option (Rs β)) : Option (Rs β) := match m with
  | some (.ok a t) => k a t
  | some (.ex x t) => some (.ex x t)
  | none => none
def isC (C m : Str) : D → Bool
  | .ins _ C' fs _ => decide (C' = C ∧ m ∉ fs)
  | _ => false
def fkey : Fn → List (Bool × D) → Option FKey
  | .glob f, _ => some (f, none)
  | .meth C m, z :: _ => if isC C m z.2 = true then some (C, some m) else none
  | .meth _ _, [] => none
  | .mk C, _ => some (C, some "__init__")
  | .mkd C _, _ => some (C, some "__init__")
  | .globB f, _ => some (f, none)
  | .fv _, _ => none
/-- what was lent comes back -/
def backR (w : Tr → Option D → Option Tr) (os : List Opd) (t2 : Tr) : Option CR → Option (Rs D)
  | some (.ok d o) => (giveB os o t2 none).bind fun y => (w y.1 y.2).map fun t' => .ok d t'
  | some (.ex x o) => (giveB os o t2 none).bind fun y => (w y.1 y.2).map fun t' => .ex x t'
  | none => none
def backM (w : Tr → Option D → Option Tr) (os : List Opd) (t2 : Tr) : Option CR → Option (Rs D)
  | some (.ok .non (some d :: o)) => (giveB os o t2 none).bind fun y => (w y.1 y.2).map fun t' => .ok d t'
  | some (.ex x (_ :: o)) => (giveB os o t2 none).bind fun y => (w y.1 y.2).map fun t' => .ex x t'
  | _ => none
/-- the answer without the last argument's tree -/
def cutO : Option CR → Option CR
  | some (.ok d o) => some (.ok d o.dropLast)
  | some (.ex x o) => some (.ex x o.dropLast)
  | none => none
mutual
/-- an answer that holds nothing shared that may change -/
def nsD : D → Bool
  | .non => true
  | .bl _ => true
  | .int _ => true
  | .str _ => true
  | .tup xs => nsDs xs
  | .lst true xs => nsDs xs
  | _ => false
def nsDs : List D → Bool
  | [] => true
  | d :: r => nsD d && nsDs r
end
/-- the arguments frozen for the callee, given back as they were -/
def borC (cl1 : List (Bool × D) → Option CR) (args : List (Bool × D)) : Option CR := match cl1 (args.map fun p => (false, frz p.2)) with
  | some (.ok d _) => if nsD d = true then some (.ok d (args.map fun p => if p.1 = true then some p.2 else none)) else none
  | _ => none
def backF (w : Tr → Option D → Option Tr) (os : List Opd) (t2 : Tr) (key : FKey) (cl : Cl) (args : List (Bool × D)) : Fn → Option (Rs D)
  | .globB _ => backR w os t2 (borC (cl key) args)
  | .mkd C dv => backM w os t2 (cutO (cl key (((true, .ins true C [] []) :: args) ++ [(false, dv)])))
  | .mk C => backM w os t2 (cl key ((true, .ins true C [] []) :: args))
  | _ => backR w os t2 (cl key args)
/-- the operands are lent, the call is made, what was lent is given back; q, w: the path's tree, how it is put back -/
def callK (cl : Cl) (f : Fn) (os : List Opd) (t : Tr) (q : Option D) (w : Tr → Option D → Option Tr) : Option (Rs D) :=
  (lend q os t).bind fun z => (fkey f z.1).bind fun key => backF w os z.2 key cl z.1 f
def noW : Tr → Option D → Option Tr := fun t q => match q with
  | none => some t
  | some _ => none
/-- the path's tree in the slot that is hidden -/
def dpOf (i : Nat) : List Opd → Option (List Stp)
  | [] => none
  | .dp j s :: _ => if j = i then some s else none
  | _ :: r => dpOf i r
def backW (i : Nat) (d0 : D) (st : List Stp) : Tr → Option D → Option Tr := fun t q => match q with
  | some d => (putP d0 st d).map fun d' => t.set i (some d')
  | none => none
def wipeT (t : Tr) : List Nat → Tr
  | [] => t
  | v :: vs => (wipeT t vs).set v none
def allT (t rt : Tr) : List (A P) → Option Bool
  | [] => some true
  | a :: r => match evA t rt a with
    | some (.bl true) => allT t rt r
    | some (.bl false) => some false
    | _ => none
open Classical in
/-- the turns of a comprehension -/
noncomputable def lcGo (own : List Nat) (os : List Opd) (ds : List D) (one : D → Tr → Option (Rs (Option D))) : List D → List D → Tr → Option (Rs (List D))
  | [], acc, t => if opdDs t os = some ds then some (.ok acc t) else none
  | x :: r, acc, t => if opdDs t os = some ds then match one x t with
    | some (.ok none t') => lcGo own os ds one r acc (wipeT t' own)
    | some (.ok (some d) t') => if acc.length < sizeLine then lcGo own os ds one r (acc ++ [d]) (wipeT t' own) else none
    | _ => none else none
def hdOk (f : D → Bool) : Option D → Bool
  | some d => f d
  | none => true
/-- the def that is called -/
def resF (P : Pg) (t : Tr) : Fn → Option Fn
  | .fv i => match t[i]? with
    | some (some (.fn g)) => if P.fn g = true then some (.glob g) else none
    | _ => none
  | f => some f
def rcvOk : Fn → Option D → Bool
  | .meth C m, some d => isC C m d
  | _, _ => true
variable (cl : Cl)
mutual
noncomputable def evB (rt : Tr) : B P → Tr → Option (Rs D)
  | .pu a, t => (evA t rt a).bind fun d => if isF d = true ∨ shares a = false then some (.ok d t) else none
  | .nm i, t => match t[i]? with
    | some (some d) => some (.ok (frz d) (t.set i (some (frz d))))
    | _ => none
  | .mv i, t => match t[i]? with
    | some (some d) => some (.ok d (t.set i none))
    | _ => none
  | .fz b, t => bindR (evB rt b t) fun d t1 => some (.ok (frz d) t1)
  | .rf _, _ => none
  | .dp _, _ => none
  | .qm o es, t => if hdOk o.hd (hdD rt es t) = true then bindR (evOs none rt es t) fun os t1 => (opdDs t1 os).bind fun ds => (o.f ds).map fun d => .ok d t1 else none
  | .q o es, t => bindR (evOs none rt es t) fun os t1 => (opdDs t1 os).bind fun ds => (o.f ds).map fun d => .ok d t1
  | .tup es, t => bindR (evOs none rt es t) fun os t1 => (valsOf os).bind fun ds => if ds.length ≤ sizeLine then some (.ok (.tup ds) t1) else none
  | .lst es, t => bindR (evOs none rt es t) fun os t1 => (valsOf os).bind fun ds => if ds.length ≤ sizeLine then some (.ok (.lst true ds) t1) else none
  | .and es, t => evAn rt es t
  | .or es, t => evOn rt es t
  | .not a, t => bindR (evB rt a t) fun d t1 => match d with
    | .bl b => some (.ok (.bl (!b)) t1)
    | _ => none
  | .call f none es, t => if rcvOk f (hdD rt es t) = true then (resF P t f).bind fun f' => bindR (evOs none rt es t) fun os t1 => callK cl f' os t1 none noW else none
  | .call f (some i) es, t => match t[i]? with
    | some (some d0) => if rcvOk f (hdD (rt.set i (some d0)) es (t.set i none)) = true then bindR (evOs (some i) (rt.set i (some d0)) es (t.set i none)) fun os t1 => (dpOf i os).bind fun st => (getP d0 st).bind fun d1 => callK cl f os t1 (some d1) (backW i d0 st) else none
    | _ => none
  | .mut o none es, t => if hdOk o.hd (hdD rt es t) = true then bindR (evOs none rt es t) fun os t1 => match os with
    | .ref i :: r => match t1[i]?, valsOf r with
      | some (some d), some ds => (o.f d ds).map fun z => .ok z.1 (t1.set i (some z.2))
      | _, _ => none
    | _ => none else none
  | .mut o (some i) es, t => match t[i]? with
    | some (some d0) => if hdOk o.hd (hdD (rt.set i (some d0)) es (t.set i none)) = true then bindR (evOs (some i) (rt.set i (some d0)) es (t.set i none)) fun os t1 => match os with
      | .dp j st :: r => match getP d0 st, valsOf r with
        | some d, some ds => if j ≠ i then none else (o.f d ds).bind fun z => (putP d0 st z.2).map fun d' => .ok z.1 (t1.set i (some d'))
        | _, _ => none
      | _ => none else none
    | _ => none
  | .lc elt tg own it es ifs, t => match evOs none rt es t with
    | some (.ok os t1) => (opdDs t1 os).bind fun ds => (it.f ds).bind fun l =>
      match lcGo (own.map (·.2)) os ds (fun x t2 => (asg tg x t2).bind fun t3 => bindR (evIf (wipeT rt (own.map (·.2))) ifs t3) fun b t4 => if b = true then bindR (evB (wipeT rt (own.map (·.2))) elt t4) fun d t5 => some (.ok (some d) t5) else some (.ok none t4)) l [] (wipeT t1 (own.map (·.2))) with
        | some (.ok ys t5) => some (.ok (.lst true ys) t5)
        | _ => none
    | some (.ex x t1) => some (.ex x t1)
    | none => none
noncomputable def evOs (h : Option Nat) (rt : Tr) : List (B P) → Tr → Option (Rs (List Opd))
  | [], t => some (.ok [] t)
  | .rf i :: r, t => match t[i]? with
    | some (some _) => bindR (evOs h rt r t) fun os t2 => some (.ok (.ref i :: os) t2)
    | _ => none
  | .dp a :: r, t => match pth t rt a, evA t rt a with
    | some q, some _ => if h = some q.1 ∧ (t[q.1]?.join).isNone = true then bindR (evOs h rt r t) fun os t2 => some (.ok (.dp q.1 q.2 :: os) t2) else none
    | _, _ => none
  | e :: r, t => bindR (evB rt e t) fun d t1 => bindR (evOs h rt r t1) fun os t2 => some (.ok (.val d :: os) t2)
/-- the receiver's tree -/
noncomputable def hdD (rt : Tr) : List (B P) → Tr → Option D
  | [], _ => none
  | .rf i :: _, t => t[i]?.join
  | .dp a :: _, t => evA t rt a
  | e :: _, t => match evB rt e t with
    | some (.ok d _) => some d
    | _ => none
noncomputable def evIf (rt : Tr) : List (B P) → Tr → Option (Rs Bool)
  | [], t => some (.ok true t)
  | [a], t => bindR (evB rt a t) fun d t1 => match d with
    | .bl b => some (.ok b t1)
    | _ => none
  | _, _ => none
noncomputable def evAn (rt : Tr) : List (B P) → Tr → Option (Rs D)
  | [], _ => none
  | [a], t => evB rt a t
  | a :: r, t => bindR (evB rt a t) fun d t1 => match d with
    | .bl true => evAn rt r t1
    | .bl false => some (.ok (.bl false) t1)
    | _ => none
noncomputable def evOn (rt : Tr) : List (B P) → Tr → Option (Rs D)
  | [], _ => none
  | [a], t => evB rt a t
  | a :: r, t => bindR (evB rt a t) fun d t1 => match d with
    | .bl false => evOn rt r t1
    | .bl true => some (.ok (.bl true) t1)
    | _ => none
end
end
end Ev
end
section
set_option maxRecDepth 100000
set_option maxHeartbeats 4000000
namespace Ev
open PySem PySem.Spec L2
variable {P : Pg}
section
variable {K : PySem.W.Frag} {mg : Str → Option Value} {H F H' F' : Hp}
/-- one item of a row of trees is another one -/
theorem Rps.put : ∀ {xs : List D} {vs : List V} {c : List Addr} {n : Nat} {d1 : D} {v1 : V}, Rps K mg H F xs vs c → xs[n]? = some d1 → vs[n]? = some v1 →
    ∃ c1 rest, c.Perm (c1 ++ rest) ∧ Rp K mg H F d1 v1 c1 ∧ ∀ H' F' d' c', Le F F' → (∀ a ∈ rest, H' a = H a) → Rp K mg H' F' d' v1 c' → ∃ c2, Rps K mg H' F' (xs.set n d') vs c2 ∧ c2.Perm (c' ++ rest)
  | [], vs, c, n, d1, v1, h, e, _ => by simp at e
  | x :: r, vs, c, 0, d1, v1, h, e, e' => by
    simp only [Rps] at h
    obtain ⟨v, w, a1, a2, e1, e2, h1, h2⟩ := h
    subst e1 e2
    simp at e e'
    subst e e'
    refine ⟨a1, a2, List.Perm.refl _, h1, fun H' F' d' c' l k r' => ⟨c' ++ a2, ?_, List.Perm.refl _⟩⟩
    simp only [List.set_cons_zero, Rps]
    exact ⟨v, w, c', a2, rfl, rfl, r', Rps.keep l r w a2 h2 k⟩
  | x :: r, vs, c, n + 1, d1, v1, h, e, e' => by
    simp only [Rps] at h
    obtain ⟨v, w, a1, a2, e1, e2, h1, h2⟩ := h
    subst e1 e2
    obtain ⟨c1, rest, p, q, b⟩ := Rps.put (n := n) h2 (by simpa using e) (by simpa using e')
    refine ⟨c1, a1 ++ rest, ?_, q, fun H' F' d' c' l k r' => ?_⟩
    · refine (p.append_left a1).trans ?_
      rw [← List.append_assoc, ← List.append_assoc]
      exact List.perm_append_comm.append_right _
    · obtain ⟨c2, b1, b2⟩ := b H' F' d' c' l (fun a ha => k a (by simp [ha])) r'
      refine ⟨a1 ++ c2, ?_, ?_⟩
      · simp only [List.set_cons_succ, Rps]
        exact ⟨v, w, a1, c2, rfl, rfl, Rp.keep l x v a1 h1 fun a ha => k a (by simp [ha]), b1⟩
      · refine (b2.append_left a1).trans ?_
        rw [← List.append_assoc, ← List.append_assoc]
        exact List.perm_append_comm.append_right _
theorem lookup_idx {f : Str} : ∀ {fs : List Str} {xs : List D} {d : D}, (fs.zip xs).lookup f = some d → ∃ i, idxOf f fs = some i ∧ xs[i]? = some d ∧ ∀ {vs : List V}, xs.length = vs.length → ∀ v, vs[i]? = some v → (fs.zip vs).lookup f = some v
  | [], xs, d, h => by simp at h
  | _ :: _, [], d, h => by simp at h
  | g :: fs, x :: xs, d, h => by
    rw [List.zip_cons_cons, List.lookup_cons] at h
    cases e : f == g with
    | true =>
      rw [e] at h
      cases h
      have eg : g = f := (beq_iff_eq.mp e).symm
      refine ⟨0, by simp [idxOf, eg], rfl, fun {vs} hl v hv => ?_⟩
      cases vs with
      | nil => simp at hv
      | cons w ws =>
        simp at hv; subst hv
        rw [List.zip_cons_cons, List.lookup_cons, e]
    | false =>
      rw [e] at h
      obtain ⟨i, h0, h1, h2⟩ := lookup_idx h
      have eg : g ≠ f := fun z => by rw [z] at e; simp at e
      refine ⟨i + 1, by simp [idxOf, eg, h0], by simpa using h1, fun {vs} hl v hv => ?_⟩
      cases vs with
      | nil => simp at hv
      | cons w ws =>
        rw [List.zip_cons_cons, List.lookup_cons, e]
        exact h2 (by simpa using hl) v (by simpa using hv)
theorem valD_idx {k : Key} : ∀ {ks : List Key} {xs : List D} {d : D}, valD ks xs k = some d → ∃ i, idxOfK k ks = some i ∧ xs[i]? = some d ∧ ∀ {vs : List V}, xs.length = vs.length → ∀ v, vs[i]? = some v → valV (ks.zip vs) k = some v
  | [], xs, d, h => by simp [valD] at h
  | _ :: _, [], d, h => by simp [valD] at h
  | g :: ks, x :: xs, d, h => by
    by_cases e : g = k
    · subst e
      simp [valD] at h
      subst h
      refine ⟨0, by simp [idxOfK], rfl, fun {vs} hl v hv => ?_⟩
      cases vs with
      | nil => simp at hv
      | cons w ws =>
        simp at hv; subst hv
        rw [List.zip_cons_cons]; exact valV_pos rfl
    · have h' : valD ks xs k = some d := by
        simpa [valD, List.find?_cons, e] using h
      obtain ⟨i, h0, h1, h3⟩ := valD_idx h'
      refine ⟨i + 1, by simp [idxOfK, e, h0], by simpa using h1, fun {vs} hl v hv => ?_⟩
      cases vs with
      | nil => simp at hv
      | cons w ws =>
        rw [List.zip_cons_cons, valV_neg e]
        exact h3 (by simpa using hl) v (by simpa using hv)
/-- the tree d1 at the path st of the tree d0, whose value is v1; it may be another one -/
structure Foc (K : PySem.W.Frag) (mg : Str → Option Value) (H F : Hp) (d0 : D) (v0 : V) (c0 : List Addr) (st : List Stp) (d1 : D) (v1 : V) : Prop where
  get : getP d0 st = some d1
  foc : ∃ c1 rest, c0.Perm (c1 ++ rest) ∧ Rp K mg H F d1 v1 c1 ∧ ∀ H' F' d' c', Le F F' → (∀ a ∈ rest, H' a = H a) → Rp K mg H' F' d' v1 c' → ∃ d2 c2, putP d0 st d' = some d2 ∧ Rp K mg H' F' d2 v0 c2 ∧ c2.Perm (c' ++ rest)
theorem Foc.nil {d0 : D} {v0 : V} {c0 : List Addr} (r : Rp K mg H F d0 v0 c0) : Foc K mg H F d0 v0 c0 [] d0 v0 :=
  ⟨rfl, c0, [], by simp, r, fun H' F' d' c' _ _ r' => ⟨d', c', rfl, r', by simp⟩⟩
theorem Foc.keep {d0 d1 : D} {v0 v1 : V} {c0 : List Addr} {st : List Stp} (h : Foc K mg H F d0 v0 c0 st d1 v1) (l : Le F F') (k : ∀ a ∈ c0, H' a = H a) : Foc K mg H' F' d0 v0 c0 st d1 v1 := by
  obtain ⟨g, c1, rest, p, r, b⟩ := h
  have kr : ∀ a ∈ c1 ++ rest, H' a = H a := fun a ha => k a (p.symm.subset ha)
  exact ⟨g, c1, rest, p, Rp.keep l _ _ _ r fun a ha => kr a (by simp [ha]), fun H2 F2 d' c' l2 k2 r2 => b H2 F2 d' c' (l.trans l2) (fun a ha => (k2 a ha).trans (kr a (by simp [ha]))) r2⟩
theorem getP_snoc : ∀ {st : List Stp} {d0 d1 d2 : D} {s : Stp}, getP d0 st = some d1 → getS d1 s = some d2 → getP d0 (st ++ [s]) = some d2
  | [], d0, d1, d2, s, h, e => by
    cases h
    simp only [List.nil_append, getP, e]; rfl
  | t :: st, d0, d1, d2, s, h, e => by
    simp only [List.cons_append, getP] at h ⊢
    cases q : getS d0 t with
    | none => rw [q] at h; cases h
    | some e1 =>
      rw [q] at h
      have h : getP e1 st = some d1 := h
      show getP e1 (st ++ [s]) = some d2
      exact getP_snoc h e
theorem putP_snoc : ∀ {st : List Stp} {d0 d1 d1' d2 d2' e2 : D} {s : Stp}, getP d0 st = some d1 → getS d1 s = some d2 → setS d1 s d2' = some d1' → putP d0 st d1' = some e2 → putP d0 (st ++ [s]) d2' = some e2
  | [], d0, d1, d1', d2, d2', e2, s, h, e, q, p => by
    cases h
    simp only [putP] at p
    cases p
    simp only [List.nil_append, putP, e]
    show (some d2').bind (fun e' => setS d0 s e') = some d1'
    exact q
  | t :: st, d0, d1, d1', d2, d2', e2, s, h, e, q, p => by
    simp only [List.cons_append, getP, putP] at h p ⊢
    cases z : getS d0 t with
    | none => rw [z] at h; cases h
    | some e1 =>
      rw [z] at h p
      have h : getP e1 st = some d1 := h
      have p : (putP e1 st d1').bind (fun e' => setS d0 t e') = some e2 := p
      show (putP e1 (st ++ [s]) d2').bind (fun e' => setS d0 t e') = some e2
      cases y : putP e1 st d1' with
      | none => rw [y] at p; cases p
      | some e1' =>
        rw [y] at p
        rw [putP_snoc h e q y]
        exact p
/-- one step more -/
theorem Foc.step {d0 d1 d2 : D} {v0 v1 v2 : V} {c0 c1 rest : List Addr} {st : List Stp} {s : Stp} (g : getP d0 st = some d1) (p : c0.Perm (c1 ++ rest))
    (b : ∀ H' F' d' c', Le F F' → (∀ a ∈ rest, H' a = H a) → Rp K mg H' F' d' v1 c' → ∃ d2 c2, putP d0 st d' = some d2 ∧ Rp K mg H' F' d2 v0 c2 ∧ c2.Perm (c' ++ rest))
    (g2 : getS d1 s = some d2)
    (hs : ∃ c2 rest, c1.Perm (c2 ++ rest) ∧ Rp K mg H F d2 v2 c2 ∧ ∀ H' F' d' c', Le F F' → (∀ a ∈ rest, H' a = H a) → Rp K mg H' F' d' v2 c' → ∃ d1' c3, setS d1 s d' = some d1' ∧ Rp K mg H' F' d1' v1 c3 ∧ c3.Perm (c' ++ rest)) :
    Foc K mg H F d0 v0 c0 (st ++ [s]) d2 v2 := by
  obtain ⟨c2, rest2, p2, r2, b2⟩ := hs
  refine ⟨getP_snoc g g2, c2, rest2 ++ rest, ?_, r2, fun H' F' d' c' l k r' => ?_⟩
  · refine p.trans ((p2.append_right rest).trans ?_)
    rw [List.append_assoc]
  · obtain ⟨d1', c3, e1, e2, e3⟩ := b2 H' F' d' c' l (fun a ha => k a (by simp [ha])) r'
    obtain ⟨d3, c4, f1, f2, f3⟩ := b H' F' d1' c3 l (fun a ha => k a (by simp [ha])) e2
    refine ⟨d3, c4, putP_snoc g g2 e1 f1, f2, f3.trans ?_⟩
    refine (e3.append_right rest).trans ?_
    rw [List.append_assoc]
end
/-- a path in the text -/
theorem pth_ok {X : Cx} {N : List Str} {sc : Scope} (ok : XOk P X N sc) {t rt : Tr} {i : Nat} {d0 : D} {v0 : V} (hl : look t rt i = some d0) {σ : L2.St} (hσ : σ[i]? = some (some v0)) :
    ∀ (a : A P) (e : Expr) (st : List Stp) (d1 : D), chkA N sc a e = true → pth t rt a = some (i, st) → evA t rt a = some d1 → ∀ (H F : Hp) (c c0 : List Addr) (Q : VK), Stt X.K X.mg H F t rt σ c → Rp X.K X.mg H F d0 v0 c0 → (∀ z ∈ c0, z ∈ c) →
      (∀ w H' F' c', Le F F' → (∀ z ∈ c, H' z = H z) → Good H' F' c' → (∀ z ∈ c, z ∈ c') → Foc X.K X.mg H' F' d0 v0 c0 st d1 w → Q w H') → mx X e σ H Q
  | .v j, e, st, d1, hc, hp, hd, H, F, c, c0, Q, s, r, hcc, k => by
    cases e with
    | Name x pos =>
      obtain ⟨h1, h2, h3, h4⟩ := visB_ok ok hc
      simp only [pth, Option.some.injEq, Prod.mk.injEq] at hp
      obtain ⟨rfl, rfl⟩ := hp
      have hd : look t rt j = some d1 := hd
      rw [hl] at hd
      cases hd
      exact mx_of (pe_var h1 h2 h3 h4) ⟨v0, hσ, k v0 H F c (Le.refl F) (fun _ _ => rfl) s.g (fun _ h => h) (Foc.nil r)⟩
    | _ => simp [chkA] at hc
  | .att a f, e, st, d1, hc, hp, hd, H, F, c, c0, Q, s, r, hcc, k => by
    cases e with
    | Attribute x g pos =>
      simp only [chkA, Bool.and_eq_true, decide_eq_true_eq] at hc
      obtain ⟨⟨rfl, h2⟩, h3⟩ := hc
      simp only [evA] at hd
      cases q : evA t rt a with
      | none => rw [q] at hd; cases hd
      | some da =>
        rw [q] at hd
        have hd : getA P f da = some d1 := hd
        simp only [pth] at hp
        cases q2 : pth t rt a with
        | none => rw [q2] at hp; cases hp
        | some z =>
          obtain ⟨i', st'⟩ := z
          rw [q2] at hp
          simp only [Option.map_some, Option.some.injEq, Prod.mk.injEq] at hp
          obtain ⟨rfl, rfl⟩ := hp
          refine mx_of (pe_fld (f := f) pe_mx (base_of h2)) (pth_ok ok hl hσ a x st' da h3 q2 q H F c c0 _ s r hcc fun w H' F' c' l kk g' hc' foc => ?_)
          obtain ⟨gp, c1, rest, pp, r1, b⟩ := foc
          match da, hd, r1, b, gp with
          | .ins o C fs xs, hd, r1, b, gp =>
            simp only [getA] at hd
            split at hd
            · rename_i hat
              obtain ⟨n, e0, e1, e2⟩ := lookup_idx hd
              cases o with
              | true =>
                simp only [Rp] at r1
                obtain ⟨bb, A, dx, vs, cs, rfl, q2, q3, q4, q5, rfl⟩ := r1
                obtain ⟨v1, c2, z1, z2, z3⟩ := q5.get e1
                obtain ⟨y1, y2⟩ := ok.cls C A f hat q2
                refine ⟨bb, A, dx, _, v1, rfl, q4, y1, y2, e2 q5.length v1 z1, ?_⟩
                · refine k v1 H' F' c' l kk g' hc' (Foc.step gp pp b (by exact hd) ?_)
                  obtain ⟨c3, rest3, p3, r3, b3⟩ := q5.put e1 z1
                  refine ⟨c3, bb :: rest3, ?_, r3, fun H2 F2 d' c'' l2 k2 r2 => ?_⟩
                  · exact (p3.cons bb).trans List.perm_middle.symm
                  · obtain ⟨c4, f1, f2⟩ := b3 H2 F2 d' c'' l2 (fun z hz => k2 z (by simp [hz])) r2
                    refine ⟨.ins true C fs (xs.set n d'), bb :: c4, by simp [setS, e0], ?_, ?_⟩
                    · simp only [Rp]
                      exact ⟨bb, A, dx, vs, c4, rfl, q2, by rw [List.length_set]; exact q3, (k2 bb (by simp)).trans q4, f1, rfl⟩
                    · exact (f2.cons bb).trans List.perm_middle.symm
              | false =>
                simp only [Rp] at r1
                obtain ⟨bb, A, dx, vs, rfl, q2, q3, q4, q5⟩ := r1
                obtain ⟨v1, c2, z1, z2, z3⟩ := q5.get e1
                obtain ⟨y1, y2⟩ := ok.cls C A f hat q2
                refine ⟨bb, A, dx, _, v1, rfl, g'.sub _ _ q4, y1, y2, e2 q5.length v1 z1, ?_⟩
                refine k v1 H' F' c' l kk g' hc' (Foc.step gp pp b (by exact hd) ?_)
                obtain ⟨c3, rest3, p3, r3, b3⟩ := q5.put e1 z1
                refine ⟨c3, rest3, p3, r3, fun H2 F2 d' c'' l2 k2 r2 => ?_⟩
                obtain ⟨c4, f1, f2⟩ := b3 H2 F2 d' c'' l2 (fun z hz => k2 z hz) r2
                refine ⟨.ins false C fs (xs.set n d'), c4, by simp [setS, e0], ?_, f2⟩
                simp only [Rp]
                exact ⟨bb, A, dx, vs, rfl, q2, by rw [List.length_set]; exact q3, l2 _ _ q4, f1⟩
            · cases hd
    | _ => simp [chkA] at hc
  | .ix a b, e, st, d1, hc, hp, hd, H, F, c, c0, Q, s, r, hcc, k => by
    cases e with
    | Subscript x y pos =>
      simp only [chkA, Bool.and_eq_true] at hc
      obtain ⟨⟨h1, h2⟩, h3⟩ := hc
      simp only [evA] at hd
      split at hd
      · rename_i da db q1 q2
        simp only [pth] at hp
        rw [q1, q2] at hp
        cases q3 : pth t rt a with
        | none => rw [q3] at hp; cases hp
        | some z =>
          obtain ⟨i', st'⟩ := z
          rw [q3] at hp
          have hp : ((stpOf da db).map fun s => (i', st' ++ [s])) = some (i, st) := hp
          cases q4 : stpOf da db with
          | none => rw [q4] at hp; cases hp
          | some stp =>
            rw [q4] at hp
            simp only [Option.map_some, Option.some.injEq, Prod.mk.injEq] at hp
            obtain ⟨rfl, rfl⟩ := hp
            have go : ∀ (rr : R2), PE X (.Subscript x y pos) (tOp rr (mx X x) (mx X y)) →
                (∀ v w H' F' c' cw, Le F F' → (∀ a ∈ c, H' a = H a) → Good H' F' c' → (∀ a ∈ c, a ∈ c') → Foc X.K X.mg H' F' d0 v0 c0 st' da v → Rp X.K X.mg H' F' db w cw → rr v w H' Q) → mx X (.Subscript x y pos) σ H Q := by
              intro rr hpe hr
              refine mx_of hpe (pth_ok ok hl hσ a x st' da h2 q3 q1 H F c c0 _ s r hcc fun v H1 F1 c1 l1 k1 g1 hc1 foc => ?_)
              refine (evA_ok ok b y h3).1 db q2 σ H1 F1 c1 _ (s.keep l1 k1 g1 hc1) fun w H2 F2 c2 cw l2 k2 g2 hc2 hcw _ r2 => ?_
              exact hr v w H2 F2 c2 cw (l1.trans l2) (fun z hz => (k2 z (hc1 z hz)).trans (k1 z hz)) g2 (fun z hz => hc2 z (hc1 z hz)) (foc.keep l2 fun z hz => k2 z (hc1 z (hcc z hz))) r2
            match da, db, hd, q4, go with
            | .lst o xs, .int n, hd, q4, go =>
              refine go _ (pe_ix ix_list pe_mx pe_mx (plainIx h1)) fun v w H' F' c' cw l kk g' hc' foc r2 => ?_
              obtain ⟨gp, c1, rest, pp, r1, bk⟩ := foc
              have hd : atI xs n = some d1 := hd
              have q4 : (ixN xs.length n).map Stp.ix = some stp := q4
              unfold atI at hd
              cases ej : ixN xs.length n with
              | none => rw [ej] at hd; cases hd
              | some j =>
                rw [ej] at hd q4
                cases q4
                have e1 : xs[j]? = some d1 := hd
                have hat : ∀ {vs : List V}, xs.length = vs.length → ∀ v1, vs[j]? = some v1 → atI vs n = some v1 := fun {vs} hlen v1 hv => by
                  unfold atI; rw [← hlen, ej]; exact hv
                cases o with
                | true =>
                  simp only [Rp] at r1
                  obtain ⟨bb, vs, cs, rfl, q5, q6, rfl⟩ := r1
                  obtain ⟨v1, c2, z1, z2, z3⟩ := q6.get e1
                  refine ⟨bb, vs, n, v1, rfl, r2.intE, SqL.of q5, hat q6.length v1 z1, ?_⟩
                  refine k v1 H' F' c' l kk g' hc' (Foc.step gp pp bk (by exact e1) ?_)
                  obtain ⟨c3, rest3, p3, r3, b3⟩ := q6.put e1 z1
                  refine ⟨c3, bb :: rest3, (p3.cons bb).trans List.perm_middle.symm, r3, fun H2 F2 d' c'' l2 k2 r2 => ?_⟩
                  obtain ⟨c4, f1, f2⟩ := b3 H2 F2 d' c'' l2 (fun z hz => k2 z (by simp [hz])) r2
                  refine ⟨.lst true (xs.set j d'), bb :: c4, rfl, ?_, (f2.cons bb).trans List.perm_middle.symm⟩
                  simp only [Rp]
                  exact ⟨bb, vs, c4, rfl, (k2 bb (by simp)).trans q5, f1, rfl⟩
                | false =>
                  simp only [Rp] at r1
                  obtain ⟨bb, vs, rfl, q5, q6⟩ := r1
                  obtain ⟨v1, c2, z1, z2, z3⟩ := q6.get e1
                  refine ⟨bb, vs, n, v1, rfl, r2.intE, .inl (g'.sub.rd q5), hat q6.length v1 z1, ?_⟩
                  refine k v1 H' F' c' l kk g' hc' (Foc.step gp pp bk (by exact e1) ?_)
                  obtain ⟨c3, rest3, p3, r3, b3⟩ := q6.put e1 z1
                  refine ⟨c3, rest3, p3, r3, fun H2 F2 d' c'' l2 k2 r2 => ?_⟩
                  obtain ⟨c4, f1, f2⟩ := b3 H2 F2 d' c'' l2 (fun z hz => k2 z hz) r2
                  refine ⟨.lst false (xs.set j d'), c4, rfl, ?_, f2⟩
                  simp only [Rp]
                  exact ⟨bb, vs, rfl, l2.rd q5, f1⟩
            | .tup xs, .int n, hd, q4, go =>
              refine go _ (pe_ix ix_tup pe_mx pe_mx (plainIx h1)) fun v w H' F' c' cw l kk g' hc' foc r2 => ?_
              obtain ⟨gp, c1, rest, pp, r1, bk⟩ := foc
              have hd : atI xs n = some d1 := hd
              have q4 : (ixN xs.length n).map Stp.ix = some stp := q4
              unfold atI at hd
              cases ej : ixN xs.length n with
              | none => rw [ej] at hd; cases hd
              | some j =>
                rw [ej] at hd q4
                cases q4
                have e1 : xs[j]? = some d1 := hd
                have hat : ∀ {vs : List V}, xs.length = vs.length → ∀ v1, vs[j]? = some v1 → atI vs n = some v1 := fun {vs} hlen v1 hv => by
                  unfold atI; rw [← hlen, ej]; exact hv
                simp only [Rp] at r1
                obtain ⟨bb, vs, rfl, q5, q6⟩ := r1
                obtain ⟨v1, c2, z1, z2, z3⟩ := q6.get e1
                refine ⟨bb, vs, n, v1, rfl, r2.intE, g'.sub.sqT q5, hat q6.length v1 z1, ?_⟩
                refine k v1 H' F' c' l kk g' hc' (Foc.step gp pp bk (by exact e1) ?_)
                obtain ⟨c3, rest3, p3, r3, b3⟩ := q6.put e1 z1
                refine ⟨c3, rest3, p3, r3, fun H2 F2 d' c'' l2 k2 r2 => ?_⟩
                obtain ⟨c4, f1, f2⟩ := b3 H2 F2 d' c'' l2 (fun z hz => k2 z hz) r2
                refine ⟨.tup (xs.set j d'), c4, rfl, ?_, f2⟩
                simp only [Rp]
                exact ⟨bb, vs, rfl, l2.sqT q5, f1⟩
      · cases hd
    | _ => simp [chkA] at hc
end Ev
end
section
set_option maxRecDepth 100000
set_option maxHeartbeats 4000000
namespace L2
open PySem PySem.Spec
section
variable {X : Cx} {CX : CXT} {k : Nat} {f C : Addr} {fd : FuncData} {ps : List Str} {sp : Sp} {E : St → XK} {x m : Str} {p pos apos : Pos} {e o : Expr} {es : List Expr} {ta : TE} {t : TA}
/-- f(), what is raised is wished for at the slots -/
theorem pe_fn0 (F : FnOk X.prog X.w X.K X.mg X.base CX k f fd ps sp) (hr : Room k X.A) (hg : Gl X x) (hm : X.mg x = some (.ref f)) (hk : PySem.W.keepIn X.K (.ref f) = true) (hb : Binds X.K fd ps []) (hx : ∀ σ, PassesAt CX X σ (E σ))
    (hdb : (x == ("__debug__" : Str)) = false) : PE X (.Call (.Name x p) [] [] pos) (fun σ H Q => sp [] H Q (E σ)) := by
  refine ⟨fun pins s σ H Q I h => ?_⟩
  refine wpAny_Call_Name_kw (ld_glob I hg hm ?_ hdb)
  exact PySem.W.callWith_K0 I.kIn hk (run_fnS (us := []) F hr hb (hx σ) I .nil h)
/-- g(..), g a local name -/
theorem pe_callV {i : Nat} (F : FnOk X.prog X.w X.K X.mg X.base CX k f fd ps sp) (hr : Room k X.A) (hN : X.N[i]? = some x) (hv : Vis X.env.scope x) (hd : (x == ("__debug__" : Str)) = false) (hcd : (x == ("__classdict__" : Str)) = false) (hk : PySem.W.keepIn X.K (.ref f) = true) (hb : Binds X.K fd ps []) (hx : ∀ σ, PassesAt CX X σ (E σ))
    (ha : PA X (e :: es) t) (he : starEach (e :: es) X.env = (false, eval e X.env) :: starEach es X.env) (hpl : (backTo pos (starEach es X.env)).any (·.1) = false) :
    PE X (.Call (.Name x p) (e :: es) [] pos) (fun σ H Q => σ[i]? = some (some (.ref f)) ∧ tCallS sp E t σ H Q) := by
  refine ⟨fun pins s σ H Q I h => ?_⟩
  obtain ⟨h1, h2⟩ := h
  refine wpAny_Call_Name_kw (thn ((pe_var hN hv hd hcd).run pins s σ H (fun v H' => v = .ref f ∧ tCallS sp E t σ H' Q) I ⟨.ref f, h1, rfl, h2⟩) fun u s1 ⟨v, H1, I1, r, ev, q⟩ => ?_)
  subst ev
  obtain rfl : u = Value.ref f := r
  refine PySem.W.callWith_K (h₀ := X.base) I.ok.mod.kin hk (thn (ha.run pos pins s1 σ H1 _ I1 q) fun us s2 ⟨vs, H2, I2, r2, q2⟩ => ⟨I2.kIn, ?_⟩) he hpl
  exact run_fnS F hr hb (hx σ) I2 r2 q2
theorem eval_meth {env : Env} (ho : Ev.plainX o = true) (hl : (apos.endLine == pos.line) = true) (hp : es.all Ev.plainX = true) (hlen : es.length < 29) :
    eval (.Call (.Attribute o m apos) es [] pos) env = (do
      let ov ← eval o env
      standAt apos.atName
      let (f, first) ← holding [ov] (getMethod ov m (plainOf o env))
      callWith pos f first (backTo pos (starEach es env)) (backToKw pos (keywordEach [] env))) := by
  show (do
      let ov ← attributeBase o m env (eval o env)
      standAt apos.atName
      methodCall o m apos pos env ov (es.length + ([] : List Keyword).length) (backTo pos (starEach es env)) (backToKw pos (keywordEach [] env))) = _
  rw [Ev.base_of ho]
  have hf : methodCallForm (es.length + ([] : List Keyword).length) (backTo pos (starEach es env)) (backToKw pos (keywordEach [] env)) = true := by
    unfold methodCallForm
    have h1 := Ev.noStar (env := env) (pos := pos) hp
    have h2 : (backTo pos (starEach es env)).all (fun x => !x.1) = true := by
      rw [List.all_eq_not_any_not]
      have : (fun (x : Bool × Sem Value) => !(!x.1)) = (·.1) := by funext x; simp
      simp only [this, h1]; rfl
    rw [h2]
    simp [keywordEach, backToKw]
    omega
  congr 1
  funext ov
  rw [mcall_line hf hl]
theorem pe_methG (he : PE X o ta) (c : Cls X.K C) (hm : Meth X.K C m f) (F : FnOk X.prog X.w X.K X.mg X.base CX k f fd ps sp) (hr : Room k X.A) (hb : Binds X.K fd ps []) (hx : ∀ σ, PassesAt CX X σ (E σ)) (ha : PA X (e :: es) t)
    (ho : Ev.plainX o = true) (hl : (apos.endLine == pos.line) = true) (hp : (e :: es).all Ev.plainX = true) (hlen : (e :: es).length < 29) :
    PE X (.Call (.Attribute o m apos) (e :: es) [] pos) (fun σ H Q => ta σ H fun x H1 => ∃ a dx fs, x = .ref a ∧ H1 a = some (.ins C dx fs) ∧ fs.lookup m = none ∧ t σ H1 fun vs H2 => sp (x :: vs) H2 Q (E σ)) := by
  refine ⟨fun pins s σ H Q I h => ?_⟩
  refine PySem.W.methodCall_KW (pl := plainOf o X.env) (thn (he.run pins s σ H _ I h) fun u s1 ⟨x, H1, I1, rx, a, dx, fs, ex, ea, l, q⟩ => ?_) (eval_meth ho hl hp hlen)
  subst ex
  obtain rfl : u = Value.ref a := rx
  refine getmeth_ok I1 ea c hm l ?_
  have hp' := hp
  rw [List.all_cons, Bool.and_eq_true] at hp'
  refine PySem.W.callWith_K (first := [.ref a]) (h₀ := X.base) I.ok.mod.kin hm.kp (thn (ha.run pos pins s1 σ H1 _ I1 q) fun us s2 ⟨vs, H2, I2, r, q2⟩ => ⟨I2.kIn, ?_⟩) (Ev.star_cons hp'.1) (Ev.noStar hp'.2)
  exact run_fnS (us := .ref a :: us) (vs := .ref a :: vs) F hr hb (hx σ) I2 (.cons rfl r) q2
theorem pe_methG0 (he : PE X o ta) (c : Cls X.K C) (hm : Meth X.K C m f) (F : FnOk X.prog X.w X.K X.mg X.base CX k f fd ps sp) (hr : Room k X.A) (hb : Binds X.K fd ps []) (hx : ∀ σ, PassesAt CX X σ (E σ))
    (ho : Ev.plainX o = true) (hl : (apos.endLine == pos.line) = true) :
    PE X (.Call (.Attribute o m apos) [] [] pos) (fun σ H Q => ta σ H fun x H1 => ∃ a dx fs, x = .ref a ∧ H1 a = some (.ins C dx fs) ∧ fs.lookup m = none ∧ sp [x] H1 Q (E σ)) := by
  refine ⟨fun pins s σ H Q I h => ?_⟩
  refine PySem.W.methodCall_KW (pl := plainOf o X.env) (thn (he.run pins s σ H _ I h) fun u s1 ⟨x, H1, I1, rx, a, dx, fs, ex, ea, l, q⟩ => ?_) (eval_meth ho hl rfl (by decide))
  subst ex
  obtain rfl : u = Value.ref a := rx
  refine getmeth_ok I1 ea c hm l ?_
  exact PySem.W.callWith_K0 (first := [.ref a]) I1.kIn hm.kp (run_fnS (us := [.ref a]) (vs := [.ref a]) F hr hb (hx σ) I1 (.cons rfl .nil) q)
theorem run_makeS {pins : List (Addr × Obj)} {σ : St} {H : Hp} {s : Shared} {Q : VK} {us : List Value} {vs : List V} (M : Mk X.K C f) (F : FnOk X.prog X.w X.K X.mg X.base CX k f fd ps sp) (hr : Room (k + 1) X.A) (hb : Binds X.K fd ps [])
    (hx : PassesAt CX X σ (E σ)) (I : Inv X pins σ H s) (r : Vals vs us)
    (h : ∀ x dx, H x = none → H dx = none → dx ≠ x → sp (.ref x :: vs) (upd (upd H dx (.own x)) x (.ins C dx [])) (fun v H2 => v = .non ∧ Q (.ref x) H2) (E σ)) :
    wpAny (model X.prog X.w) X.A (call (.ref C) us) (EP X pins σ Q) X.xe s := by
  have hq := h (s.heap.objs.size + 1) s.heap.objs.size (I.hok.fresh (Nat.le_succ _)) (I.hok.fresh (Nat.le_refl _)) (Nat.ne_of_lt (Nat.lt_succ_self _))
  have I2 := Inv.made (C := C) I
  have r2 : Vals (V.ref (s.heap.objs.size + 1) :: vs) (Value.ref (s.heap.objs.size + 1) :: us) := .cons rfl r
  have hl : (Value.ref (s.heap.objs.size + 1) :: us ++ []).length = ps.length := by
    have e := r2.length
    rw [F.len _ _ _ _ hq] at e
    rw [List.append_nil]
    exact e.symm
  have bb := hb _ (Value.ref (s.heap.objs.size + 1) :: us) I2.kIn hl
  rw [List.append_nil] at bb
  refine wpAny_call (make_map (f := f) I.kIn M.makes M.init (beq_iff_eq.mp M.fn) (codeAny_mono (F.run _ X.stack _ _ ⟨Value.ref (s.heap.objs.size + 1) :: us, []⟩ (Value.ref (s.heap.objs.size + 1) :: us) _ _ (E σ) (hr.make C us [])
    (I2.env0.make C us []) bb r2 hq) fun r s' hq' => ?_))
  cases r with
  | error e => exact hx pins _ _ e s' I2 hq'
  | ok fl =>
    cases fl with
    | ret u =>
      obtain ⟨v, H', I3, rv, ev, q3⟩ := I2.after hq'
      subst ev
      exact ⟨rv, ⟨V.ref (s.heap.objs.size + 1), H', I3, rfl, q3⟩⟩
    | next => exact False.elim hq'
    | brk => exact False.elim hq'
    | cont => exact False.elim hq'
theorem pe_makeG (M : Mk X.K C f) (F : FnOk X.prog X.w X.K X.mg X.base CX k f fd ps sp) (hr : Room (k + 1) X.A) (hg : Gl X x) (hm : X.mg x = some (.ref C)) (hb : Binds X.K fd ps []) (hx : ∀ σ, PassesAt CX X σ (E σ))
    (ha : PA X (e :: es) t) (hdb : (x == ("__debug__" : Str)) = false) (hp : (e :: es).all Ev.plainX = true) :
    PE X (.Call (.Name x p) (e :: es) [] pos) (fun σ H Q => t σ H fun vs H1 => ∀ x dx, H1 x = none → H1 dx = none → dx ≠ x → sp (.ref x :: vs) (upd (upd H1 dx (.own x)) x (.ins C dx [])) (fun v H2 => v = .non ∧ Q (.ref x) H2) (E σ)) := by
  refine ⟨fun pins s σ H Q I h => ?_⟩
  rw [List.all_cons, Bool.and_eq_true] at hp
  refine wpAny_Call_Name_kw (ld_glob I hg hm ?_ hdb)
  refine PySem.W.callWith_K (h₀ := X.base) I.ok.mod.kin M.kp (thn (ha.run pos pins s σ H _ I h) fun us s1 ⟨vs, H1, I1, r, q⟩ => ⟨I1.kIn, ?_⟩) (Ev.star_cons hp.1) (Ev.noStar hp.2)
  exact run_makeS M F hr hb (hx σ) I1 r q
theorem pe_makeG0 (M : Mk X.K C f) (F : FnOk X.prog X.w X.K X.mg X.base CX k f fd ps sp) (hr : Room (k + 1) X.A) (hg : Gl X x) (hm : X.mg x = some (.ref C)) (hb : Binds X.K fd ps []) (hx : ∀ σ, PassesAt CX X σ (E σ))
    (hdb : (x == ("__debug__" : Str)) = false) :
    PE X (.Call (.Name x p) [] [] pos) (fun σ H Q => ∀ x dx, H x = none → H dx = none → dx ≠ x → sp [.ref x] (upd (upd H dx (.own x)) x (.ins C dx [])) (fun v H2 => v = .non ∧ Q (.ref x) H2) (E σ)) := by
  refine ⟨fun pins s σ H Q I h => ?_⟩
  refine wpAny_Call_Name_kw (ld_glob I hg hm ?_ hdb)
  exact PySem.W.callWith_K0 I.kIn M.kp (run_makeS (us := []) M F hr hb (hx σ) I .nil h)
theorem run_makeD {pins : List (Addr × Obj)} {σ : St} {H : Hp} {s : Shared} {Q : VK} {us : List Value} {vs : List V} (M : Mk X.K C f) (F : FnOk X.prog X.w X.K X.mg X.base CX k f fd ps sp) (hr : Room (k + 1) X.A) {ds : List Value} {dvs : List V} (hb : Binds X.K fd ps ds) (hd : Vals dvs ds)
    (hx : PassesAt CX X σ (E σ)) (I : Inv X pins σ H s) (r : Vals vs us)
    (h : ∀ x dx, H x = none → H dx = none → dx ≠ x → sp (.ref x :: (vs ++ dvs)) (upd (upd H dx (.own x)) x (.ins C dx [])) (fun v H2 => v = .non ∧ Q (.ref x) H2) (E σ)) :
    wpAny (model X.prog X.w) X.A (call (.ref C) us) (EP X pins σ Q) X.xe s := by
  have hq := h (s.heap.objs.size + 1) s.heap.objs.size (I.hok.fresh (Nat.le_succ _)) (I.hok.fresh (Nat.le_refl _)) (Nat.ne_of_lt (Nat.lt_succ_self _))
  have I2 := Inv.made (C := C) I
  have r2 : Vals (V.ref (s.heap.objs.size + 1) :: (vs ++ dvs)) (Value.ref (s.heap.objs.size + 1) :: (us ++ ds)) := .cons rfl (r.append hd)
  have hl : (Value.ref (s.heap.objs.size + 1) :: us ++ ds).length = ps.length := by
    have e := r2.length
    rw [F.len _ _ _ _ hq] at e
    exact e.symm
  have bb := hb _ (Value.ref (s.heap.objs.size + 1) :: us) I2.kIn hl
  refine wpAny_call (make_map (f := f) I.kIn M.makes M.init (beq_iff_eq.mp M.fn) (codeAny_mono (F.run _ X.stack _ _ ⟨Value.ref (s.heap.objs.size + 1) :: us, []⟩ (Value.ref (s.heap.objs.size + 1) :: (us ++ ds)) _ _ (E σ) (hr.make C us [])
    (I2.env0.make C us []) bb r2 hq) fun r s' hq' => ?_))
  cases r with
  | error e => exact hx pins _ _ e s' I2 hq'
  | ok fl =>
    cases fl with
    | ret u =>
      obtain ⟨v, H', I3, rv, ev, q3⟩ := I2.after hq'
      subst ev
      exact ⟨rv, ⟨V.ref (s.heap.objs.size + 1), H', I3, rfl, q3⟩⟩
    | next => exact False.elim hq'
    | brk => exact False.elim hq'
    | cont => exact False.elim hq'
theorem pe_makeD (M : Mk X.K C f) (F : FnOk X.prog X.w X.K X.mg X.base CX k f fd ps sp) (hr : Room (k + 1) X.A) (hg : Gl X x) (hm : X.mg x = some (.ref C)) {ds : List Value} {dvs : List V} (hb : Binds X.K fd ps ds) (hd : Vals dvs ds) (hx : ∀ σ, PassesAt CX X σ (E σ))
    (ha : PA X (e :: es) t) (hdb : (x == ("__debug__" : Str)) = false) (hp : (e :: es).all Ev.plainX = true) :
    PE X (.Call (.Name x p) (e :: es) [] pos) (fun σ H Q => t σ H fun vs H1 => ∀ x dx, H1 x = none → H1 dx = none → dx ≠ x → sp (.ref x :: (vs ++ dvs)) (upd (upd H1 dx (.own x)) x (.ins C dx [])) (fun v H2 => v = .non ∧ Q (.ref x) H2) (E σ)) := by
  refine ⟨fun pins s σ H Q I h => ?_⟩
  rw [List.all_cons, Bool.and_eq_true] at hp
  refine wpAny_Call_Name_kw (ld_glob I hg hm ?_ hdb)
  refine PySem.W.callWith_K (h₀ := X.base) I.ok.mod.kin M.kp (thn (ha.run pos pins s σ H _ I h) fun us s1 ⟨vs, H1, I1, r, q⟩ => ⟨I1.kIn, ?_⟩) (Ev.star_cons hp.1) (Ev.noStar hp.2)
  exact run_makeD M F hr hb hd (hx σ) I1 r q
theorem pe_makeD0 (M : Mk X.K C f) (F : FnOk X.prog X.w X.K X.mg X.base CX k f fd ps sp) (hr : Room (k + 1) X.A) (hg : Gl X x) (hm : X.mg x = some (.ref C)) {ds : List Value} {dvs : List V} (hb : Binds X.K fd ps ds) (hd : Vals dvs ds) (hx : ∀ σ, PassesAt CX X σ (E σ))
    (hdb : (x == ("__debug__" : Str)) = false) :
    PE X (.Call (.Name x p) [] [] pos) (fun σ H Q => ∀ x dx, H x = none → H dx = none → dx ≠ x → sp (.ref x :: ([] ++ dvs)) (upd (upd H dx (.own x)) x (.ins C dx [])) (fun v H2 => v = .non ∧ Q (.ref x) H2) (E σ)) := by
  refine ⟨fun pins s σ H Q I h => ?_⟩
  refine wpAny_Call_Name_kw (ld_glob I hg hm ?_ hdb)
  exact PySem.W.callWith_K0 I.kIn M.kp (run_makeD (us := []) M F hr hb hd (hx σ) I .nil h)
end
end L2
namespace Ev
open PySem PySem.Spec L2
section
variable (K : PySem.W.Frag) (mg : Str → Option Value)
/-- an error as it lies behind a raise -/
def RpX (H F : Hp) (x : Xn) (cls : Value) (od : Option Addr) : Prop :=
  (∃ A, mg x.C = some (.ref A) ∧ cls = .ref A) ∧ x.fs.length = x.xs.length ∧
    ((x.fs = [] ∧ True) ∨ ∃ d vs, od = some d ∧ F d = some (.xd (x.fs.zip vs)) ∧ Rps K mg H F x.xs vs [])
/-- the promise of a def by what it is worth -/
def spOf (cl : List (Bool × D) → Option CR) : Sp := fun vs H Q E =>
  ∃ (F : Hp) (args : List (Bool × D)) (c cx : List Addr) (r : CR), Rps K mg H F (args.map (·.2)) vs c ∧ Good H F (c ++ cx) ∧ cl args = some r ∧
    match r with
    | .ok d o => ∀ v H' F' cd co, Le F F' → (∀ a ∈ cx, H' a = H a) → Good H' F' (cd ++ co ++ cx) → Rp K mg H' F' d v cd → SR K mg H' F' o (vs.map some) co → Q v H'
    | .ex x o => ∀ cls od H' F' co, Le F F' → (∀ a ∈ cx, H' a = H a) → Good H' F' (co ++ cx) → RpX K mg H' F' x cls od → SR K mg H' F' o (vs.map some) co → E cls od H'
end
theorem SR.cut {K : PySem.W.Frag} {mg : Str → Option Value} {H F : Hp} : ∀ {o : List (Option D)} {vs : List V} {v : V} {c : List Addr}, SR K mg H F o ((vs ++ [v]).map some) c → ∃ c' g, SR K mg H F o.dropLast (vs.map some) c' ∧ c.Perm (g ++ c')
  | [], vs, v, c, h => by
    have := h.len
    simp at this
  | [x], [], v, c, h => ⟨[], c, by simp only [List.dropLast, List.map_nil, SR]; exact ⟨trivial, trivial⟩, by simp⟩
  | [x], w :: vs, v, c, h => by
    have := h.len
    simp at this
  | x :: y :: o, [], v, c, h => by
    have := h.len
    simp at this
  | none :: y :: o, w :: vs, v, c, h => by
    simp only [List.cons_append, List.map_cons, SR] at h
    obtain ⟨_, _, e, h⟩ := h
    cases e
    obtain ⟨c', g, h1, h2⟩ := SR.cut (o := y :: o) (vs := vs) (v := v) h
    refine ⟨c', g, ?_, h2⟩
    simp only [List.dropLast, List.map_cons, SR]
    exact ⟨_, _, rfl, h1⟩
  | some d :: y :: o, w :: vs, v, c, h => by
    simp only [List.cons_append, List.map_cons, SR] at h
    obtain ⟨_, _, a1, a2, e, p, rd, h⟩ := h
    cases e
    obtain ⟨c', g, h1, h2⟩ := SR.cut (o := y :: o) (vs := vs) (v := v) h
    refine ⟨a1 ++ c', g, ?_, ?_⟩
    · simp only [List.dropLast, List.map_cons, SR]
      exact ⟨_, _, a1, c', rfl, List.Perm.refl _, rd, h1⟩
    · refine p.trans ((h2.append_left a1).trans ?_)
      rw [← List.append_assoc, ← List.append_assoc]
      exact List.perm_append_comm.append_right _
/-- the shared part without some cells -/
def lessF (F : Hp) (c : List Addr) : Hp := fun a => if a ∈ c then none else F a
theorem lessF_out {F : Hp} {c : List Addr} {a : Addr} (h : a ∉ c) : lessF F c a = F a := if_neg h
/-- owned cells are no tuples -/
def noTup (H : Hp) (a : Addr) : Prop := ∀ vs, ¬ Rd H a (.tup vs)
theorem noTup_of {H : Hp} {a : Addr} {o : HO} (h : H a = some o) (h1 : ∀ vs, o ≠ .tup vs) (h2 : ∀ ob u, o ≠ .frz ob u) : noTup H a := by
  intro vs r
  rcases r with r | ⟨ob, r⟩
  · rw [h] at r; exact h1 vs (Option.some.inj r)
  · rw [h] at r; exact h2 _ _ (Option.some.inj r)
mutual
theorem Rp.noTup {K : PySem.W.Frag} {mg : Str → Option Value} {H F : Hp} : ∀ (d : D) (v : V) (c : List Addr), Rp K mg H F d v c → ∀ a ∈ c, noTup H a
  | .non, v, c, h, a, ha => by simp only [Rp] at h; rw [h.2] at ha; cases ha
  | .bl _, v, c, h, a, ha => by simp only [Rp] at h; rw [h.2] at ha; cases ha
  | .int _, v, c, h, a, ha => by simp only [Rp] at h; rw [h.2] at ha; cases ha
  | .str _, v, c, h, a, ha => by simp only [Rp] at h; rw [h.2] at ha; cases ha
  | .fn _, v, c, h, a, ha => by simp only [Rp] at h; rw [h.2] at ha; cases ha
  | .ty _, v, c, h, a, ha => by simp only [Rp] at h; rw [h.2] at ha; cases ha
  | .scr _, v, c, h, a, ha => by
    simp only [Rp] at h
    obtain ⟨_, _, _, e⟩ := h
    rw [e] at ha; cases ha
  | .tup xs, v, c, h, a, ha => by
    simp only [Rp] at h
    obtain ⟨_, vs, _, _, r⟩ := h
    exact Rps.noTup xs vs c r a ha
  | .lst true xs, v, c, h, a, ha => by
    simp only [Rp] at h
    obtain ⟨b, vs, c', _, q, r, rfl⟩ := h
    rcases List.mem_cons.mp ha with rfl | ha
    · exact noTup_of q (fun _ e => nomatch e) (fun _ _ e => nomatch e)
    · exact Rps.noTup xs vs c' r a ha
  | .lst false xs, v, c, h, a, ha => by
    simp only [Rp] at h
    obtain ⟨b, vs, _, _, r⟩ := h
    exact Rps.noTup xs vs c r a ha
  | .dic true ks xs, v, c, h, a, ha => by
    simp only [Rp] at h
    obtain ⟨b, vs, c', _, _, _, q, r, rfl⟩ := h
    rcases List.mem_cons.mp ha with rfl | ha
    · exact noTup_of q (fun _ e => nomatch e) (fun _ _ e => nomatch e)
    · exact Rps.noTup xs vs c' r a ha
  | .dic false ks xs, v, c, h, a, ha => by
    simp only [Rp] at h
    obtain ⟨b, vs, _, _, _, _, r⟩ := h
    exact Rps.noTup xs vs c r a ha
  | .ins true C fs xs, v, c, h, a, ha => by
    simp only [Rp] at h
    obtain ⟨b, A, dx, vs, c', _, _, _, q, r, rfl⟩ := h
    rcases List.mem_cons.mp ha with rfl | ha
    · exact noTup_of q (fun _ e => nomatch e) (fun _ _ e => nomatch e)
    · exact Rps.noTup xs vs c' r a ha
  | .ins false C fs xs, v, c, h, a, ha => by
    simp only [Rp] at h
    obtain ⟨b, A, dx, vs, _, _, _, _, r⟩ := h
    exact Rps.noTup xs vs c r a ha
theorem Rps.noTup {K : PySem.W.Frag} {mg : Str → Option Value} {H F : Hp} : ∀ (ds : List D) (vs : List V) (c : List Addr), Rps K mg H F ds vs c → ∀ a ∈ c, noTup H a
  | [], vs, c, h, a, ha => by simp only [Rps] at h; rw [h.2] at ha; cases ha
  | d :: r, vs, c, h, a, ha => by
    simp only [Rps] at h
    obtain ⟨v, w, c1, c2, _, rfl, h1, h2⟩ := h
    rcases List.mem_append.mp ha with ha | ha
    · exact Rp.noTup d v c1 h1 a ha
    · exact Rps.noTup r w c2 h2 a ha
end
theorem sqT_less {K : PySem.W.Frag} {F : Hp} {c : List Addr} {a : Addr} {vs : List V} (hc : ∀ b ∈ c, noTup F b) (h : SqT K F a vs) : SqT K (lessF F c) a vs := by
  rcases h with h | h
  · have hn : a ∉ c := fun hm => hc a hm vs h
    rcases h with h | ⟨o, h⟩
    · exact .inl (.inl (by rw [lessF_out hn]; exact h))
    · exact .inl (.inr ⟨o, by rw [lessF_out hn]; exact h⟩)
  · exact .inr h
mutual
theorem Rp.less {K : PySem.W.Frag} {mg : Str → Option Value} {H F : Hp} {c : List Addr} (hc : ∀ b ∈ c, noTup F b) : ∀ (d : D) (v : V) (cd : List Addr), nsD d = true → Rp K mg H F d v cd → Rp K mg H (lessF F c) d v cd
  | .non, v, cd, _, h => by simpa only [Rp] using h
  | .bl _, v, cd, _, h => by simpa only [Rp] using h
  | .int _, v, cd, _, h => by simpa only [Rp] using h
  | .str _, v, cd, _, h => by simpa only [Rp] using h
  | .fn _, v, cd, hn, h => by simp [nsD] at hn
  | .ty _, v, cd, hn, h => by simp [nsD] at hn
  | .scr _, v, cd, hn, h => by simp [nsD] at hn
  | .tup xs, v, cd, hn, h => by
    simp only [nsD] at hn
    simp only [Rp] at h ⊢
    obtain ⟨a, vs, e, q, r⟩ := h
    exact ⟨a, vs, e, sqT_less hc q, Rps.less hc xs vs cd hn r⟩
  | .lst true xs, v, cd, hn, h => by
    simp only [nsD] at hn
    simp only [Rp] at h ⊢
    obtain ⟨a, vs, c', e, q, r, e2⟩ := h
    exact ⟨a, vs, c', e, q, Rps.less hc xs vs c' hn r, e2⟩
  | .lst false xs, v, cd, hn, h => by simp [nsD] at hn
  | .dic _ ks xs, v, cd, hn, h => by simp [nsD] at hn
  | .ins _ C fs xs, v, cd, hn, h => by simp [nsD] at hn
theorem Rps.less {K : PySem.W.Frag} {mg : Str → Option Value} {H F : Hp} {c : List Addr} (hc : ∀ b ∈ c, noTup F b) : ∀ (ds : List D) (vs : List V) (cd : List Addr), nsDs ds = true → Rps K mg H F ds vs cd → Rps K mg H (lessF F c) ds vs cd
  | [], vs, cd, _, h => by simpa only [Rps] using h
  | d :: r, vs, cd, hn, h => by
    simp only [nsDs, Bool.and_eq_true] at hn
    simp only [Rps] at h ⊢
    obtain ⟨v, w, c1, c2, e1, e2, h1, h2⟩ := h
    exact ⟨v, w, c1, c2, e1, e2, Rp.less hc d v c1 hn.1 h1, Rps.less hc r w c2 hn.2 h2⟩
end
theorem outs_lent {K : PySem.W.Frag} {mg : Str → Option Value} {H F H' : Hp} : ∀ {args : List (Bool × D)} {vs : List V} {c : List Addr}, Rps K mg H F (args.map (·.2)) vs c → (∀ a ∈ c, H' a = H a) → ∃ c', c'.Sublist c ∧ SR K mg H' F (args.map fun p => if p.1 = true then some p.2 else none) (vs.map some) c'
  | [], vs, c, h, _ => by
    simp only [List.map_nil, Rps] at h
    obtain ⟨rfl, rfl⟩ := h
    exact ⟨[], List.Sublist.refl _, by simp only [List.map_nil, SR]; exact ⟨trivial, trivial⟩⟩
  | (l, d) :: args, vs, c, h, k => by
    simp only [List.map_cons, Rps] at h
    obtain ⟨v, w, c1, c2, rfl, rfl, r1, r2⟩ := h
    obtain ⟨c', s1, s2⟩ := outs_lent (H' := H') r2 fun a ha => k a (by simp [ha])
    cases l with
    | true =>
      refine ⟨c1 ++ c', List.Sublist.append (List.Sublist.refl _) s1, ?_⟩
      simp only [List.map_cons, if_true, SR]
      exact ⟨v, _, c1, c', rfl, List.Perm.refl _, Rp.keep (Le.refl F) d v c1 r1 fun a ha => k a (by simp [ha]), s2⟩
    | false =>
      refine ⟨c', s1.trans (List.sublist_append_right _ _), ?_⟩
      simp only [List.map_cons, Bool.false_eq_true, if_false, SR]
      exact ⟨_, _, rfl, s2⟩
/-- arguments that are lent to be read -/
theorem sp_bor {K : PySem.W.Frag} {mg : Str → Option Value} {cl1 : List (Bool × D) → Option CR} {vs : List V} {H : Hp} {Q : VK} {E : XK} (h : spOf K mg (borC cl1) vs H Q E) : spOf K mg cl1 vs H Q E := by
  obtain ⟨F, args, c, cx, r, rp, g, e, k⟩ := h
  unfold borC at e
  split at e
  · rename_i d o hc
    split at e
    · rename_i hf
      cases e
      have ea : (args.map fun p => ((false, frz p.2) : Bool × D)).map (·.2) = frzs (args.map (·.2)) := by
        rw [List.map_map]
        have : ∀ l : List (Bool × D), l.map ((fun x : Bool × D => x.2) ∘ fun p => ((false, frz p.2) : Bool × D)) = frzs (l.map (·.2)) := by
          intro l
          induction l with
          | nil => rfl
          | cons x l ih => simp only [List.map_cons, frzs]; rw [ih]; rfl
        exact this args
      refine ⟨join F H c, args.map fun p => (false, frz p.2), [], cx, .ok d o, ?_, g.join, hc, ?_⟩
      · rw [ea]
        exact Rps.frz g.le_join _ vs c rp fun a ha => join_in ha
      · intro v H' F' cd co l kk g' rd so
        have hk : ∀ a ∈ c, H' a = H a := fun a ha => by
          obtain ⟨_, ob, eo⟩ := g.own a (by simp [ha])
          rw [eo]
          exact g'.sub a ob (l a ob (by rw [join_in ha, eo]))
        obtain ⟨c', s1, s2⟩ := outs_lent (H' := H') rp hk
        have hF' : ∀ a ∈ c, ∃ ob, F' a = some ob := fun a ha => by
          obtain ⟨_, ob, eo⟩ := g.own a (by simp [ha])
          exact ⟨ob, l a ob (by rw [join_in ha, eo])⟩
        have hnt : ∀ b ∈ c, noTup F' b := fun b hb vs' rd' => by
          have n0 := Rps.noTup _ vs c rp b hb vs'
          apply n0
          rcases rd' with rd' | ⟨ob, rd'⟩
          · exact .inl (by rw [← hk b hb]; exact g'.sub b _ rd')
          · exact .inr ⟨ob, by rw [← hk b hb]; exact g'.sub b _ rd'⟩
        have s2' : SR K mg H' (lessF F' c) (args.map fun p => if p.1 = true then some p.2 else none) (vs.map some) c' := SR.keep (F := F) (fun a ob ho => by
          have hn : a ∉ c := fun hm => by
            have := (g.own a (by simp [hm])).1
            rw [ho] at this; cases this
          rw [lessF_out hn]
          exact l a ob (g.le_join a ob ho)) s2 fun _ _ => rfl
        refine k v H' (lessF F' c) cd c' (fun a ob ho => ?_) kk ⟨fun a ob ho => ?_, ?_, fun a ha => ?_⟩ (Rp.less hnt d v cd hf rd) s2'
        · have hn : a ∉ c := fun hm => by
            have := (g.own a (by simp [hm])).1
            rw [ho] at this; cases this
          rw [lessF_out hn]
          exact l a ob (g.le_join a ob ho)
        · unfold lessF at ho
          split at ho
          · cases ho
          · exact g'.sub a ob ho
        · rw [List.append_assoc]
          have n1 := g'.nd
          have n2 : (c' ++ cx).Nodup := (List.Sublist.append s1 (List.Sublist.refl cx)).nodup g.nd
          have n3 : cd.Nodup := (List.nodup_append.mp (List.nodup_append.mp n1).1).1
          refine List.nodup_append.mpr ⟨n3, n2, fun a ha b hb e => ?_⟩
          subst e
          rcases List.mem_append.mp hb with hb | hb
          · obtain ⟨ob, eo⟩ := hF' a (s1.subset hb)
            have := (g'.own a (by simp [ha])).1
            rw [eo] at this; cases this
          · exact (List.nodup_append.mp n1).2.2 a (by simp [ha]) a hb rfl
        · simp only [List.mem_append] at ha
          have fin : (∃ ob, H' a = some ob) → F' a = none ∨ a ∈ c → lessF F' c a = none ∧ ∃ o, H' a = some o := fun h1 h2 => ⟨by
            unfold lessF
            split
            · rfl
            · rcases h2 with h2 | h2
              · exact h2
              · exact absurd h2 (by assumption), h1⟩
          rcases ha with (ha | ha) | ha
          · obtain ⟨h1, h2⟩ := g'.own a (by simp [ha])
            exact fin h2 (.inl h1)
          · obtain ⟨_, ob, eo⟩ := g.own a (by simp [s1.subset ha])
            exact fin ⟨ob, by rw [hk a (s1.subset ha), eo]⟩ (.inr (s1.subset ha))
          · obtain ⟨h1, h2⟩ := g'.own a (by simp [ha])
            exact fin h2 (.inl h1)
    · cases e
  · cases e
/-- a default fills up -/
theorem sp_dfl {K : PySem.W.Frag} {mg : Str → Option Value} {cl1 : List (Bool × D) → Option CR} {dv : D} {v : V} (hv : ∀ H F, Rp K mg H F dv v []) {vs : List V} {H : Hp} {Q : VK} {E : XK}
    (h : spOf K mg (fun args => cutO (cl1 (args ++ [(false, dv)]))) vs H Q E) : spOf K mg cl1 (vs ++ [v]) H Q E := by
  obtain ⟨F, args, c, cx, r, rp, g, e, k⟩ := h
  cases hc : cl1 (args ++ [(false, dv)]) with
  | none => have e : cutO (cl1 (args ++ [(false, dv)])) = some r := e; rw [hc] at e; cases e
  | some r1 =>
    have e : cutO (cl1 (args ++ [(false, dv)])) = some r := e
    rw [hc] at e
    refine ⟨F, args ++ [(false, dv)], c, cx, r1, ?_, g, hc, ?_⟩
    · rw [List.map_append]
      have z : Rps K mg H F [dv] [v] ([] ++ []) := by
        simp only [Rps]
        exact ⟨v, [], [], [], rfl, rfl, hv H F, rfl, rfl⟩
      have := Rps.append rp z
      simpa using this
    · cases r1 with
      | ok d o =>
        cases e
        intro w H' F' cd co l kk g' rd so
        obtain ⟨c', gg, s1, p1⟩ := so.cut
        exact k w H' F' cd c' l kk ((g'.perm (show (cd ++ co ++ cx).Perm (gg ++ (cd ++ c' ++ cx)) from List.perm_iff_count.mpr fun z => by have := p1.count_eq z; simp only [List.count_append] at *; omega).symm).sublist (List.sublist_append_right _ _)) rd s1
      | ex x o =>
        cases e
        intro cls od H' F' co l kk g' rx so
        obtain ⟨c', gg, s1, p1⟩ := so.cut
        exact k cls od H' F' c' l kk ((g'.perm (show (co ++ cx).Perm (gg ++ (c' ++ cx)) from List.perm_iff_count.mpr fun z => by have := p1.count_eq z; simp only [List.count_append] at *; omega).symm).sublist (List.sublist_append_right _ _)) rx s1
/-- the defs that may be called -/
structure ClOk (P : Pg) (X : Cx) (k : Nat) (cl : Cl) : Prop where
  room : Room (k + 1) X.A
  fn : ∀ f, P.fn f = true → ∃ g fd ps, FnOk X.prog X.w X.K X.mg X.base (L2.CX X.prog X.w) k g fd ps (spOf X.K X.mg (cl (f, none))) ∧ X.mg f = some (.ref g) ∧ PySem.W.keepIn X.K (.ref g) = true ∧ Binds X.K fd ps []
  me : ∀ C m, P.mt C m = true → ∃ A g fd ps, X.mg C = some (.ref A) ∧ FnOk X.prog X.w X.K X.mg X.base (L2.CX X.prog X.w) k g fd ps (spOf X.K X.mg (cl (C, some m))) ∧ Cls X.K A ∧ Meth X.K A m g ∧ Binds X.K fd ps []
  mak : ∀ C, P.ck C = true → ∃ A g fd ps, X.mg C = some (.ref A) ∧ FnOk X.prog X.w X.K X.mg X.base (L2.CX X.prog X.w) k g fd ps (spOf X.K X.mg (cl (C, some "__init__"))) ∧ Mk X.K A g ∧ Binds X.K fd ps []
  makd : ∀ C dv, P.ck C = true → P.dk C = some dv → ∃ A g fd ps, X.mg C = some (.ref A) ∧ FnOk X.prog X.w X.K X.mg X.base (L2.CX X.prog X.w) k g fd ps (spOf X.K X.mg (cl (C, some "__init__"))) ∧ Mk X.K A g ∧ Binds X.K fd ps [] ∧
    ∃ v u, RelV v u ∧ (∀ H F, Rp X.K X.mg H F dv v []) ∧ Binds X.K fd ps [u]
end Ev
end
section
set_option maxRecDepth 100000
set_option maxHeartbeats 4000000
namespace Ev
open PySem PySem.Spec L2
theorem bindR_some {α β : Type} {m : Option (Rs α)} {k : α → Tr → Option (Rs β)} {r : Rs β} (h : bindR m k = some r) : (∃ a t, m = some (.ok a t) ∧ k a t = some r) ∨ (∃ x t, m = some (.ex x t) ∧ r = .ex x t) := by
  unfold bindR at h
  split at h
  · exact .inl ⟨_, _, rfl, h⟩
  · cases h; exact .inr ⟨_, _, rfl, rfl⟩
  · cases h
/-- the slot that is hidden: its tree, value, cells -/
structure HD where
  i : Nat
  d : D
  v : V
  c : List Addr
section
variable (K : PySem.W.Frag) (mg : Str → Option Value)
theorem perm_of {a b : List Addr} (h : ∀ x, a.count x = b.count x) : a.Perm b := List.perm_iff_count.mpr h
/-- the operands' values -/
def RO (H F : Hp) (σ : L2.St) (hd : Option HD) : List Opd → List V → List Addr → Prop
  | [], ws, c => ws = [] ∧ c = []
  | .ref i :: r, ws, c => ∃ v w, ws = v :: w ∧ σ[i]? = some (some v) ∧ RO H F σ hd r w c
  | .val d :: r, ws, c => ∃ v w c1 c2, ws = v :: w ∧ c = c1 ++ c2 ∧ Rp K mg H F d v c1 ∧ RO H F σ hd r w c2
  | .dp i st :: r, ws, c => ∃ v w h d1, ws = v :: w ∧ hd = some h ∧ h.i = i ∧ Foc K mg H F h.d h.v h.c st d1 v ∧ RO H F σ hd r w c
/-- where the operands' values come from: lent slots, the path's value -/
def RV (σ : L2.St) (qv : V) : List Opd → List V → Prop
  | [], ws => ws = []
  | .ref i :: r, ws => ∃ v w, ws = v :: w ∧ σ[i]? = some (some v) ∧ RV σ qv r w
  | .val _ :: r, ws => ∃ v w, ws = v :: w ∧ RV σ qv r w
  | .dp _ _ :: r, ws => ∃ w, ws = qv :: w ∧ RV σ qv r w
/-- the state: what is at hand (cells cs), what may be read and all else (cells cx) -/
structure BS (H F : Hp) (t rt : Tr) (σ : L2.St) (cs cx : List Addr) : Prop where
  s : SR K mg H F t σ cs
  r : ∃ cr, SR K mg H F rt σ cr ∧ ∀ a ∈ cr, a ∈ cx
  g : Good H F (cs ++ cx)
structure HDok (H F : Hp) (rt : Tr) (σ : L2.St) (cx : List Addr) (h : HD) : Prop where
  at' : rt[h.i]? = some (some h.d)
  val : σ[h.i]? = some (some h.v)
  rp : Rp K mg H F h.d h.v h.c
  sub : ∀ a ∈ h.c, a ∈ cx
end
section
variable {K : PySem.W.Frag} {mg : Str → Option Value} {H F H' F' : Hp} {t rt : Tr} {σ : L2.St} {cs cx c : List Addr} {hd : Option HD}
theorem RO.keep (l : Le F F') : ∀ {os : List Opd} {ws : List V} {c : List Addr}, RO K mg H F σ hd os ws c → (∀ a ∈ c, H' a = H a) → (∀ h, hd = some h → ∀ a ∈ h.c, H' a = H a) → RO K mg H' F' σ hd os ws c
  | [], ws, c, h, _, _ => by simpa only [RO] using h
  | .ref i :: r, ws, c, h, k, kh => by
    simp only [RO] at h ⊢
    obtain ⟨v, w, e, e2, h⟩ := h
    exact ⟨v, w, e, e2, h.keep l k kh⟩
  | .val d :: r, ws, c, h, k, kh => by
    simp only [RO] at h ⊢
    obtain ⟨v, w, c1, c2, e, e2, rp, h⟩ := h
    subst e2
    exact ⟨v, w, c1, c2, e, rfl, Rp.keep l d v c1 rp fun a ha => k a (by simp [ha]), h.keep l (fun a ha => k a (by simp [ha])) kh⟩
  | .dp i st :: r, ws, c, h, k, kh => by
    simp only [RO] at h ⊢
    obtain ⟨v, w, hh, d1, e, e2, e3, f, h⟩ := h
    exact ⟨v, w, hh, d1, e, e2, e3, f.keep l (kh hh e2), h.keep l k kh⟩
theorem BS.stt (s : BS K mg H F t rt σ cs cx) : Stt K mg H F t rt σ (cs ++ cx) := by
  obtain ⟨cr, h1, h2⟩ := s.r
  exact ⟨⟨cs, s.s, fun b hb => by simp [hb]⟩, ⟨cr, h1, fun b hb => by simp [h2 b hb]⟩, s.g⟩
theorem BS.keep (s : BS K mg H F t rt σ cs cx) (l : Le F F') (k : ∀ a ∈ cs ++ cx, H' a = H a) (g : Good H' F' (cs ++ cx)) : BS K mg H' F' t rt σ cs cx := by
  obtain ⟨cr, h1, h2⟩ := s.r
  exact ⟨s.s.keep l fun a ha => k a (by simp [ha]), ⟨cr, h1.keep l fun a ha => k a (by simp [h2 a ha]), h2⟩, g⟩
theorem HDok.keep {h : HD} (x : HDok K mg H F rt σ cx h) (l : Le F F') (k : ∀ a ∈ cx, H' a = H a) : HDok K mg H' F' rt σ cx h :=
  ⟨x.at', x.val, Rp.keep l _ _ _ x.rp fun a ha => k a (x.sub a ha), x.sub⟩
/-- lending without a path -/
theorem lend_none : ∀ {os : List Opd} {t : Tr} {args : List (Bool × D)} {t2 : Tr}, lend none os t = some (args, t2) → ∀ {ws : List V} {cv cs : List Addr}, SR K mg H F t σ cs → RO K mg H F σ hd os ws cv →
    (∀ qv, RV σ qv os ws) ∧ ∃ c1 c2, Rps K mg H F (args.map (·.2)) ws c1 ∧ SR K mg H F t2 σ c2 ∧ (cv ++ cs).Perm (c1 ++ c2)
  | [], t, args, t2, e, ws, cv, cs, s, o => by
    simp only [lend, Option.some.injEq, Prod.mk.injEq] at e
    obtain ⟨rfl, rfl⟩ := e
    simp only [RO] at o
    obtain ⟨rfl, rfl⟩ := o
    exact ⟨fun _ => by simp only [RV], [], cs, by simp only [List.map_nil, Rps]; exact ⟨trivial, trivial⟩, s, by simp⟩
  | .ref i :: r, t, args, t2, e, ws, cv, cs, s, o => by
    simp only [lend] at e
    split at e
    · rename_i d hi
      cases q : lend none r (t.set i none) with
      | none => rw [q] at e; cases e
      | some z =>
        rw [q] at e
        simp only [Option.map_some, Option.some.injEq, Prod.mk.injEq] at e
        obtain ⟨rfl, rfl⟩ := e
        simp only [RO] at o
        obtain ⟨v, w, rfl, e2, o⟩ := o
        obtain ⟨v', a1, a2, e3, rp, s2, p⟩ := s.take hi
        rw [e2] at e3; cases e3
        obtain ⟨rv, c1, c2, r1, s3, p2⟩ := lend_none (args := z.1) (t2 := z.2) q s2 o
        refine ⟨fun qv => by simp only [RV]; exact ⟨v, w, rfl, e2, rv qv⟩, a1 ++ c1, c2, ?_, s3, ?_⟩
        · simp only [List.map_cons, Rps]
          exact ⟨v, w, a1, c1, rfl, rfl, rp, r1⟩
        · refine (p.append_left cv).trans ?_
          rw [← List.append_assoc]
          refine (List.perm_append_comm.append_right a2).trans ?_
          rw [List.append_assoc, List.append_assoc]
          exact p2.append_left a1
    · cases e
  | .val d :: r, t, args, t2, e, ws, cv, cs, s, o => by
    simp only [lend] at e
    cases q : lend none r t with
    | none => rw [q] at e; cases e
    | some z =>
      rw [q] at e
      simp only [Option.map_some, Option.some.injEq, Prod.mk.injEq] at e
      obtain ⟨rfl, rfl⟩ := e
      simp only [RO] at o
      obtain ⟨v, w, a1, a2, rfl, rfl, rp, o⟩ := o
      obtain ⟨rv, c1, c2, r1, s3, p2⟩ := lend_none (args := z.1) (t2 := z.2) q s o
      refine ⟨fun qv => by simp only [RV]; exact ⟨v, w, rfl, rv qv⟩, a1 ++ c1, c2, ?_, s3, ?_⟩
      · simp only [List.map_cons, Rps]
        exact ⟨v, w, a1, c1, rfl, rfl, rp, r1⟩
      · rw [List.append_assoc, List.append_assoc]
        exact p2.append_left a1
  | .dp i st :: r, t, args, t2, e, ws, cv, cs, s, o => by simp [lend] at e
/-- .. with the path's tree -/
theorem lend_some {d0 : D} : ∀ {os : List Opd} {t : Tr} {args : List (Bool × D)} {t2 : Tr}, lend (some d0) os t = some (args, t2) → ∀ {ws : List V} {cv cs : List Addr}, SR K mg H F t σ cs → RO K mg H F σ hd os ws cv →
    ∃ i st h d1 v, hd = some h ∧ h.i = i ∧ dpOf i os = some st ∧ Foc K mg H F h.d h.v h.c st d1 v ∧ RV σ v os ws ∧ ∀ cq, Rp K mg H F d0 v cq →
      ∃ c1 c2, Rps K mg H F (args.map (·.2)) ws c1 ∧ SR K mg H F t2 σ c2 ∧ (cv ++ cs ++ cq).Perm (c1 ++ c2)
  | [], t, args, t2, e, ws, cv, cs, s, o => by simp [lend] at e
  | .ref i :: r, t, args, t2, e, ws, cv, cs, s, o => by
    simp only [lend] at e
    split at e
    · rename_i d hi
      cases q : lend (some d0) r (t.set i none) with
      | none => rw [q] at e; cases e
      | some z =>
        rw [q] at e
        simp only [Option.map_some, Option.some.injEq, Prod.mk.injEq] at e
        obtain ⟨rfl, rfl⟩ := e
        simp only [RO] at o
        obtain ⟨v, w, rfl, e2, o⟩ := o
        obtain ⟨v', a1, a2, e3, rp, s2, p⟩ := s.take hi
        rw [e2] at e3; cases e3
        obtain ⟨j, st, h, d1, vq, y1, y2, y3, y4, rv, y5⟩ := lend_some (args := z.1) (t2 := z.2) q s2 o
        refine ⟨j, st, h, d1, vq, y1, y2, y3, y4, by simp only [RV]; exact ⟨v, w, rfl, e2, rv⟩, fun cq rq => ?_⟩
        obtain ⟨c1, c2, r1, s3, p2⟩ := y5 cq rq
        refine ⟨a1 ++ c1, c2, ?_, s3, ?_⟩
        · simp only [List.map_cons, Rps]
          exact ⟨v, w, a1, c1, rfl, rfl, rp, r1⟩
        · refine ((p.append_left cv).append_right cq).trans ?_
          rw [← List.append_assoc]
          refine ((List.perm_append_comm.append_right a2).append_right cq).trans ?_
          rw [List.append_assoc, List.append_assoc, List.append_assoc]
          rw [List.append_assoc] at p2
          exact p2.append_left a1
    · cases e
  | .val d :: r, t, args, t2, e, ws, cv, cs, s, o => by
    simp only [lend] at e
    cases q : lend (some d0) r t with
    | none => rw [q] at e; cases e
    | some z =>
      rw [q] at e
      simp only [Option.map_some, Option.some.injEq, Prod.mk.injEq] at e
      obtain ⟨rfl, rfl⟩ := e
      simp only [RO] at o
      obtain ⟨v, w, a1, a2, rfl, rfl, rp, o⟩ := o
      obtain ⟨j, st, h, d1, vq, y1, y2, y3, y4, rv, y5⟩ := lend_some (args := z.1) (t2 := z.2) q s o
      refine ⟨j, st, h, d1, vq, y1, y2, y3, y4, by simp only [RV]; exact ⟨v, w, rfl, rv⟩, fun cq rq => ?_⟩
      obtain ⟨c1, c2, r1, s3, p2⟩ := y5 cq rq
      refine ⟨a1 ++ c1, c2, ?_, s3, ?_⟩
      · simp only [List.map_cons, Rps]
        exact ⟨v, w, a1, c1, rfl, rfl, rp, r1⟩
      · rw [List.append_assoc, List.append_assoc, List.append_assoc]
        rw [List.append_assoc] at p2
        exact p2.append_left a1
  | .dp i st :: r, t, args, t2, e, ws, cv, cs, s, o => by
    simp only [lend] at e
    cases q : lend none r t with
    | none => rw [q] at e; cases e
    | some z =>
      rw [q] at e
      simp only [Option.map_some, Option.some.injEq, Prod.mk.injEq] at e
      obtain ⟨rfl, rfl⟩ := e
      simp only [RO] at o
      obtain ⟨v, w, h, d1, rfl, e2, e3, f, o⟩ := o
      obtain ⟨rv, c1, c2, r1, s3, p2⟩ := lend_none (args := z.1) (t2 := z.2) q s o
      refine ⟨i, st, h, d1, v, e2, e3, by simp [dpOf], f, by simp only [RV]; exact ⟨w, rfl, rv v⟩, fun cq rq => ⟨cq ++ c1, c2, ?_, s3, ?_⟩⟩
      · simp only [List.map_cons, Rps]
        exact ⟨v, w, cq, c1, rfl, rfl, rq, r1⟩
      · refine List.perm_append_comm.trans ?_
        rw [List.append_assoc]
        exact p2.append_left cq
/-- what was lent is given back -/
theorem giveB_ok {qv : V} : ∀ {os : List Opd} {o : List (Option D)} {t : Tr} {q : Option D} {t3 : Tr} {q3 : Option D}, giveB os o t q = some (t3, q3) → ∀ {ws : List V} {co c2 cq0 : List Addr}, RV σ qv os ws → SR K mg H F o (ws.map some) co → SR K mg H F t σ c2 →
    (∀ d, q = some d → Rp K mg H F d qv cq0) → ∃ c3 cq g, SR K mg H F t3 σ c3 ∧ (∀ d, q3 = some d → Rp K mg H F d qv cq) ∧ (co ++ c2 ++ cq0).Perm (g ++ (c3 ++ cq))
  | [], [], t, q, t3, q3, e, ws, co, c2, cq0, rv, so, s, hq => by
    simp only [giveB, Option.some.injEq, Prod.mk.injEq] at e
    obtain ⟨rfl, rfl⟩ := e
    simp only [RV] at rv
    subst rv
    simp only [List.map_nil, SR] at so
    obtain ⟨_, rfl⟩ := so
    exact ⟨c2, cq0, [], s, hq, by simp⟩
  | .ref i :: r, none :: o, t, q, t3, q3, e, ws, co, c2, cq0, rv, so, s, hq => by
    simp only [giveB] at e
    simp only [RV] at rv
    obtain ⟨v, w, rfl, e2, rv⟩ := rv
    simp only [List.map_cons, SR] at so
    obtain ⟨_, _, e3, so⟩ := so
    cases e3
    obtain ⟨c2', s2, rr, p⟩ := s.drop (i := i)
    obtain ⟨c3, cq, g, s3, h3, p3⟩ := giveB_ok e rv so s2 hq
    refine ⟨c3, cq, rr ++ g, s3, h3, perm_of fun x => ?_⟩
    have h1 := p.count_eq x
    have h2 := p3.count_eq x
    simp only [List.count_append] at *
    omega
  | .ref i :: r, some d :: o, t, q, t3, q3, e, ws, co, c2, cq0, rv, so, s, hq => by
    simp only [giveB] at e
    simp only [RV] at rv
    obtain ⟨v, w, rfl, e2, rv⟩ := rv
    simp only [List.map_cons, SR] at so
    obtain ⟨_, _, a1, a2, e3, pp, rp, so⟩ := so
    cases e3
    obtain ⟨c2', s2, rr, p⟩ := s.drop (i := i)
    have hi : i < t.length := by
      rw [s.len]
      exact (List.getElem?_eq_some_iff.mp e2).1
    have s2' := SR.put s2 hi e2 rp
    obtain ⟨c3, cq, g, s3, h3, p3⟩ := giveB_ok e rv so s2' hq
    refine ⟨c3, cq, rr ++ g, s3, h3, perm_of fun x => ?_⟩
    have h1 := p.count_eq x
    have h2 := p3.count_eq x
    have h4 := pp.count_eq x
    simp only [List.count_append] at *
    omega
  | .val _ :: r, none :: o, t, q, t3, q3, e, ws, co, c2, cq0, rv, so, s, hq => by
    simp only [giveB] at e
    simp only [RV] at rv
    obtain ⟨v, w, rfl, rv⟩ := rv
    simp only [List.map_cons, SR] at so
    obtain ⟨_, _, e3, so⟩ := so
    cases e3
    exact giveB_ok e rv so s hq
  | .dp _ _ :: r, none :: o, t, q, t3, q3, e, ws, co, c2, cq0, rv, so, s, hq => by
    simp only [giveB] at e
    simp only [RV] at rv
    obtain ⟨w, rfl, rv⟩ := rv
    simp only [List.map_cons, SR] at so
    obtain ⟨_, _, e3, so⟩ := so
    cases e3
    obtain ⟨c3, cq, g, s3, h3, p3⟩ := giveB_ok (cq0 := []) e rv so s (fun d h => nomatch h)
    refine ⟨c3, cq, cq0 ++ g, s3, h3, perm_of fun x => ?_⟩
    have h2 := p3.count_eq x
    simp only [List.count_append, List.count_nil] at *
    omega
  | .dp _ _ :: r, some d :: o, t, q, t3, q3, e, ws, co, c2, cq0, rv, so, s, hq => by
    simp only [giveB] at e
    simp only [RV] at rv
    obtain ⟨w, rfl, rv⟩ := rv
    simp only [List.map_cons, SR] at so
    obtain ⟨_, _, a1, a2, e3, pp, rp, so⟩ := so
    cases e3
    obtain ⟨c3, cq, g, s3, h3, p3⟩ := giveB_ok (cq0 := a1) e rv so s (fun d h => by cases h; exact rp)
    refine ⟨c3, cq, cq0 ++ g, s3, h3, perm_of fun x => ?_⟩
    have h2 := p3.count_eq x
    have h4 := pp.count_eq x
    simp only [List.count_append] at *
    omega
  | [], _ :: _, _, _, _, _, e, _, _, _, _, _, _, _, _ => by simp [giveB] at e
  | .ref _ :: _, [], _, _, _, _, e, _, _, _, _, _, _, _, _ => by simp [giveB] at e
  | .val _ :: _, [], _, _, _, _, e, _, _, _, _, _, _, _, _ => by simp [giveB] at e
  | .val _ :: _, some _ :: _, _, _, _, _, e, _, _, _, _, _, _, _, _ => by simp [giveB] at e
  | .dp _ _ :: _, [], _, _, _, _, e, _, _, _, _, _, _, _, _ => by simp [giveB] at e
end
end Ev
end
section
set_option maxRecDepth 100000
set_option maxHeartbeats 4000000
namespace Ev
open PySem PySem.Spec L2
mutual
def chkTg (N : List Str) (rs : Scope) : Tg → Expr → Bool
  | .n i, .Name x _ => decide (N[i]? = some x) && (rs.names.lookup x == some .local || rs.names.lookup x == some .cell)
  | .t l, .Tuple es _ _ => es.all plainX && chkTgs N rs l es
  | _, _ => false
def chkTgs (N : List Str) (rs : Scope) : List Tg → List Expr → Bool
  | [], [] => true
  | g :: gs, e :: es => chkTg N rs g e && chkTgs N rs gs es
  | _, _ => false
end
mutual
def tgS : Tg → List Nat
  | .n i => [i]
  | .t l => tgSs l
def tgSs : List Tg → List Nat
  | [] => []
  | g :: gs => tgS g ++ tgSs gs
end
structure TgOk (X : Cx) (N : List Str) (rs : Scope) : Prop where
  calm : X.calm = true
  names : X.N = N
  nd : N.Nodup
  loc : ∀ x, rs.names.lookup x = some .local ∨ rs.names.lookup x = some .cell → Loc X.env.scope x ∧ (X.fn x = true ∨ X.env.scope.names.lookup x = some .local)
def mxGs (X : Cx) (es : List Expr) : TGs := fun vs σ H Q => ∃ t, PGs X es t ∧ t vs σ H Q
theorem pgs_mx {X : Cx} {es : List Expr} : PGs X es (mxGs X es) := ⟨fun pins s σ H vs us Q I r ⟨t, p, h⟩ => p.run pins s σ H vs us Q I r h⟩
theorem assignEach_plain : ∀ {es : List Expr} {env : Env}, es.all plainX = true → assignEach es env = es.map fun e => (false, assign e env)
  | [], _, _ => rfl
  | e :: es, env, h => by
    rw [List.all_cons, Bool.and_eq_true] at h
    have ih := assignEach_plain (env := env) h.2
    have : assignEach (e :: es) env = (false, assign e env) :: assignEach es env := by
      have := h.1
      cases e <;> first | rfl | (simp [plainX] at this)
    rw [this, ih]; rfl
theorem assignEach_len {es : List Expr} {env : Env} (h : es.all plainX = true) : (assignEach es env).length = es.length := by rw [assignEach_plain h, List.length_map]
theorem assignEach_star {es : List Expr} {env : Env} (h : es.all plainX = true) : (assignEach es env).findIdx? (·.1) = none := by
  rw [assignEach_plain h, List.findIdx?_eq_none_iff]
  intro x hx
  obtain ⟨e, _, rfl⟩ := List.mem_map.mp hx
  rfl
theorem assignEach_cons {e : Expr} {es : List Expr} {env : Env} (h : (e :: es).all plainX = true) : (assignEach (e :: es) env).map (·.2) = assign e env :: (assignEach es env).map (·.2) := by
  have h2 := h
  rw [List.all_cons, Bool.and_eq_true] at h2
  rw [assignEach_plain h, assignEach_plain h2.2]; rfl
theorem Rp.lstS {K : PySem.W.Frag} {mg : Str → Option Value} {H F : Hp} {o : Bool} {xs : List D} {v : V} {cd : List Addr} (h : Rp K mg H F (.lst o xs) v cd) (l : Le F H) : ∃ a vs cs, v = .ref a ∧ Rd H a (.lst vs) ∧ Rps K mg H F xs vs cs ∧ cs.Sublist cd := by
  cases o with
  | true =>
    simp only [Rp] at h
    obtain ⟨a, vs, c', e, q, r, rfl⟩ := h
    exact ⟨a, vs, c', e, .of q, r, List.sublist_cons_self _ _⟩
  | false =>
    simp only [Rp] at h
    obtain ⟨a, vs, e, q, r⟩ := h
    exact ⟨a, vs, cd, e, l.rd q, r, List.Sublist.refl _⟩
/-- what follows a store -/
def PostG (K : PySem.W.Frag) (mg : Str → Option Value) (H F : Hp) (t' : Tr) (σ : L2.St) (cx : List Addr) (js : List Nat) (Q : L2.St → Hp → Prop) : Prop :=
  ∀ σ' cs', SR K mg H F t' σ' cs' → Good H F (cs' ++ cx) → (∀ j, j ∉ js → σ'[j]? = σ[j]?) → σ'.length = σ.length → Q σ' H
theorem asgs_len : ∀ {l : List Tg} {ds : List D} {t t' : Tr}, asgs l ds t = some t' → l.length = ds.length
  | [], [], _, _, _ => rfl
  | g :: gs, d :: ds, t, t', h => by
    simp only [asgs] at h
    cases e : asg g d t with
    | none => rw [e] at h; cases h
    | some t2 =>
      rw [e] at h
      have h : asgs gs ds t2 = some t' := h
      rw [List.length_cons, List.length_cons, asgs_len h]
  | [], _ :: _, _, _, h => by simp [asgs] at h
  | _ :: _, [], _, _, h => by simp [asgs] at h
theorem chkTgs_len {N : List Str} {rs : Scope} : ∀ {l : List Tg} {es : List Expr}, chkTgs N rs l es = true → l.length = es.length
  | [], [], _ => rfl
  | g :: gs, e :: es, h => by
    simp only [chkTgs, Bool.and_eq_true] at h
    rw [List.length_cons, List.length_cons, chkTgs_len h.2]
  | [], _ :: _, h => by simp [chkTgs] at h
  | _ :: _, [], h => by simp [chkTgs] at h
mutual
theorem asg_ok {X : Cx} {N : List Str} {rs : Scope} (ok : TgOk X N rs) : ∀ (g : Tg) (e : Expr), chkTg N rs g e = true → ∀ (d : D) (t t' : Tr), asg g d t = some t' →
    ∀ (v : V) (σ : L2.St) (H F : Hp) (cs cx cd : List Addr) (Q : L2.St → Hp → Prop), SR X.K X.mg H F t σ cs → Rp X.K X.mg H F d v cd → Good H F (cd ++ cs ++ cx) → PostG X.K X.mg H F t' σ cx (tgS g) Q → mxG X e v σ H Q
  | .n i, e, hc, d, t, t', ha, v, σ, H, F, cs, cx, cd, Q, s, r, g, k => by
    cases e with
    | Name x pos =>
      simp only [chkTg, Bool.and_eq_true, Bool.or_eq_true, decide_eq_true_eq, beq_iff_eq] at hc
      obtain ⟨h1, h2⟩ := hc
      obtain ⟨l1, l2⟩ := ok.loc x h2
      simp only [asg] at ha
      split at ha
      · rename_i hi
        cases ha
        refine ⟨_, pg_name (i := i) (by rw [ok.names]; exact ok.nd) (by rw [ok.names]; exact h1) l1 l2, ?_⟩
        show Q (σ.set i (some v)) H
        obtain ⟨c', s2, rr, p⟩ := s.drop (i := i)
        have s3 := SR.put (SR.store (w := some v) s2) hi (by rw [List.getElem?_set_self (by rw [← s.len]; exact hi)]) r
        refine k _ _ s3 ?_ (fun j hj => ?_) (by rw [List.length_set])
        · refine (g.perm (c' := rr ++ (cd ++ c' ++ cx)) (perm_of fun z => ?_)).sublist (List.sublist_append_right _ _)
          have := p.count_eq z
          simp only [List.count_append] at *
          omega
        · simp only [tgS, List.mem_singleton] at hj
          rw [List.getElem?_set_ne (Ne.symm hj)]
      · cases ha
    | _ => simp [chkTg] at hc
  | .t l, e, hc, d, t, t', ha, v, σ, H, F, cs, cx, cd, Q, s, r, g, k => by
    cases e with
    | Tuple es kk pos =>
      simp only [chkTg, Bool.and_eq_true] at hc
      match d, ha, r with
      | .tup xs, ha, r =>
        simp only [asg] at ha
        obtain ⟨a, vs, rfl, q, rr⟩ := r.tupE g.sub
        refine ⟨_, pg_tup ok.calm pgs_mx (assignEach_len hc.1) (assignEach_star hc.1), ?_⟩
        refine ⟨a, vs, rfl, q, ?_, asgs_ok ok l es hc.1 hc.2 xs t t' ha vs σ H F cs cx cd Q s rr g k⟩
        rw [← rr.length, ← asgs_len ha, chkTgs_len hc.2]
      | .lst o xs, ha, r =>
        simp only [asg] at ha
        obtain ⟨a, vs, c1, rfl, q, rr, sub⟩ := r.lstS g.sub
        refine ⟨_, pg_unl ok.calm pgs_mx (assignEach_len hc.1) (assignEach_star hc.1), ?_⟩
        refine ⟨a, vs, rfl, .inl q, ?_, asgs_ok ok l es hc.1 hc.2 xs t t' ha vs σ H F cs cx c1 Q s rr (g.sublist ((sub.append_right cs).append_right cx)) k⟩
        rw [← rr.length, ← asgs_len ha, chkTgs_len hc.2]
    | _ => simp [chkTg] at hc
theorem asgs_ok {X : Cx} {N : List Str} {rs : Scope} (ok : TgOk X N rs) : ∀ (l : List Tg) (es : List Expr), es.all plainX = true → chkTgs N rs l es = true → ∀ (ds : List D) (t t' : Tr), asgs l ds t = some t' →
    ∀ (vs : List V) (σ : L2.St) (H F : Hp) (cs cx cd : List Addr) (Q : L2.St → Hp → Prop), SR X.K X.mg H F t σ cs → Rps X.K X.mg H F ds vs cd → Good H F (cd ++ cs ++ cx) → PostG X.K X.mg H F t' σ cx (tgSs l) Q → mxGs X es vs σ H Q
  | [], es, hp, hc, ds, t, t', ha, vs, σ, H, F, cs, cx, cd, Q, s, r, g, k => by
    cases es with
    | cons _ _ => simp [chkTgs] at hc
    | nil =>
      cases ds with
      | cons _ _ => simp [asgs] at ha
      | nil =>
        simp only [asgs, Option.some.injEq] at ha
        subst ha
        simp only [Rps] at r
        obtain ⟨rfl, rfl⟩ := r
        exact ⟨_, pgs_nil, rfl, k σ cs s (by simpa using g) (fun _ _ => rfl) rfl⟩
  | gg :: gs, es, hp, hc, ds, t, t', ha, vs, σ, H, F, cs, cx, cd, Q, s, r, g, k => by
    cases es with
    | nil => simp [chkTgs] at hc
    | cons e es =>
      cases ds with
      | nil => simp [asgs] at ha
      | cons d ds =>
        simp only [chkTgs, Bool.and_eq_true] at hc
        have hp2 := hp
        rw [List.all_cons, Bool.and_eq_true] at hp2
        simp only [asgs] at ha
        cases e1 : asg gg d t with
        | none => rw [e1] at ha; cases ha
        | some t2 =>
          rw [e1] at ha
          have ha : asgs gs ds t2 = some t' := ha
          simp only [Rps] at r
          obtain ⟨v, w, c1, c2, rfl, rfl, r1, r2⟩ := r
          refine ⟨_, pgs_cons pg_mx pgs_mx (assignEach_cons hp), v, w, rfl, ?_⟩
          refine asg_ok ok gg e hc.1 d t t2 e1 v σ H F cs (c2 ++ cx) c1 _ s r1 (g.perm (perm_of fun z => by simp only [List.count_append]; omega)) fun σ2 cs2 s2 g2 k2 l2 => ?_
          refine asgs_ok ok gs es hp2.2 hc.2 ds t2 t' ha w σ2 H F cs2 cx c2 Q s2 r2 (g2.perm (perm_of fun z => by simp only [List.count_append]; omega)) fun σ3 cs3 s3 g3 k3 l3 => ?_
          refine k σ3 cs3 s3 g3 (fun j hj => ?_) (l3.trans l2)
          simp only [tgSs, List.mem_append, not_or] at hj
          rw [k3 j hj.2, k2 j hj.1]
end
end Ev
end
section
set_option maxRecDepth 100000
set_option maxHeartbeats 4000000
namespace Ev
open PySem PySem.Spec L2
/-! ### where they stand in the text -/
def dkOk (P : Pg) (f : Str) (dv : D) : Bool := match P.dk f, dv with
  | some (.int i), .int j => decide (i = j)
  | _, _ => false
theorem dkOk_ok {P : Pg} {f : Str} {dv : D} (h : dkOk P f dv = true) : P.dk f = some dv := by
  unfold dkOk at h
  split at h
  · rename_i e
    rw [e, of_decide_eq_true h]
  · cases h
def blkSc (sc scope : Scope) : Scope :=
  { scope with names := scope.names.map fun (n, k) => if (k == .free && sc.kind == .function && sc.names.lookup n == some .cell) then (n, .cell) else (n, k) }
def subB (l m : List Nat) : Bool := l.all fun i => decide (i ∈ m)
section
variable {P : Pg}
mutual
def chkB (N : List Str) (sc : Scope) : B P → Expr → Bool
  | .pu a, e => chkA N sc a e && noIte a
  | .nm i, .Name x _ => visB N sc i x
  | .mv i, .Name x _ => visB N sc i x
  | .fz b, e => chkB N sc b e && testPlain e
  | .rf i, .Name x _ => visB N sc i x
  | .dp a, e => chkA N sc a e
  | .q o es, e => match o.sh sc e with
    | some xs => chkBs N sc es xs
    | none => false
  | .tup es, .Tuple xs _ _ => xs.all plainX && chkBs N sc es xs
  | .lst es, .List xs _ => xs.all plainX && chkBs N sc es xs
  | .and es, .BoolOp .And xs _ => chkBs N sc es xs
  | .or es, .BoolOp .Or xs _ => chkBs N sc es xs
  | .not a, .UnaryOp .Not x _ => chkB N sc a x
  | .call (.fv i) none es, .Call (.Name x _) as [] _ => visB N sc i x && as.all plainX && !as.isEmpty && chkBs N sc es as
  | .call (.glob f) _ es, .Call (.Name x _) as [] _ => P.fn f && decide (f = x) && glB sc x && !(x == ("__debug__" : Str)) && as.all plainX && chkBs N sc es as
  | .call (.globB f) _ es, .Call (.Name x _) as [] _ => P.fn f && decide (f = x) && glB sc x && !(x == ("__debug__" : Str)) && as.all plainX && chkBs N sc es as
  | .call (.mk f) _ es, .Call (.Name x _) as [] _ => P.ck f && decide (f = x) && glB sc x && !(x == ("__debug__" : Str)) && as.all plainX && chkBs N sc es as
  | .call (.mkd f dv) _ es, .Call (.Name x _) as [] _ => P.ck f && decide (f = x) && glB sc x && !(x == ("__debug__" : Str)) && as.all plainX && chkBs N sc es as && dkOk P f dv
  | .call (.meth C m) _ es, .Call (.Attribute o n apos) as [] pos => P.mt C m && decide (m = n) && plainX o && as.all plainX && decide (as.length < 29) && (apos.endLine == pos.line) && chkBs N sc es (o :: as)
  | .qm o es, e => match o.sh sc e with
    | some (x, xs) => testPlain e && chkBs N sc es (x :: xs)
    | none => false
  | .mut o _ es, e => match o.sh sc e with
    | some (x, xs) => testPlain e && chkBs N sc es (x :: xs)
    | none => false
  | .lc elt tg own it es ifs, .ListComp el [⟨tg', iter, ifs', 0⟩] scope _ => blkC N sc scope own && chkTg N scope tg tg' && subB (tgS tg) (own.map (·.2)) &&
      (match it.sh sc tg' iter with
        | some xs => xs.all plainX && chkBs N sc es xs
        | none => false) &&
      decide (ifs.length < 2) && chkBs N (blkSc sc scope) ifs ifs' && chkB N (blkSc sc scope) elt el
  | _, _ => false
def chkBs (N : List Str) (sc : Scope) : List (B P) → List Expr → Bool
  | [], [] => true
  | a :: r, e :: t => chkB N sc a e && chkBs N sc r t
  | _, _ => false
end
end
section
variable {K : PySem.W.Frag} {mg : Str → Option Value} {H F H' F' : Hp}
theorem SR.unstore : ∀ {t : Tr} {σ : L2.St} {c : List Addr} {i : Nat} {w : Option V}, SR K mg H F (t.set i none) (σ.set i w) c → t.length = σ.length → SR K mg H F (t.set i none) σ c
  | [], σ, c, i, w, h, hl => by
    cases σ with
    | nil => simpa using h
    | cons _ _ => simp at hl
  | x :: t, [], c, i, w, h, hl => by simp at hl
  | x :: t, v :: σ, c, 0, w, h, hl => by
    have h : SR K mg H F (none :: t) (w :: σ) c := h
    simp only [SR] at h
    obtain ⟨v', u, es, h⟩ := h
    cases es
    show SR K mg H F (none :: t) (v :: σ) c
    simp only [SR]
    exact ⟨v, σ, rfl, h⟩
  | none :: t, v :: σ, c, i + 1, w, h, hl => by
    have h : SR K mg H F (none :: t.set i none) (v :: σ.set i w) c := h
    simp only [SR] at h
    obtain ⟨v', u, es, h⟩ := h
    cases es
    show SR K mg H F (none :: t.set i none) (v :: σ) c
    simp only [SR]
    exact ⟨v, σ, rfl, SR.unstore h (by simpa using hl)⟩
  | some d0 :: t, v :: σ, c, i + 1, w, h, hl => by
    have h : SR K mg H F (some d0 :: t.set i none) (v :: σ.set i w) c := h
    simp only [SR] at h
    obtain ⟨v', u, c1, c2, es, q, r, h⟩ := h
    cases es
    show SR K mg H F (some d0 :: t.set i none) (some v' :: σ) c
    simp only [SR]
    exact ⟨v', σ, c1, c2, rfl, q, r, SR.unstore h (by simpa using hl)⟩
def NoneAt (t : Tr) (vs : List Nat) : Prop := ∀ v ∈ vs, t.set v none = t
theorem set_none_comm {t : Tr} {i j : Nat} : (t.set i none).set j none = (t.set j none).set i none := by
  by_cases e : i = j
  · subst e; rfl
  · exact List.set_comm none none e
theorem noneAt_wipeT (t : Tr) : ∀ vs : List Nat, NoneAt (wipeT t vs) vs
  | [] => fun v hv => by simp at hv
  | v :: vs => fun w hw => by
    show ((wipeT t vs).set v none).set w none = (wipeT t vs).set v none
    rcases List.mem_cons.mp hw with rfl | hw
    · rw [List.set_set]
    · rw [set_none_comm, noneAt_wipeT t vs w hw]
theorem wipeT_len (t : Tr) : ∀ vs : List Nat, (wipeT t vs).length = t.length
  | [] => rfl
  | v :: vs => by
    show ((wipeT t vs).set v none).length = t.length
    rw [List.length_set, wipeT_len t vs]
/-- own slots are forgotten, in the state and in the trees -/
theorem SR.wipe {t : Tr} {σ : L2.St} {c : List Addr} (h : SR K mg H F t σ c) : ∀ vs : List Nat, ∃ c' g, SR K mg H F (wipeT t vs) (L2.wipe σ vs) c' ∧ c.Perm (g ++ c')
  | [] => ⟨c, [], h, by simp⟩
  | v :: vs => by
    obtain ⟨c1, g1, h1, p1⟩ := SR.wipe h vs
    obtain ⟨c2, h2, g2, p2⟩ := h1.drop (i := v)
    refine ⟨c2, g1 ++ g2, SR.store (w := none) h2, perm_of fun x => ?_⟩
    have a1 := p1.count_eq x
    have a2 := p2.count_eq x
    simp only [List.count_append] at *
    omega
theorem SR.unwipe {t : Tr} {σ : L2.St} {c : List Addr} : ∀ vs : List Nat, NoneAt t vs → t.length = σ.length → SR K mg H F t (L2.wipe σ vs) c → SR K mg H F t σ c
  | [], _, _, h => h
  | v :: vs, n, hl, h => by
    have h : SR K mg H F t ((L2.wipe σ vs).set v none) c := h
    have e := n v (by simp)
    rw [← e] at h
    have h2 := SR.unstore h (by rw [wipe_length]; exact hl)
    rw [e] at h2
    exact SR.unwipe vs (fun w hw => n w (by simp [hw])) hl h2
theorem SR.towipe {t : Tr} {σ : L2.St} {c : List Addr} (h : SR K mg H F t σ c) : ∀ vs : List Nat, NoneAt t vs → SR K mg H F t (L2.wipe σ vs) c
  | [], _ => h
  | v :: vs, n => by
    have h2 := SR.towipe h vs fun w hw => n w (by simp [hw])
    have e := n v (by simp)
    show SR K mg H F t ((L2.wipe σ vs).set v none) c
    rw [← e] at h2 ⊢
    exact SR.store h2
/-- the operands as trees at the operation -/
theorem RO.rpe {σ : L2.St} {hd : Option HD} {t : Tr} {cs : List Addr} (s : SR K mg H F t σ cs) : ∀ {os : List Opd} {ws : List V} {cv c : List Addr} {ds : List D}, RO K mg H F σ hd os ws cv → opdDs t os = some ds → (∀ a ∈ cv, a ∈ c) → (∀ a ∈ cs, a ∈ c) → RpE K mg H F c ds ws
  | [], ws, cv, c, ds, o, e, h1, h2 => by
    simp only [opdDs, Option.some.injEq] at e
    subst e
    simp only [RO] at o
    simp only [RpE]; exact o.1
  | .ref i :: r, ws, cv, c, ds, o, e, h1, h2 => by
    simp only [opdDs] at e
    split at e
    · rename_i x y e1 e2
      cases e
      simp only [RO] at o
      obtain ⟨v, w, rfl, e3, o⟩ := o
      simp only [opdD] at e1
      split at e1
      · rename_i d hi
        cases e1
        obtain ⟨v', a1, a2, e4, rp, _, p⟩ := s.take hi
        rw [e3] at e4; cases e4
        simp only [RpE]
        exact ⟨v, w, a1, rfl, rp, fun a ha => h2 a (p.symm.subset (by simp [ha])), RO.rpe s o e2 h1 h2⟩
      · cases e1
    · cases e
  | .val d :: r, ws, cv, c, ds, o, e, h1, h2 => by
    simp only [opdDs] at e
    split at e
    · rename_i x y e1 e2
      cases e
      cases e1
      simp only [RO] at o
      obtain ⟨v, w, c1, c2, rfl, rfl, rp, o⟩ := o
      simp only [RpE]
      exact ⟨v, w, c1, rfl, rp, fun a ha => h1 a (by simp [ha]), RO.rpe s o e2 (fun a ha => h1 a (by simp [ha])) h2⟩
    · cases e
  | .dp i st :: r, ws, cv, c, ds, o, e, h1, h2 => by
    simp only [opdDs, opdD] at e
    cases e
theorem RO.vals {σ : L2.St} {hd : Option HD} : ∀ {os : List Opd} {ws : List V} {cv : List Addr} {ds : List D}, RO K mg H F σ hd os ws cv → valsOf os = some ds → Rps K mg H F ds ws cv
  | [], ws, cv, ds, o, e => by
    simp only [valsOf, Option.some.injEq] at e
    subst e
    simp only [RO] at o
    simp only [Rps]; exact o
  | .val d :: r, ws, cv, ds, o, e => by
    simp only [valsOf] at e
    cases q : valsOf r with
    | none => rw [q] at e; cases e
    | some z =>
      rw [q] at e
      cases e
      simp only [RO] at o
      obtain ⟨v, w, c1, c2, rfl, rfl, rp, o⟩ := o
      simp only [Rps]
      exact ⟨v, w, c1, c2, rfl, rfl, rp, RO.vals o q⟩
  | .ref i :: r, ws, cv, ds, o, e => by simp [valsOf] at e
  | .dp i st :: r, ws, cv, ds, o, e => by simp [valsOf] at e
end
/-! ### what follows -/
def PostB (X : Cx) (W : WX) (H F : Hp) (σ : L2.St) (cx : List Addr) (r : Rs D) (Q : VK) : Prop :=
  (∀ d t', r = .ok d t' → ∀ v H' F' cd cs', Le F F' → (∀ a ∈ cx, H' a = H a) → SR X.K X.mg H' F' t' σ cs' → Good H' F' (cd ++ cs' ++ cx) → Rp X.K X.mg H' F' d v cd → Q v H') ∧
  (∀ x t', r = .ex x t' → ∀ cls od H' F' cs', Le F F' → (∀ a ∈ cx, H' a = H a) → SR X.K X.mg H' F' t' σ cs' → Good H' F' (cs' ++ cx) → RpX X.K X.mg H' F' x cls od → W cls od σ H')
def PostO (X : Cx) (W : WX) (H F : Hp) (σ : L2.St) (cx : List Addr) (hd : Option HD) (r : Rs (List Opd)) (k : List V → Hp → Prop) : Prop :=
  (∀ os t', r = .ok os t' → ∀ ws H' F' cv cs', Le F F' → (∀ a ∈ cx, H' a = H a) → SR X.K X.mg H' F' t' σ cs' → Good H' F' (cv ++ cs' ++ cx) → RO X.K X.mg H' F' σ hd os ws cv → k ws H') ∧
  (∀ x t', r = .ex x t' → ∀ cls od H' F' cs', Le F F' → (∀ a ∈ cx, H' a = H a) → SR X.K X.mg H' F' t' σ cs' → Good H' F' (cs' ++ cx) → RpX X.K X.mg H' F' x cls od → W cls od σ H')
/-- the context of the evaluator -/
structure BOk (P : Pg) (X : Cx) (N : List Str) (sc : Scope) (k : Nat) (cl : Cl) (W : WX) : Prop where
  x : XOk P X N sc
  c : ClOk P X k cl
  w : Takes X W
section
variable {P : Pg}
def ValB (X : Cx) (W : WX) (cl : Cl) (t rt : Tr) (b : B P) (e : Expr) : Prop := ∀ r, evB cl rt b t = some r → ∀ (σ : L2.St) (H F : Hp) (cs cx : List Addr) (Q : VK), BS X.K X.mg H F t rt σ cs cx → PostB X W H F σ cx r Q → mx X e σ H Q
def BlR (r : Rs D) : Prop := ∀ d t', r = .ok d t' → ∃ b, d = .bl b
def TstB (X : Cx) (W : WX) (cl : Cl) (t rt : Tr) (b : B P) (e : Expr) : Prop := ∀ r, evB cl rt b t = some r → BlR r → ∀ (σ : L2.St) (H F : Hp) (cs cx : List Addr) (Q : Bool → Hp → Prop), BS X.K X.mg H F t rt σ cs cx →
  PostB X W H F σ cx r (fun v H' => ∃ b, v = .bl b ∧ Q b H') → mxT X e σ H Q
theorem bothB {X : Cx} {W : WX} {cl : Cl} {t rt : Tr} {b : B P} {e : Expr} (v : ValB X W cl t rt b e) (h : testPlain e = true) : ValB X W cl t rt b e ∧ TstB X W cl t rt b e := by
  refine ⟨v, fun r hr _ σ H F cs cx Q s k => ?_⟩
  exact ⟨_, pt_val pe_mx (testPlain_ok h), v r hr σ H F cs cx _ s k⟩
end
theorem BOk.blk {P : Pg} {X : Cx} {N : List Str} {sc scope : Scope} {own : List (Str × Nat)} {k : Nat} {cl : Cl} {W : WX} (ok : BOk P X N sc k cl W) (s : Shared) (H : Hp) (C : Addr) (c : List (Str × Addr)) (fp : List Addr) :
    BOk P (X.blk s H scope (compEnvC scope c C X.env) fp) N (blkSc sc scope) k cl (fun _ _ _ _ => False) := by
  obtain ⟨x, co, w⟩ := ok
  refine ⟨⟨x.calm, x.names, x.nd, ?_, x.units, x.blt, x.glob, x.cls, x.tab⟩, ⟨co.room, co.fn, co.me, co.mak, co.makd⟩, fun _ _ ⟨_, _, _, _, _, _, _, _, _, _, _, _, _, _, _, _, w⟩ => w.elim⟩
  show relabel scope X.env = blkSc sc scope
  rw [← x.scope]; rfl
theorem TgOk.blk {X : Cx} {N : List Str} {scope : Scope} (hc : X.calm = true) (hn : X.N = N) (nd : N.Nodup) (s : Shared) (H : Hp) (C : Addr) (c : List (Str × Addr)) (fp : List Addr) :
    TgOk (X.blk s H scope (compEnvC scope c C X.env) fp) N scope := by
  refine ⟨hc, hn, nd, fun x hx => ?_⟩
  have hl : scope.names.lookup x = some .local → (relabel scope X.env).names.lookup x = some .local := fun h => lookup_relabel_local h
  have hcell : scope.names.lookup x = some .cell → (relabel scope X.env).names.lookup x = some .cell := by
    intro h
    have gen : ∀ names : List (Str × NameKind), names.lookup x = some .cell → (names.map fun (n, k) => if (k == NameKind.free && X.env.scope.kind == .function && X.env.kindOf n == some .cell) then (n, NameKind.cell) else (n, k)).lookup x = some .cell := by
      intro names
      induction names with
      | nil => intro h; simp at h
      | cons p r ih =>
        obtain ⟨n, kd⟩ := p
        intro h
        show List.lookup x ((if (kd == NameKind.free && X.env.scope.kind == .function && X.env.kindOf n == some .cell) = true then (n, NameKind.cell) else (n, kd)) :: _) = _
        cases hx : x == n with
        | true =>
          simp only [List.lookup_cons, hx] at h
          cases h
          simp [List.lookup_cons, hx]
        | false =>
          simp only [List.lookup_cons, hx] at h
          by_cases hcc : (kd == NameKind.free && X.env.scope.kind == .function && X.env.kindOf n == some .cell) = true
          · rw [if_pos hcc]; simp only [List.lookup_cons, hx]; exact ih h
          · rw [if_neg hcc]; simp only [List.lookup_cons, hx]; exact ih h
    exact gen scope.names h
  rcases hx with h | h
  · exact ⟨.inl (hl h), .inr (hl h)⟩
  · exact ⟨.inr (hcell h), .inl (by show (scope.names.lookup x == some .cell) = true; rw [h]; rfl)⟩
end Ev
end
section
set_option maxRecDepth 100000
set_option maxHeartbeats 4000000
namespace Ev
open PySem PySem.Spec L2
section
variable {P : Pg} {X : Cx} {N : List Str} {sc : Scope} {k : Nat} {cl : Cl} {W : WX}
theorem mx_fn (ok : BOk P X N sc k cl W) {f : Str} {p pos : Pos} {es : List Expr} (hf : P.fn f = true) (hg : glB sc f = true) (hdb : (f == ("__debug__" : Str)) = false) (hp : es.all plainX = true) {σ : L2.St} {H : Hp} {Q : VK}
    (h : tOps (es.map (mx X)) (fun vs H1 Q => spOf X.K X.mg (cl (f, none)) vs H1 Q (WE W σ)) σ H Q) : mx X (.Call (.Name f p) es [] pos) σ H Q := by
  obtain ⟨g, fd, ps, F, hm, hk, hb⟩ := ok.c.fn f hf
  have hr : Room k X.A := ok.c.room.mono (Nat.le_succ k)
  cases es with
  | nil => exact mx_of (pe_fn0 (E := WE W) F hr (ok.x.gl hg) hm hk hb (passAt ok.w) hdb) h
  | cons e es =>
    have hp' := hp
    rw [List.all_cons, Bool.and_eq_true] at hp'
    rw [tL_ops] at h
    exact mx_of (pe_callS (E := WE W) F hr (ok.x.gl hg) hm hk hb (passAt ok.w) (pa_all (allPE_mx _) hp) hdb (star_cons hp'.1) (noStar hp'.2)) h
theorem mx_fv (ok : BOk P X N sc k cl W) {g x : Str} {i : Nat} {p pos : Pos} {es : List Expr} (hf : P.fn g = true) (hg : visB N sc i x = true) (hp : es.all plainX = true) (hne : es.isEmpty = false) {σ : L2.St} {H : Hp} {Q : VK} (hs : ∃ a, σ[i]? = some (some (.ref a)) ∧ X.mg g = some (.ref a))
    (h : tOps (es.map (mx X)) (fun vs H1 Q => spOf X.K X.mg (cl (g, none)) vs H1 Q (WE W σ)) σ H Q) : mx X (.Call (.Name x p) es [] pos) σ H Q := by
  obtain ⟨f, fd, ps, F, hm, hk, hb⟩ := ok.c.fn g hf
  obtain ⟨a, hs1, hs2⟩ := hs
  rw [hm] at hs2
  cases hs2
  have hr : Room k X.A := ok.c.room.mono (Nat.le_succ k)
  obtain ⟨h1, h2, h3, h4⟩ := visB_ok ok.x hg
  cases es with
  | nil => cases hne
  | cons e es =>
    have hp' := hp
    rw [List.all_cons, Bool.and_eq_true] at hp'
    rw [tL_ops] at h
    exact mx_of (pe_callV (E := WE W) F hr h1 h2 h3 h4 hk hb (passAt ok.w) (pa_all (allPE_mx _) hp) (star_cons hp'.1) (noStar hp'.2)) ⟨hs1, h⟩
theorem mx_meth (ok : BOk P X N sc k cl W) {C m : Str} {o : Expr} {apos pos : Pos} {es : List Expr} (hf : P.mt C m = true) (ho : plainX o = true) (hp : es.all plainX = true) (hlen : es.length < 29) (hl : (apos.endLine == pos.line) = true) {σ : L2.St} {H : Hp} {Q : VK}
    (h : ∀ A, X.mg C = some (.ref A) → mx X o σ H fun x H1 => ∃ a dx fs, x = .ref a ∧ H1 a = some (.ins A dx fs) ∧ fs.lookup m = none ∧ tOps (es.map (mx X)) (fun vs H2 Q => spOf X.K X.mg (cl (C, some m)) (x :: vs) H2 Q (WE W σ)) σ H1 Q) : mx X (.Call (.Attribute o m apos) es [] pos) σ H Q := by
  obtain ⟨A, g, fd, ps, hA, F, hc, hm, hb⟩ := ok.c.me C m hf
  have hr : Room k X.A := ok.c.room.mono (Nat.le_succ k)
  have h := h A hA
  cases es with
  | nil => exact mx_of (pe_methG0 (E := WE W) pe_mx hc hm F hr hb (passAt ok.w) ho hl) h
  | cons e es =>
    refine mx_of (pe_methG (E := WE W) pe_mx hc hm F hr hb (passAt ok.w) (pa_all (allPE_mx _) hp) ho hl hp hlen) ?_
    have e2 : (fun x H1 => ∃ a dx fs, x = V.ref a ∧ H1 a = some (HO.ins A dx fs) ∧ fs.lookup m = none ∧ tOps ((e :: es).map (mx X)) (fun vs H2 Q => spOf X.K X.mg (cl (C, some m)) (x :: vs) H2 Q (WE W σ)) σ H1 Q) =
        (fun x H1 => ∃ a dx fs, x = V.ref a ∧ H1 a = some (HO.ins A dx fs) ∧ fs.lookup m = none ∧ tL ((e :: es).map (mx X)) σ H1 fun vs H2 => spOf X.K X.mg (cl (C, some m)) (x :: vs) H2 Q (WE W σ)) := by
      funext x H1
      rw [tL_ops]
    rw [e2] at h
    exact h
theorem mx_mk (ok : BOk P X N sc k cl W) {C : Str} {p pos : Pos} {es : List Expr} (hf : P.ck C = true) (hg : glB sc C = true) (hdb : (C == ("__debug__" : Str)) = false) (hp : es.all plainX = true) {σ : L2.St} {H : Hp} {Q : VK}
    (h : ∀ A, X.mg C = some (.ref A) → tOps (es.map (mx X)) (fun vs H1 Q => ∀ x dx, H1 x = none → H1 dx = none → dx ≠ x → spOf X.K X.mg (cl (C, some "__init__")) (.ref x :: vs) (upd (upd H1 dx (.own x)) x (.ins A dx [])) (fun v H2 => v = .non ∧ Q (.ref x) H2) (WE W σ)) σ H Q) : mx X (.Call (.Name C p) es [] pos) σ H Q := by
  obtain ⟨A, g, fd, ps, hA, F, M, hb⟩ := ok.c.mak C hf
  have h := h A hA
  cases es with
  | nil => exact mx_of (pe_makeG0 (E := WE W) M F ok.c.room (ok.x.gl hg) hA hb (passAt ok.w) hdb) h
  | cons e es =>
    rw [tL_ops] at h
    exact mx_of (pe_makeG (E := WE W) M F ok.c.room (ok.x.gl hg) hA hb (passAt ok.w) (pa_all (allPE_mx _) hp) hdb hp) h
theorem mx_mkd (ok : BOk P X N sc k cl W) {C : Str} {p pos : Pos} {es : List Expr} {dv : D} (hf : P.ck C = true) (hk : P.dk C = some dv) (hg : glB sc C = true) (hdb : (C == ("__debug__" : Str)) = false) (hp : es.all plainX = true) {σ : L2.St} {H : Hp} {Q : VK}
    (h : ∀ A v, X.mg C = some (.ref A) → (∀ H F, Rp X.K X.mg H F dv v []) → tOps (es.map (mx X)) (fun vs H1 Q => ∀ x dx, H1 x = none → H1 dx = none → dx ≠ x → spOf X.K X.mg (cl (C, some "__init__")) (.ref x :: (vs ++ [v])) (upd (upd H1 dx (.own x)) x (.ins A dx [])) (fun v H2 => v = .non ∧ Q (.ref x) H2) (WE W σ)) σ H Q) : mx X (.Call (.Name C p) es [] pos) σ H Q := by
  obtain ⟨A, g, fd, ps, hA, F, M, _, v, u, rv, hv, hb⟩ := ok.c.makd C dv hf hk
  have hd : Vals [v] [u] := .cons rv .nil
  have h := h A v hA hv
  cases es with
  | nil => exact mx_of (pe_makeD0 (E := WE W) M F ok.c.room (ok.x.gl hg) hA hb hd (passAt ok.w) hdb) h
  | cons e es =>
    rw [tL_ops] at h
    exact mx_of (pe_makeD (E := WE W) M F ok.c.room (ok.x.gl hg) hA hb hd (passAt ok.w) (pa_all (allPE_mx _) hp) hdb hp) h
end
section
variable {K : PySem.W.Frag} {mg : Str → Option Value} {H F H' F' : Hp} {σ : L2.St}
/-- how what was lent comes back -/
def Ends (K : PySem.W.Frag) (mg : Str → Option Value) (H F : Hp) (σ : L2.St) (w : Tr → Option D → Option Tr) (qv : V) (rest : List Addr) : Prop :=
  ∀ t3 q3 t' H' F' c3 cq, w t3 q3 = some t' → SR K mg H' F' t3 σ c3 → (∀ d, q3 = some d → Rp K mg H' F' d qv cq) → Le F F' → (∀ a ∈ rest, H' a = H a) → ∃ c4 g, SR K mg H' F' t' σ c4 ∧ (cq ++ c3 ++ rest).Perm (g ++ c4)
theorem ends_no (qv : V) : Ends K mg H F σ noW qv [] := fun t3 q3 t' H' F' c3 cq hw s hq l k => by
  cases q3 with
  | none =>
    cases hw
    exact ⟨c3, cq, s, by simp⟩
  | some d => cases hw
theorem ends_back {h : HD} {st : List Stp} {v1 : V} {rest : List Addr} (hv : σ[h.i]? = some (some h.v))
    (b : ∀ H' F' d' c', Le F F' → (∀ a ∈ rest, H' a = H a) → Rp K mg H' F' d' v1 c' → ∃ d2 c2, putP h.d st d' = some d2 ∧ Rp K mg H' F' d2 h.v c2 ∧ c2.Perm (c' ++ rest)) : Ends K mg H F σ (backW h.i h.d st) v1 rest := fun t3 q3 t' H' F' c3 cq hw s hq l k => by
  cases q3 with
  | none => cases hw
  | some d =>
    have r := hq d rfl
    obtain ⟨d2, c2, e1, r2, p2⟩ := b H' F' d cq l k r
    have hw : (putP h.d st d).map (fun d' => t3.set h.i (some d')) = some t' := hw
    rw [e1] at hw
    cases hw
    obtain ⟨c3', s3, rr, p3⟩ := s.drop (i := h.i)
    have hi : h.i < t3.length := by
      rw [s.len]
      exact (List.getElem?_eq_some_iff.mp hv).1
    refine ⟨c2 ++ c3', rr, SR.put s3 hi hv r2, perm_of fun x => ?_⟩
    have a1 := p2.count_eq x
    have a2 := p3.count_eq x
    simp only [List.count_append] at *
    omega
theorem give_end {w : Tr → Option D → Option Tr} {qv : V} {rest : List Addr} (E : Ends K mg H F σ w qv rest) {os : List Opd} {o : List (Option D)} {t2 t3 t' : Tr} {q3 : Option D} (hg : giveB os o t2 none = some (t3, q3)) (hw : w t3 q3 = some t')
    {ws : List V} {co c2 : List Addr} (rv : RV σ qv os ws) (so : SR K mg H' F' o (ws.map some) co) (s : SR K mg H' F' t2 σ c2) (l : Le F F') (k : ∀ a ∈ rest, H' a = H a) : ∃ c4 g, SR K mg H' F' t' σ c4 ∧ (co ++ c2 ++ rest).Perm (g ++ c4) := by
  obtain ⟨c3, cq, g, s3, h3, p3⟩ := giveB_ok (cq0 := []) hg rv so s (fun d h => nomatch h)
  obtain ⟨c4, g4, s4, p4⟩ := E t3 q3 t' H' F' c3 cq hw s3 h3 l k
  refine ⟨c4, g ++ g4, s4, perm_of fun x => ?_⟩
  have a1 := p3.count_eq x
  have a2 := p4.count_eq x
  simp only [List.count_append, List.count_nil] at *
  omega
theorem Good.part {c c' g : List Addr} (x : Good H F c) (p : c.Perm (g ++ c')) : Good H F c' := (x.perm p.symm).sublist (List.sublist_append_right _ _)
theorem Good.memo {a b : List Addr} (x : Good H F (a ++ b)) : Good H F b := x.sublist (List.sublist_append_right _ _)
end
section
variable {P : Pg} {X : Cx} {W : WX} {σ : L2.St} {H F : Hp} {w : Tr → Option D → Option Tr} {qv : V} {rest c1 c2 cx : List Addr} {os : List Opd} {args : List (Bool × D)} {t2 : Tr} {ws : List V} {Q : VK} {r : Rs D}
theorem bind_map {α β γ : Type} {m : Option (α × β)} {f : α → β → Option Tr} {g : Tr → γ} {r : γ} (h : (m.bind fun y => (f y.1 y.2).map g) = some r) : ∃ a b t', m = some (a, b) ∧ f a b = some t' ∧ r = g t' := by
  cases m with
  | none => cases h
  | some y =>
    obtain ⟨a, b⟩ := y
    have h : (f a b).map g = some r := h
    cases e : f a b with
    | none => rw [e] at h; cases h
    | some t' =>
      rw [e] at h
      cases h
      exact ⟨a, b, t', rfl, e, rfl⟩
theorem sp_end (E : Ends X.K X.mg H F σ w qv rest) {cl1 : List (Bool × D) → Option CR} (rp : Rps X.K X.mg H F (args.map (·.2)) ws c1) (s2 : SR X.K X.mg H F t2 σ c2) (g : Good H F (c1 ++ c2 ++ rest ++ cx)) (rv : RV σ qv os ws)
    (h : backR w os t2 (cl1 args) = some r) (k : PostB X W H F σ cx r Q) : spOf X.K X.mg cl1 ws H Q (WE W σ) := by
  cases hc : cl1 args with
  | none => rw [hc] at h; cases h
  | some r0 =>
    rw [hc] at h
    refine ⟨F, args, c1, c2 ++ rest ++ cx, r0, rp, by simpa only [List.append_assoc] using g, hc, ?_⟩
    cases r0 with
    | ok d o =>
      obtain ⟨t3, q3, t', e1, e2, rfl⟩ := bind_map h
      intro v H' F' cd co l kk g' rd so
      have s2' := s2.keep (H' := H') l fun a ha => kk a (by simp [ha])
      obtain ⟨c4, g4, s4, p4⟩ := give_end E e1 e2 rv so s2' l fun a ha => kk a (by simp [ha])
      refine k.1 d t' rfl v H' F' cd c4 l (fun a ha => kk a (by simp [ha])) s4 ?_ rd
      refine g'.part (g := g4) (perm_of fun x => ?_)
      have a2 := p4.count_eq x
      simp only [List.count_append] at *
      omega
    | ex x o =>
      obtain ⟨t3, q3, t', e1, e2, rfl⟩ := bind_map h
      intro cls od H' F' co l kk g' rx so
      have s2' := s2.keep (H' := H') l fun a ha => kk a (by simp [ha])
      obtain ⟨c4, g4, s4, p4⟩ := give_end E e1 e2 rv so s2' l fun a ha => kk a (by simp [ha])
      refine k.2 x t' rfl cls od H' F' c4 l (fun a ha => kk a (by simp [ha])) s4 ?_ rx
      refine g'.part (g := g4) (perm_of fun x => ?_)
      have a2 := p4.count_eq x
      simp only [List.count_append] at *
      omega
theorem mk_end (E : Ends X.K X.mg H F σ w qv rest) {C : Str} {A : Addr} (hA : X.mg C = some (.ref A)) {cl1 : List (Bool × D) → Option CR} (rp : Rps X.K X.mg H F (args.map (·.2)) ws c1) (s2 : SR X.K X.mg H F t2 σ c2) (g : Good H F (c1 ++ c2 ++ rest ++ cx)) (rv : RV σ qv os ws)
    (h : backM w os t2 (cl1 ((true, .ins true C [] []) :: args)) = some r) (k : PostB X W H F σ cx r Q) {x dx : Addr} (hx : H x = none) (hdx : H dx = none) (hne : dx ≠ x) : spOf X.K X.mg cl1 (.ref x :: ws) (upd (upd H dx (.own x)) x (.ins A dx [])) (fun v H2 => v = .non ∧ Q (.ref x) H2) (WE W σ) := by
  cases hc : cl1 ((true, .ins true C [] []) :: args) with
  | none => rw [hc] at h; cases h
  | some r0 =>
    rw [hc] at h
    have keep : ∀ a, (∃ o, H a = some o) → upd (upd H dx (.own x)) x (.ins A dx []) a = H a := fun a ⟨o, e⟩ => by
      rw [upd_ne (ne_of_none e hx), upd_ne (ne_of_none e hdx)]
    have kc : ∀ a ∈ c1 ++ c2 ++ rest ++ cx, upd (upd H dx (.own x)) x (.ins A dx []) a = H a := fun a ha => keep a (g.own a ha).2
    have fx := g.fresh hx
    refine ⟨F, (true, .ins true C [] []) :: args, x :: c1, c2 ++ rest ++ cx, r0, ?_, ?_, hc, ?_⟩
    · simp only [List.map_cons, Rps]
      refine ⟨.ref x, ws, [x], c1, rfl, rfl, ?_, Rps.keep (Le.refl F) _ _ _ rp fun a ha => kc a (by simp [ha])⟩
      simp only [Rp, Rps]
      exact ⟨x, A, dx, [], [], rfl, hA, rfl, upd_same, ⟨rfl, rfl⟩, rfl⟩
    · have e1 : x :: c1 ++ (c2 ++ rest ++ cx) = x :: (c1 ++ c2 ++ rest ++ cx) := by simp only [List.cons_append, List.append_assoc]
      rw [e1]
      refine ⟨fun a o e => ?_, List.nodup_cons.mpr ⟨fx.2, g.nd⟩, fun a ha => ?_⟩
      · rw [keep a ⟨o, g.sub a o e⟩]; exact g.sub a o e
      · rcases List.mem_cons.mp ha with rfl | ha
        · exact ⟨fx.1, _, upd_same⟩
        · rw [kc a ha]; exact g.own a ha
    · cases r0 with
      | ok d o =>
        match d, o, h with
        | .non, some d :: o, h =>
          obtain ⟨t3, q3, t', e1, e2, rfl⟩ := bind_map h
          intro v H' F' cd co l kk g' rd so
          simp only [Rp] at rd
          obtain ⟨rfl, rfl⟩ := rd
          simp only [List.map_cons, SR] at so
          obtain ⟨v', w', ca, cb, e3, pp, rd, so⟩ := so
          cases e3
          refine ⟨rfl, ?_⟩
          have kk' : ∀ a ∈ c2 ++ rest ++ cx, H' a = H a := fun a ha => (kk a ha).trans (kc a (by simp only [List.append_assoc, List.mem_append] at *; simp [ha]))
          have s2' := s2.keep (H' := H') l fun a ha => kk' a (by simp [ha])
          obtain ⟨c4, g4, s4, p4⟩ := give_end E e1 e2 rv so s2' l fun a ha => kk' a (by simp [ha])
          refine k.1 d t' rfl (.ref x) H' F' ca c4 l (fun a ha => kk' a (by simp [ha])) s4 ?_ rd
          refine g'.part (g := g4) (perm_of fun x => ?_)
          have a2 := p4.count_eq x
          have a3 := pp.count_eq x
          simp only [List.count_append, List.count_nil] at *
          omega
        | .non, [], h => cases h
        | .non, none :: o, h => cases h
        | .bl _, o, h => cases h
        | .int _, o, h => cases h
        | .str _, o, h => cases h
        | .tup _, o, h => cases h
        | .lst _ _, o, h => cases h
        | .dic _ _ _, o, h => cases h
        | .ins _ _ _ _, o, h => cases h
        | .fn _, o, h => cases h
        | .ty _, o, h => cases h
        | .scr _, o, h => cases h
      | ex y o =>
        match o, h with
        | [], h => cases h
        | o1 :: o, h =>
          obtain ⟨t3, q3, t', e1, e2, rfl⟩ := bind_map h
          intro cls od H' F' co l kk g' rx so
          obtain ⟨cb, gb, so, pb⟩ : ∃ cb gb, SR X.K X.mg H' F' o (ws.map some) cb ∧ co.Perm (gb ++ cb) := by
            cases o1 with
            | none =>
              simp only [List.map_cons, SR] at so
              obtain ⟨_, _, e, so⟩ := so
              cases e
              exact ⟨co, [], so, by simp⟩
            | some d1 =>
              simp only [List.map_cons, SR] at so
              obtain ⟨_, _, a1, a2, e, p, _, so⟩ := so
              cases e
              exact ⟨a2, a1, so, p⟩
          have kk' : ∀ a ∈ c2 ++ rest ++ cx, H' a = H a := fun a ha => (kk a ha).trans (kc a (by simp only [List.append_assoc, List.mem_append] at *; simp [ha]))
          have s2' := s2.keep (H' := H') l fun a ha => kk' a (by simp [ha])
          obtain ⟨c4, g4, s4, p4⟩ := give_end E e1 e2 rv so s2' l fun a ha => kk' a (by simp [ha])
          refine k.2 y t' rfl cls od H' F' c4 l (fun a ha => kk' a (by simp [ha])) s4 ?_ rx
          refine g'.part (g := gb ++ g4) (perm_of fun x => ?_)
          have a2 := p4.count_eq x
          have a3 := pb.count_eq x
          simp only [List.count_append] at *
          omega
end
end Ev
end
section
set_option maxRecDepth 100000
set_option maxHeartbeats 4000000
namespace Ev
open PySem PySem.Spec L2
section
variable {P : Pg}
def OsOk (X : Cx) (W : WX) (cl : Cl) (bs : List (B P)) (es : List Expr) : Prop := ∀ (h : Option Nat) (rt t : Tr) (r : Rs (List Opd)), evOs cl h rt bs t = some r → ∀ (σ : L2.St) (H F : Hp) (cs cx : List Addr) (hd : Option HD) (R : List V → Hp → VK → Prop) (Q : VK),
  BS X.K X.mg H F t rt σ cs cx → h = hd.map HD.i → (∀ x, hd = some x → HDok X.K X.mg H F rt σ cx x) → PostO X W H F σ cx hd r (fun ws H' => R ws H' Q) → tOps (es.map (mx X)) R σ H Q
theorem mx_mono {X : Cx} {e : Expr} {σ : L2.St} {H : Hp} {Q Q' : VK} (h : mx X e σ H Q) (k : ∀ v H, Q v H → Q' v H) : mx X e σ H Q' := by
  obtain ⟨t, p, h⟩ := h
  refine ⟨fun σ H Q' => ∃ Q, t σ H Q ∧ ∀ v H, Q v H → Q' v H, ⟨fun pins s σ H Q' I ⟨Q, hq, kq⟩ => ?_⟩, Q, h, k⟩
  exact thn (p.run pins s σ H Q I hq) fun u s1 ⟨x, H1, I1, r, q⟩ => ⟨x, H1, I1, r, kq _ _ q⟩
/-- .. with the first one's tree -/
def OsHd (X : Cx) (W : WX) (cl : Cl) (bs : List (B P)) (e : Expr) (es : List Expr) : Prop := ∀ (h : Option Nat) (rt t : Tr) (r : Rs (List Opd)), evOs cl h rt bs t = some r → ∀ (σ : L2.St) (H F : Hp) (cs cx : List Addr) (hd : Option HD) (R : List V → Hp → VK → Prop) (Q : VK),
  BS X.K X.mg H F t rt σ cs cx → h = hd.map HD.i → (∀ x, hd = some x → HDok X.K X.mg H F rt σ cx x) → PostO X W H F σ cx hd r (fun ws H' => R ws H' Q) →
    mx X e σ H fun x H1 => (∃ d F1 c, hdD cl rt bs t = some d ∧ Rp X.K X.mg H1 F1 d x c ∧ Le F1 H1) ∧ tOps (es.map (mx X)) (fun vs => R (x :: vs)) σ H1 Q
theorem OsHd.ok {X : Cx} {W : WX} {cl : Cl} {bs : List (B P)} {e : Expr} {es : List Expr} (h : OsHd X W cl bs e es) : OsOk X W cl bs (e :: es) :=
  fun hh rt t r he σ H F cs cx hd R Q s h1 h2 k => mx_mono (h hh rt t r he σ H F cs cx hd R Q s h1 h2 k) fun _ _ q => q.2
theorem os_val {X : Cx} {W : WX} {cl : Cl} {b : B P} {e : Expr} {r : List (B P)} {es : List Expr} (v : ∀ t rt, ValB X W cl t rt b e) (o : OsOk X W cl r es)
    (eq : ∀ h rt t, evOs cl h rt (b :: r) t = bindR (evB cl rt b t) fun d t1 => bindR (evOs cl h rt r t1) fun os t2 => some (.ok (.val d :: os) t2))
    (eh : ∀ rt t, hdD cl rt (b :: r) t = match evB cl rt b t with
      | some (.ok d _) => some d
      | _ => none) : OsHd X W cl (b :: r) e es := by
  intro h rt t r' he σ H F cs cx hd R Q s hh hx k
  rw [eq] at he
  show mx X e σ H _
  rcases bindR_some he with ⟨d, t1, e1, e2⟩ | ⟨x, t1, e1, rfl⟩
  · refine v t rt _ e1 σ H F cs cx _ s ⟨fun d' t' ee y H1 F1 cd cs1 l1 k1 s1 g1 rp => ?_, fun _ _ ee => nomatch ee⟩
    cases ee
    obtain ⟨cr, r1, r2⟩ := s.r
    have b1 : BS X.K X.mg H1 F1 t1 rt σ cs1 (cd ++ cx) := ⟨s1, ⟨cr, r1.keep l1 fun a ha => k1 a (r2 a ha), fun a ha => by simp [r2 a ha]⟩, g1.perm (perm_of fun z => by simp only [List.count_append]; omega)⟩
    have hx1 : ∀ x, hd = some x → HDok X.K X.mg H1 F1 rt σ (cd ++ cx) x := fun x ex => ⟨(hx x ex).at', (hx x ex).val, ((hx x ex).keep l1 k1).rp, fun a ha => by simp [(hx x ex).sub a ha]⟩
    refine ⟨⟨d, F1, cd, by rw [eh, e1], rp, g1.sub⟩, ?_⟩
    rcases bindR_some e2 with ⟨os, t2, e3, e4⟩ | ⟨x, t2, e3, rfl⟩
    · cases e4
      refine o h rt t1 _ e3 σ H1 F1 cs1 (cd ++ cx) hd _ Q b1 hh hx1 ⟨fun os' t' ee ws H2 F2 cv cs2 l2 k2 s2 g2 ro => ?_, fun _ _ ee => nomatch ee⟩
      cases ee
      refine k.1 _ _ rfl (y :: ws) H2 F2 (cd ++ cv) cs2 (l1.trans l2) (fun a ha => (k2 a (by simp [ha])).trans (k1 a ha)) s2 (g2.perm (perm_of fun z => by simp only [List.count_append]; omega)) ?_
      simp only [RO]
      exact ⟨y, ws, cd, cv, rfl, rfl, Rp.keep l2 _ _ _ rp fun a ha => k2 a (by simp [ha]), ro⟩
    · refine o h rt t1 _ e3 σ H1 F1 cs1 (cd ++ cx) hd _ Q b1 hh hx1 ⟨fun _ _ ee => (nomatch ee), fun x' t' ee cls od H2 F2 cs2 l2 k2 s2 g2 rx => ?_⟩
      cases ee
      refine k.2 x t2 rfl cls od H2 F2 cs2 (l1.trans l2) (fun a ha => (k2 a (by simp [ha])).trans (k1 a ha)) s2 (g2.part (g := cd) (perm_of fun z => by simp only [List.count_append]; omega)) rx
  · refine v t rt _ e1 σ H F cs cx _ s ⟨fun _ _ ee => (nomatch ee), fun x' t' ee cls od H2 F2 cs2 l2 k2 s2 g2 rx => ?_⟩
    cases ee
    exact k.2 x t1 rfl cls od H2 F2 cs2 l2 k2 s2 g2 rx
theorem os_rf {X : Cx} {N : List Str} {sc : Scope} {W : WX} {cl : Cl} (ok : XOk P X N sc) {i : Nat} {x : Str} {pos : Pos} (hc : visB N sc i x = true) {r : List (B P)} {es : List Expr} (o : OsOk X W cl r es) : OsHd X W cl (.rf i :: r) (.Name x pos) es := by
  intro h rt t r' he σ H F cs cx hd R Q s hh hx k
  obtain ⟨h1, h2, h3, h4⟩ := visB_ok ok hc
  simp only [evOs] at he
  split at he
  · rename_i d hi
    obtain ⟨v, c1, c2, ev, rp, s2, p⟩ := s.s.take hi
    show mx X (.Name x pos) σ H _
    refine mx_of (pe_var h1 h2 h3 h4) ⟨v, ev, ⟨d, F, c1, by simp only [hdD, hi]; rfl, rp, s.g.sub⟩, ?_⟩
    rcases bindR_some he with ⟨os, t2, e3, e4⟩ | ⟨x, t2, e3, rfl⟩
    · cases e4
      refine o h rt t _ e3 σ H F cs cx hd _ Q s hh hx ⟨fun os' t' ee ws H2 F2 cv cs2 l2 k2 s2 g2 ro => ?_, fun _ _ ee => nomatch ee⟩
      cases ee
      refine k.1 _ _ rfl (v :: ws) H2 F2 cv cs2 l2 k2 s2 g2 ?_
      simp only [RO]
      exact ⟨v, ws, rfl, ev, ro⟩
    · refine o h rt t _ e3 σ H F cs cx hd _ Q s hh hx ⟨fun _ _ ee => (nomatch ee), fun x' t' ee cls od H2 F2 cs2 l2 k2 s2 g2 rx => ?_⟩
      cases ee
      exact k.2 x t2 rfl cls od H2 F2 cs2 l2 k2 s2 g2 rx
  · cases he
theorem os_dp {X : Cx} {N : List Str} {sc : Scope} {W : WX} {cl : Cl} (ok : XOk P X N sc) {a : A P} {e : Expr} (hc : chkA N sc a e = true) {r : List (B P)} {es : List Expr} (o : OsOk X W cl r es) : OsHd X W cl (.dp a :: r) e es := by
  intro h rt t r' he σ H F cs cx hd R Q s hh hx k
  simp only [evOs] at he
  split at he
  · rename_i q d ep ed
    split at he
    · rename_i hcond
      obtain ⟨hq, hn⟩ := hcond
      cases hd with
      | none => rw [hq] at hh; cases hh
      | some hh' =>
        obtain ⟨i, st⟩ := q
        have hi : i = hh'.i := by rw [hq] at hh; simpa using hh
        have hxo := hx hh' rfl
        subst hi
        have hl : look t rt hh'.i = some hh'.d := by
          unfold look
          rw [hxo.at']
          split
          · rename_i d' e'
            rw [e'] at hn
            simp at hn
          · rfl
        show mx X e σ H _
        refine pth_ok ok hl hxo.val a e st d hc ep ed H F (cs ++ cx) hh'.c _ s.stt hxo.rp (fun z hz => by simp [hxo.sub z hz]) fun w H1 F1 c1 l1 k1 g1 hcc foc => ?_
        have foc0 := foc
        have s1 := s.keep l1 k1 (s.g.of g1 hcc)
        obtain ⟨_, cf, _, _, rpf, _⟩ := foc
        refine ⟨⟨d, F1, cf, by simp only [hdD]; exact ed, rpf, g1.sub⟩, ?_⟩
        have hx1 : ∀ x, some hh' = some x → HDok X.K X.mg H1 F1 rt σ cx x := fun x ex => (hx x ex).keep l1 fun a ha => k1 a (by simp [ha])
        rcases bindR_some he with ⟨os, t2, e3, e4⟩ | ⟨x, t2, e3, rfl⟩
        · cases e4
          refine o h rt t _ e3 σ H1 F1 cs cx (some hh') _ Q s1 hh hx1 ⟨fun os' t' ee ws H2 F2 cv cs2 l2 k2 s2 g2 ro => ?_, fun _ _ ee => nomatch ee⟩
          cases ee
          refine k.1 _ _ rfl (w :: ws) H2 F2 cv cs2 (l1.trans l2) (fun a ha => (k2 a ha).trans (k1 a (by simp [ha]))) s2 g2 ?_
          simp only [RO]
          exact ⟨w, ws, hh', d, rfl, rfl, rfl, foc0.keep l2 fun z hz => k2 z (hxo.sub z hz), ro⟩
        · refine o h rt t _ e3 σ H1 F1 cs cx (some hh') _ Q s1 hh hx1 ⟨fun _ _ ee => (nomatch ee), fun x' t' ee cls od H2 F2 cs2 l2 k2 s2 g2 rx => ?_⟩
          cases ee
          exact k.2 x t2 rfl cls od H2 F2 cs2 (l1.trans l2) (fun a ha => (k2 a ha).trans (k1 a (by simp [ha]))) s2 g2 rx
    · cases he
  · cases he
/-- a hidden slot -/
theorem BS.hide {K : PySem.W.Frag} {mg : Str → Option Value} {H F : Hp} {t rt : Tr} {σ : L2.St} {cs cx : List Addr} (s : BS K mg H F t rt σ cs cx) {i : Nat} {d0 : D} (hi : t[i]? = some (some d0)) :
    ∃ (h : HD) (c2 : List Addr), h.i = i ∧ h.d = d0 ∧ BS K mg H F (t.set i none) (rt.set i (some d0)) σ c2 (h.c ++ cx) ∧ (i < rt.length → HDok K mg H F (rt.set i (some d0)) σ (h.c ++ cx) h) ∧ σ[h.i]? = some (some h.v) ∧ t.length = rt.length := by
  obtain ⟨v, c1, c2, ev, rp, s2, p⟩ := s.s.take hi
  obtain ⟨cr, r1, r2⟩ := s.r
  obtain ⟨cr', r3, g3, p3⟩ := r1.drop (i := i)
  have hlt : i < σ.length := (List.getElem?_eq_some_iff.mp ev).1
  have hir : i < rt.length := by rw [r1.len]; exact hlt
  refine ⟨⟨i, d0, v, c1⟩, c2, rfl, rfl, ⟨s2, ⟨c1 ++ cr', SR.put r3 hir ev rp, fun a ha => ?_⟩, s.g.perm (perm_of fun z => ?_)⟩, fun _ => ⟨List.getElem?_set_self hir, ev, rp, fun a ha => by simp [ha]⟩, ev, by rw [s.s.len, r1.len]⟩
  · rcases List.mem_append.mp ha with ha | ha
    · simp [ha]
    · have := r2 a (p3.symm.subset (by simp [ha]))
      simp [this]
  · have := p.count_eq z
    simp only [List.count_append] at *
    omega
theorem wipe_get {σ : L2.St} : ∀ {vs : List Nat} {j : Nat}, j ∉ vs → (wipe σ vs)[j]? = σ[j]?
  | [], j, _ => rfl
  | v :: vs, j, h => by
    simp only [List.mem_cons, not_or] at h
    unfold wipe
    rw [List.getElem?_set_ne (Ne.symm h.1), wipe_get h.2]
theorem wipe_in {σ : L2.St} : ∀ {vs : List Nat} {j : Nat}, j ∈ vs → (wipe σ vs)[j]? = if j < σ.length then some none else none
  | v :: vs, j, h => by
    unfold wipe
    by_cases e : v = j
    · subst e
      rw [List.getElem?_set, if_pos rfl, wipe_length]
    · rw [List.getElem?_set_ne e]
      refine wipe_in ?_
      rcases List.mem_cons.mp h with h | h
      · exact absurd h.symm e
      · exact h
theorem wipe_same {σ σ2 : L2.St} {vs : List Nat} (h : ∀ j, j ∉ vs → σ2[j]? = (wipe σ vs)[j]?) (hl : σ2.length = (wipe σ vs).length) : wipe σ2 vs = wipe σ vs := by
  refine List.ext_getElem? fun j => ?_
  by_cases hj : j ∈ vs
  · rw [wipe_in hj, wipe_in hj, hl, wipe_length]
  · rw [wipe_get hj, h j hj]
theorem SR.unblk {K : PySem.W.Frag} {mg : Str → Option Value} {H F : Hp} {t : Tr} {σ σ2 : L2.St} {c : List Addr} {vs : List Nat} (s : SR K mg H F t σ2 c) (e : L2.wipe σ2 vs = L2.wipe σ vs) : ∃ c' g, SR K mg H F (wipeT t vs) σ c' ∧ c.Perm (g ++ c') := by
  obtain ⟨c', g, s1, p⟩ := s.wipe vs
  rw [e] at s1
  refine ⟨c', g, SR.unwipe vs (noneAt_wipeT t vs) ?_ s1, p⟩
  rw [s1.len, wipe_length]
end
end Ev
end
section
set_option maxRecDepth 100000
set_option maxHeartbeats 4000000
namespace Ev
open PySem PySem.Spec L2
section
variable {P : Pg}
/-- the ingredients of a comprehension, shared by its two uses -/
structure LcPack (X : Cx) (scope : Scope) (tg iter elt : Expr) (ifs : List Expr) (own : List (Str × Nat)) (σ : L2.St) (H : Hp) (Q : VK) : Prop where
  x : ∃ wi g tt te, PI X tg iter wi ∧ (∀ (s : Shared) (H : Hp) (C : Addr) (cl : List (Str × Addr)) (fp : List Addr), PG (X.blk s H scope (compEnvC scope cl C X.env) fp) tg g) ∧
    (∀ (s : Shared) (H : Hp) (C : Addr) (cl : List (Str × Addr)) (fp : List Addr), PTs (X.blk s H scope (compEnvC scope cl C X.env) fp) ifs tt) ∧
    (∀ (s : Shared) (H : Hp) (C : Addr) (cl : List (Str × Addr)) (fp : List Addr), PE (X.blk s H scope (compEnvC scope cl C X.env) fp) elt te) ∧ tLc wi g tt te (own.map (·.2)) σ H Q
theorem lc_ok {X : Cx} {N : List Str} {sc : Scope} {k : Nat} {cl : Cl} {W : WX} (ok : BOk P X N sc k cl W) {elt : B P} {el : Expr} {tg : Tg} {tg' iter : Expr} {own : List (Str × Nat)} {it : Itr P} {es : List (B P)} {xs : List Expr} {ifs : List (B P)} {ifs' : List Expr} {scope : Scope}
    (hblk : blkC N sc scope own = true) (htg : chkTg N scope tg tg' = true) (hsub : subB (tgS tg) (own.map (·.2)) = true) (hsh : it.sh sc tg' iter = some xs)
    (hifs : ifs = [] ∧ ifs' = [] ∨ ∃ a c, ifs = [a] ∧ ifs' = [c] ∧ ∀ (s : Shared) (H : Hp) (C : Addr) (cc : List (Str × Addr)) (fp : List Addr) (t rt : Tr), TstB (X.blk s H scope (compEnvC scope cc C X.env) fp) (fun _ _ _ _ => False) cl t rt a c)
    (hos : OsOk X W cl es xs)
    (hel : ∀ (s : Shared) (H : Hp) (C : Addr) (c : List (Str × Addr)) (fp : List Addr) (t rt : Tr), ValB (X.blk s H scope (compEnvC scope c C X.env) fp) (fun _ _ _ _ => False) cl t rt elt el)
    {t rt : Tr} {r : Rs D} (he : evB cl rt (.lc elt tg own it es ifs) t = some r) {σ : L2.St} {H F : Hp} {cs cx : List Addr} {Q : VK} (s : BS X.K X.mg H F t rt σ cs cx) (k : PostB X W H F σ cx r Q) :
    LcPack X scope tg' iter el ifs' own σ H Q := by
  have hXN : X.N.Nodup := by rw [ok.x.names]; exact ok.x.nd
  simp only [evB] at he
  split at he
  case h_3 => cases he
  case h_2 x t1 e1 =>
    cases he
    obtain ⟨S, hPI⟩ := it.sound X N sc ok.x tg' iter xs hsh
    refine ⟨_, fun v σ H Q => ∀ s H0 C c fp, mxG (X.blk s H0 scope (compEnvC scope c C X.env) fp) tg' v σ H Q, fun σ H Q => ∀ s H0 C c fp pins s' (I : Inv (X.blk s H0 scope (compEnvC scope c C X.env) fp) pins σ H s'), False,
      fun σ H Q => ∀ s H0 C c fp, mx (X.blk s H0 scope (compEnvC scope c C X.env) fp) el σ H Q, hPI _ (allPE_mx xs),
      fun s H C c fp => ⟨fun pins s' σ H' v u Q I r h => pg_mx.run pins s' σ H' v u Q I r (h s H C c fp)⟩, fun s H C c fp => ⟨fun pins s' σ H' Q I h => (h s H C c fp pins s' I).elim⟩,
      fun s H C c fp => ⟨fun pins s' σ H' Q I h => pe_mx.run pins s' σ H' Q I (h s H C c fp)⟩, ?_⟩
    have main : ∀ (G : It → Hp → Prop), tL (xs.map (mx X)) σ H (fun vs H1 => S vs H1 G) := by
      intro G
      have z := hos none rt t _ e1 σ H F cs cx none (fun vs H1 _ => S vs H1 G) (fun _ _ => True) s rfl (fun _ e => nomatch e) ⟨fun _ _ ee => (nomatch ee), fun x' t' ee => by cases ee; exact k.2 x t1 rfl⟩
      rw [tL_ops] at z; exact z
    exact main _
  case h_1 os t1 e1 =>
  cases q1 : opdDs t1 os with
  | none => rw [q1] at he; cases he
  | some ds =>
  rw [q1] at he
  cases q2 : it.f ds with
  | none =>
    have he : (it.f ds).bind _ = some r := he
    rw [q2] at he; cases he
  | some l =>
  have e2 : (it.f ds).bind _ = some r := he
  rw [q2] at e2
  simp only [Option.bind_some] at e2
  split at e2
  case h_2 => cases e2
  case h_1 ys t5 e3 =>
  cases e2
  obtain ⟨S, hPI, hJ⟩ := it.ok X N sc ok.x tg' iter xs hsh ds l q2
  obtain ⟨one, hone⟩ : ∃ f, f = fun (x : D) (t2 : Tr) => (asg tg x t2).bind fun t3 => bindR (evIf cl (wipeT rt (own.map (·.2))) ifs t3) fun b t4 => if b = true then bindR (evB cl (wipeT rt (own.map (·.2))) elt t4) fun d t5 => some (Rs.ok (some d) t5) else some (Rs.ok none t4) := ⟨_, rfl⟩
  rw [← hone] at e3
  obtain ⟨tt, htt⟩ : ∃ tt : TT, tt = match ifs' with
      | [] => tYes
      | c0 :: _ => fun σ H Q => ∀ s H0 C c fp, mxT (X.blk s H0 scope (compEnvC scope c C X.env) fp) c0 σ H Q := ⟨_, rfl⟩
  refine ⟨_, fun v σ H Q => ∀ s H0 C c fp, mxG (X.blk s H0 scope (compEnvC scope c C X.env) fp) tg' v σ H Q, tt,
    fun σ H Q => ∀ s H0 C c fp, mx (X.blk s H0 scope (compEnvC scope c C X.env) fp) el σ H Q, hPI _ (allPE_mx xs),
    fun s H C c fp => ⟨fun pins s' σ H' v u Q I r h => pg_mx.run pins s' σ H' v u Q I r (h s H C c fp)⟩, fun s H C c fp => ?_,
    fun s H C c fp => ⟨fun pins s' σ H' Q I h => pe_mx.run pins s' σ H' Q I (h s H C c fp)⟩, ?_⟩
  · subst htt
    rcases hifs with ⟨_, rfl⟩ | ⟨a, c0, _, rfl, _⟩
    · exact pts_nil
    · exact pts_one ⟨fun pins s' σ H' Q I h => pt_mx.run pins s' σ H' Q I (h s H C c fp)⟩
  have z := hos none rt t _ e1 σ H F cs cx none (fun vs H1 Q' => Q' .non H1 → False) (fun _ _ => False)
  clear z
  have main : ∀ (G : It → Hp → Prop), (∀ ws H1 F1 cv cs1, Le F F1 → (∀ a ∈ cx, H1 a = H a) → SR X.K X.mg H1 F1 t1 σ cs1 → Good H1 F1 (cv ++ cs1 ++ cx) → RO X.K X.mg H1 F1 σ none os ws cv → S ws H1 G) → tL (xs.map (mx X)) σ H (fun vs H1 => S vs H1 G) := by
    intro G hG
    have z := hos none rt t _ e1 σ H F cs cx none (fun vs H1 _ => S vs H1 G) (fun _ _ => True) s rfl (fun _ e => nomatch e) ⟨fun os' t' ee ws H1 F1 cv cs1 l1 k1 s1 g1 ro => ?_, fun _ _ ee => nomatch ee⟩
    · rw [tL_ops] at z; exact z
    · cases ee
      exact hG ws H1 F1 cv cs1 l1 k1 s1 g1 ro
  refine main _ fun ws H1 F1 cv cs1 l1 k1 s1 g1 ro => ?_
  clear main
  obtain ⟨J, hJ1, hJ2⟩ := hJ ws
  refine hJ1 H1 F1 (cv ++ cs1 ++ cx) _ (ro.rpe s1 q1 (fun a ha => by simp [ha]) (fun a ha => by simp [ha])) g1 ?_
  intro D hD
  obtain ⟨fD, nD⟩ := g1.fresh hD
  obtain ⟨cw, gw, sw, pw⟩ := s1.wipe (own.map (·.2))
  have sw' := SR.unwipe _ (noneAt_wipeT t1 _) (by rw [wipeT_len, s1.len]) sw
  obtain ⟨cr, sr, hcr⟩ := s.r
  obtain ⟨cr2, gr2, sr2, pr2⟩ := sr.wipe (own.map (·.2))
  have sr3 := SR.unwipe _ (noneAt_wipeT rt _) (by rw [wipeT_len, sr.len]) sr2
  have kD : ∀ a ∈ cv ++ cs1 ++ cx, upd H1 D (.lst []) a = H1 a := (g1.new (o := .lst []) hD).2
  refine ⟨fun i m H' => ∃ F' accD accV ca t' cs', i ≤ l.length ∧ m = l.length - i ∧ Le F1 F' ∧ H' D = some (.lst accV) ∧ Rps X.K X.mg H' F' accD accV ca ∧ SR X.K X.mg H' F' t' σ cs' ∧ NoneAt t' (own.map (·.2)) ∧
    Good H' F' (D :: (ca ++ cv ++ cs' ++ cx)) ∧ (∀ a ∈ cv ++ cx, H' a = H1 a) ∧ lcGo (own.map (·.2)) os ds one (l.drop i) accD t' = some (.ok ys t5), ?_, ?_⟩
  · refine ⟨l.length, F1, [], [], [], wipeT t1 (own.map (·.2)), cw, Nat.zero_le _, rfl, Le.refl F1, upd_same, by simp only [Rps]; exact ⟨trivial, trivial⟩, ?_, noneAt_wipeT t1 _, ?_, fun a ha => ?_, by rw [List.drop_zero]; exact e3⟩
    · exact sw'.keep (Le.refl F1) fun a ha => kD a (by simp [pw.symm.subset (show a ∈ gw ++ cw by simp [ha])])
    · refine (g1.new (o := .lst []) hD).1.part (g := gw) (perm_of fun z => ?_)
      have := pw.count_eq z
      simp only [List.count_append, List.count_cons, List.count_nil] at *
      omega
    · refine kD a ?_
      rcases List.mem_append.mp ha with ha | ha <;> simp [ha]
  rintro i m H' ⟨F', accD, accV, ca, t', cs', hi, rfl, l', hD', ra, st, nt, g', k', hgo⟩
  have keepO : RO X.K X.mg H' F' σ none os ws cv := ro.keep l' (fun a ha => k' a (by simp [ha])) fun _ e => nomatch e
  have kk : ∀ a ∈ cx, H' a = H a := fun a ha => (k' a (by simp [ha])).trans (k1 a ha)
  have hop : opdDs t' os = some ds := by
    cases hl : l.drop i with
    | nil =>
      rw [hl] at hgo
      simp only [lcGo] at hgo
      split at hgo
      · assumption
      · cases hgo
    | cons x0 r0 =>
      rw [hl] at hgo
      simp only [lcGo] at hgo
      split at hgo
      · assumption
      · cases hgo
  have rpe : RpE X.K X.mg H' F' (D :: (ca ++ cv ++ cs' ++ cx)) ds ws := keepO.rpe st hop (fun a ha => by simp [ha]) (fun a ha => by simp [ha])
  obtain ⟨hgo1, hstop⟩ := hJ2 H' F' _ rpe g' i
  by_cases hlt : i < l.length
  case neg =>
    have hie : i = l.length := by omega
    subst hie
    rw [List.drop_length] at hgo
    simp only [lcGo] at hgo
    rw [if_pos hop] at hgo
    cases hgo
    refine .inl ⟨hstop (Nat.le_refl _), ?_⟩
    refine k.1 _ _ rfl (.ref D) H' F' (D :: ca) cs' (l1.trans l') kk st ?_ ?_
    · refine g'.part (g := cv) (perm_of fun z => ?_)
      simp only [List.count_append, List.count_cons] at *
      omega
    · simp only [Rp]
      exact ⟨D, accV, ca, rfl, hD', ra, rfl⟩
  case pos =>
  have hd : l.drop i = l[i] :: l.drop (i + 1) := List.drop_eq_getElem_cons hlt
  rw [hd] at hgo
  simp only [lcGo] at hgo
  rw [if_pos hop] at hgo
  obtain ⟨jg, jy⟩ := hgo1 l[i] (by simp [hlt])
  refine .inr ⟨jg, fun H'' => ∃ m', m' < l.length - i ∧ ∃ F' accD accV ca t' cs', i + 1 ≤ l.length ∧ m' = l.length - (i + 1) ∧ Le F1 F' ∧ H'' D = some (.lst accV) ∧ Rps X.K X.mg H'' F' accD accV ca ∧ SR X.K X.mg H'' F' t' σ cs' ∧ NoneAt t' (own.map (·.2)) ∧
    Good H'' F' (D :: (ca ++ cv ++ cs' ++ cx)) ∧ (∀ a ∈ cv ++ cx, H'' a = H1 a) ∧ lcGo (own.map (·.2)) os ds one (l.drop (i + 1)) accD t' = some (.ok ys t5), fun H'' h => h, fun xv H2 hy => ?_⟩
  obtain ⟨F2, l2, g2, k2, rx⟩ := jy xv H2 hy
  generalize hr0 : one l[i] t' = r0 at hgo
  have hr1 := hr0
  rw [hone] at hr1
  intro s0 H0 C0 c0 fp0
  cases ea : asg tg l[i] t' with
  | none =>
    have hr1 : (asg tg l[i] t').bind _ = r0 := hr1
    rw [ea] at hr1
    cases hr1
    cases hgo
  | some t3 =>
  have hr1 : (asg tg l[i] t').bind _ = r0 := hr1
  rw [ea] at hr1
  have hr1 : (bindR (evIf cl (wipeT rt (own.map (·.2))) ifs t3) fun b t4 => if b = true then bindR (evB cl (wipeT rt (own.map (·.2))) elt t4) fun d t5 => some (Rs.ok (some d) t5) else some (Rs.ok none t4)) = r0 := hr1
  have st2 : SR X.K X.mg H2 F2 t' (L2.wipe σ (own.map (·.2))) cs' := (st.keep l2 fun a ha => k2 a (by simp [ha])).towipe _ nt
  refine asg_ok (TgOk.blk (scope := scope) ok.x.calm ok.x.names ok.x.nd s0 H0 C0 c0 fp0) tg tg' htg l[i] t' t3 ea xv _ H2 F2 cs' (D :: (ca ++ cv ++ cx)) [] _ st2 rx ?_ ?_
  · exact g2.perm (perm_of fun z => by simp only [List.count_append, List.count_cons, List.nil_append]; omega)
  intro σ2 cs2 s2 g3 ks lens
  have hown : ∀ j, j ∉ own.map (·.2) → σ2[j]? = (L2.wipe σ (own.map (·.2)))[j]? := fun j hj => ks j fun hm => hj (by
    have := List.all_eq_true.mp hsub j hm
    simpa using this)
  have ew : L2.wipe σ2 (own.map (·.2)) = L2.wipe σ (own.map (·.2)) := wipe_same hown lens
  refine ⟨ew, ?_⟩
  have kk2 : ∀ a ∈ D :: (ca ++ cv ++ cx), H2 a = H' a := fun a ha => k2 a (by
    simp only [List.mem_cons, List.mem_append] at *
    rcases ha with h | (h | h) | h <;> simp [h])
  have srt : SR X.K X.mg H2 F2 (wipeT rt (own.map (·.2))) σ2 cr2 := by
    refine SR.unwipe (own.map (·.2)) (noneAt_wipeT rt _) ?_ ?_
    · rw [wipeT_len, sr.len, lens, wipe_length]
    · rw [ew]
      refine (sr2.keep (l1.trans (l'.trans l2)) fun a ha => ?_)
      have hacx : a ∈ cx := hcr a (pr2.symm.subset (by simp [ha]))
      exact (kk2 a (by simp [hacx])).trans (kk a hacx)
  have hcr2 : ∀ a ∈ cr2, a ∈ D :: (ca ++ cv ++ cx) := fun a ha => by
    have hacx : a ∈ cx := hcr a (pr2.symm.subset (by simp [ha]))
    simp [hacx]
  have bs : BS X.K X.mg H2 F2 t3 (wipeT rt (own.map (·.2))) σ2 cs2 (D :: (ca ++ cv ++ cx)) := ⟨s2, ⟨cr2, srt, hcr2⟩, g3⟩
  have hDH2 : H2 D = some (.lst accV) := (kk2 D (by simp)).trans hD'
  have ra2 := Rps.keep (H' := H2) l2 _ _ _ ra fun a ha => kk2 a (by simp [ha])
  -- the turn's value
  have fin : ∀ b t4, evIf cl (wipeT rt (own.map (·.2))) ifs t3 = some (.ok b t4) → ∀ H3 F3 cs3, Le F2 F3 → (∀ a ∈ D :: (ca ++ cv ++ cx), H3 a = H2 a) → SR X.K X.mg H3 F3 t4 σ2 cs3 → Good H3 F3 (cs3 ++ D :: (ca ++ cv ++ cx)) →
      if b = true then ∀ s H0 C c fp, mx (X.blk s H0 scope (compEnvC scope c C X.env) fp) el σ2 H3 fun y H4 => ∃ acc, H4 D = some (.lst acc) ∧ acc.length < sizeLine ∧ ∃ m', m' < l.length - i ∧ ∃ F' accD accV ca t' cs', i + 1 ≤ l.length ∧ m' = l.length - (i + 1) ∧ Le F1 F' ∧ upd H4 D (.lst (acc ++ [y])) D = some (.lst accV) ∧ Rps X.K X.mg (upd H4 D (.lst (acc ++ [y]))) F' accD accV ca ∧ SR X.K X.mg (upd H4 D (.lst (acc ++ [y]))) F' t' σ cs' ∧ NoneAt t' (own.map (·.2)) ∧
    Good (upd H4 D (.lst (acc ++ [y]))) F' (D :: (ca ++ cv ++ cs' ++ cx)) ∧ (∀ a ∈ cv ++ cx, upd H4 D (.lst (acc ++ [y])) a = H1 a) ∧ lcGo (own.map (·.2)) os ds one (l.drop (i + 1)) accD t' = some (.ok ys t5)
      else ∃ m', m' < l.length - i ∧ ∃ F' accD accV ca t' cs', i + 1 ≤ l.length ∧ m' = l.length - (i + 1) ∧ Le F1 F' ∧ H3 D = some (.lst accV) ∧ Rps X.K X.mg H3 F' accD accV ca ∧ SR X.K X.mg H3 F' t' σ cs' ∧ NoneAt t' (own.map (·.2)) ∧
    Good H3 F' (D :: (ca ++ cv ++ cs' ++ cx)) ∧ (∀ a ∈ cv ++ cx, H3 a = H1 a) ∧ lcGo (own.map (·.2)) os ds one (l.drop (i + 1)) accD t' = some (.ok ys t5) := by
    intro b t3' hb H3 F3 cs3 l3 k3 s3 g4
    rw [hb] at hr1
    have hr1 : (if b = true then bindR (evB cl (wipeT rt (own.map (·.2))) elt t3') fun d t4 => some (Rs.ok (some d) t4) else some (Rs.ok none t3')) = r0 := hr1
    have bs3 : BS X.K X.mg H3 F3 t3' (wipeT rt (own.map (·.2))) σ2 cs3 (D :: (ca ++ cv ++ cx)) := ⟨s3, ⟨cr2, srt.keep l3 fun a ha => k3 a (hcr2 a ha), hcr2⟩, g4⟩
    cases b with
    | false =>
      simp only [Bool.false_eq_true, if_false] at hr1 ⊢
      subst hr1
      have hgo : lcGo (own.map (·.2)) os ds one (l.drop (i + 1)) accD (wipeT t3' (own.map (·.2))) = some (.ok ys t5) := hgo
      obtain ⟨c5, g5, s5, p5⟩ := s3.unblk ew
      refine ⟨l.length - (i + 1), by omega, F3, accD, accV, ca, _, c5, hlt, rfl, l'.trans (l2.trans l3), (k3 D (by simp)).trans hDH2, Rps.keep l3 _ _ _ ra2 fun a ha => k3 a (by simp [ha]), s5, noneAt_wipeT t3' _, ?_, fun a ha => ?_, hgo⟩
      · refine g4.part (g := g5) (perm_of fun z => ?_)
        have := p5.count_eq z
        simp only [List.count_append, List.count_cons] at *
        omega
      · have h1 : a ∈ D :: (ca ++ cv ++ cx) := by
          simp only [List.mem_cons, List.mem_append] at *
          rcases ha with h | h <;> simp [h]
        exact (k3 a h1).trans ((kk2 a h1).trans (k' a ha))
    | true =>
      simp only [if_true] at hr1 ⊢
      intro s6 H6 C6 c6 fp6
      cases ev : evB cl (wipeT rt (own.map (·.2))) elt t3' with
      | none => rw [ev] at hr1; subst hr1; cases hgo
      | some rv =>
      rw [ev] at hr1
      cases rv with
      | ex x t4 => subst hr1; cases hgo
      | ok d t4 =>
      subst hr1
      have hgo : (if accD.length < sizeLine then lcGo (own.map (·.2)) os ds one (l.drop (i + 1)) (accD ++ [d]) (wipeT t4 (own.map (·.2))) else none) = some (.ok ys t5) := hgo
      split at hgo
      case isFalse => cases hgo
      case isTrue hlen =>
      refine hel s6 H6 C6 c6 fp6 t3' (wipeT rt (own.map (·.2))) _ ev σ2 H3 F3 cs3 (D :: (ca ++ cv ++ cx)) _ bs3 ⟨fun d' t'' ee y H4 F4 cd cs4 l4 k4 s4 g5 rd => ?_, fun _ _ ee => nomatch ee⟩
      cases ee
      have hD4 : H4 D = some (.lst accV) := (k4 D (by simp)).trans ((k3 D (by simp)).trans hDH2)
      have nd := g5.nd
      have nDall : D ∉ cd ++ cs4 ++ (ca ++ cv ++ cx) := by
        have p : (cd ++ cs4 ++ D :: (ca ++ cv ++ cx)).Perm (D :: (cd ++ cs4 ++ (ca ++ cv ++ cx))) := perm_of fun z => by simp only [List.count_append, List.count_cons]; omega
        exact (List.nodup_cons.mp (p.nodup_iff.mp nd)).1
      have ku : ∀ a ∈ cd ++ cs4 ++ (ca ++ cv ++ cx), upd H4 D (.lst (accV ++ [y])) a = H4 a := fun a ha => upd_ne fun e => nDall (e ▸ ha)
      obtain ⟨c5, g6, s5, p5⟩ := s4.unblk ew
      refine ⟨accV, hD4, by rw [← ra.length]; exact hlen, l.length - (i + 1), by omega, F4, accD ++ [d], accV ++ [y], ca ++ cd, wipeT t4 (own.map (·.2)), c5, hlt, rfl, l'.trans (l2.trans (l3.trans l4)), upd_same, ?_, ?_, noneAt_wipeT t4 _, ?_, fun a ha => ?_, hgo⟩
      · refine Rps.append (c1 := ca) (c2 := cd) ?_ ?_
        · refine Rps.keep (l3.trans l4) _ _ _ ra2 fun a ha => ?_
          rw [ku a (by simp [ha]), k4 a (by simp [ha]), k3 a (by simp [ha])]
        · have : Rps X.K X.mg (upd H4 D (.lst (accV ++ [y]))) F4 [d] [y] (cd ++ []) := by
            simp only [Rps]
            exact ⟨y, [], cd, [], rfl, rfl, Rp.keep (Le.refl F4) _ _ _ rd fun a ha => ku a (by simp [ha]), rfl, rfl⟩
          simpa using this
      · refine s5.keep (Le.refl F4) fun a ha => ku a ?_
        have := p5.symm.subset (show a ∈ g6 ++ c5 by simp [ha])
        simp [this]
      · have gu : Good (upd H4 D (.lst (accV ++ [y]))) F4 (cd ++ cs4 ++ D :: (ca ++ cv ++ cx)) := by
          refine ⟨fun a o e => ?_, g5.nd, fun a ha => ?_⟩
          · have hne : a ≠ D := fun e2 => by
              have := (g5.own D (by simp)).1
              rw [← e2] at this
              rw [this] at e; cases e
            rw [upd_ne hne]; exact g5.sub a o e
          · refine ⟨(g5.own a ha).1, ?_⟩
            by_cases hne : a = D
            · subst hne; exact ⟨_, upd_same⟩
            · rw [upd_ne hne]; exact (g5.own a ha).2
        refine gu.part (g := g6) (perm_of fun z => ?_)
        have := p5.count_eq z
        simp only [List.count_append, List.count_cons] at *
        omega
      · have h1 : a ∈ D :: (ca ++ cv ++ cx) := by
          simp only [List.mem_cons, List.mem_append] at *
          rcases ha with h | h <;> simp [h]
        have h2 : a ∈ cd ++ cs4 ++ (ca ++ cv ++ cx) := by
          simp only [List.mem_append] at *
          rcases ha with h | h <;> simp [h]
        rw [ku a h2, k4 a h1, k3 a h1, kk2 a h1, k' a ha]
  rcases hifs with ⟨rfl, rfl⟩ | ⟨a, c1, rfl, rfl, hif⟩
  · subst htt
    show tYes σ2 H2 _
    exact fin true t3 (by simp only [evIf]) H2 F2 cs2 (Le.refl F2) (fun _ _ => rfl) s2 g3
  · subst htt
    cases hb : evB cl (wipeT rt (own.map (·.2))) a t3 with
    | none =>
      simp only [evIf, hb, bindR] at hr1
      cases hr1; cases hgo
    | some rv =>
    cases rv with
    | ex y t4 =>
      simp only [evIf, hb, bindR] at hr1
      cases hr1; cases hgo
    | ok d t4 =>
    obtain ⟨b, rfl⟩ : ∃ b, d = .bl b := by
      simp only [evIf, hb, bindR] at hr1
      cases d with
      | bl b => exact ⟨b, rfl⟩
      | _ => simp at hr1; subst hr1; cases hgo
    have hif2 : evIf cl (wipeT rt (own.map (·.2))) [a] t3 = some (.ok b t4) := by simp only [evIf, hb, bindR]
    intro s6 H6 C6 c6 fp6
    refine hif s6 H6 C6 c6 fp6 t3 (wipeT rt (own.map (·.2))) _ hb (fun d' t' ee => by cases ee; exact ⟨_, rfl⟩) σ2 H2 F2 cs2 (D :: (ca ++ cv ++ cx)) _ bs ⟨fun d' t' ee v H3 F3 cd cs3 l3 k3 s3 g4 rd => ?_, fun _ _ ee => nomatch ee⟩
    cases ee
    refine ⟨b, rd.blE, ?_⟩
    exact fin b t4 hif2 H3 F3 cs3 l3 k3 s3 (g4.part (g := cd) (perm_of fun z => by simp only [List.count_append]; omega))
end
end Ev
end
section
set_option maxRecDepth 100000
set_option maxHeartbeats 4000000
namespace Ev
open PySem PySem.Spec L2
section
variable {P : Pg} {X : Cx} {N : List Str} {sc : Scope} {k : Nat} {cl : Cl} {W : WX}
/-- what comes behind operands -/
theorem os_at {h : Option Nat} {hd : Option HD} {es : List (B P)} {xs : List Expr} (o : OsOk X W cl es xs) {t rt : Tr} {os : List Opd} {t1 : Tr} (e1 : evOs cl h rt es t = some (.ok os t1)) {σ : L2.St} {H F : Hp} {cs cx : List Addr} {R : List V → Hp → VK → Prop} {Q : VK} (s : BS X.K X.mg H F t rt σ cs cx)
    (hh : h = hd.map HD.i) (hx : ∀ x, hd = some x → HDok X.K X.mg H F rt σ cx x)
    (hk : ∀ ws H' F' cv cs', Le F F' → (∀ a ∈ cx, H' a = H a) → SR X.K X.mg H' F' t1 σ cs' → Good H' F' (cv ++ cs' ++ cx) → RO X.K X.mg H' F' σ hd os ws cv → R ws H' Q) : tOps (xs.map (mx X)) R σ H Q :=
  o h rt t _ e1 σ H F cs cx hd R Q s hh hx ⟨fun os' t' ee => by cases ee; exact hk, fun _ _ ee => nomatch ee⟩
theorem os_ex {h : Option Nat} {hd : Option HD} {es : List (B P)} {xs : List Expr} (o : OsOk X W cl es xs) {t rt : Tr} {x : Xn} {t1 : Tr} (e1 : evOs cl h rt es t = some (.ex x t1)) {σ : L2.St} {H F : Hp} {cs cx : List Addr} {R : List V → Hp → VK → Prop} {Q : VK} (s : BS X.K X.mg H F t rt σ cs cx)
    (hh : h = hd.map HD.i) (hx : ∀ x, hd = some x → HDok X.K X.mg H F rt σ cx x)
    (hk : ∀ cls od H' F' cs', Le F F' → (∀ a ∈ cx, H' a = H a) → SR X.K X.mg H' F' t1 σ cs' → Good H' F' (cs' ++ cx) → RpX X.K X.mg H' F' x cls od → W cls od σ H') : tOps (xs.map (mx X)) R σ H Q :=
  o h rt t _ e1 σ H F cs cx hd R Q s hh hx ⟨fun _ _ ee => (nomatch ee), fun x' t' ee => by cases ee; exact hk⟩
theorem PostB.n {H F H' F' : Hp} {σ : L2.St} {cx cv cs' : List Addr} {d : D} {t1 : Tr} {Q : VK} (p : PostB X W H F σ cx (.ok d t1) Q) (l : Le F F') (kk : ∀ a ∈ cx, H' a = H a) (s : SR X.K X.mg H' F' t1 σ cs') : PostN X.K X.mg H' F' (cv ++ cs' ++ cx) d Q := by
  intro v H2 F2 cd l2 k2 g2 r
  refine p.1 d t1 rfl v H2 F2 cd cs' (l.trans l2) (fun a ha => (k2 a (by simp [ha])).trans (kk a ha)) (s.keep l2 fun a ha => k2 a (by simp [ha])) (g2.part (g := cv) (perm_of fun z => ?_)) r
  simp only [List.count_append]; omega
theorem no_hd {K : PySem.W.Frag} {mg : Str → Option Value} {H F : Hp} {rt : Tr} {σ : L2.St} {cx : List Addr} : ∀ x, (none : Option HD) = some x → HDok K mg H F rt σ cx x := fun _ e => nomatch e
theorem q_ok (ok : XOk P X N sc) {o : Opr P} {es : List (B P)} {e : Expr} {xs : List Expr} (hsh : o.sh sc e = some xs) (hos : OsOk X W cl es xs) {t rt : Tr} : ValB X W cl t rt (.q o es) e ∧ TstB X W cl t rt (.q o es) e := by
  refine ⟨fun r hr σ H F cs cx Q s kp => ?_, fun r hr _ σ H F cs cx Q s kp => ?_⟩
  · simp only [evB] at hr
    rcases bindR_some hr with ⟨os, t1, e1, e2⟩ | ⟨x, t1, e1, rfl⟩
    · obtain ⟨ds, q1, e3⟩ := Option.bind_eq_some_iff.mp e2
      obtain ⟨d, q2, e4⟩ := Option.map_eq_some_iff.mp e3
      subst e4
      obtain ⟨R, h1, _, h2⟩ := o.ok X N sc ok e xs hsh ds d q2
      exact mx_op h1 (os_at hos e1 s rfl no_hd fun ws H' F' cv cs' l kk s' g' ro => h2 ws H' F' (cv ++ cs' ++ cx) Q (ro.rpe s' q1 (fun a ha => by simp [ha]) fun a ha => by simp [ha]) g' (kp.n l kk s'))
    · obtain ⟨R, h1, _⟩ := o.sound X N sc ok e xs hsh
      exact mx_op h1 (os_ex hos e1 s rfl no_hd (kp.2 x t1 rfl))
  · simp only [evB] at hr
    rcases bindR_some hr with ⟨os, t1, e1, e2⟩ | ⟨x, t1, e1, rfl⟩
    · obtain ⟨ds, q1, e3⟩ := Option.bind_eq_some_iff.mp e2
      obtain ⟨d, q2, e4⟩ := Option.map_eq_some_iff.mp e3
      subst e4
      obtain ⟨R, _, h1, h2⟩ := o.ok X N sc ok e xs hsh ds d q2
      exact mxT_op h1 (os_at hos e1 s rfl no_hd fun ws H' F' cv cs' l kk s' g' ro => h2 ws H' F' (cv ++ cs' ++ cx) _ (ro.rpe s' q1 (fun a ha => by simp [ha]) fun a ha => by simp [ha]) g' (kp.n l kk s'))
    · obtain ⟨R, _, h1⟩ := o.sound X N sc ok e xs hsh
      exact mxT_op h1 (os_ex hos e1 s rfl no_hd (kp.2 x t1 rfl))
theorem tup_ok {es : List (B P)} {xs : List Expr} {pos : Pos} {cx' : Nat} (hp : xs.all plainX = true) (hos : OsOk X W cl es xs) {t rt : Tr} : ValB X W cl t rt (.tup es) (.Tuple xs cx' pos) := by
  intro r hr σ H F cs cx Q s kp
  simp only [evB] at hr
  refine mx_of (pe_tup (pa_all (allPE_mx xs) hp)) ?_
  have main : tOps (xs.map (mx X)) (fun vs H1 Q => vs.length ≤ sizeLine ∧ ∀ p, H1 p = none → Q (.ref p) (upd H1 p (.tup vs))) σ H Q := by
    rcases bindR_some hr with ⟨os, t1, e1, e2⟩ | ⟨x, t1, e1, rfl⟩
    · obtain ⟨ds, q1, e3⟩ := Option.bind_eq_some_iff.mp e2
      split at e3
      · rename_i hl
        cases e3
        refine os_at hos e1 s rfl no_hd fun ws H' F' cv cs' l kk s' g' ro => ?_
        have rs := ro.vals q1
        refine ⟨by rw [← rs.length]; exact hl, fun p hp => ?_⟩
        obtain ⟨g2, k2, l2⟩ := g'.newF (o := .tup ws) hp
        refine kp.1 _ t1 rfl _ _ _ cv cs' (l.trans l2) (fun a ha => (k2 a (by simp [ha])).trans (kk a ha)) (s'.keep l2 fun a ha => k2 a (by simp [ha])) g2 ?_
        simp only [Rp]
        exact ⟨p, ws, rfl, SqT.of upd_same, Rps.keep l2 _ _ _ rs fun a ha => k2 a (by simp [ha])⟩
      · cases e3
    · exact os_ex hos e1 s rfl no_hd (kp.2 x t1 rfl)
  rw [tL_ops] at main; exact main
theorem lst_ok {es : List (B P)} {xs : List Expr} {pos : Pos} (hp : xs.all plainX = true) (hos : OsOk X W cl es xs) {t rt : Tr} : ValB X W cl t rt (.lst es) (.List xs pos) := by
  intro r hr σ H F cs cx Q s kp
  simp only [evB] at hr
  refine mx_of (pe_lst (pa_all (allPE_mx xs) hp)) ?_
  have main : tOps (xs.map (mx X)) (fun vs H1 Q => vs.length ≤ sizeLine ∧ ∀ p, H1 p = none → Q (.ref p) (upd H1 p (.lst vs))) σ H Q := by
    rcases bindR_some hr with ⟨os, t1, e1, e2⟩ | ⟨x, t1, e1, rfl⟩
    · obtain ⟨ds, q1, e3⟩ := Option.bind_eq_some_iff.mp e2
      split at e3
      · rename_i hl
        cases e3
        refine os_at hos e1 s rfl no_hd fun ws H' F' cv cs' l kk s' g' ro => ?_
        have rs := ro.vals q1
        refine ⟨by rw [← rs.length]; exact hl, fun p hp => ?_⟩
        obtain ⟨g2, k2⟩ := g'.new (o := .lst ws) hp
        refine kp.1 _ t1 rfl _ _ _ (p :: cv) cs' l (fun a ha => (k2 a (by simp [ha])).trans (kk a ha)) (s'.keep (Le.refl F') fun a ha => k2 a (by simp [ha])) g2 ?_
        simp only [Rp]
        exact ⟨p, ws, cv, rfl, upd_same, Rps.keep (Le.refl F') _ _ _ rs fun a ha => k2 a (by simp [ha]), rfl⟩
      · cases e3
    · exact os_ex hos e1 s rfl no_hd (kp.2 x t1 rfl)
  rw [tL_ops] at main; exact main
/-- operands behind a receiver of which something must be known -/
theorem os_mid {hdf : D → Bool} {Mid : V → Hp → Prop} (mid : ∀ d, hdf d = true → ∀ (x : V) (H F : Hp) (c : List Addr), Rp X.K X.mg H F d x c → Le F H → Mid x H) {es : List (B P)} {x : Expr} {ys : List Expr} (hos : OsHd X W cl es x ys) {t rt : Tr} (hh : hdOk hdf (hdD cl rt es t) = true)
    {h : Option Nat} {hd : Option HD} {r : Rs (List Opd)} (e1 : evOs cl h rt es t = some r) {σ : L2.St} {H F : Hp} {cs cx : List Addr} {R : List V → Hp → VK → Prop} {Q : VK} (s : BS X.K X.mg H F t rt σ cs cx) (h1 : h = hd.map HD.i) (h2 : ∀ x, hd = some x → HDok X.K X.mg H F rt σ cx x)
    (k : PostO X W H F σ cx hd r (fun ws H' => R ws H' Q)) : mx X x σ H fun v H1 => Mid v H1 ∧ tOps (ys.map (mx X)) (fun vs => R (v :: vs)) σ H1 Q :=
  mx_mono (hos h rt t r e1 σ H F cs cx hd R Q s h1 h2 k) fun v H1 ⟨⟨d, F1, c, e, rp, l⟩, q⟩ => ⟨mid d (by rw [e] at hh; exact hh) v H1 F1 c rp l, q⟩
theorem post_at {os : List Opd} {t1 : Tr} {hd : Option HD} {σ : L2.St} {H F : Hp} {cx : List Addr} {k : List V → Hp → Prop}
    (hk : ∀ ws H' F' cv cs', Le F F' → (∀ a ∈ cx, H' a = H a) → SR X.K X.mg H' F' t1 σ cs' → Good H' F' (cv ++ cs' ++ cx) → RO X.K X.mg H' F' σ hd os ws cv → k ws H') : PostO X W H F σ cx hd (.ok os t1) k :=
  ⟨fun os' t' ee => by cases ee; exact hk, fun _ _ ee => nomatch ee⟩
theorem post_ex {x : Xn} {t1 : Tr} {hd : Option HD} {σ : L2.St} {H F : Hp} {cx : List Addr} {k : List V → Hp → Prop}
    (hk : ∀ cls od H' F' cs', Le F F' → (∀ a ∈ cx, H' a = H a) → SR X.K X.mg H' F' t1 σ cs' → Good H' F' (cs' ++ cx) → RpX X.K X.mg H' F' x cls od → W cls od σ H') : PostO X W H F σ cx hd (.ex x t1) k :=
  ⟨fun _ _ ee => (nomatch ee), fun x' t' ee => by cases ee; exact hk⟩
theorem qm_ok (ok : XOk P X N sc) {o : OprM P} {es : List (B P)} {e x : Expr} {ys : List Expr} (hsh : o.sh sc e = some (x, ys)) (hos : OsHd X W cl es x ys) {t rt : Tr} : ValB X W cl t rt (.qm o es) e := by
  intro r hr σ H F cs cx Q s kp
  simp only [evB] at hr
  split at hr
  case isFalse => cases hr
  case isTrue hh =>
  rcases bindR_some hr with ⟨os, t1, e1, e2⟩ | ⟨x, t1, e1, rfl⟩
  · obtain ⟨ds, q1, e3⟩ := Option.bind_eq_some_iff.mp e2
    obtain ⟨d, q2, e4⟩ := Option.map_eq_some_iff.mp e3
    subst e4
    obtain ⟨R, h1, h2⟩ := o.ok X N sc ok e _ ys hsh ds d q2
    exact mx_of (h1 _ _ pe_mx (allPE_mx ys)) (os_mid (o.mid X.K X.mg) hos hh e1 s rfl no_hd (post_at fun ws H' F' cv cs' l kk s' g' ro => h2 ws H' F' (cv ++ cs' ++ cx) Q (ro.rpe s' q1 (fun a ha => by simp [ha]) fun a ha => by simp [ha]) g' (kp.n l kk s')))
  · obtain ⟨R, h1⟩ := o.sound X N sc ok e _ ys hsh
    exact mx_of (h1 _ _ pe_mx (allPE_mx ys)) (os_mid (o.mid X.K X.mg) hos hh e1 s rfl no_hd (post_ex (kp.2 _ t1 rfl)))
theorem mut0_ok (ok : XOk P X N sc) {o : Mut P} {es : List (B P)} {e y : Expr} {ys : List Expr} (hsh : o.sh sc e = some (y, ys)) (hos : OsHd X W cl es y ys) {t rt : Tr} : ValB X W cl t rt (.mut o none es) e := by
  intro r hr σ H F cs cx Q s kp
  simp only [evB] at hr
  split at hr
  case isFalse => cases hr
  case isTrue hh =>
  rcases bindR_some hr with ⟨os, t1, e1, e2⟩ | ⟨x, t1, e1, rfl⟩
  · split at e2
    · rename_i i rr
      split at e2
      · rename_i d ds q1 q2
        obtain ⟨z, q3, e4⟩ := Option.map_eq_some_iff.mp e2
        subst e4
        obtain ⟨a, d'⟩ := z
        obtain ⟨R, h1, h2⟩ := o.ok X N sc ok e y ys hsh d ds a d' q3
        refine mx_of (h1 _ _ pe_mx (allPE_mx ys)) (os_mid (o.mid X.K X.mg) hos hh e1 s rfl no_hd (post_at fun ws H' F' cv cs' l kk s' g' ro => ?_))
        simp only [RO] at ro
        obtain ⟨v, w, rfl, ev, ro⟩ := ro
        obtain ⟨v', c1, c2, ev', rp, s2, p⟩ := s'.take q1
        rw [ev] at ev'; cases ev'
        refine h2 v w H' F' (c2 ++ cx) c1 cv Q rp (ro.vals q2) (g'.perm (perm_of fun z => ?_)) fun u H2 F2 cr cd' l2 k2 g2 ra rd => ?_
        · have := p.count_eq z
          simp only [List.count_append] at *
          omega
        · have hi : i < t1.length := (List.getElem?_eq_some_iff.mp q1).1
          have s3 := SR.put (s2.keep l2 fun b hb => k2 b (by simp [hb])) hi ev rd
          exact kp.1 a _ rfl u H2 F2 cr _ (l.trans l2) (fun b hb => (k2 b (by simp [hb])).trans (kk b hb)) s3 (by simpa only [List.append_assoc] using g2) ra
      · cases e2
    · cases e2
  · obtain ⟨R, h1⟩ := o.sound X N sc ok e y ys hsh
    exact mx_of (h1 _ _ pe_mx (allPE_mx ys)) (os_mid (o.mid X.K X.mg) hos hh e1 s rfl no_hd (post_ex (kp.2 x t1 rfl)))
/-- what was hidden is there again -/
theorem unhide {K : PySem.W.Frag} {mg : Str → Option Value} {H F : Hp} {σ : L2.St} {h : HD} {t1 : Tr} {cs c2 : List Addr} {d2 : D} (s : SR K mg H F t1 σ cs) (hv : σ[h.i]? = some (some h.v)) (r : Rp K mg H F d2 h.v c2) : ∃ c3 g, SR K mg H F (t1.set h.i (some d2)) σ (c2 ++ c3) ∧ cs.Perm (g ++ c3) := by
  obtain ⟨c3, s3, rr, p⟩ := s.drop (i := h.i)
  have hi : h.i < t1.length := by
    rw [s.len]
    exact (List.getElem?_eq_some_iff.mp hv).1
  exact ⟨c3, rr, SR.put s3 hi hv r, p⟩
theorem mut1_ok (ok : XOk P X N sc) {o : Mut P} {i : Nat} {es : List (B P)} {e y : Expr} {ys : List Expr} (hsh : o.sh sc e = some (y, ys)) (hos : OsHd X W cl es y ys) {t rt : Tr} : ValB X W cl t rt (.mut o (some i) es) e := by
  intro r hr σ H F cs cx Q s kp
  simp only [evB] at hr
  split at hr
  case h_2 => cases hr
  case h_1 d0 hi =>
  split at hr
  case isFalse => cases hr
  case isTrue hh =>
  obtain ⟨h, ch, rfl, rfl, s1, hx, hv, hlen⟩ := s.hide hi
  have hir : h.i < rt.length := by rw [← hlen]; exact (List.getElem?_eq_some_iff.mp hi).1
  have hx := hx hir
  have hxx : ∀ x, some h = some x → HDok X.K X.mg H F (rt.set h.i (some h.d)) σ (h.c ++ cx) x := fun x e => by cases e; exact hx
  rcases bindR_some hr with ⟨os, t1, e1, e2⟩ | ⟨x, t1, e1, rfl⟩
  · split at e2
    · rename_i j st rr
      split at e2
      · rename_i d ds q1 q2
        split at e2
        · cases e2
        · rename_i hj
          obtain ⟨z, q3, e4⟩ := Option.bind_eq_some_iff.mp e2
          obtain ⟨d2, q4, e5⟩ := Option.map_eq_some_iff.mp e4
          subst e5
          obtain ⟨a, d'⟩ := z
          obtain ⟨R, h1, h2⟩ := o.ok X N sc ok e y ys hsh d ds a d' q3
          refine mx_of (h1 _ _ pe_mx (allPE_mx ys)) (os_mid (o.mid X.K X.mg) hos hh e1 s1 (hd := some h) rfl hxx (post_at fun ws H' F' cv cs' l kk s' g' ro => ?_))
          simp only [RO] at ro
          obtain ⟨v, w, h', d1, rfl, eh, ei, foc, ro⟩ := ro
          cases eh
          obtain ⟨fg, c1, rest, p, rp, back⟩ := foc
          rw [q1] at fg; cases fg
          refine h2 v w H' F' (cs' ++ rest ++ cx) c1 cv Q rp (ro.vals q2) (g'.perm (perm_of fun z => ?_)) fun u H2 F2 cr cd' l2 k2 g2 ra rd => ?_
          · have := p.count_eq z
            simp only [List.count_append] at *
            omega
          · obtain ⟨d3, c3, b1, b2, b3⟩ := back H2 F2 d' cd' l2 (fun b hb => k2 b (by simp [hb])) rd
            rw [q4] at b1; cases b1
            obtain ⟨c4, g4, s4, p4⟩ := unhide (s'.keep l2 fun b hb => k2 b (by simp [hb])) hv b2
            refine kp.1 a _ rfl u H2 F2 cr _ (l.trans l2) (fun b hb => (k2 b (by simp [hb])).trans (kk b (by simp [hb]))) s4 (g2.part (g := g4) (perm_of fun z => ?_)) ra
            have a1 := b3.count_eq z
            have a2 := p4.count_eq z
            simp only [List.count_append] at *
            omega
      · cases e2
    · cases e2
  · obtain ⟨R, h1⟩ := o.sound X N sc ok e y ys hsh
    refine mx_of (h1 _ _ pe_mx (allPE_mx ys)) (os_mid (o.mid X.K X.mg) hos hh e1 s1 (hd := some h) rfl hxx (post_ex fun cls od H' F' cs' l kk s' g' rx => ?_))
    exact kp.2 x t1 rfl cls od H' F' cs' l (fun a ha => kk a (by simp [ha])) s' (g'.part (g := h.c) (perm_of fun z => by simp only [List.count_append]; omega)) rx
end
end Ev
end
section
set_option maxRecDepth 100000
set_option maxHeartbeats 4000000
namespace Ev
open PySem PySem.Spec L2
section
variable {P : Pg} {X : Cx} {N : List Str} {sc : Scope} {k : Nat} {cl : Cl} {W : WX}
theorem PostB.later {H F H' F' : Hp} {σ : L2.St} {cx : List Addr} {r : Rs D} {Q : VK} (p : PostB X W H F σ cx r Q) (l : Le F F') (kk : ∀ a ∈ cx, H' a = H a) : PostB X W H' F' σ cx r Q :=
  ⟨fun d t' e v H2 F2 cd cs' l2 k2 s2 g2 rd => p.1 d t' e v H2 F2 cd cs' (l.trans l2) (fun a ha => (k2 a ha).trans (kk a ha)) s2 g2 rd,
   fun x t' e cls od H2 F2 cs' l2 k2 s2 g2 rx => p.2 x t' e cls od H2 F2 cs' (l.trans l2) (fun a ha => (k2 a ha).trans (kk a ha)) s2 g2 rx⟩
/-- all that a call needs behind its operands -/
structure Rdy (X : Cx) (H F : Hp) (σ : L2.St) (cx : List Addr) (w : Tr → Option D → Option Tr) (os : List Opd) (t2 : Tr) (args : List (Bool × D)) (ws : List V) : Prop where
  x : ∃ qv rest c1 c2, Ends X.K X.mg H F σ w qv rest ∧ Rps X.K X.mg H F (args.map (·.2)) ws c1 ∧ SR X.K X.mg H F t2 σ c2 ∧ Good H F (c1 ++ c2 ++ rest ++ cx) ∧ RV σ qv os ws
theorem rdy_none {H F : Hp} {σ : L2.St} {cx cs cv : List Addr} {os : List Opd} {t1 t2 : Tr} {args : List (Bool × D)} {ws : List V} (e : lend none os t1 = some (args, t2)) (s : SR X.K X.mg H F t1 σ cs) (g : Good H F (cv ++ cs ++ cx)) (ro : RO X.K X.mg H F σ none os ws cv) : Rdy X H F σ cx noW os t2 args ws := by
  obtain ⟨rv, c1, c2, r1, s2, p⟩ := lend_none e s ro
  refine ⟨.non, [], c1, c2, ends_no _, r1, s2, g.perm (perm_of fun z => ?_), rv _⟩
  have := p.count_eq z
  simp only [List.count_append, List.count_nil] at *
  omega
theorem rdy_some {H F : Hp} {σ : L2.St} {cx cs cv : List Addr} {os : List Opd} {t1 t2 : Tr} {args : List (Bool × D)} {ws : List V} {h : HD} {d1 : D} {st : List Stp} (hs : dpOf h.i os = some st) (hg : getP h.d st = some d1) (e : lend (some d1) os t1 = some (args, t2)) (s : SR X.K X.mg H F t1 σ cs) (g : Good H F (cv ++ cs ++ (h.c ++ cx)))
    (ro : RO X.K X.mg H F σ (some h) os ws cv) (hv : σ[h.i]? = some (some h.v)) : Rdy X H F σ cx (backW h.i h.d st) os t2 args ws := by
  obtain ⟨i, st', h', d1', v, eh, ei, es, foc, rv, y⟩ := lend_some e s ro
  cases eh
  subst ei
  rw [hs] at es; cases es
  obtain ⟨fg, cf, rest, p, rp, back⟩ := foc
  rw [hg] at fg; cases fg
  obtain ⟨c1, c2, r1, s2, p2⟩ := y cf rp
  refine ⟨v, rest, c1, c2, ends_back hv back, r1, s2, g.perm (perm_of fun z => ?_), rv⟩
  have a1 := p.count_eq z
  have a2 := p2.count_eq z
  simp only [List.count_append] at *
  omega
theorem isC_ok {H F : Hp} {C m : Str} {d : D} {v : V} {c : List Addr} {A : Addr} (h : isC C m d = true) (r : Rp X.K X.mg H F d v c) (l : Le F H) (hA : X.mg C = some (.ref A)) : ∃ a dx fs, v = .ref a ∧ H a = some (.ins A dx fs) ∧ fs.lookup m = none := by
  cases d with
  | ins o C' fs xs =>
    simp only [isC, decide_eq_true_eq] at h
    obtain ⟨rfl, hm⟩ := h
    have lk : ∀ {vs : List V}, (fs.zip vs).lookup m = none := by
      intro vs
      rw [List.lookup_eq_none_iff]
      rintro ⟨a, b⟩ hp
      have := (List.of_mem_zip hp).1
      simp only [bne_iff_ne, ne_eq]
      intro e
      subst e
      exact hm this
    cases o with
    | true =>
      simp only [Rp] at r
      obtain ⟨a, A', dx, vs, c', rfl, q, _, q2, _, _⟩ := r
      rw [hA] at q; cases q
      exact ⟨a, dx, _, rfl, q2, lk⟩
    | false =>
      simp only [Rp] at r
      obtain ⟨a, A', dx, vs, rfl, q, _, q2, _⟩ := r
      rw [hA] at q; cases q
      exact ⟨a, dx, _, rfl, l _ _ q2, lk⟩
  | _ => simp [isC] at h
theorem callK_some {f : Fn} {os : List Opd} {t : Tr} {q : Option D} {w : Tr → Option D → Option Tr} {r : Rs D} (h : callK cl f os t q w = some r) : ∃ args t2 key, lend q os t = some (args, t2) ∧ fkey f args = some key ∧ backF w os t2 key cl args f = some r := by
  unfold callK at h
  obtain ⟨⟨args, t2⟩, h1, h2⟩ := Option.bind_eq_some_iff.mp h
  obtain ⟨key, h3, h4⟩ := Option.bind_eq_some_iff.mp h2
  exact ⟨args, t2, key, h1, h3, h4⟩
/-- the operands of a call: those in the text -/
theorem glob_ok (ok : BOk P X N sc k cl W) {f : Str} {p pos : Pos} {as : List Expr} (hf : P.fn f = true) (hg : glB sc f = true) (hdb : (f == ("__debug__" : Str)) = false) (hp : as.all plainX = true) {es : List (B P)} (hos : OsOk X W cl es as) {t rt : Tr} {h : Option Nat} {hd : Option HD} {r : Rs D}
    {K : List Opd → Tr → Option (Rs D)} (he : bindR (evOs cl h rt es t) K = some r) {σ : L2.St} {H F : Hp} {cs cx cy : List Addr} {Q : VK} (s : BS X.K X.mg H F t rt σ cs (cy ++ cx)) (hh : h = hd.map HD.i) (hx : ∀ x, hd = some x → HDok X.K X.mg H F rt σ (cy ++ cx) x) (kp : PostB X W H F σ cx r Q)
    (hK : ∀ os t1, K os t1 = some r → ∃ w q, callK cl (.glob f) os t1 q w = some r ∧ ∀ ws H' F' cv cs' args t2, Le F F' → (∀ a ∈ cy ++ cx, H' a = H a) → SR X.K X.mg H' F' t1 σ cs' → Good H' F' (cv ++ cs' ++ (cy ++ cx)) → RO X.K X.mg H' F' σ hd os ws cv → lend q os t1 = some (args, t2) → Rdy X H' F' σ cx w os t2 args ws) :
    mx X (.Call (.Name f p) as [] pos) σ H Q := by
  refine mx_fn ok hf hg hdb hp ?_
  rcases bindR_some he with ⟨os, t1, e1, e2⟩ | ⟨x, t1, e1, rfl⟩
  · obtain ⟨w, q, e3, hr⟩ := hK os t1 e2
    obtain ⟨args, t2, key, e4, e5, e6⟩ := callK_some e3
    refine os_at hos e1 s hh hx fun ws H' F' cv cs' l kk s' g' ro => ?_
    obtain ⟨qv, rest, c1, c2, E, rp, s2, g2, rv⟩ := hr ws H' F' cv cs' args t2 l kk s' g' ro e4
    simp only [fkey, Option.some.injEq] at e5
    subst e5
    exact sp_end E rp s2 g2 rv e6 (kp.later l fun a ha => kk a (by simp [ha]))
  · exact os_ex hos e1 s hh hx fun cls od H' F' cs' l kk s' g' rx => kp.2 x t1 rfl cls od H' F' cs' l (fun a ha => kk a (by simp [ha])) s' (g'.part (g := cy) (perm_of fun z => by simp only [List.count_append]; omega)) rx
theorem globv_ok (ok : BOk P X N sc k cl W) {f x : Str} {i : Nat} {p pos : Pos} {as : List Expr} (hf : P.fn f = true) (hg : visB N sc i x = true) (hp : as.all plainX = true) (hne : as.isEmpty = false) {es : List (B P)} (hos : OsOk X W cl es as) {t rt : Tr} {h : Option Nat} {hd : Option HD} {r : Rs D}
    {K : List Opd → Tr → Option (Rs D)} (he : bindR (evOs cl h rt es t) K = some r) {σ : L2.St} {H F : Hp} {cs cx cy : List Addr} {Q : VK} (s : BS X.K X.mg H F t rt σ cs (cy ++ cx)) (hh : h = hd.map HD.i) (hx : ∀ x, hd = some x → HDok X.K X.mg H F rt σ (cy ++ cx) x) (kp : PostB X W H F σ cx r Q) (hsl : ∃ a, σ[i]? = some (some (.ref a)) ∧ X.mg f = some (.ref a))
    (hK : ∀ os t1, K os t1 = some r → ∃ w q, callK cl (.glob f) os t1 q w = some r ∧ ∀ ws H' F' cv cs' args t2, Le F F' → (∀ a ∈ cy ++ cx, H' a = H a) → SR X.K X.mg H' F' t1 σ cs' → Good H' F' (cv ++ cs' ++ (cy ++ cx)) → RO X.K X.mg H' F' σ hd os ws cv → lend q os t1 = some (args, t2) → Rdy X H' F' σ cx w os t2 args ws) :
    mx X (.Call (.Name x p) as [] pos) σ H Q := by
  refine mx_fv ok hf hg hp hne hsl ?_
  rcases bindR_some he with ⟨os, t1, e1, e2⟩ | ⟨x', t1, e1, rfl⟩
  · obtain ⟨w, q, e3, hr⟩ := hK os t1 e2
    obtain ⟨args, t2, key, e4, e5, e6⟩ := callK_some e3
    refine os_at hos e1 s hh hx fun ws H' F' cv cs' l kk s' g' ro => ?_
    obtain ⟨qv, rest, c1, c2, E, rp, s2, g2, rv⟩ := hr ws H' F' cv cs' args t2 l kk s' g' ro e4
    simp only [fkey, Option.some.injEq] at e5
    subst e5
    exact sp_end E rp s2 g2 rv e6 (kp.later l fun a ha => kk a (by simp [ha]))
  · exact os_ex hos e1 s hh hx fun cls od H' F' cs' l kk s' g' rx => kp.2 x' t1 rfl cls od H' F' cs' l (fun a ha => kk a (by simp [ha])) s' (g'.part (g := cy) (perm_of fun z => by simp only [List.count_append]; omega)) rx
theorem globb_ok (ok : BOk P X N sc k cl W) {f : Str} {p pos : Pos} {as : List Expr} (hf : P.fn f = true) (hg : glB sc f = true) (hdb : (f == ("__debug__" : Str)) = false) (hp : as.all plainX = true) {es : List (B P)} (hos : OsOk X W cl es as) {t rt : Tr} {h : Option Nat} {hd : Option HD} {r : Rs D}
    {K : List Opd → Tr → Option (Rs D)} (he : bindR (evOs cl h rt es t) K = some r) {σ : L2.St} {H F : Hp} {cs cx cy : List Addr} {Q : VK} (s : BS X.K X.mg H F t rt σ cs (cy ++ cx)) (hh : h = hd.map HD.i) (hx : ∀ x, hd = some x → HDok X.K X.mg H F rt σ (cy ++ cx) x) (kp : PostB X W H F σ cx r Q)
    (hK : ∀ os t1, K os t1 = some r → ∃ w q, callK cl (.globB f) os t1 q w = some r ∧ ∀ ws H' F' cv cs' args t2, Le F F' → (∀ a ∈ cy ++ cx, H' a = H a) → SR X.K X.mg H' F' t1 σ cs' → Good H' F' (cv ++ cs' ++ (cy ++ cx)) → RO X.K X.mg H' F' σ hd os ws cv → lend q os t1 = some (args, t2) → Rdy X H' F' σ cx w os t2 args ws) :
    mx X (.Call (.Name f p) as [] pos) σ H Q := by
  refine mx_fn ok hf hg hdb hp ?_
  rcases bindR_some he with ⟨os, t1, e1, e2⟩ | ⟨x, t1, e1, rfl⟩
  · obtain ⟨w, q, e3, hr⟩ := hK os t1 e2
    obtain ⟨args, t2, key, e4, e5, e6⟩ := callK_some e3
    refine os_at hos e1 s hh hx fun ws H' F' cv cs' l kk s' g' ro => ?_
    obtain ⟨qv, rest, c1, c2, E, rp, s2, g2, rv⟩ := hr ws H' F' cv cs' args t2 l kk s' g' ro e4
    simp only [fkey, Option.some.injEq] at e5
    subst e5
    exact sp_bor (sp_end (cl1 := borC (cl (f, none))) E rp s2 g2 rv e6 (kp.later l fun a ha => kk a (by simp [ha])))
  · exact os_ex hos e1 s hh hx fun cls od H' F' cs' l kk s' g' rx => kp.2 x t1 rfl cls od H' F' cs' l (fun a ha => kk a (by simp [ha])) s' (g'.part (g := cy) (perm_of fun z => by simp only [List.count_append]; omega)) rx
theorem mkk_ok (ok : BOk P X N sc k cl W) {f : Str} {p pos : Pos} {as : List Expr} (hf : P.ck f = true) (hg : glB sc f = true) (hdb : (f == ("__debug__" : Str)) = false) (hp : as.all plainX = true) {es : List (B P)} (hos : OsOk X W cl es as) {t rt : Tr} {h : Option Nat} {hd : Option HD} {r : Rs D}
    {K : List Opd → Tr → Option (Rs D)} (he : bindR (evOs cl h rt es t) K = some r) {σ : L2.St} {H F : Hp} {cs cx cy : List Addr} {Q : VK} (s : BS X.K X.mg H F t rt σ cs (cy ++ cx)) (hh : h = hd.map HD.i) (hx : ∀ x, hd = some x → HDok X.K X.mg H F rt σ (cy ++ cx) x) (kp : PostB X W H F σ cx r Q)
    (hK : ∀ os t1, K os t1 = some r → ∃ w q, callK cl (.mk f) os t1 q w = some r ∧ ∀ ws H' F' cv cs' args t2, Le F F' → (∀ a ∈ cy ++ cx, H' a = H a) → SR X.K X.mg H' F' t1 σ cs' → Good H' F' (cv ++ cs' ++ (cy ++ cx)) → RO X.K X.mg H' F' σ hd os ws cv → lend q os t1 = some (args, t2) → Rdy X H' F' σ cx w os t2 args ws) :
    mx X (.Call (.Name f p) as [] pos) σ H Q := by
  refine mx_mk ok hf hg hdb hp fun A hA => ?_
  rcases bindR_some he with ⟨os, t1, e1, e2⟩ | ⟨x, t1, e1, rfl⟩
  · obtain ⟨w, q, e3, hr⟩ := hK os t1 e2
    obtain ⟨args, t2, key, e4, e5, e6⟩ := callK_some e3
    refine os_at hos e1 s hh hx fun ws H' F' cv cs' l kk s' g' ro => ?_
    obtain ⟨qv, rest, c1, c2, E, rp, s2, g2, rv⟩ := hr ws H' F' cv cs' args t2 l kk s' g' ro e4
    simp only [fkey, Option.some.injEq] at e5
    subst e5
    intro x dx h1 h2 h3
    exact mk_end E hA rp s2 g2 rv e6 (kp.later l fun a ha => kk a (by simp [ha])) h1 h2 h3
  · exact os_ex hos e1 s hh hx fun cls od H' F' cs' l kk s' g' rx => kp.2 x t1 rfl cls od H' F' cs' l (fun a ha => kk a (by simp [ha])) s' (g'.part (g := cy) (perm_of fun z => by simp only [List.count_append]; omega)) rx
theorem mkkd_ok (ok : BOk P X N sc k cl W) {f : Str} {p pos : Pos} {as : List Expr} {dv : D} (hf : P.ck f = true) (hk : P.dk f = some dv) (hg : glB sc f = true) (hdb : (f == ("__debug__" : Str)) = false) (hp : as.all plainX = true) {es : List (B P)} (hos : OsOk X W cl es as) {t rt : Tr} {h : Option Nat} {hd : Option HD} {r : Rs D}
    {K : List Opd → Tr → Option (Rs D)} (he : bindR (evOs cl h rt es t) K = some r) {σ : L2.St} {H F : Hp} {cs cx cy : List Addr} {Q : VK} (s : BS X.K X.mg H F t rt σ cs (cy ++ cx)) (hh : h = hd.map HD.i) (hx : ∀ x, hd = some x → HDok X.K X.mg H F rt σ (cy ++ cx) x) (kp : PostB X W H F σ cx r Q)
    (hK : ∀ os t1, K os t1 = some r → ∃ w q, callK cl (.mkd f dv) os t1 q w = some r ∧ ∀ ws H' F' cv cs' args t2, Le F F' → (∀ a ∈ cy ++ cx, H' a = H a) → SR X.K X.mg H' F' t1 σ cs' → Good H' F' (cv ++ cs' ++ (cy ++ cx)) → RO X.K X.mg H' F' σ hd os ws cv → lend q os t1 = some (args, t2) → Rdy X H' F' σ cx w os t2 args ws) :
    mx X (.Call (.Name f p) as [] pos) σ H Q := by
  refine mx_mkd ok hf hk hg hdb hp fun A v hA hv => ?_
  rcases bindR_some he with ⟨os, t1, e1, e2⟩ | ⟨x, t1, e1, rfl⟩
  · obtain ⟨w, q, e3, hr⟩ := hK os t1 e2
    obtain ⟨args, t2, key, e4, e5, e6⟩ := callK_some e3
    refine os_at hos e1 s hh hx fun ws H' F' cv cs' l kk s' g' ro => ?_
    obtain ⟨qv, rest, c1, c2, E, rp, s2, g2, rv⟩ := hr ws H' F' cv cs' args t2 l kk s' g' ro e4
    simp only [fkey, Option.some.injEq] at e5
    subst e5
    intro x dx h1 h2 h3
    exact sp_dfl (vs := .ref x :: ws) hv (mk_end (cl1 := fun args => cutO (cl (f, some "__init__") (args ++ [(false, dv)]))) E hA rp s2 g2 rv e6 (kp.later l fun a ha => kk a (by simp [ha])) h1 h2 h3)
  · exact os_ex hos e1 s hh hx fun cls od H' F' cs' l kk s' g' rx => kp.2 x t1 rfl cls od H' F' cs' l (fun a ha => kk a (by simp [ha])) s' (g'.part (g := cy) (perm_of fun z => by simp only [List.count_append]; omega)) rx
theorem meth_ok (ok : BOk P X N sc k cl W) {C m : Str} {o : Expr} {apos pos : Pos} {as : List Expr} (hf : P.mt C m = true) (ho : plainX o = true) (hp : as.all plainX = true) (hlen : as.length < 29) (hl : (apos.endLine == pos.line) = true) {es : List (B P)} (hos : OsHd X W cl es o as) {t rt : Tr} {h : Option Nat} {hd : Option HD} {r : Rs D}
    (hrc : rcvOk (.meth C m) (hdD cl rt es t) = true)
    {K : List Opd → Tr → Option (Rs D)} (he : bindR (evOs cl h rt es t) K = some r) {σ : L2.St} {H F : Hp} {cs cx cy : List Addr} {Q : VK} (s : BS X.K X.mg H F t rt σ cs (cy ++ cx)) (hh : h = hd.map HD.i) (hx : ∀ x, hd = some x → HDok X.K X.mg H F rt σ (cy ++ cx) x) (kp : PostB X W H F σ cx r Q)
    (hK : ∀ os t1, K os t1 = some r → ∃ w q, callK cl (.meth C m) os t1 q w = some r ∧ ∀ ws H' F' cv cs' args t2, Le F F' → (∀ a ∈ cy ++ cx, H' a = H a) → SR X.K X.mg H' F' t1 σ cs' → Good H' F' (cv ++ cs' ++ (cy ++ cx)) → RO X.K X.mg H' F' σ hd os ws cv → lend q os t1 = some (args, t2) → Rdy X H' F' σ cx w os t2 args ws) :
    mx X (.Call (.Attribute o m apos) as [] pos) σ H Q := by
  refine mx_meth ok hf ho hp hlen hl fun A hA => ?_
  have fin : ∀ (x : V) (H1 : Hp), ((∃ d F1 c, hdD cl rt es t = some d ∧ Rp X.K X.mg H1 F1 d x c ∧ Le F1 H1) ∧ tOps (as.map (mx X)) (fun vs H2 Q => spOf X.K X.mg (cl (C, some m)) (x :: vs) H2 Q (WE W σ)) σ H1 Q) →
      ∃ a dx fs, x = .ref a ∧ H1 a = some (.ins A dx fs) ∧ fs.lookup m = none ∧ tOps (as.map (mx X)) (fun vs H2 Q => spOf X.K X.mg (cl (C, some m)) (x :: vs) H2 Q (WE W σ)) σ H1 Q := fun x H1 ⟨⟨d, F1, c, e, rp, l⟩, q⟩ => by
    rw [e] at hrc
    obtain ⟨a, dx, fs, e1, e2, e3⟩ := isC_ok hrc rp l hA
    exact ⟨a, dx, fs, e1, e2, e3, q⟩
  rcases bindR_some he with ⟨os, t1, e1, e2⟩ | ⟨x, t1, e1, rfl⟩
  · obtain ⟨w, q, e3, hr⟩ := hK os t1 e2
    obtain ⟨args, t2, key, e4, e5, e6⟩ := callK_some e3
    refine mx_mono (hos h rt t _ e1 σ H F cs (cy ++ cx) hd (fun vs H2 Q => spOf X.K X.mg (cl (C, some m)) vs H2 Q (WE W σ)) Q s hh hx ⟨fun os' t' ee ws H' F' cv cs' l kk s' g' ro => ?_, fun _ _ ee => nomatch ee⟩) fin
    cases ee
    obtain ⟨qv, rest, c1, c2, E, rp, s2, g2, rv⟩ := hr ws H' F' cv cs' args t2 l kk s' g' ro e4
    have e7 : key = (C, some m) := by
      cases args with
      | nil => simp [fkey] at e5
      | cons z zs =>
        simp only [fkey] at e5
        split at e5
        · cases e5; rfl
        · cases e5
    subst e7
    exact sp_end E rp s2 g2 rv e6 (kp.later l fun a ha => kk a (by simp [ha]))
  · refine mx_mono (hos h rt t _ e1 σ H F cs (cy ++ cx) hd (fun vs H2 Q => spOf X.K X.mg (cl (C, some m)) vs H2 Q (WE W σ)) Q s hh hx ⟨fun _ _ ee => (nomatch ee), fun x' t' ee cls od H' F' cs' l kk s' g' rx => ?_⟩) fin
    cases ee
    exact kp.2 x t1 rfl cls od H' F' cs' l (fun a ha => kk a (by simp [ha])) s' (g'.part (g := cy) (perm_of fun z => by simp only [List.count_append]; omega)) rx
end
end Ev
end
section
set_option maxRecDepth 100000
set_option maxHeartbeats 4000000
namespace Ev
open PySem PySem.Spec L2
section
variable {P : Pg} {cl : Cl}
theorem hid_K {X : Cx} {W : WX} {f : Fn} {h : HD} {r : Rs D} {H F : Hp} {σ : L2.St} {cx : List Addr} (hv : σ[h.i]? = some (some h.v)) : ∀ os t1, ((dpOf h.i os).bind fun st => (getP h.d st).bind fun d1 => callK cl f os t1 (some d1) (backW h.i h.d st)) = some r →
    ∃ w q, callK cl f os t1 q w = some r ∧ ∀ ws H' F' cv cs' args t2, Le F F' → (∀ a ∈ h.c ++ cx, H' a = H a) → SR X.K X.mg H' F' t1 σ cs' → Good H' F' (cv ++ cs' ++ (h.c ++ cx)) → RO X.K X.mg H' F' σ (some h) os ws cv → lend q os t1 = some (args, t2) → Rdy X H' F' σ cx w os t2 args ws := by
  intro os t1 e
  obtain ⟨st, e1, e2⟩ := Option.bind_eq_some_iff.mp e
  obtain ⟨d1, e3, e4⟩ := Option.bind_eq_some_iff.mp e2
  exact ⟨_, _, e4, fun ws H' F' cv cs' args t2 l kk s' g' ro el => rdy_some e1 e3 el s' g' ro hv⟩
theorem no_K {X : Cx} {W : WX} {f : Fn} {r : Rs D} {H F : Hp} {σ : L2.St} {cx : List Addr} : ∀ os t1, callK cl f os t1 none noW = some r →
    ∃ w q, callK cl f os t1 q w = some r ∧ ∀ ws H' F' cv cs' args t2, Le F F' → (∀ a ∈ [] ++ cx, H' a = H a) → SR X.K X.mg H' F' t1 σ cs' → Good H' F' (cv ++ cs' ++ ([] ++ cx)) → RO X.K X.mg H' F' σ none os ws cv → lend q os t1 = some (args, t2) → Rdy X H' F' σ cx w os t2 args ws :=
  fun os t1 e => ⟨_, _, e, fun ws H' F' cv cs' args t2 l kk s' g' ro el => rdy_none el s' g' ro⟩
/-- a call in the text -/
theorem call_ok {X : Cx} {N : List Str} {sc : Scope} {k : Nat} {W : WX} (ok : BOk P X N sc k cl W) {f : Fn} {hid : Option Nat} {es : List (B P)} {e : Expr} (hc : chkB N sc (.call f hid es) e = true)
    (ho : ∀ xs, chkBs N sc es xs = true → OsOk X W cl es xs ∧ ∀ x ys, xs = x :: ys → OsHd X W cl es x ys) {t rt : Tr} : ValB X W cl t rt (.call f hid es) e := by
  intro r hr σ H F cs cx Q s kp
  cases hid with
  | none =>
    simp only [evB] at hr
    split at hr
    case isFalse => cases hr
    case isTrue hrc =>
    have s0 : BS X.K X.mg H F t rt σ cs ([] ++ cx) := s
    match f, e, hc, hr, hrc with
    | .fv i, .Call (.Name x p) as [] pos, hc, hr, hrc =>
      simp only [chkB, Bool.and_eq_true, Bool.not_eq_true'] at hc
      obtain ⟨⟨⟨h1, h2⟩, h3⟩, h4⟩ := hc
      simp only [resF] at hr
      split at hr
      · rename_i g hi
        split at hr
        · rename_i hf
          rw [Option.bind_some] at hr
          obtain ⟨v, c1, c2, ev, rp, _, _⟩ := s.s.take hi
          simp only [Rp] at rp
          obtain ⟨⟨a, rfl, hm⟩, _⟩ := rp
          exact globv_ok ok hf h1 h2 h3 (ho as h4).1 hr s0 rfl no_hd kp ⟨a, ev, hm⟩ (no_K (W := W))
        · cases hr
      · cases hr
    | .glob f, .Call (.Name x p) as [] pos, hc, hr, hrc =>
      simp only [chkB, Bool.and_eq_true, Bool.not_eq_true', decide_eq_true_eq] at hc
      obtain ⟨⟨⟨⟨⟨h1, rfl⟩, h3⟩, h4⟩, h5⟩, h6⟩ := hc
      exact glob_ok ok h1 h3 h4 h5 (ho as h6).1 hr s0 rfl no_hd kp (no_K (W := W))
    | .globB f, .Call (.Name x p) as [] pos, hc, hr, hrc =>
      simp only [chkB, Bool.and_eq_true, Bool.not_eq_true', decide_eq_true_eq] at hc
      obtain ⟨⟨⟨⟨⟨h1, rfl⟩, h3⟩, h4⟩, h5⟩, h6⟩ := hc
      exact globb_ok ok h1 h3 h4 h5 (ho as h6).1 hr s0 rfl no_hd kp (no_K (W := W))
    | .mk f, .Call (.Name x p) as [] pos, hc, hr, hrc =>
      simp only [chkB, Bool.and_eq_true, Bool.not_eq_true', decide_eq_true_eq] at hc
      obtain ⟨⟨⟨⟨⟨h1, rfl⟩, h3⟩, h4⟩, h5⟩, h6⟩ := hc
      exact mkk_ok ok h1 h3 h4 h5 (ho as h6).1 hr s0 rfl no_hd kp (no_K (W := W))
    | .mkd f dv, .Call (.Name x p) as [] pos, hc, hr, hrc =>
      simp only [chkB, Bool.and_eq_true, Bool.not_eq_true', decide_eq_true_eq] at hc
      obtain ⟨⟨⟨⟨⟨⟨h1, rfl⟩, h3⟩, h4⟩, h5⟩, h6⟩, h7⟩ := hc
      exact mkkd_ok ok h1 (dkOk_ok h7) h3 h4 h5 (ho as h6).1 hr s0 rfl no_hd kp (no_K (W := W))
    | .meth C m, .Call (.Attribute o n apos) as [] pos, hc, hr, hrc =>
      simp only [chkB, Bool.and_eq_true, Bool.not_eq_true', decide_eq_true_eq] at hc
      obtain ⟨⟨⟨⟨⟨⟨h1, rfl⟩, h3⟩, h4⟩, h5⟩, h6⟩, h7⟩ := hc
      exact meth_ok ok h1 h3 h4 h5 h6 ((ho (o :: as) h7).2 o as rfl) hrc hr s0 rfl no_hd kp (no_K (W := W))
  | some i =>
    simp only [evB] at hr
    split at hr
    case h_2 => cases hr
    case h_1 d0 hi =>
    split at hr
    case isFalse => cases hr
    case isTrue hrc =>
    obtain ⟨h, ch, rfl, rfl, s1, hx, hv, hlen⟩ := s.hide hi
    have hir : h.i < rt.length := by rw [← hlen]; exact (List.getElem?_eq_some_iff.mp hi).1
    have hx := hx hir
    have hxx : ∀ x, some h = some x → HDok X.K X.mg H F (rt.set h.i (some h.d)) σ (h.c ++ cx) x := fun x e => by cases e; exact hx
    match f, e, hc, hr, hrc with
    | .glob f, .Call (.Name x p) as [] pos, hc, hr, hrc =>
      simp only [chkB, Bool.and_eq_true, Bool.not_eq_true', decide_eq_true_eq] at hc
      obtain ⟨⟨⟨⟨⟨h1, rfl⟩, h3⟩, h4⟩, h5⟩, h6⟩ := hc
      exact glob_ok ok h1 h3 h4 h5 (ho as h6).1 hr s1 (hd := some h) rfl hxx kp (hid_K (W := W) hv)
    | .globB f, .Call (.Name x p) as [] pos, hc, hr, hrc =>
      simp only [chkB, Bool.and_eq_true, Bool.not_eq_true', decide_eq_true_eq] at hc
      obtain ⟨⟨⟨⟨⟨h1, rfl⟩, h3⟩, h4⟩, h5⟩, h6⟩ := hc
      exact globb_ok ok h1 h3 h4 h5 (ho as h6).1 hr s1 (hd := some h) rfl hxx kp (hid_K (W := W) hv)
    | .mk f, .Call (.Name x p) as [] pos, hc, hr, hrc =>
      simp only [chkB, Bool.and_eq_true, Bool.not_eq_true', decide_eq_true_eq] at hc
      obtain ⟨⟨⟨⟨⟨h1, rfl⟩, h3⟩, h4⟩, h5⟩, h6⟩ := hc
      exact mkk_ok ok h1 h3 h4 h5 (ho as h6).1 hr s1 (hd := some h) rfl hxx kp (hid_K (W := W) hv)
    | .mkd f dv, .Call (.Name x p) as [] pos, hc, hr, hrc =>
      simp only [chkB, Bool.and_eq_true, Bool.not_eq_true', decide_eq_true_eq] at hc
      obtain ⟨⟨⟨⟨⟨⟨h1, rfl⟩, h3⟩, h4⟩, h5⟩, h6⟩, h7⟩ := hc
      exact mkkd_ok ok h1 (dkOk_ok h7) h3 h4 h5 (ho as h6).1 hr s1 (hd := some h) rfl hxx kp (hid_K (W := W) hv)
    | .meth C m, .Call (.Attribute o n apos) as [] pos, hc, hr, hrc =>
      simp only [chkB, Bool.and_eq_true, Bool.not_eq_true', decide_eq_true_eq] at hc
      obtain ⟨⟨⟨⟨⟨⟨h1, rfl⟩, h3⟩, h4⟩, h5⟩, h6⟩, h7⟩ := hc
      exact meth_ok ok h1 h3 h4 h5 h6 ((ho (o :: as) h7).2 o as rfl) hrc hr s1 (hd := some h) rfl hxx kp (hid_K (W := W) hv)
theorem call_plain {N : List Str} {sc : Scope} {f : Fn} {hid : Option Nat} {es : List (B P)} {e : Expr} (hc : chkB N sc (.call f hid es) e = true) : testPlain e = true := by
  cases e with
  | Call fn as ks pos => rfl
  | _ => cases f <;> simp [chkB] at hc
theorem os_nil {X : Cx} {W : WX} : OsOk X W cl ([] : List (B P)) [] := by
  intro h rt t r he σ H F cs cx hd R Q s hh hx k
  simp only [evOs] at he
  cases he
  exact k.1 _ _ rfl [] H F [] cs (Le.refl F) (fun _ _ => rfl) s.s s.g (by simp only [RO]; exact ⟨trivial, trivial⟩)
def An (X : Cx) (W : WX) (cl : Cl) (rt : Tr) (bs : List (B P)) (op : BoolOp) (es : List Expr) (ev : List (B P) → Tr → Option (Rs D)) : Prop := ∀ pos t r, ev bs t = some r → ∀ (σ : L2.St) (H F : Hp) (cs cx : List Addr), BS X.K X.mg H F t rt σ cs cx →
  (∀ Q : VK, PostB X W H F σ cx r Q → mx X (.BoolOp op es pos) σ H Q) ∧ (BlR r → ∀ Q : Bool → Hp → Prop, PostB X W H F σ cx r (fun v H' => ∃ b, v = .bl b ∧ Q b H') → mxW X (.BoolOp op es pos) σ H Q)
mutual
theorem evB_ok : ∀ (b : B P) {X : Cx} {N : List Str} {sc : Scope} {k : Nat} {W : WX} (ok : BOk P X N sc k cl W) (e : Expr), chkB N sc b e = true → ∀ t rt, ValB X W cl t rt b e ∧ TstB X W cl t rt b e
  | .pu a, X, N, sc, k, W, ok, e, hc, t, rt => by
    simp only [chkB, Bool.and_eq_true] at hc
    obtain ⟨h1, h2⟩ := evA_ok (tr := t) (rt := rt) ok.x a e hc.1
    refine ⟨fun r hr σ H F cs cx Q s kp => ?_, fun r hr bl σ H F cs cx Q s kp => ?_⟩
    · simp only [evB] at hr
      obtain ⟨d, e1, e2⟩ := Option.bind_eq_some_iff.mp hr
      split at e2
      · rename_i hf
        cases e2
        refine h1 d e1 σ H F (cs ++ cx) Q s.stt fun v H' F' c' cd l kk g' hcc hcd fr rp => ?_
        have sk := s.s.keep l fun a ha => kk a (by simp [ha])
        rcases hf with hf | hf
        · exact kp.1 d t rfl v H' F' [] cs l (fun a ha => kk a (by simp [ha])) sk (s.g.of g' hcc) (rp.flat hf)
        · exact kp.1 d t rfl v H' F' cd cs l (fun a ha => kk a (by simp [ha])) sk (by rw [List.append_assoc]; exact fr (by rw [hf]; rfl)) rp
      · cases e2
    · simp only [evB] at hr
      obtain ⟨d, e1, e2⟩ := Option.bind_eq_some_iff.mp hr
      split at e2
      · rename_i hf
        cases e2
        obtain ⟨b, rfl⟩ := bl _ _ rfl
        refine h2 hc.2 b e1 σ H F (cs ++ cx) Q s.stt fun H' F' c' l kk g' hcc => ?_
        have sk := s.s.keep l fun a ha => kk a (by simp [ha])
        obtain ⟨b', eb, q⟩ := kp.1 _ t rfl (.bl b) H' F' [] cs l (fun a ha => kk a (by simp [ha])) sk (s.g.of g' hcc) (by simp only [Rp]; exact ⟨trivial, trivial⟩)
        cases eb
        exact q
      · cases e2
  | .nm i, X, N, sc, k, W, ok, e, hc, t, rt => by
    cases e with
    | Name x pos =>
      obtain ⟨h1, h2, h3, h4⟩ := visB_ok ok.x hc
      refine bothB (fun r hr σ H F cs cx Q s kp => ?_) rfl
      simp only [evB] at hr
      split at hr
      · rename_i d hi
        cases hr
        obtain ⟨v, c1, c2, ev, rp, s2, p⟩ := s.s.take hi
        refine mx_of (pe_var h1 h2 h3 h4) ⟨v, ev, ?_⟩
        have g1 : Good H F (c1 ++ (c2 ++ cx)) := s.g.perm (perm_of fun z => by have := p.count_eq z; simp only [List.count_append] at *; omega)
        have rf : Rp X.K X.mg H (join F H c1) (frz d) v [] := Rp.frz g1.le_join d v c1 rp fun a ha => join_in ha
        have s3 := SR.put (s2.keep (H' := H) g1.le_join fun _ _ => rfl) (List.getElem?_eq_some_iff.mp hi).1 ev rf
        exact kp.1 _ _ rfl v H (join F H c1) [] c2 g1.le_join (fun _ _ => rfl) s3 g1.join rf
      · cases hr
    | _ => simp [chkB] at hc
  | .mv i, X, N, sc, k, W, ok, e, hc, t, rt => by
    cases e with
    | Name x pos =>
      obtain ⟨h1, h2, h3, h4⟩ := visB_ok ok.x hc
      refine bothB (fun r hr σ H F cs cx Q s kp => ?_) rfl
      simp only [evB] at hr
      split at hr
      · rename_i d hi
        cases hr
        obtain ⟨v, c1, c2, ev, rp, s2, p⟩ := s.s.take hi
        refine mx_of (pe_var h1 h2 h3 h4) ⟨v, ev, ?_⟩
        exact kp.1 _ _ rfl v H F c1 c2 (Le.refl F) (fun _ _ => rfl) s2 (s.g.perm (perm_of fun z => by have := p.count_eq z; simp only [List.count_append] at *; omega)) rp
      · cases hr
    | _ => simp [chkB] at hc
  | .fz a, X, N, sc, k, W, ok, e, hc, t, rt => by
    simp only [chkB, Bool.and_eq_true] at hc
    refine bothB (fun r hr σ H F cs cx Q s kp => ?_) hc.2
    simp only [evB] at hr
    rcases bindR_some hr with ⟨d, t1, e1, e2⟩ | ⟨y, t1, e1, rfl⟩
    · cases e2
      refine (evB_ok a ok e hc.1 t rt).1 _ e1 σ H F cs cx Q s ⟨fun d' t' ee v H' F' cd cs' l kk s' g' rp => ?_, fun _ _ ee => nomatch ee⟩
      cases ee
      have g1 : Good H' F' (cd ++ (cs' ++ cx)) := by rw [← List.append_assoc]; exact g'
      have rf : Rp X.K X.mg H' (join F' H' cd) (frz d) v [] := Rp.frz g1.le_join d v cd rp fun a ha => join_in ha
      exact kp.1 _ _ rfl v H' (join F' H' cd) [] cs' (l.trans g1.le_join) kk (s'.keep (H' := H') g1.le_join fun _ _ => rfl) g1.join rf
    · exact (evB_ok a ok e hc.1 t rt).1 _ e1 σ H F cs cx Q s ⟨fun _ _ ee => (nomatch ee), fun x' t' ee => by cases ee; exact kp.2 y t1 rfl⟩
  | .rf i, X, N, sc, k, W, ok, e, hc, t, rt => ⟨fun r hr => by simp [evB] at hr, fun r hr => by simp [evB] at hr⟩
  | .dp i, X, N, sc, k, W, ok, e, hc, t, rt => ⟨fun r hr => by simp [evB] at hr, fun r hr => by simp [evB] at hr⟩
  | .q o es, X, N, sc, k, W, ok, e, hc, t, rt => by
    simp only [chkB] at hc
    split at hc
    · rename_i xs hsh
      exact q_ok ok.x hsh (evOs_ok es ok xs hc).1
    · cases hc
  | .tup es, X, N, sc, k, W, ok, e, hc, t, rt => by
    cases e with
    | Tuple xs n pos =>
      simp only [chkB, Bool.and_eq_true] at hc
      exact bothB (tup_ok hc.1 (evOs_ok es ok xs hc.2).1) rfl
    | _ => simp [chkB] at hc
  | .lst es, X, N, sc, k, W, ok, e, hc, t, rt => by
    cases e with
    | List xs pos =>
      simp only [chkB, Bool.and_eq_true] at hc
      exact bothB (lst_ok hc.1 (evOs_ok es ok xs hc.2).1) rfl
    | _ => simp [chkB] at hc
  | .and es, X, N, sc, k, W, ok, e, hc, t, rt => by
    cases e with
    | BoolOp op xs pos =>
      cases op with
      | And =>
        simp only [chkB] at hc
        have z := (evAn_ok es ok xs hc rt).1
        exact ⟨fun r hr σ H F cs cx Q s kp => (z pos t r (by simpa only [evB] using hr) σ H F cs cx s).1 Q kp, fun r hr bl σ H F cs cx Q s kp => ⟨_, pw_mx.pt, (z pos t r (by simpa only [evB] using hr) σ H F cs cx s).2 bl Q kp⟩⟩
      | Or => simp [chkB] at hc
    | _ => simp [chkB] at hc
  | .or es, X, N, sc, k, W, ok, e, hc, t, rt => by
    cases e with
    | BoolOp op xs pos =>
      cases op with
      | Or =>
        simp only [chkB] at hc
        have z := (evAn_ok es ok xs hc rt).2
        exact ⟨fun r hr σ H F cs cx Q s kp => (z pos t r (by simpa only [evB] using hr) σ H F cs cx s).1 Q kp, fun r hr bl σ H F cs cx Q s kp => ⟨_, pw_mx.pt, (z pos t r (by simpa only [evB] using hr) σ H F cs cx s).2 bl Q kp⟩⟩
      | And => simp [chkB] at hc
    | _ => simp [chkB] at hc
  | .not a, X, N, sc, k, W, ok, e, hc, t, rt => by
    cases e with
    | UnaryOp op x pos =>
      cases op with
      | Not =>
        simp only [chkB] at hc
        obtain ⟨h1, h2⟩ := evB_ok a ok x hc t rt
        refine ⟨fun r hr σ H F cs cx Q s kp => ?_, fun r hr bl σ H F cs cx Q s kp => ?_⟩
        · simp only [evB] at hr
          rcases bindR_some hr with ⟨d, t1, e1, e2⟩ | ⟨y, t1, e1, rfl⟩
          · split at e2
            · rename_i b
              cases e2
              refine mx_of (pe_not pe_mx) (h1 _ e1 σ H F cs cx _ s ⟨fun d' t' ee v H' F' cd cs' l kk s' g' rp => ?_, fun _ _ ee => nomatch ee⟩)
              cases ee
              refine ⟨b, rp.blE, ?_⟩
              exact kp.1 _ _ rfl _ H' F' [] cs' l kk s' (g'.part (g := cd) (perm_of fun z => by simp only [List.count_append, List.count_nil]; omega)) (by simp only [Rp]; exact ⟨trivial, trivial⟩)
            · cases e2
          · refine mx_of (pe_not pe_mx) (h1 _ e1 σ H F cs cx _ s ⟨fun _ _ ee => (nomatch ee), fun x' t' ee => by cases ee; exact kp.2 y t1 rfl⟩)
        · simp only [evB] at hr
          rcases bindR_some hr with ⟨d, t1, e1, e2⟩ | ⟨y, t1, e1, rfl⟩
          · split at e2
            · rename_i b
              cases e2
              refine ⟨_, pt_not pt_mx, h2 _ e1 (fun d' t' ee => by cases ee; exact ⟨_, rfl⟩) σ H F cs cx _ s ⟨fun d' t' ee v H' F' cd cs' l kk s' g' rp => ?_, fun _ _ ee => nomatch ee⟩⟩
              cases ee
              refine ⟨b, rp.blE, ?_⟩
              obtain ⟨b', eb, q⟩ := kp.1 _ _ rfl (.bl (!b)) H' F' [] cs' l kk s' (g'.part (g := cd) (perm_of fun z => by simp only [List.count_append, List.count_nil]; omega)) (by simp only [Rp]; exact ⟨trivial, trivial⟩)
              cases eb
              exact q
            · cases e2
          · exact ⟨_, pt_not pt_mx, h2 _ e1 (fun d' t' ee => nomatch ee) σ H F cs cx _ s ⟨fun _ _ ee => (nomatch ee), fun x' t' ee => by cases ee; exact kp.2 y t1 rfl⟩⟩
      | _ => simp [chkB] at hc
    | _ => simp [chkB] at hc
  | .call f hid es, X, N, sc, k, W, ok, e, hc, t, rt => bothB (call_ok ok hc fun xs h => evOs_ok es ok xs h) (call_plain hc)
  | .qm o es, X, N, sc, k, W, ok, e, hc, t, rt => by
    simp only [chkB] at hc
    split at hc
    · rename_i y xs hsh
      rw [Bool.and_eq_true] at hc
      exact bothB (qm_ok ok.x hsh ((evOs_ok es ok (y :: xs) hc.2).2 y xs rfl)) hc.1
    · cases hc
  | .mut o none es, X, N, sc, k, W, ok, e, hc, t, rt => by
    simp only [chkB] at hc
    split at hc
    · rename_i y xs hsh
      rw [Bool.and_eq_true] at hc
      exact bothB (mut0_ok ok.x hsh ((evOs_ok es ok (y :: xs) hc.2).2 y xs rfl)) hc.1
    · cases hc
  | .mut o (some i) es, X, N, sc, k, W, ok, e, hc, t, rt => by
    simp only [chkB] at hc
    split at hc
    · rename_i y xs hsh
      rw [Bool.and_eq_true] at hc
      exact bothB (mut1_ok ok.x hsh ((evOs_ok es ok (y :: xs) hc.2).2 y xs rfl)) hc.1
    · cases hc
  | .lc elt tg own it es ifs, X, N, sc, k, W, ok, e, hc, t, rt => by
    match e, hc with
    | .ListComp el [⟨tg', iter, ifs', 0⟩] scope pos, hc =>
      have hc : (blkC N sc scope own && chkTg N scope tg tg' && subB (tgS tg) (own.map (·.2)) &&
      (match it.sh sc tg' iter with
        | some xs => xs.all plainX && chkBs N sc es xs
        | none => false) && decide (ifs.length < 2) && chkBs N (blkSc sc scope) ifs ifs' && chkB N (blkSc sc scope) elt el) = true := by
        unfold chkB at hc
        exact hc
      simp only [Bool.and_eq_true] at hc
      obtain ⟨⟨⟨⟨⟨⟨h1, h2⟩, h3⟩, h4⟩, h0⟩, h5⟩, h6⟩ := hc
      have hifs : ifs = [] ∧ ifs' = [] ∨ ∃ a c, ifs = [a] ∧ ifs' = [c] ∧ ∀ (s : Shared) (H : Hp) (C : Addr) (cc : List (Str × Addr)) (fp : List Addr) (t rt : Tr), TstB (X.blk s H scope (compEnvC scope cc C X.env) fp) (fun _ _ _ _ => False) cl t rt a c := by
        match ifs, ifs', h5, h0 with
        | [], [], _, _ => exact .inl ⟨rfl, rfl⟩
        | [a], [c], h5, _ =>
          simp only [chkBs, Bool.and_eq_true] at h5
          exact .inr ⟨a, c, rfl, rfl, fun s0 H0 C cc fp t rt => (evB_ok a (ok.blk (own := own) s0 H0 C cc fp) c h5.1 t rt).2⟩
        | [], _ :: _, h5, _ => simp [chkBs] at h5
        | [_], [], h5, _ => simp [chkBs] at h5
        | [_], _ :: _ :: _, h5, _ => simp [chkBs] at h5
        | _ :: _ :: _, _, _, h0 => simp at h0; omega
      split at h4
      · rename_i xs hsh
        simp only [Bool.and_eq_true] at h4
        refine bothB (fun r hr σ H F cs cx Q s kp => ?_) rfl
        obtain ⟨wi, g, tt, te, p1, p2, p3, p4, p5⟩ := (lc_ok ok h1 h2 h3 hsh hifs (evOs_ok es ok xs h4.2).1 (fun s0 H0 C c fp t rt => (evB_ok elt (ok.blk (own := own) s0 H0 C c fp) el h6 t rt).1) hr s kp).x
        exact mx_of (pe_lc ok.x.calm (by rw [ok.x.names]; exact ok.x.nd) p1 (by rw [ok.x.names, ok.x.scope]; exact blkOk_by h1) p2 p3 p4 (fun x => fold_of (it.pl _ _ _ _ hsh))) p5
      · cases h4
theorem evOs_ok : ∀ (bs : List (B P)) {X : Cx} {N : List Str} {sc : Scope} {k : Nat} {W : WX} (ok : BOk P X N sc k cl W) (es : List Expr), chkBs N sc bs es = true → OsOk X W cl bs es ∧ ∀ x ys, es = x :: ys → OsHd X W cl bs x ys
  | [], X, N, sc, k, W, ok, es, hc => by
    cases es with
    | nil => exact ⟨os_nil, fun _ _ e => nomatch e⟩
    | cons _ _ => simp [chkBs] at hc
  | b :: r, X, N, sc, k, W, ok, es, hc => by
    cases es with
    | nil => simp [chkBs] at hc
    | cons e t =>
      simp only [chkBs, Bool.and_eq_true] at hc
      have ih := (evOs_ok r ok t hc.2).1
      have hd : OsHd X W cl (b :: r) e t := by
        match b, hc with
        | .rf i, hc =>
          cases e with
          | Name x pos => exact os_rf ok.x hc.1 ih
          | _ => simp [chkB] at hc
        | .dp a, hc => exact os_dp ok.x hc.1 ih
        | .pu a, hc => exact os_val (fun t rt => (evB_ok (.pu a) ok e hc.1 t rt).1) ih (fun _ _ _ => by simp only [evOs]) (fun _ _ => by simp only [hdD] <;> rfl)
        | .nm a, hc => exact os_val (fun t rt => (evB_ok (.nm a) ok e hc.1 t rt).1) ih (fun _ _ _ => by simp only [evOs]) (fun _ _ => by simp only [hdD] <;> rfl)
        | .fz a, hc => exact os_val (fun t rt => (evB_ok (.fz a) ok e hc.1 t rt).1) ih (fun _ _ _ => by simp only [evOs]) (fun _ _ => by simp only [hdD] <;> rfl)
        | .mv a, hc => exact os_val (fun t rt => (evB_ok (.mv a) ok e hc.1 t rt).1) ih (fun _ _ _ => by simp only [evOs]) (fun _ _ => by simp only [hdD] <;> rfl)
        | .qm a b, hc => exact os_val (fun t rt => (evB_ok (.qm a b) ok e hc.1 t rt).1) ih (fun _ _ _ => by simp only [evOs]) (fun _ _ => by simp only [hdD] <;> rfl)
        | .q a b, hc => exact os_val (fun t rt => (evB_ok (.q a b) ok e hc.1 t rt).1) ih (fun _ _ _ => by simp only [evOs]) (fun _ _ => by simp only [hdD] <;> rfl)
        | .tup a, hc => exact os_val (fun t rt => (evB_ok (.tup a) ok e hc.1 t rt).1) ih (fun _ _ _ => by simp only [evOs]) (fun _ _ => by simp only [hdD] <;> rfl)
        | .lst a, hc => exact os_val (fun t rt => (evB_ok (.lst a) ok e hc.1 t rt).1) ih (fun _ _ _ => by simp only [evOs]) (fun _ _ => by simp only [hdD] <;> rfl)
        | .and a, hc => exact os_val (fun t rt => (evB_ok (.and a) ok e hc.1 t rt).1) ih (fun _ _ _ => by simp only [evOs]) (fun _ _ => by simp only [hdD] <;> rfl)
        | .or a, hc => exact os_val (fun t rt => (evB_ok (.or a) ok e hc.1 t rt).1) ih (fun _ _ _ => by simp only [evOs]) (fun _ _ => by simp only [hdD] <;> rfl)
        | .not a, hc => exact os_val (fun t rt => (evB_ok (.not a) ok e hc.1 t rt).1) ih (fun _ _ _ => by simp only [evOs]) (fun _ _ => by simp only [hdD] <;> rfl)
        | .call a b c, hc => exact os_val (fun t rt => (evB_ok (.call a b c) ok e hc.1 t rt).1) ih (fun _ _ _ => by simp only [evOs]) (fun _ _ => by simp only [hdD] <;> rfl)
        | .mut a b c, hc => exact os_val (fun t rt => (evB_ok (.mut a b c) ok e hc.1 t rt).1) ih (fun _ _ _ => by simp only [evOs]) (fun _ _ => by simp only [hdD] <;> rfl)
        | .lc a b c d es f, hc => exact os_val (fun t rt => (evB_ok (.lc a b c d es f) ok e hc.1 t rt).1) ih (fun _ _ _ => by simp only [evOs]) (fun _ _ => by simp only [hdD] <;> rfl)
      exact ⟨hd.ok, fun x ys e => by cases e; exact hd⟩
theorem evAn_ok : ∀ (bs : List (B P)) {X : Cx} {N : List Str} {sc : Scope} {k : Nat} {W : WX} (ok : BOk P X N sc k cl W) (es : List Expr), chkBs N sc bs es = true → ∀ rt, An X W cl rt bs .And es (evAn cl rt) ∧ An X W cl rt bs .Or es (evOn cl rt)
  | [], X, N, sc, k, W, ok, es, hc, rt => ⟨fun pos t r hr => by simp [evAn] at hr, fun pos t r hr => by simp [evOn] at hr⟩
  | [a], X, N, sc, k, W, ok, es, hc, rt => by
    match es, hc with
    | [e], hc =>
      simp only [chkBs, Bool.and_eq_true] at hc
      refine ⟨fun pos t r hr σ H F cs cx s => ?_, fun pos t r hr σ H F cs cx s => ?_⟩
      · obtain ⟨h1, h2⟩ := evB_ok a ok e hc.1 t rt
        simp only [evAn] at hr
        exact ⟨fun Q kp => mx_of (pe_one pe_mx) (h1 r hr σ H F cs cx Q s kp), fun bl Q kp => ⟨_, pw_and1 pt_mx, h2 r hr bl σ H F cs cx Q s kp⟩⟩
      · obtain ⟨h1, h2⟩ := evB_ok a ok e hc.1 t rt
        simp only [evOn] at hr
        exact ⟨fun Q kp => mx_of (pe_one pe_mx) (h1 r hr σ H F cs cx Q s kp), fun bl Q kp => ⟨_, pw_or1 pt_mx, h2 r hr bl σ H F cs cx Q s kp⟩⟩
    | [], hc => simp [chkBs] at hc
    | _ :: _ :: _, hc => simp [chkBs] at hc
  | a :: a2 :: r, X, N, sc, k, W, ok, es, hc, rt => by
    match es, hc with
    | e :: e2 :: t, hc =>
      have hc' : chkBs N sc (a2 :: r) (e2 :: t) = true := by
        simp only [chkBs, Bool.and_eq_true] at hc ⊢
        exact hc.2
      have hca : chkB N sc a e = true := by
        simp only [chkBs, Bool.and_eq_true] at hc
        exact hc.1
      obtain ⟨i1, i2⟩ := evAn_ok (a2 :: r) ok (e2 :: t) hc' rt
      refine ⟨fun pos tr rs hr σ H F cs cx s => ?_, fun pos tr rs hr σ H F cs cx s => ?_⟩
      · obtain ⟨h1, h2⟩ := evB_ok a ok e hca tr rt
        simp only [evAn] at hr
        rcases bindR_some hr with ⟨d, t1, e1, e3⟩ | ⟨y, t1, e1, rfl⟩
        · split at e3
          · have nx : ∀ H' F' cs', Le F F' → (∀ a ∈ cx, H' a = H a) → SR X.K X.mg H' F' t1 σ cs' → Good H' F' (cs' ++ cx) → _ := fun H' F' cs' l kk s' g' => i1 pos t1 rs e3 σ H' F' cs' cx (by
              obtain ⟨cr, r1, r2⟩ := s.r
              exact ⟨s', ⟨cr, r1.keep l fun a ha => kk a (r2 a ha), r2⟩, g'⟩)
            refine ⟨fun Q kp => mx_of (pe_and pe_mx pe_mx) (h1 _ e1 σ H F cs cx _ s ⟨fun d' t' ee v H' F' cd cs' l kk s' g' rp => ?_, fun _ _ ee => nomatch ee⟩), fun bl Q kp => ⟨_, pw_and pt_mx pw_mx, h2 _ e1 (fun d' t' ee => by cases ee; exact ⟨_, rfl⟩) σ H F cs cx _ s ⟨fun d' t' ee v H' F' cd cs' l kk s' g' rp => ?_, fun _ _ ee => nomatch ee⟩⟩⟩
            · cases ee
              exact ⟨true, rp.blE, by rw [if_pos rfl]; exact (nx H' F' cs' l kk s' (g'.part (g := cd) (perm_of fun z => by simp only [List.count_append]; omega))).1 Q (kp.later l kk)⟩
            · cases ee
              exact ⟨true, rp.blE, by rw [if_pos rfl]; exact (nx H' F' cs' l kk s' (g'.part (g := cd) (perm_of fun z => by simp only [List.count_append]; omega))).2 bl Q (kp.later l kk)⟩
          · cases e3
            refine ⟨fun Q kp => mx_of (pe_and pe_mx pe_mx) (h1 _ e1 σ H F cs cx _ s ⟨fun d' t' ee v H' F' cd cs' l kk s' g' rp => ?_, fun _ _ ee => nomatch ee⟩), fun bl Q kp => ⟨_, pw_and pt_mx pw_mx, h2 _ e1 (fun d' t' ee => by cases ee; exact ⟨_, rfl⟩) σ H F cs cx _ s ⟨fun d' t' ee v H' F' cd cs' l kk s' g' rp => ?_, fun _ _ ee => nomatch ee⟩⟩⟩
            · cases ee
              exact ⟨false, rp.blE, by simp only [Bool.false_eq_true, if_false]; exact kp.1 _ _ rfl _ H' F' [] cs' l kk s' (g'.part (g := cd) (perm_of fun z => by simp only [List.count_append, List.count_nil]; omega)) (by simp only [Rp]; exact ⟨trivial, trivial⟩)⟩
            · cases ee
              obtain ⟨b', eb, q⟩ := kp.1 _ _ rfl (.bl false) H' F' [] cs' l kk s' (g'.part (g := cd) (perm_of fun z => by simp only [List.count_append, List.count_nil]; omega)) (by simp only [Rp]; exact ⟨trivial, trivial⟩)
              cases eb
              exact ⟨false, rp.blE, by simp only [Bool.false_eq_true, if_false]; exact q⟩
          · cases e3
        · exact ⟨fun Q kp => mx_of (pe_and pe_mx pe_mx) (h1 _ e1 σ H F cs cx _ s ⟨fun _ _ ee => (nomatch ee), fun x' t' ee => by cases ee; exact kp.2 y t1 rfl⟩),
            fun bl Q kp => ⟨_, pw_and pt_mx pw_mx, h2 _ e1 (fun d' t' ee => nomatch ee) σ H F cs cx _ s ⟨fun _ _ ee => (nomatch ee), fun x' t' ee => by cases ee; exact kp.2 y t1 rfl⟩⟩⟩
      · obtain ⟨h1, h2⟩ := evB_ok a ok e hca tr rt
        simp only [evOn] at hr
        rcases bindR_some hr with ⟨d, t1, e1, e3⟩ | ⟨y, t1, e1, rfl⟩
        · split at e3
          · have nx : ∀ H' F' cs', Le F F' → (∀ a ∈ cx, H' a = H a) → SR X.K X.mg H' F' t1 σ cs' → Good H' F' (cs' ++ cx) → _ := fun H' F' cs' l kk s' g' => i2 pos t1 rs e3 σ H' F' cs' cx (by
              obtain ⟨cr, r1, r2⟩ := s.r
              exact ⟨s', ⟨cr, r1.keep l fun a ha => kk a (r2 a ha), r2⟩, g'⟩)
            refine ⟨fun Q kp => mx_of (pe_or pe_mx pe_mx) (h1 _ e1 σ H F cs cx _ s ⟨fun d' t' ee v H' F' cd cs' l kk s' g' rp => ?_, fun _ _ ee => nomatch ee⟩), fun bl Q kp => ⟨_, pw_or pt_mx pw_mx, h2 _ e1 (fun d' t' ee => by cases ee; exact ⟨_, rfl⟩) σ H F cs cx _ s ⟨fun d' t' ee v H' F' cd cs' l kk s' g' rp => ?_, fun _ _ ee => nomatch ee⟩⟩⟩
            · cases ee
              exact ⟨false, rp.blE, by simp only [Bool.false_eq_true, if_false]; exact (nx H' F' cs' l kk s' (g'.part (g := cd) (perm_of fun z => by simp only [List.count_append]; omega))).1 Q (kp.later l kk)⟩
            · cases ee
              exact ⟨false, rp.blE, by simp only [Bool.false_eq_true, if_false]; exact (nx H' F' cs' l kk s' (g'.part (g := cd) (perm_of fun z => by simp only [List.count_append]; omega))).2 bl Q (kp.later l kk)⟩
          · cases e3
            refine ⟨fun Q kp => mx_of (pe_or pe_mx pe_mx) (h1 _ e1 σ H F cs cx _ s ⟨fun d' t' ee v H' F' cd cs' l kk s' g' rp => ?_, fun _ _ ee => nomatch ee⟩), fun bl Q kp => ⟨_, pw_or pt_mx pw_mx, h2 _ e1 (fun d' t' ee => by cases ee; exact ⟨_, rfl⟩) σ H F cs cx _ s ⟨fun d' t' ee v H' F' cd cs' l kk s' g' rp => ?_, fun _ _ ee => nomatch ee⟩⟩⟩
            · cases ee
              exact ⟨true, rp.blE, by rw [if_pos rfl]; exact kp.1 _ _ rfl _ H' F' [] cs' l kk s' (g'.part (g := cd) (perm_of fun z => by simp only [List.count_append, List.count_nil]; omega)) (by simp only [Rp]; exact ⟨trivial, trivial⟩)⟩
            · cases ee
              obtain ⟨b', eb, q⟩ := kp.1 _ _ rfl (.bl true) H' F' [] cs' l kk s' (g'.part (g := cd) (perm_of fun z => by simp only [List.count_append, List.count_nil]; omega)) (by simp only [Rp]; exact ⟨trivial, trivial⟩)
              cases eb
              exact ⟨true, rp.blE, by rw [if_pos rfl]; exact q⟩
          · cases e3
        · exact ⟨fun Q kp => mx_of (pe_or pe_mx pe_mx) (h1 _ e1 σ H F cs cx _ s ⟨fun _ _ ee => (nomatch ee), fun x' t' ee => by cases ee; exact kp.2 y t1 rfl⟩),
            fun bl Q kp => ⟨_, pw_or pt_mx pw_mx, h2 _ e1 (fun d' t' ee => nomatch ee) σ H F cs cx _ s ⟨fun _ _ ee => (nomatch ee), fun x' t' ee => by cases ee; exact kp.2 y t1 rfl⟩⟩⟩
    | [], hc => simp [chkBs] at hc
    | [_], hc => simp [chkBs] at hc
end
end
end Ev
end
section
set_option maxRecDepth 100000
set_option maxHeartbeats 4000000
namespace Ev
open PySem PySem.Spec L2
/-- where a statement ends -/
inductive RsS where
  | nx (t : Tr)
  | rt (d : D) (t : Tr)
  | ex (x : Xn) (t : Tr)
/-- a store into an object: the receiver's tree, the other operands' trees, the value's tree to the receiver's tree behind -/
structure Put (P : Pg) where
  f : D → List D → D → Option D
  sh : Scope → Expr → Option (List Expr)
  ok : ∀ (X : Cx) (N : List Str) (sc : Scope), XOk P X N sc → ∀ (e : Expr) (es : List Expr), sh sc e = some es → ∀ (d : D) (ds : List D) (y d' : D), f d ds y = some d' →
    ∃ R : List V → V → Hp → (Hp → Prop) → Prop, (∀ (v : Expr) (pos : Pos) (tv : TE) (ts : List TE), PE X v tv → AllPE X es ts → PS X (.Assign [e] v pos) (fun D σ H => tv σ H fun y H1 => tL ts σ H1 fun vs H2 => R vs y H2 fun H3 => D.nx σ H3)) ∧
      ∀ (x : V) (ws : List V) (yv : V) (H F : Hp) (c cd cw cy : List Addr) (Q : Hp → Prop), Rp X.K X.mg H F d x cd → Rps X.K X.mg H F ds ws cw → Rp X.K X.mg H F y yv cy → Good H F (cd ++ cw ++ cy ++ c) →
        (∀ H' cd', (∀ b ∈ c, H' b = H b) → Good H' F (cd' ++ c) → Rp X.K X.mg H' F d' x cd' → Q H') → R (x :: ws) yv H Q
  sound : ∀ (X : Cx) (N : List Str) (sc : Scope), XOk P X N sc → ∀ (e : Expr) (es : List Expr), sh sc e = some es →
    ∃ R : List V → V → Hp → (Hp → Prop) → Prop, ∀ (v : Expr) (pos : Pos) (tv : TE) (ts : List TE), PE X v tv → AllPE X es ts → PS X (.Assign [e] v pos) (fun D σ H => tv σ H fun y H1 => tL ts σ H1 fun vs H2 => R vs y H2 fun H3 => D.nx σ H3)
/-- op= -/
structure Aug (P : Pg) where
  op : Operator
  f : D → D → Option D
  ok : ∀ (X : Cx) (N : List Str) (sc : Scope), XOk P X N sc → ∀ (d y d' : D), f d y = some d' → ∃ R : TIp, PIp X op R ∧
    ∀ (x yv : V) (H F : Hp) (c cd cy : List Addr) (Q : VK), Rp X.K X.mg H F d x cd → Rp X.K X.mg H F y yv cy → Good H F (cd ++ cy ++ c) →
      (∀ z H' F' cd', Le F F' → (∀ b ∈ c, H' b = H b) → Good H' F' (cd' ++ c) → Rp X.K X.mg H' F' d' z cd' → Q z H') → R x yv H Q
/-- a target of several: a name, an item of a name's list -/
inductive Tx (P : Pg) where
  | n (i : Nat)
  | s (i : Nat) (ix : A P)
inductive S (P : Pg) where
  | ex (b : B P)
  | set (i : Nat) (b : B P)
  | asg (g : Tg) (b : B P)
  | par (i j : Nat) (a b : B P)
  | tx (l : List (Tx P)) (b : B P)
  | put (o : Put P) (hid : Option Nat) (v : B P) (es : List (B P))
  | aug (o : Aug P) (i : Nat) (b : B P)
  | augA (o : Aug P) (i : Nat) (f : Str) (b : B P)
  | ret (b : B P) | ret0 | pass
  | iff (c : B P) (a b : List (S P))
  | for (tg : Tg) (it : Itr P) (es : List (B P)) (body : List (S P))
  | whl (c : B P) (body : List (S P))
  | fg (js : List Nat)
  | shr (i : Nat)
  | unp (l : List Tg) (i : Nat)
  | no
section
variable {P : Pg}
def noRt (t : Tr) : Tr := t.map fun _ => none
def txs : List (Tx P) → List D → Tr → Option Tr
  | [], [], t => some t
  | .n i :: r, d :: ds, t => if i < t.length then txs r ds (t.set i (some d)) else none
  | .s i a :: r, d :: ds, t => match t[i]?, evA t (noRt t) a with
    | some (some (.lst true xs)), some (.int k) => match ixN xs.length k with
      | some j => txs r ds (t.set i (some (.lst true (xs.set j d))))
      | none => none
    | _, _ => none
  | _, _, _ => none
open Classical in
noncomputable def forGo (os : List Opd) (ds : List D) (tg : Tg) (one : Tr → Option RsS) : List D → Tr → Option RsS
  | [], t => if opdDs t os = some ds then some (.nx t) else none
  | x :: r, t => if opdDs t os = some ds then match (asg tg x t).bind one with
    | some (.nx t') => forGo os ds tg one r t'
    | z => z else none
def whGo (c : Tr → Option (Rs D)) (one : Tr → Option RsS) : Nat → Tr → Option RsS
  | 0, _ => none
  | n + 1, t => match c t with
    | some (.ok (.bl true) t1) => match one t1 with
      | some (.nx t2) => whGo c one n t2
      | z => z
    | some (.ok (.bl false) t1) => some (.nx t1)
    | some (.ex x t1) => some (.ex x t1)
    | _ => none
def bindS {α : Type} (m : Option (Rs α)) (k : α → Tr → Option RsS) : Option RsS := match m with
  | some (.ok a t) => k a t
  | some (.ex x t) => some (.ex x t)
  | none => none
def refsOf : List (B P) → List Nat
  | [] => []
  | .rf i :: r => i :: refsOf r
  | _ :: r => refsOf r
variable (cl : Cl) (n : Nat)
mutual
noncomputable def exS : S P → Tr → Option RsS
  | .ex b, t => bindS (evB cl (noRt t) b t) fun _ t1 => some (.nx t1)
  | .set i b, t => bindS (evB cl (noRt t) b t) fun d t1 => if i < t1.length then some (.nx (t1.set i (some d))) else none
  | .asg g b, t => bindS (evB cl (noRt t) b t) fun d t1 => (asg g d t1).map .nx
  | .par i j a b, t => bindS (evOs cl none (noRt t) [a, b] t) fun os t1 => match valsOf os with
    | some [d, e] => if i < t1.length ∧ j < t1.length then some (.nx ((t1.set i (some d)).set j (some e))) else none
    | _ => none
  | .tx l b, t => bindS (evB cl (noRt t) b t) fun d t1 => match d with
    | .tup ds => (txs l ds t1).map .nx
    | _ => none
  | .put o none v es, t => bindS (evB cl (noRt t) v t) fun y t1 => bindS (evOs cl none (noRt t) es t1) fun os t2 => match os with
    | .ref i :: r => match t2[i]?, valsOf r with
      | some (some d), some ds => (o.f d ds y).map fun d' => .nx (t2.set i (some d'))
      | _, _ => none
    | _ => none
  | .put o (some i) v es, t => bindS (evB cl (noRt t) v t) fun y t1 => match t1[i]? with
    | some (some d0) => bindS (evOs cl (some i) ((noRt t).set i (some d0)) es (t1.set i none)) fun os t2 => match os with
      | .dp j st :: r => match getP d0 st, valsOf r with
        | some d, some ds => if j ≠ i then none else (o.f d ds y).bind fun z => (putP d0 st z).map fun d' => .nx (t2.set i (some d'))
        | _, _ => none
      | _ => none
    | _ => none
  | .aug o i b, t => match t[i]? with
    | some (some _) => bindS (evB cl (noRt t) b t) fun y t1 => match t1[i]? with
      | some (some d) => (o.f d y).map fun d' => .nx (t1.set i (some d'))
      | _ => none
    | _ => none
  | .augA o i f b, t => match t[i]? with
    | some (some (.ins true C fs xs)) => match (fs.zip xs).lookup f, decide (P.att C f = true) with
      | some (.int k), true => bindS (evB cl (noRt t) b t) fun y t1 => match t1[i]? with
        | some (some (.ins true C' fs' xs')) => match (fs'.zip xs').lookup f, idxOf f fs', o.f (.int k) y with
          | some (.int k'), some q, some d' => if k' = k ∧ C' = C ∧ isF d' = true ∧ fs'.length < 1000 then some (.nx (t1.set i (some (.ins true C fs' (xs'.set q d'))))) else none
          | _, _, _ => none
        | _ => none
      | _, _ => none
    | _ => none
  | .ret b, t => bindS (evB cl (noRt t) b t) fun d t1 => some (.rt d t1)
  | .ret0, t => some (.rt .non t)
  | .pass, t => some (.nx t)
  | .iff c a b, t => bindS (evB cl (noRt t) c t) fun d t1 => match d with
    | .bl true => exSs a t1
    | .bl false => exSs b t1
    | _ => none
  | .for tg it es body, t => bindS (evOs cl none (noRt t) es t) fun os t1 => (opdDs t1 os).bind fun ds => (it.f ds).bind fun l => forGo os ds tg (exSs body) l t1
  | .whl c body, t => whGo (fun t => evB cl (noRt t) c t) (exSs body) n t
  | .fg js, t => some (.nx (wipeT t js))
  | .shr i, t => match t[i]? with
    | some (some d) => some (.nx (t.set i (some (frz d))))
    | _ => none
  | .unp l i, t => match t[i]? with
    | some (some (.lst true xs)) => if isFs xs = true then (asgs l xs t).map .nx else none
    | _ => none
  | .no, _ => none
noncomputable def exSs : List (S P) → Tr → Option RsS
  | [], t => some (.nx t)
  | s :: r, t => match exS s t with
    | some (.nx t') => exSs r t'
    | z => z
end
end
/-! ### in the text -/
def locB (N : List Str) (sc : Scope) (i : Nat) (x : Str) : Bool := decide (N[i]? = some x) && (sc.names.lookup x == some .local || sc.names.lookup x == some .cell)
def swapB (sc : Scope) (value : Expr) (t : Str) (pos : Pos) : Bool := match value with
  | .ListComp _ _ s _ => sc.names.lookup t == some .local && pos.line == value.pos.line && !(s.names.any fun (n, k) => n == t && (k == .local || k == .cell))
  | .SetComp .. => true
  | .DictComp .. => true
  | _ => false
def isTupE : Expr → Bool
  | .Tuple .. => true
  | _ => false
def headS {P : Pg} : List (Tx P) → Bool
  | .s _ _ :: _ => true
  | _ => false
def isLc {P : Pg} : B P → Bool
  | .lc .. => true
  | _ => false
section
variable {P : Pg}
def chkTx (N : List Str) (sc : Scope) : List (Tx P) → List Expr → Bool
  | [], [] => true
  | .n i :: r, .Name x _ :: es => locB N sc i x && chkTx N sc r es
  | .s i a :: r, .Subscript (.Name x _) y _ :: es => visB N sc i x && plainX y && chkA N sc a y && chkTx N sc r es
  | _, _ => false
def txS : List (Tx P) → List Nat
  | [] => []
  | .n i :: r => i :: txS r
  | .s _ _ :: r => txS r
def out (pr js : List Nat) : Bool := pr.all fun i => decide (i ∉ js)
mutual
def chkS (N : List Str) (sc : Scope) (pr : List Nat) : S P → Stmt → Bool
  | .no, _ => true
  | .ex b, .Expr e _ => noComp e && chkB N sc b e
  | .set i b, .Assign [.Name x p] e pos => out pr [i] && locB N sc i x && chkB N sc b e && (!(swapB sc e x p) || (isLc b && (sc.names.lookup x == some .local)))
  | .asg g b, .Assign [tg] e _ => out pr (tgS g) && plainX tg && chkTg N sc g tg && noComp e && !(isTupE e) && chkB N sc b e
  | .unp l i, .Assign [tg] e _ => out pr (tgS (.t l)) && plainX tg && chkTg N sc (.t l) tg && noComp e && !(isTupE e) && chkA (P := P) N sc (.v i) e
  | .par i j a b, .Assign [.Tuple [.Name x p, .Name y q] _ _] (.Tuple [u, w] _ _) _ => out pr [i, j] && decide (N[i]? = some x) && decide (N[j]? = some y) && decide (i ≠ j) && (sc.names.lookup x == some .local) && (sc.names.lookup y == some .local) && plainX u && plainX w && (p.line == q.line) &&
      !(foldedForSure 8 u && foldedForSure 8 w) && !(constantsAlone 8 u && constantsAlone 8 w) && chkBs N sc [a, b] [u, w]
  | .tx l b, .Assign [.Tuple es _ _] e _ => out pr (txS l) && es.all plainX && chkTx N sc l es && noComp e && (!(isTupE e) || headS l) && chkB N sc b e
  | .put o _ v es, .Assign [tg] e _ => match o.sh sc tg with
    | some xs => noComp e && chkB N sc v e && chkBs N sc es xs
    | none => false
  | .aug o i b, .AugAssign (.Name x _) op e _ => out pr [i] && locB N sc i x && decide (op = o.op) && chkB N sc b e
  | .augA o i f b, .AugAssign (.Attribute (.Name x _) g _) op e _ => visB N sc i x && decide (g = f) && decide (op = o.op) && chkB N sc b e
  | .ret b, .Return (some e) _ => chkB N sc b e
  | .ret0, .Return none _ => true
  | .pass, .Pass _ => true
  | .iff c a b, .If e x y _ => chkB N sc c e && chkSs N sc pr a x && chkSs N sc pr b y
  | .for tg it es body, .For tg' iter body' [] _ => (match it.sh sc tg' iter with
      | some xs => out (pr ++ refsOf es) (tgS tg) && chkTg N sc tg tg' && chkBs N sc es xs && chkSs N sc (pr ++ refsOf es) body body'
      | none => false)
  | .whl c body, .While e body' [] _ => chkB N sc c e && chkSs N sc pr body body'
  | _, _ => false
def chkSs (N : List Str) (sc : Scope) (pr : List Nat) : List (S P) → List Stmt → Bool
  | [], [] => true
  | .fg _ :: r, st => chkSs N sc pr r st
  | .shr _ :: r, st => chkSs N sc pr r st
  | a :: r, s :: t => chkS N sc pr a s && chkSs N sc pr r t
  | _, _ => false
end
end
end Ev
end
section
set_option maxRecDepth 100000
set_option maxHeartbeats 4000000
namespace Ev
open PySem PySem.Spec L2
theorem inv_ex {sc : Scope} {N : List Str} {P : Pg} {pr : List Nat} {b : B P} {st : Stmt} (h : chkS N sc pr (.ex b) st = true) : ∃ e pos, st = .Expr e pos := by
  unfold chkS at h
  split at h <;> first | exact ⟨_, _, rfl⟩ | (cases h; done) | (rename_i q _; cases q; done) | (rename_i q; cases q; done) | skip
theorem inv_set {sc : Scope} {N : List Str} {P : Pg} {pr : List Nat} {i : Nat} {b : B P} {st : Stmt} (h : chkS N sc pr (.set i b) st = true) : ∃ x p e pos, st = .Assign [.Name x p] e pos := by
  unfold chkS at h
  split at h <;> first | exact ⟨_, _, _, _, rfl⟩ | (cases h; done) | (rename_i q _; cases q; done) | (rename_i q; cases q; done) | skip
theorem inv_asg {sc : Scope} {N : List Str} {P : Pg} {pr : List Nat} {g : Tg} {b : B P} {st : Stmt} (h : chkS N sc pr (.asg g b) st = true) : ∃ tg e pos, st = .Assign [tg] e pos := by
  unfold chkS at h
  split at h <;> first | exact ⟨_, _, _, rfl⟩ | (cases h; done) | (rename_i q _; cases q; done) | (rename_i q; cases q; done) | skip
theorem inv_unp {sc : Scope} {N : List Str} {P : Pg} {pr : List Nat} {l : List Tg} {i : Nat} {st : Stmt} (h : chkS N sc pr (.unp l i : S P) st = true) : ∃ tg e pos, st = .Assign [tg] e pos := by
  unfold chkS at h
  split at h <;> first | exact ⟨_, _, _, rfl⟩ | (cases h; done) | (rename_i q _; cases q; done) | (rename_i q; cases q; done) | skip
theorem inv_par {sc : Scope} {N : List Str} {P : Pg} {pr : List Nat} {i j : Nat} {a b : B P} {st : Stmt} (h : chkS N sc pr (.par i j a b) st = true) : ∃ x p y q kt pt u w k2 pt2 pos, st = .Assign [.Tuple [.Name x p, .Name y q] kt pt] (.Tuple [u, w] k2 pt2) pos := by
  unfold chkS at h
  split at h <;> first | exact ⟨_, _, _, _, _, _, _, _, _, _, _, rfl⟩ | (cases h; done) | (rename_i q _; cases q; done) | (rename_i q; cases q; done) | skip
theorem inv_tx {sc : Scope} {N : List Str} {P : Pg} {pr : List Nat} {l : List (Tx P)} {b : B P} {st : Stmt} (h : chkS N sc pr (.tx l b) st = true) : ∃ es kt p e pos, st = .Assign [.Tuple es kt p] e pos := by
  unfold chkS at h
  split at h <;> first | exact ⟨_, _, _, _, _, rfl⟩ | (cases h; done) | (rename_i q _; cases q; done) | (rename_i q; cases q; done) | skip
theorem inv_put {sc : Scope} {N : List Str} {P : Pg} {pr : List Nat} {o : Put P} {h : Option Nat} {v : B P} {es : List (B P)} {st : Stmt} (h : chkS N sc pr (.put o h v es) st = true) : ∃ tg e pos, st = .Assign [tg] e pos := by
  unfold chkS at h
  split at h <;> first | exact ⟨_, _, _, rfl⟩ | (cases h; done) | (rename_i q _; cases q; done) | (rename_i q; cases q; done) | skip
theorem inv_aug {sc : Scope} {N : List Str} {P : Pg} {pr : List Nat} {o : Aug P} {i : Nat} {b : B P} {st : Stmt} (h : chkS N sc pr (.aug o i b) st = true) : ∃ x p op e pos, st = .AugAssign (.Name x p) op e pos := by
  unfold chkS at h
  split at h <;> first | exact ⟨_, _, _, _, _, rfl⟩ | (cases h; done) | (rename_i q _; cases q; done) | (rename_i q; cases q; done) | skip
theorem inv_augA {sc : Scope} {N : List Str} {P : Pg} {pr : List Nat} {o : Aug P} {i : Nat} {f : Str} {b : B P} {st : Stmt} (h : chkS N sc pr (.augA o i f b) st = true) : ∃ x p g q op e pos, st = .AugAssign (.Attribute (.Name x p) g q) op e pos := by
  unfold chkS at h
  split at h <;> first | exact ⟨_, _, _, _, _, _, _, rfl⟩ | (cases h; done) | (rename_i q _; cases q; done) | (rename_i q; cases q; done) | skip
theorem inv_ret {sc : Scope} {N : List Str} {P : Pg} {pr : List Nat} {b : B P} {st : Stmt} (h : chkS N sc pr (.ret b) st = true) : ∃ e pos, st = .Return (some e) pos := by
  unfold chkS at h
  split at h <;> first | exact ⟨_, _, rfl⟩ | (cases h; done) | (rename_i q _; cases q; done) | (rename_i q; cases q; done) | skip
theorem inv_ret0 {sc : Scope} {N : List Str} {P : Pg} {pr : List Nat}  {st : Stmt} (h : chkS N sc pr (.ret0 : S P) st = true) : ∃ pos, st = .Return none pos := by
  unfold chkS at h
  split at h <;> first | exact ⟨_, rfl⟩ | (cases h; done) | (rename_i q _; cases q; done) | (rename_i q; cases q; done) | skip
theorem inv_pass {sc : Scope} {N : List Str} {P : Pg} {pr : List Nat}  {st : Stmt} (h : chkS N sc pr (.pass : S P) st = true) : ∃ pos, st = .Pass pos := by
  unfold chkS at h
  split at h <;> first | exact ⟨_, rfl⟩ | (cases h; done) | (rename_i q _; cases q; done) | (rename_i q; cases q; done) | skip
theorem inv_iff {sc : Scope} {N : List Str} {P : Pg} {pr : List Nat} {c : B P} {a b : List (S P)} {st : Stmt} (h : chkS N sc pr (.iff c a b) st = true) : ∃ e x y pos, st = .If e x y pos := by
  unfold chkS at h
  split at h <;> first | exact ⟨_, _, _, _, rfl⟩ | (cases h; done) | (rename_i q _; cases q; done) | (rename_i q; cases q; done) | skip
theorem inv_for {sc : Scope} {N : List Str} {P : Pg} {pr : List Nat} {tg : Tg} {it : Itr P} {es : List (B P)} {body : List (S P)} {st : Stmt} (h : chkS N sc pr (.for tg it es body) st = true) : ∃ tg' iter body' pos, st = .For tg' iter body' [] pos := by
  unfold chkS at h
  split at h <;> first | exact ⟨_, _, _, _, rfl⟩ | (cases h; done) | (rename_i q _; cases q; done) | (rename_i q; cases q; done) | skip
theorem inv_whl {sc : Scope} {N : List Str} {P : Pg} {pr : List Nat} {c : B P} {body : List (S P)} {st : Stmt} (h : chkS N sc pr (.whl c body) st = true) : ∃ e body' pos, st = .While e body' [] pos := by
  unfold chkS at h
  split at h <;> first | exact ⟨_, _, _, rfl⟩ | (cases h; done) | (rename_i q _; cases q; done) | (rename_i q; cases q; done) | skip
section
variable {P : Pg} {X : Cx} {N : List Str} {sc : Scope} {k : Nat} {cl : Cl} {W : WX}
/-- the context of statements -/
structure SOk (P : Pg) (X : Cx) (N : List Str) (sc : Scope) (k : Nat) (cl : Cl) (W : WX) : Prop where
  b : BOk P X N sc k cl W
  hp : PassesOwn (model X.prog X.w) X.A X.env X.xe
  tg : TgOk X N sc
  kind : sc.kind = .function
/-- what follows a statement -/
structure PostS (X : Cx) (W : WX) (H F : Hp) (σ : L2.St) (cx : List Addr) (pr : List Nat) (r : RsS) (D : L2.Ends) : Prop where
  nx : ∀ t', r = .nx t' → ∀ σ' H' F' cs', Le F F' → (∀ a ∈ cx, H' a = H a) → SR X.K X.mg H' F' t' σ' cs' → Good H' F' (cs' ++ cx) → (∀ j ∈ pr, σ'[j]? = σ[j]?) → σ'.length = σ.length → D.nx σ' H'
  rt : ∀ d t', r = .rt d t' → ∀ v σ' H' F' cd cs', Le F F' → (∀ a ∈ cx, H' a = H a) → SR X.K X.mg H' F' t' σ' cs' → Good H' F' (cd ++ cs' ++ cx) → Rp X.K X.mg H' F' d v cd → (∀ j ∈ pr, σ'[j]? = σ[j]?) → σ'.length = σ.length → D.rt v H'
  ex : ∀ x t', r = .ex x t' → ∀ cls od σ' H' F' cs', Le F F' → (∀ a ∈ cx, H' a = H a) → SR X.K X.mg H' F' t' σ' cs' → Good H' F' (cs' ++ cx) → RpX X.K X.mg H' F' x cls od → (∀ j ∈ pr, σ'[j]? = σ[j]?) → σ'.length = σ.length → W cls od σ' H'
def SVal (X : Cx) (W : WX) (pr : List Nat) (r : RsS) (t : Tr) (M : TS) : Prop := ∀ (σ : L2.St) (H F : Hp) (cs cx : List Addr) (D : L2.Ends), SR X.K X.mg H F t σ cs → Good H F (cs ++ cx) → PostS X W H F σ cx pr r D → M D σ H
theorem noRt_SR {K : PySem.W.Frag} {mg : Str → Option Value} {H F : Hp} : ∀ {t : Tr} {σ : L2.St}, t.length = σ.length → SR K mg H F (noRt t) σ []
  | [], [], _ => by simp only [noRt, List.map_nil, SR]; exact ⟨trivial, trivial⟩
  | _ :: t, v :: σ, h => by
    show SR K mg H F (none :: noRt t) (v :: σ) []
    simp only [SR]
    exact ⟨v, σ, rfl, noRt_SR (by simpa using h)⟩
  | [], _ :: _, h => by simp at h
  | _ :: _, [], h => by simp at h
theorem bs_of {K : PySem.W.Frag} {mg : Str → Option Value} {H F : Hp} {t : Tr} {σ : L2.St} {cs cx : List Addr} (s : SR K mg H F t σ cs) (g : Good H F (cs ++ cx)) : BS K mg H F t (noRt t) σ cs cx :=
  ⟨s, ⟨[], noRt_SR s.len, fun a ha => by simp at ha⟩, g⟩
theorem bindS_some {α : Type} {m : Option (Rs α)} {f : α → Tr → Option RsS} {r : RsS} (h : bindS m f = some r) : (∃ a t, m = some (.ok a t) ∧ f a t = some r) ∨ (∃ x t, m = some (.ex x t) ∧ r = .ex x t) := by
  unfold bindS at h
  split at h
  · exact .inl ⟨_, _, rfl, h⟩
  · cases h; exact .inr ⟨_, _, rfl, rfl⟩
  · cases h
/-- a value is stored in a slot -/
theorem set_slot {K : PySem.W.Frag} {mg : Str → Option Value} {H F : Hp} {t : Tr} {σ : L2.St} {cs cd cx : List Addr} {i : Nat} {d : D} {v : V} (s : SR K mg H F t σ cs) (r : Rp K mg H F d v cd) (g : Good H F (cd ++ cs ++ cx)) (hi : i < t.length) :
    ∃ cs', SR K mg H F (t.set i (some d)) (σ.set i (some v)) cs' ∧ Good H F (cs' ++ cx) := by
  obtain ⟨c', s2, rr, p⟩ := s.drop (i := i)
  have s3 := SR.put (SR.store (w := some v) s2) hi (by rw [List.getElem?_set_self (by rw [← s.len]; exact hi)]) r
  refine ⟨_, s3, ?_⟩
  refine (g.perm (c' := rr ++ (cd ++ c' ++ cx)) (perm_of fun z => ?_)).sublist (List.sublist_append_right _ _)
  have := p.count_eq z
  simp only [List.count_append] at *
  omega
theorem out_ok {pr js : List Nat} (h : out pr js = true) : ∀ j ∈ pr, j ∉ js := fun j hj => by
  have := List.all_eq_true.mp h j hj
  simpa using this
theorem locB_ok (ok : SOk P X N sc k cl W) {i : Nat} {x : Str} (h : locB N sc i x = true) : X.N[i]? = some x ∧ Loc X.env.scope x ∧ (X.fn x = true ∨ X.env.scope.names.lookup x = some .local) := by
  unfold locB at h
  simp only [Bool.and_eq_true, Bool.or_eq_true, decide_eq_true_eq, beq_iff_eq] at h
  obtain ⟨h1, h2⟩ := ok.tg.loc x h.2
  exact ⟨by rw [ok.b.x.names]; exact h.1, h1, h2⟩
theorem nodupX (ok : SOk P X N sc k cl W) : X.N.Nodup := by rw [ok.b.x.names]; exact ok.b.x.nd
theorem swap_val {env : Env} (hk : env.scope.kind = .function) {e : Expr} {x : Str} {p : Pos} {l : Nat} (h : noComp e = true ∨ ∃ a b s q, e = .ListComp a b s q) : swapsWith e (some (.Name x p)) l env = pure (swapB env.scope e x p) := by
  rcases h with h | ⟨a, b, s, q, rfl⟩
  · rw [swaps_of h]
    cases e <;> first | rfl | (simp [noComp] at h)
  · have hb : env.blockKind = .function := by
      unfold Env.blockKind
      rw [hk]; rfl
    unfold swapsWith
    simp only [hb]
    rfl
theorem chk_ex {b : B P} {e : Expr} : isLc b = true → chkB N sc b e = true → ∃ a c s q, e = .ListComp a c s q := by
  intro h hc
  cases b with
  | lc elt tg own it es ifs =>
    cases e with
    | ListComp a c s q => exact ⟨_, _, _, _, rfl⟩
    | _ => simp [chkB] at hc
  | _ => simp [isLc] at h
/-- what an expression's end owes, for a statement that goes on with K -/
theorem ex_run (ok : SOk P X N sc k cl W) {b : B P} {e : Expr} (hc : chkB N sc b e = true) {t : Tr} {f : D → Tr → Option RsS} {r : RsS} (h : bindS (evB cl (noRt t) b t) f = some r) {σ : L2.St} {H F : Hp} {cs cx : List Addr} {pr : List Nat} {E : L2.Ends} {Q : VK} (s : SR X.K X.mg H F t σ cs) (g : Good H F (cs ++ cx)) (kp : PostS X W H F σ cx pr r E)
    (hk : ∀ d t1, evB cl (noRt t) b t = some (.ok d t1) → f d t1 = some r → ∀ v H' F' cd cs', Le F F' → (∀ a ∈ cx, H' a = H a) → SR X.K X.mg H' F' t1 σ cs' → Good H' F' (cd ++ cs' ++ cx) → Rp X.K X.mg H' F' d v cd → Q v H') : mx X e σ H Q := by
  rcases bindS_some h with ⟨d, t1, e1, e2⟩ | ⟨x, t1, e1, rfl⟩
  · exact (evB_ok b ok.b e hc t (noRt t)).1 _ e1 σ H F cs cx Q (bs_of s g) ⟨fun d' t' ee v H' F' cd cs' l kk s' g' rd => by cases ee; exact hk d t1 e1 e2 v H' F' cd cs' l kk s' g' rd, fun _ _ ee => nomatch ee⟩
  · exact (evB_ok b ok.b e hc t (noRt t)).1 _ e1 σ H F cs cx Q (bs_of s g) ⟨fun _ _ ee => (nomatch ee), fun x' t' ee cls od H' F' cs' l kk s' g' rx => by cases ee; exact kp.ex x t1 rfl cls od σ H' F' cs' l kk s' g' rx (fun _ _ => rfl) rfl⟩
theorem s_ex (ok : SOk P X N sc k cl W) {b : B P} {e : Expr} {pos : Pos} {n : Nat} {pr : List Nat} (h1 : noComp e = true) (h2 : chkB N sc b e = true) {t : Tr} {r : RsS} (he : exS cl n (.ex b) t = some r) : SVal X W pr r t (mxS X (.Expr e pos)) := by
  intro σ H F cs cx D s g kp
  simp only [exS] at he
  refine ⟨_, ps_expr pe_mx (swaps_of h1), ?_⟩
  refine ex_run ok h2 he s g kp fun d t1 _ e2 v H' F' cd cs' l kk s' g' rd => ?_
  cases e2
  exact kp.nx _ rfl σ H' F' cs' l kk s' (g'.part (g := cd) (perm_of fun z => by simp only [List.count_append]; omega)) (fun _ _ => rfl) rfl
theorem s_set (ok : SOk P X N sc k cl W) {i : Nat} {b : B P} {x : Str} {p pos : Pos} {e : Expr} {n : Nat} {pr : List Nat} (hc : chkS N sc pr (.set i b) (.Assign [.Name x p] e pos) = true) {t : Tr} {r : RsS} (he : exS cl n (.set i b) t = some r) : SVal X W pr r t (mxS X (.Assign [.Name x p] e pos)) := by
  intro σ H F cs cx D s g kp
  simp only [chkS, Bool.and_eq_true, Bool.or_eq_true, Bool.not_eq_true', beq_iff_eq] at hc
  obtain ⟨⟨⟨h1, h2⟩, h3⟩, h4⟩ := hc
  obtain ⟨l1, l2, l3⟩ := locB_ok ok h2
  simp only [exS] at he
  have fin : ∀ d t1, evB cl (noRt t) b t = some (.ok d t1) → (if i < t1.length then some (RsS.nx (t1.set i (some d))) else none) = some r → ∀ v H' F' cd cs', Le F F' → (∀ a ∈ cx, H' a = H a) → SR X.K X.mg H' F' t1 σ cs' → Good H' F' (cd ++ cs' ++ cx) → Rp X.K X.mg H' F' d v cd → D.nx (σ.set i (some v)) H' := by
    intro d t1 _ e2 v H' F' cd cs' l kk s' g' rd
    split at e2
    · rename_i hi
      cases e2
      obtain ⟨cs2, s2, g2⟩ := set_slot s' rd g' hi
      refine kp.nx _ rfl _ H' F' cs2 l kk s2 g2 (fun j hj => ?_) (by rw [List.length_set])
      have := out_ok h1 j hj
      simp only [List.mem_singleton] at this
      rw [List.getElem?_set_ne (Ne.symm this)]
    · cases e2
  have hkind : X.env.scope.kind = .function := by rw [ok.b.x.scope]; exact ok.kind
  by_cases hl : isLc b = true
  · obtain ⟨a, c, s0, q, rfl⟩ := chk_ex hl h3
    have hsw := swap_val hkind (e := .ListComp a c s0 q) (x := x) (p := p) (l := pos.line) (.inr ⟨_, _, _, _, rfl⟩)
    rw [ok.b.x.scope] at hsw
    cases hs : swapB sc (.ListComp a c s0 q) x p with
    | false =>
      rw [hs] at hsw
      refine ⟨_, ps_set (nodupX ok) l1 l2 pe_mx hsw l3, ?_⟩
      exact ex_run ok h3 he s g kp fin
    | true =>
      rw [hs] at hsw
      rcases h4 with h4 | ⟨_, h4⟩
      · rw [hs] at h4; cases h4
      match b, h3, hl, he, fin with
      | .lc elt tg own it es ifs, h3, hl, he, fin =>
        match c, h3, hsw with
        | [⟨tg', iter, ifs', 0⟩], h3, hsw =>
        have h3 : (blkC N sc s0 own && chkTg N s0 tg tg' && subB (tgS tg) (own.map (·.2)) &&
          (match it.sh sc tg' iter with
            | some xs => xs.all plainX && chkBs N sc es xs
            | none => false) && decide (ifs.length < 2) && chkBs N (blkSc sc s0) ifs ifs' && chkB N (blkSc sc s0) elt a) = true := by
          unfold chkB at h3
          exact h3
        simp only [Bool.and_eq_true] at h3
        obtain ⟨⟨⟨⟨⟨⟨g1, g2⟩, g3⟩, g4⟩, g0⟩, g5⟩, g6⟩ := h3
        have hifs : ifs = [] ∧ ifs' = [] ∨ ∃ a c, ifs = [a] ∧ ifs' = [c] ∧ ∀ (s : Shared) (H : Hp) (C : Addr) (cc : List (Str × Addr)) (fp : List Addr) (t rt : Tr), TstB (X.blk s H s0 (compEnvC s0 cc C X.env) fp) (fun _ _ _ _ => False) cl t rt a c := by
          match ifs, ifs', g5, g0 with
          | [], [], _, _ => exact .inl ⟨rfl, rfl⟩
          | [a1], [c1], g5, _ =>
            simp only [chkBs, Bool.and_eq_true] at g5
            exact .inr ⟨a1, c1, rfl, rfl, fun s0' H0 C cc fp t rt => (evB_ok a1 (ok.b.blk (own := own) s0' H0 C cc fp) c1 g5.1 t rt).2⟩
          | [], _ :: _, g5, _ => simp [chkBs] at g5
          | [_], [], g5, _ => simp [chkBs] at g5
          | [_], _ :: _ :: _, g5, _ => simp [chkBs] at g5
          | _ :: _ :: _, _, _, g0 => simp at g0; omega
        split at g4
        · rename_i xs hsh
          simp only [Bool.and_eq_true] at g4
          have pack : ∀ r', evB cl (noRt t) (.lc elt tg own it es ifs) t = some r' → PostB X W H F σ cx r' (fun v H' => D.nx (σ.set i (some v)) H') → mxS X (.Assign [.Name x p] (.ListComp a [⟨tg', iter, ifs', 0⟩] s0 q) pos) D σ H := by
            intro r' he' kp'
            obtain ⟨wi, gg, tt, te, p1, p2, p3, p4, p5⟩ := (lc_ok ok.b g1 g2 g3 hsh hifs (evOs_ok es ok.b xs g4.2).1 (fun s0' H0 C c fp t rt => (evB_ok elt (ok.b.blk (own := own) s0' H0 C c fp) a g6 t rt).1) he' (bs_of s g) kp').x
            exact ⟨_, ps_setLc ok.b.x.calm (nodupX ok) l1 (by rw [ok.b.x.scope]; exact h4) hsw p1 (by rw [ok.b.x.names, ok.b.x.scope]; exact blkOk_by g1) p2 p3 p4 (fun x => fold_of (it.pl _ _ _ _ hsh)), p5⟩
          rcases bindS_some he with ⟨d, t1, e1, e2⟩ | ⟨y, t1, e1, rfl⟩
          · exact pack _ e1 ⟨fun d' t' ee v H' F' cd cs' l kk s' g' rd => by cases ee; exact fin d t1 e1 e2 v H' F' cd cs' l kk s' g' rd, fun _ _ ee => nomatch ee⟩
          · exact pack _ e1 ⟨fun _ _ ee => (nomatch ee), fun x' t' ee cls od H' F' cs' l kk s' g' rx => by cases ee; exact kp.ex y t1 rfl cls od σ H' F' cs' l kk s' g' rx (fun _ _ => rfl) rfl⟩
        · cases g4
  · have h4 : swapB sc e x p = false := by
      rcases h4 with h4 | ⟨h4, _⟩
      · exact h4
      · exact absurd h4 hl
    have hne : noComp e = true ∨ ∃ a b s q, e = .ListComp a b s q := by
      cases e <;> first | exact .inl rfl | exact .inr ⟨_, _, _, _, rfl⟩ | (simp [swapB] at h4)
    have hsw := swap_val hkind (x := x) (p := p) (l := pos.line) hne
    rw [ok.b.x.scope, h4] at hsw
    refine ⟨_, ps_set (nodupX ok) l1 l2 pe_mx hsw l3, ?_⟩
    exact ex_run ok h3 he s g kp fin
end
end Ev
end
section
set_option maxRecDepth 100000
set_option maxHeartbeats 4000000
namespace Ev
open PySem PySem.Spec L2
section
variable {P : Pg} {X : Cx} {N : List Str} {sc : Scope} {k : Nat} {cl : Cl} {W : WX}
theorem swNo {tg e : Expr} {env : Env} (h : isTupE e = false) : swappedStores [tg] e env = pure none := by
  unfold swappedStores
  cases e <;> first | (simp [isTupE] at h; done) | skip
  all_goals (cases tg <;> rfl)
theorem assign1 {e : Expr} {env : Env} (h : plainX e = true) : (assignEach [e] env).map (·.2) = [assign e env] := by
  rw [assignEach_plain (by simp [h])]; rfl
theorem s_asg (ok : SOk P X N sc k cl W) {gg : Tg} {b : B P} {tg e : Expr} {pos : Pos} {n : Nat} {pr : List Nat} (hc : chkS N sc pr (.asg gg b) (.Assign [tg] e pos) = true) {t : Tr} {r : RsS} (he : exS cl n (.asg gg b) t = some r) : SVal X W pr r t (mxS X (.Assign [tg] e pos)) := by
  intro σ H F cs cx D s g kp
  simp only [chkS, Bool.and_eq_true, Bool.not_eq_true'] at hc
  obtain ⟨⟨⟨⟨⟨h1, h2⟩, h3⟩, h4⟩, h5⟩, h6⟩ := hc
  simp only [exS] at he
  refine ⟨_, ps_asg pe_mx pg_mx (swaps_of h4) (swNo h5) (assign1 h2), ?_⟩
  refine ex_run ok h6 he s g kp fun d t1 _ e2 v H' F' cd cs' l kk s' g' rd => ?_
  obtain ⟨t2, e3, e4⟩ := Option.map_eq_some_iff.mp e2
  subst e4
  refine asg_ok ok.tg gg tg h3 d t1 t2 e3 v σ H' F' cs' cx cd D.nx s' rd g' fun σ2 cs2 s2 g2 k2 l2 => ?_
  exact kp.nx _ rfl σ2 H' F' cs2 l kk s2 g2 (fun j hj => k2 j (out_ok h1 j hj)) l2
theorem s_unp (ok : SOk P X N sc k cl W) {l : List Tg} {i : Nat} {tg e : Expr} {pos : Pos} {n : Nat} {pr : List Nat} (hc : chkS N sc pr (.unp l i : S P) (.Assign [tg] e pos) = true) {t : Tr} {r : RsS} (he : exS cl n (.unp l i : S P) t = some r) : SVal X W pr r t (mxS X (.Assign [tg] e pos)) := by
  intro σ H F cs cx D s g kp
  simp only [chkS, Bool.and_eq_true, Bool.not_eq_true'] at hc
  obtain ⟨⟨⟨⟨⟨h1, h2⟩, h3⟩, h4⟩, h5⟩, h6⟩ := hc
  simp only [exS] at he
  split at he
  case h_2 => cases he
  case h_1 xs hx =>
  split at he
  case isFalse => cases he
  case isTrue hf =>
  obtain ⟨t2, e3, e4⟩ := Option.map_eq_some_iff.mp he
  subst e4
  cases e with
  | Name x p =>
    obtain ⟨z1, z2, z3, z4⟩ := visB_ok ok.b.x h6
    obtain ⟨v, a1, a2, q1, q2, q3, q4⟩ := s.take hx
    simp only [Rp] at q2
    obtain ⟨a, vs, c', rfl, hH, rs, rfl⟩ := q2
    cases tg with
    | Tuple es kk tpos =>
      simp only [chkTg, Bool.and_eq_true] at h3
      refine ⟨_, ps_asg (pe_var z1 z2 z3 z4) (pg_unl ok.b.x.calm pgs_mx (assignEach_len h3.1) (assignEach_star h3.1)) rfl (swNo h5) (assign1 h2), ?_⟩
      refine ⟨.ref a, q1, a, vs, rfl, .inl (.inl hH), ?_, ?_⟩
      · rw [← rs.length, ← asgs_len e3, chkTgs_len h3.2]
      refine asgs_ok ok.tg l es h3.1 h3.2 xs t t2 e3 vs σ H F cs cx [] _ s (rs.flat hf) (by simpa using g) fun σ2 cs2 s2 g2 k2 l2 => ?_
      exact kp.nx _ rfl σ2 H F cs2 (Le.refl F) (fun _ _ => rfl) s2 g2 (fun j hj => k2 j (out_ok h1 j hj)) l2
    | _ => simp [chkTg] at h3
  | _ => simp [chkA] at h6
theorem s_ret (ok : SOk P X N sc k cl W) {b : B P} {e : Expr} {pos : Pos} {n : Nat} {pr : List Nat} (h2 : chkB N sc b e = true) {t : Tr} {r : RsS} (he : exS cl n (.ret b) t = some r) : SVal X W pr r t (mxS X (.Return (some e) pos)) := by
  intro σ H F cs cx D s g kp
  simp only [exS] at he
  refine ⟨_, ps_ret pe_mx, ?_⟩
  refine ex_run ok h2 he s g kp fun d t1 _ e2 v H' F' cd cs' l kk s' g' rd => ?_
  cases e2
  exact kp.rt _ _ rfl v σ H' F' cd cs' l kk s' g' rd (fun _ _ => rfl) rfl
theorem s_ret0 {pos : Pos} {n : Nat} {pr : List Nat} {t : Tr} {r : RsS} (he : exS cl n (.ret0 : S P) t = some r) : SVal X W pr r t (mxS X (.Return none pos)) := by
  intro σ H F cs cx D s g kp
  simp only [exS] at he
  cases he
  exact ⟨_, ps_retN, kp.rt _ _ rfl .non σ H F [] cs (Le.refl F) (fun _ _ => rfl) s g (by simp only [Rp]; exact ⟨trivial, trivial⟩) (fun _ _ => rfl) rfl⟩
theorem s_pass {pos : Pos} {n : Nat} {pr : List Nat} {t : Tr} {r : RsS} (he : exS cl n (.pass : S P) t = some r) : SVal X W pr r t (mxS X (.Pass pos)) := by
  intro σ H F cs cx D s g kp
  simp only [exS] at he
  cases he
  exact ⟨_, ps_pass, kp.nx _ rfl σ H F cs (Le.refl F) (fun _ _ => rfl) s g (fun _ _ => rfl) rfl⟩
/-- the operands of a statement -/
theorem os_run {h : Option Nat} {hd : Option HD} (ok : SOk P X N sc k cl W) {es : List (B P)} {xs : List Expr} (hc : chkBs N sc es xs = true) {t rt : Tr} {f : List Opd → Tr → Option RsS} {r : RsS} (he : bindS (evOs cl h rt es t) f = some r) {σ : L2.St} {H F : Hp} {cs cx cy : List Addr} {pr : List Nat} {E : L2.Ends} {R : List V → Hp → VK → Prop} {Q : VK}
    (s : BS X.K X.mg H F t rt σ cs (cy ++ cx)) (hh : h = hd.map HD.i) (hx : ∀ x, hd = some x → HDok X.K X.mg H F rt σ (cy ++ cx) x) (kp : PostS X W H F σ cx pr r E)
    (hk : ∀ os t1, evOs cl h rt es t = some (.ok os t1) → f os t1 = some r → ∀ ws H' F' cv cs', Le F F' → (∀ a ∈ cy ++ cx, H' a = H a) → SR X.K X.mg H' F' t1 σ cs' → Good H' F' (cv ++ cs' ++ (cy ++ cx)) → RO X.K X.mg H' F' σ hd os ws cv → R ws H' Q) : tOps (xs.map (mx X)) R σ H Q := by
  rcases bindS_some he with ⟨os, t1, e1, e2⟩ | ⟨x, t1, e1, rfl⟩
  · exact os_at (evOs_ok es ok.b xs hc).1 e1 s hh hx (hk os t1 e1 e2)
  · exact os_ex (evOs_ok es ok.b xs hc).1 e1 s hh hx fun cls od H' F' cs' l kk s' g' rx => kp.ex x t1 rfl cls od σ H' F' cs' l (fun a ha => kk a (by simp [ha])) s' (g'.part (g := cy) (perm_of fun z => by simp only [List.count_append]; omega)) rx (fun _ _ => rfl) rfl
theorem s_par (ok : SOk P X N sc k cl W) {i j : Nat} {a b : B P} {st : Stmt} {n : Nat} {pr : List Nat} (hc : chkS N sc pr (.par i j a b) st = true) {t : Tr} {r : RsS} (he : exS cl n (.par i j a b) t = some r) : SVal X W pr r t (mxS X st) := by
  intro σ H F cs cx D s g kp
  obtain ⟨x, p, y, q, kt, pt, u, w, k2, pt2, pos, rfl⟩ := inv_par hc
  simp only [chkS, Bool.and_eq_true, Bool.not_eq_true', decide_eq_true_eq, beq_iff_eq] at hc
  obtain ⟨⟨⟨⟨⟨⟨⟨⟨⟨⟨⟨h1, h2⟩, h3⟩, h4⟩, h5⟩, h6⟩, h7⟩, h8⟩, h9⟩, h10⟩, h11⟩, h12⟩ := hc
  have hne : x ≠ y := fun e => h4 (nodup_ix ok.b.x.nd h2 (by rw [e]; exact h3))
  have hx : X.env.kindOf x = some .local := by show X.env.scope.names.lookup x = _; rw [ok.b.x.scope]; exact h5
  have hy : X.env.kindOf y = some .local := by show X.env.scope.names.lookup y = _; rw [ok.b.x.scope]; exact h6
  have hb : X.env.blockKind = .function := by
    unfold Env.blockKind
    rw [ok.b.x.scope, ok.kind]; rfl
  have h11' : (constantsAlone 8 u && constantsAlone 8 w) = false := h11
  have h10' : (foldedForSure 8 u && foldedForSure 8 w) = false := h10
  have hsw : swappedStores [.Tuple [.Name x p, .Name y q] kt pt] (.Tuple [u, w] k2 pt2) X.env = pure (some [x, y]) := by
    unfold swappedStores
    simp only [hb]
    have e1 : ([u, w].any fun | .Starred .. => true | _ => false) = false := by
      show (_ || (_ || false)) = false
      rw [Bool.or_eq_false_iff, Bool.or_eq_false_iff]
      exact ⟨by cases u <;> first | rfl | (simp [plainX] at h7), by cases w <;> first | rfl | (simp [plainX] at h8), rfl⟩
    have hd : ([x, y].eraseDups.length != [x, y].length) = false := by
      have : (y == x) = false := beq_eq_false_iff_ne.mpr (Ne.symm hne)
      simp [List.eraseDups_cons, this]
    simp only [List.filterMap_cons, List.filterMap_nil, List.head?_cons, Option.map_some, Option.getD_some, hx, hy, e1]
    have h9' : (q.line == p.line) = true := by rw [beq_iff_eq]; exact h9.symm
    simp only [Expr.pos, beq_self_eq_true, Bool.and_self, h9', Bool.true_and, if_true, hd]
    simp only [List.all_cons, List.all_nil, Bool.and_true, h10', h11']
    exact (if_neg (by simp)).trans ((if_neg (fun hh => Bool.false_ne_true (e1.symm.trans hh))).trans ((if_neg (by simp)).trans ((if_neg (by decide)).trans (if_neg (by decide)))))
  refine ⟨_, ps_par ok.b.x.calm (nodupX ok) (by rw [ok.b.x.names]; exact h2) (by rw [ok.b.x.names]; exact h3) h4 hx hy (pa_all (allPE_mx [u, w]) (by simp [h7, h8])) hsw, ?_⟩
  simp only [exS] at he
  show tL ([u, w].map (mx X)) σ H _
  have main : tOps ([u, w].map (mx X)) (fun vs H1 _ => ∃ v w, vs = [v, w] ∧ D.nx ((σ.set i (some v)).set j (some w)) H1) σ H (fun _ _ => True) := by
    refine os_run ok (cy := []) h12 he (bs_of s g) (hd := none) rfl no_hd kp fun os t1 e1 e2 ws H' F' cv cs' l kk s' g' ro => ?_
    have e2 : (match valsOf os with
      | some [d, e] => if i < t1.length ∧ j < t1.length then some (RsS.nx ((t1.set i (some d)).set j (some e))) else none
      | _ => none) = some r := e2
    split at e2
    · rename_i d e ev
      split at e2
      · rename_i hl
        cases e2
        have rs := ro.vals ev
        simp only [Rps] at rs
        obtain ⟨v, w', c1, c2, rfl, rfl, r1, v2, w2, c3, c4, rfl, rfl, r2, rfl, rfl⟩ := rs
        refine ⟨v, v2, rfl, ?_⟩
        obtain ⟨cs2, s2, g2⟩ := set_slot (cx := c3 ++ cx) s' r1 (g'.perm (perm_of fun z => by simp only [List.count_append, List.count_nil]; omega)) hl.1
        obtain ⟨cs3, s3, g3⟩ := set_slot (cx := cx) s2 r2 (g2.perm (perm_of fun z => by simp only [List.count_append]; omega)) (by rw [List.length_set]; exact hl.2)
        refine kp.nx _ rfl _ H' F' cs3 l kk s3 g3 (fun m hm => ?_) (by rw [List.length_set, List.length_set])
        have := out_ok h1 m hm
        simp only [List.mem_cons, List.not_mem_nil, or_false, not_or] at this
        rw [List.getElem?_set_ne (Ne.symm this.2), List.getElem?_set_ne (Ne.symm this.1)]
      · cases e2
    · cases e2
  rw [tL_ops] at main; exact main
end
end Ev
end
section
set_option maxRecDepth 100000
set_option maxHeartbeats 4000000
namespace Ev
open PySem PySem.Spec L2
section
variable {P : Pg} {X : Cx} {N : List Str} {sc : Scope} {k : Nat} {cl : Cl} {W : WX}
theorem SR.at' {K : PySem.W.Frag} {mg : Str → Option Value} {H F : Hp} {t : Tr} {σ : L2.St} {c : List Addr} (s : SR K mg H F t σ c) {i : Nat} {d : D} (h : t[i]? = some (some d)) : ∃ v, σ[i]? = some (some v) := by
  obtain ⟨v, _, _, e, _⟩ := s.take h
  exact ⟨v, e⟩
theorem s_put0 (ok : SOk P X N sc k cl W) {o : Put P} {v : B P} {es : List (B P)} {tg e : Expr} {xs : List Expr} {pos : Pos} {n : Nat} {pr : List Nat} (hsh : o.sh sc tg = some xs) (h2 : chkB N sc v e = true) (h3 : chkBs N sc es xs = true) {t : Tr} {r : RsS} (he : exS cl n (.put o none v es) t = some r) : SVal X W pr r t (mxS X (.Assign [tg] e pos)) := by
  intro σ H F cs cx D s g kp
  simp only [exS] at he
  have bad : ∀ (x : Xn) (t1 : Tr), evB cl (noRt t) v t = some (.ex x t1) → mxS X (.Assign [tg] e pos) D σ H := fun x t1 e1 => by
    rw [e1] at he
    cases he
    obtain ⟨R, hr⟩ := o.sound X N sc ok.b.x tg xs hsh
    refine ⟨_, hr e pos (mx X e) (xs.map (mx X)) pe_mx (allPE_mx xs), ?_⟩
    exact (evB_ok v ok.b e h2 t (noRt t)).1 _ e1 σ H F cs cx _ (bs_of s g) ⟨fun _ _ ee => (nomatch ee), fun x' t' ee cls od H' F' cs' l kk s' g' rx => by cases ee; exact kp.ex x t1 rfl cls od σ H' F' cs' l kk s' g' rx (fun _ _ => rfl) rfl⟩
  rcases bindS_some he with ⟨y, t1, e1, e2⟩ | ⟨x, t1, e1, _⟩
  case inr => exact bad x t1 e1
  rcases bindS_some e2 with ⟨os, t2, e3, e4⟩ | ⟨x, t2, e3, rfl⟩
  case inr =>
    obtain ⟨R, hr⟩ := o.sound X N sc ok.b.x tg xs hsh
    refine ⟨_, hr e pos (mx X e) (xs.map (mx X)) pe_mx (allPE_mx xs), ?_⟩
    refine (evB_ok v ok.b e h2 t (noRt t)).1 _ e1 σ H F cs cx _ (bs_of s g) ⟨fun d' t' ee yv H1 F1 cy cs1 l1 k1 s1 g1 ry => ?_, fun _ _ ee => nomatch ee⟩
    cases ee
    have b1 : BS X.K X.mg H1 F1 t1 (noRt t) σ cs1 (cy ++ cx) := ⟨s1, ⟨[], noRt_SR s.len, fun a ha => by simp at ha⟩, g1.perm (perm_of fun z => by simp only [List.count_append]; omega)⟩
    have main : tOps (xs.map (mx X)) (fun vs H2 _ => R vs yv H2 fun H3 => D.nx σ H3) σ H1 (fun _ _ => True) := os_ex (evOs_ok es ok.b xs h3).1 e3 b1 rfl no_hd fun cls od H' F' cs' l kk s' g' rx => kp.ex x t2 rfl cls od σ H' F' cs' (l1.trans l) (fun a ha => (kk a (by simp [ha])).trans (k1 a ha)) s' (g'.part (g := cy) (perm_of fun z => by simp only [List.count_append]; omega)) rx (fun _ _ => rfl) rfl
    rw [tL_ops] at main; exact main
  split at e4
  case h_2 => cases e4
  case h_1 i rr =>
  split at e4
  case h_2 => cases e4
  case h_1 d ds q1 q2 =>
  obtain ⟨d', q3, e5⟩ := Option.map_eq_some_iff.mp e4
  subst e5
  obtain ⟨R, hr, h⟩ := o.ok X N sc ok.b.x tg xs hsh d ds y d' q3
  refine ⟨_, hr e pos (mx X e) (xs.map (mx X)) pe_mx (allPE_mx xs), ?_⟩
  refine (evB_ok v ok.b e h2 t (noRt t)).1 _ e1 σ H F cs cx _ (bs_of s g) ⟨fun d' t' ee yv H1 F1 cy cs1 l1 k1 s1 g1 ry => ?_, fun _ _ ee => nomatch ee⟩
  cases ee
  have b1 : BS X.K X.mg H1 F1 t1 (noRt t) σ cs1 (cy ++ cx) := ⟨s1, ⟨[], noRt_SR s.len, fun a ha => by simp at ha⟩, g1.perm (perm_of fun z => by simp only [List.count_append]; omega)⟩
  have main : tOps (xs.map (mx X)) (fun vs H2 _ => R vs yv H2 fun H3 => D.nx σ H3) σ H1 (fun _ _ => True) := by
    refine os_at (evOs_ok es ok.b xs h3).1 e3 b1 rfl no_hd fun ws H2 F2 cv cs2 l2 k2 s2 g2 ro => ?_
    simp only [RO] at ro
    obtain ⟨x, w, rfl, ev, ro⟩ := ro
    obtain ⟨x', c1, c2, ev', rp, s3, p⟩ := s2.take q1
    rw [ev] at ev'; cases ev'
    refine h x w yv H2 F2 (c2 ++ cx) c1 cv cy _ rp (ro.vals q2) (Rp.keep l2 _ _ _ ry fun a ha => k2 a (by simp [ha])) (g2.perm (perm_of fun z => ?_)) fun H3 cd' k3 g3 rd => ?_
    · have := p.count_eq z
      simp only [List.count_append] at *
      omega
    · have hi : i < t2.length := (List.getElem?_eq_some_iff.mp q1).1
      have s4 := SR.put (s3.keep (Le.refl F2) fun b hb => k3 b (by simp [hb])) hi ev rd
      exact kp.nx _ rfl σ H3 F2 _ (l1.trans l2) (fun b hb => (k3 b (by simp [hb])).trans ((k2 b (by simp [hb])).trans (k1 b hb))) s4 (by simpa only [List.append_assoc] using g3) (fun _ _ => rfl) rfl
  rw [tL_ops] at main; exact main
theorem s_put1 (ok : SOk P X N sc k cl W) {o : Put P} {i : Nat} {v : B P} {es : List (B P)} {tg e : Expr} {xs : List Expr} {pos : Pos} {n : Nat} {pr : List Nat} (hsh : o.sh sc tg = some xs) (h2 : chkB N sc v e = true) (h3 : chkBs N sc es xs = true) {t : Tr} {r : RsS} (he : exS cl n (.put o (some i) v es) t = some r) : SVal X W pr r t (mxS X (.Assign [tg] e pos)) := by
  intro σ H F cs cx D s g kp
  simp only [exS] at he
  rcases bindS_some he with ⟨y, t1, e1, e2⟩ | ⟨x, t1, e1, rfl⟩
  case inr =>
    obtain ⟨R, hr⟩ := o.sound X N sc ok.b.x tg xs hsh
    refine ⟨_, hr e pos (mx X e) (xs.map (mx X)) pe_mx (allPE_mx xs), ?_⟩
    exact (evB_ok v ok.b e h2 t (noRt t)).1 _ e1 σ H F cs cx _ (bs_of s g) ⟨fun _ _ ee => (nomatch ee), fun x' t' ee cls od H' F' cs' l kk s' g' rx => by cases ee; exact kp.ex x t1 rfl cls od σ H' F' cs' l kk s' g' rx (fun _ _ => rfl) rfl⟩
  split at e2
  case h_2 => cases e2
  case h_1 d0 hi =>
  have pack : ∀ (R : List V → V → Hp → (Hp → Prop) → Prop), (∀ yv H1 F1 cy cs1, Le F F1 → (∀ a ∈ cx, H1 a = H a) → SR X.K X.mg H1 F1 t1 σ cs1 → Good H1 F1 (cy ++ cs1 ++ cx) → Rp X.K X.mg H1 F1 y yv cy → tOps (xs.map (mx X)) (fun vs H2 _ => R vs yv H2 fun H3 => D.nx σ H3) σ H1 (fun _ _ => True)) →
      mx X e σ H fun yv H1 => tL (xs.map (mx X)) σ H1 fun vs H2 => R vs yv H2 fun H3 => D.nx σ H3 := by
    intro R hR
    refine (evB_ok v ok.b e h2 t (noRt t)).1 _ e1 σ H F cs cx _ (bs_of s g) ⟨fun d' t' ee yv H1 F1 cy cs1 l1 k1 s1 g1 ry => ?_, fun _ _ ee => nomatch ee⟩
    cases ee
    have z := hR yv H1 F1 cy cs1 l1 k1 s1 g1 ry
    rw [tL_ops] at z; exact z
  have hide : ∀ H1 F1 cy cs1, SR X.K X.mg H1 F1 t1 σ cs1 → Good H1 F1 (cy ++ cs1 ++ cx) → ∃ (h : HD) (ch : List Addr), h.i = i ∧ h.d = d0 ∧ BS X.K X.mg H1 F1 (t1.set i none) ((noRt t).set i (some d0)) σ ch ((h.c ++ cy) ++ cx) ∧ HDok X.K X.mg H1 F1 ((noRt t).set i (some d0)) σ ((h.c ++ cy) ++ cx) h ∧ σ[h.i]? = some (some h.v) := by
    intro H1 F1 cy cs1 s1 g1
    have b1 : BS X.K X.mg H1 F1 t1 (noRt t) σ cs1 (cy ++ cx) := ⟨s1, ⟨[], noRt_SR s.len, fun a ha => by simp at ha⟩, g1.perm (perm_of fun z => by simp only [List.count_append]; omega)⟩
    obtain ⟨h, ch, rfl, rfl, s2, hx, hv, hlen⟩ := b1.hide hi
    have hir : h.i < (noRt t).length := by rw [← hlen]; exact (List.getElem?_eq_some_iff.mp hi).1
    have hx := hx hir
    rw [← List.append_assoc] at s2 hx
    exact ⟨h, ch, rfl, rfl, s2, hx, hv⟩
  rcases bindS_some e2 with ⟨os, t2, e3, e4⟩ | ⟨x, t2, e3, rfl⟩
  case inr =>
    obtain ⟨R, hr⟩ := o.sound X N sc ok.b.x tg xs hsh
    refine ⟨_, hr e pos (mx X e) (xs.map (mx X)) pe_mx (allPE_mx xs), pack R fun yv H1 F1 cy cs1 l1 k1 s1 g1 ry => ?_⟩
    obtain ⟨h, ch, rfl, rfl, s2, hx, hv⟩ := hide H1 F1 cy cs1 s1 g1
    exact os_ex (evOs_ok es ok.b xs h3).1 e3 s2 (hd := some h) rfl (fun x e => by cases e; exact hx) fun cls od H' F' cs' l kk s' g' rx => kp.ex x t2 rfl cls od σ H' F' cs' (l1.trans l) (fun a ha => (kk a (by simp [ha])).trans (k1 a ha)) s' (g'.part (g := h.c ++ cy) (perm_of fun z => by simp only [List.count_append]; omega)) rx (fun _ _ => rfl) rfl
  split at e4
  case h_2 => cases e4
  case h_1 j st rr =>
  split at e4
  case h_2 => cases e4
  case h_1 d ds q1 q2 =>
  split at e4
  case isTrue => cases e4
  case isFalse hj =>
  obtain ⟨z, q3, e5⟩ := Option.bind_eq_some_iff.mp e4
  obtain ⟨d2, q4, e6⟩ := Option.map_eq_some_iff.mp e5
  subst e6
  obtain ⟨R, hr, h⟩ := o.ok X N sc ok.b.x tg xs hsh d ds y z q3
  refine ⟨_, hr e pos (mx X e) (xs.map (mx X)) pe_mx (allPE_mx xs), pack R fun yv H1 F1 cy cs1 l1 k1 s1 g1 ry => ?_⟩
  obtain ⟨hh, ch, rfl, rfl, s2, hx, hv⟩ := hide H1 F1 cy cs1 s1 g1
  refine os_at (evOs_ok es ok.b xs h3).1 e3 s2 (hd := some hh) rfl (fun x e => by cases e; exact hx) fun ws H2 F2 cv cs2 l2 k2 s3 g2 ro => ?_
  simp only [RO] at ro
  obtain ⟨x, w, h', d1, rfl, eh, ei, foc, ro⟩ := ro
  cases eh
  obtain ⟨fg, c1, rest, p, rp, back⟩ := foc
  rw [q1] at fg; cases fg
  refine h x w yv H2 F2 (cs2 ++ rest ++ cx) c1 cv cy _ rp (ro.vals q2) (Rp.keep l2 _ _ _ ry fun a ha => k2 a (by simp [ha])) (g2.perm (perm_of fun z => ?_)) fun H3 cd' k3 g3 rd => ?_
  · have := p.count_eq z
    simp only [List.count_append] at *
    omega
  · obtain ⟨d3, c3, b1, b2, b3⟩ := back H3 F2 z cd' (Le.refl F2) (fun b hb => k3 b (by simp [hb])) rd
    rw [q4] at b1; cases b1
    obtain ⟨c4, g4, s4, p4⟩ := unhide (s3.keep (Le.refl F2) fun b hb => k3 b (by simp [hb])) hv b2
    refine kp.nx _ rfl σ H3 F2 _ (l1.trans l2) (fun b hb => (k3 b (by simp [hb])).trans ((k2 b (by simp [hb])).trans (k1 b hb))) s4 (g3.part (g := g4) (perm_of fun z => ?_)) (fun _ _ => rfl) rfl
    have a1 := b3.count_eq z
    have a2 := p4.count_eq z
    simp only [List.count_append] at *
    omega
theorem s_aug (ok : SOk P X N sc k cl W) {o : Aug P} {i : Nat} {b : B P} {x : Str} {p pos : Pos} {op : Operator} {e : Expr} {n : Nat} {pr : List Nat} (hc : chkS N sc pr (.aug o i b) (.AugAssign (.Name x p) op e pos) = true) {t : Tr} {r : RsS} (he : exS cl n (.aug o i b) t = some r) : SVal X W pr r t (mxS X (.AugAssign (.Name x p) op e pos)) := by
  intro σ H F cs cx D s g kp
  simp only [chkS, Bool.and_eq_true, decide_eq_true_eq] at hc
  obtain ⟨⟨⟨h1, h2⟩, rfl⟩, h4⟩ := hc
  obtain ⟨l1, l2, l3⟩ := locB_ok ok h2
  simp only [exS] at he
  split at he
  case h_2 => cases he
  case h_1 d0 hi =>
  obtain ⟨x0, ex0⟩ := s.at' hi
  rcases bindS_some he with ⟨y, t1, e1, e2⟩ | ⟨z, t1, e1, rfl⟩
  · split at e2
    case h_2 => cases e2
    case h_1 d hi1 =>
    obtain ⟨d', q, e3⟩ := Option.map_eq_some_iff.mp e2
    subst e3
    obtain ⟨R, hp, h⟩ := o.ok X N sc ok.b.x d y d' q
    refine ⟨_, ps_aug (nodupX ok) l1 l2 pe_mx hp l3, x0, ex0, ?_⟩
    refine (evB_ok b ok.b e h4 t (noRt t)).1 _ e1 σ H F cs cx _ (bs_of s g) ⟨fun d'' t' ee yv H1 F1 cy cs1 k1 kk1 s1 g1 ry => ?_, fun _ _ ee => nomatch ee⟩
    cases ee
    obtain ⟨x1, c1, c2, ev, rp, s2, pp⟩ := s1.take hi1
    rw [ex0] at ev; cases ev
    refine h x0 yv H1 F1 (c2 ++ cx) c1 cy _ rp ry (g1.perm (perm_of fun z => ?_)) fun z H2 F2 cd' l2' k2 g2 rd => ?_
    · have := pp.count_eq z
      simp only [List.count_append] at *
      omega
    · have hlt : i < t1.length := (List.getElem?_eq_some_iff.mp hi1).1
      have s3 := s2.keep l2' fun b hb => k2 b (by simp [hb])
      obtain ⟨cs4, s4, g4⟩ := set_slot (cd := cd') (cx := cx) (d := d') (v := z) (i := i) s3 rd (by simpa only [List.append_assoc] using g2) (by rw [List.length_set]; exact hlt)
      rw [List.set_set] at s4
      refine kp.nx _ rfl _ H2 F2 cs4 (k1.trans l2') (fun b hb => (k2 b (by simp [hb])).trans (kk1 b hb)) s4 g4 (fun j hj => ?_) (by rw [List.length_set])
      have := out_ok h1 j hj
      simp only [List.mem_singleton] at this
      rw [List.getElem?_set_ne (Ne.symm this)]
  · have hp : PIp X o.op (fun _ _ _ _ => False) := fun _ _ _ _ _ _ _ _ _ _ _ _ h => h.elim
    refine ⟨_, ps_aug (nodupX ok) l1 l2 pe_mx hp l3, x0, ex0, ?_⟩
    exact (evB_ok b ok.b e h4 t (noRt t)).1 _ e1 σ H F cs cx _ (bs_of s g) ⟨fun _ _ ee => (nomatch ee), fun x' t' ee cls od H' F' cs' l kk s' g' rx => by cases ee; exact kp.ex z t1 rfl cls od σ H' F' cs' l kk s' g' rx (fun _ _ => rfl) rfl⟩
end
end Ev
end
section
set_option maxRecDepth 100000
set_option maxHeartbeats 4000000
namespace Ev
open PySem PySem.Spec L2
theorem putF_zip {f : Str} {v : V} : ∀ {fs : List Str} {vs : List V} {q : Nat}, idxOf f fs = some q → fs.length = vs.length → putF f v (fs.zip vs) = fs.zip (vs.set q v)
  | [], vs, q, h, _ => by simp [idxOf] at h
  | g :: fs, [], q, h, hl => by simp at hl
  | g :: fs, w :: vs, q, h, hl => by
    by_cases e : g = f
    · subst e
      simp [idxOf] at h
      subst h
      simp [putF]
    · simp only [idxOf, if_neg e] at h
      obtain ⟨q', h1, rfl⟩ := Option.map_eq_some_iff.mp h
      rw [List.zip_cons_cons]
      show (if g = f then (g, v) :: fs.zip vs else (g, w) :: putF f v (fs.zip vs)) = _
      rw [if_neg e, putF_zip h1 (by simpa using hl)]
      rfl
theorem idxOf_lt {f : Str} : ∀ {fs : List Str} {q : Nat}, idxOf f fs = some q → q < fs.length
  | [], q, h => by simp [idxOf] at h
  | g :: fs, q, h => by
    by_cases e : g = f
    · simp [idxOf, e] at h; subst h; simp
    · simp only [idxOf, if_neg e] at h
      obtain ⟨q', h1, rfl⟩ := Option.map_eq_some_iff.mp h
      have := idxOf_lt h1
      simp; omega
section
variable {P : Pg} {X : Cx} {N : List Str} {sc : Scope} {k : Nat} {cl : Cl} {W : WX}
/-- an item exchanged for a tree without cells -/
theorem Rps.setF {K : PySem.W.Frag} {mg : Str → Option Value} {H F H' F' : Hp} (l : Le F F') : ∀ {xs : List D} {vs : List V} {c : List Addr} {q : Nat} {d : D} {v : V}, Rps K mg H F xs vs c → (∀ a ∈ c, H' a = H a) → q < xs.length → Rp K mg H' F' d v [] → ∃ c' g, Rps K mg H' F' (xs.set q d) (vs.set q v) c' ∧ c.Perm (g ++ c')
  | [], vs, c, q, d, v, h, k, hq, r => by simp at hq
  | x :: xs, vs, c, 0, d, v, h, k, hq, r => by
    simp only [Rps] at h
    obtain ⟨w, ws, c1, c2, rfl, rfl, r1, r2⟩ := h
    refine ⟨[] ++ c2, c1, ?_, by simp⟩
    show Rps K mg H' F' (d :: xs) (v :: ws) _
    simp only [Rps]
    exact ⟨v, ws, [], c2, rfl, rfl, r, Rps.keep l _ _ _ r2 fun a ha => k a (by simp [ha])⟩
  | x :: xs, vs, c, q + 1, d, v, h, k, hq, r => by
    simp only [Rps] at h
    obtain ⟨w, ws, c1, c2, rfl, rfl, r1, r2⟩ := h
    obtain ⟨c', g, r3, p⟩ := Rps.setF l (q := q) r2 (fun a ha => k a (by simp [ha])) (by simpa using hq) r
    refine ⟨c1 ++ c', g, ?_, perm_of fun z => ?_⟩
    · show Rps K mg H' F' (x :: xs.set q d) (w :: ws.set q v) _
      simp only [Rps]
      exact ⟨w, _, c1, c', rfl, rfl, Rp.keep l _ _ _ r1 fun a ha => k a (by simp [ha]), r3⟩
    · have := p.count_eq z
      simp only [List.count_append] at *
      omega
/-- .. for any tree beside -/
theorem Rps.setD {K : PySem.W.Frag} {mg : Str → Option Value} {H F : Hp} : ∀ {xs : List D} {vs : List V} {c cd : List Addr} {q : Nat} {d : D} {v : V}, Rps K mg H F xs vs c → q < xs.length → Rp K mg H F d v cd → ∃ c' g, Rps K mg H F (xs.set q d) (vs.set q v) c' ∧ (cd ++ c).Perm (g ++ c')
  | [], vs, c, cd, q, d, v, h, hq, r => by simp at hq
  | x :: xs, vs, c, cd, 0, d, v, h, hq, r => by
    simp only [Rps] at h
    obtain ⟨w, ws, c1, c2, rfl, rfl, r1, r2⟩ := h
    refine ⟨cd ++ c2, c1, ?_, perm_of fun z => by simp only [List.count_append]; omega⟩
    show Rps K mg H F (d :: xs) (v :: ws) _
    simp only [Rps]
    exact ⟨v, ws, cd, c2, rfl, rfl, r, r2⟩
  | x :: xs, vs, c, cd, q + 1, d, v, h, hq, r => by
    simp only [Rps] at h
    obtain ⟨w, ws, c1, c2, rfl, rfl, r1, r2⟩ := h
    obtain ⟨c', g, r3, p⟩ := Rps.setD (q := q) r2 (by simpa using hq) r
    refine ⟨c1 ++ c', g, ?_, perm_of fun z => ?_⟩
    · show Rps K mg H F (x :: xs.set q d) (w :: ws.set q v) _
      simp only [Rps]
      exact ⟨w, _, c1, c', rfl, rfl, r1, r3⟩
    · have := p.count_eq z
      simp only [List.count_append] at *
      omega
theorem vis_pe (ok : SOk P X N sc k cl W) {i : Nat} {x : Str} {p : Pos} (h : visB N sc i x = true) : PE X (.Name x p) (tVar i) := by
  obtain ⟨h1, h2, h3, h4⟩ := visB_ok ok.b.x h
  exact pe_var h1 h2 h3 h4
theorem s_augA (ok : SOk P X N sc k cl W) {o : Aug P} {i : Nat} {f : Str} {b : B P} {x gn : Str} {p q0 pos : Pos} {op : Operator} {e : Expr} {n : Nat} {pr : List Nat} (hc : chkS N sc pr (.augA o i f b) (.AugAssign (.Attribute (.Name x p) gn q0) op e pos) = true) {t : Tr} {r : RsS} (he : exS cl n (.augA o i f b) t = some r) : SVal X W pr r t (mxS X (.AugAssign (.Attribute (.Name x p) gn q0) op e pos)) := by
  intro σ H F cs cx D s g kp
  simp only [chkS, Bool.and_eq_true, decide_eq_true_eq] at hc
  obtain ⟨⟨⟨h1, rfl⟩, rfl⟩, h4⟩ := hc
  simp only [exS] at he
  split at he
  case h_2 => cases he
  case h_1 C fs xs hi =>
  split at he
  case h_2 => cases he
  case h_1 kk hlk hatt =>
  have hatt := of_decide_eq_true hatt
  obtain ⟨v0, c1, c2, ev, rp, s2, pp⟩ := s.take hi
  simp only [Rp] at rp
  obtain ⟨a, A, dx, vs, c', rfl, hA, hlen, hH, rs, rfl⟩ := rp
  obtain ⟨y1, y2⟩ := ok.b.x.cls C A gn hatt hA
  obtain ⟨qq, z1, z2⟩ := zip_lookup hlk
  obtain ⟨w1, cw, z3, z4, z5⟩ := rs.get z1
  have z4 := z4.intE
  subst z4
  have hl := z2 rs.length _ z3
  rcases bindS_some he with ⟨y, t1, e1, e2⟩ | ⟨z, t1, e1, rfl⟩
  · split at e2
    case h_2 => cases e2
    case h_1 C' fs' xs' hi1 =>
    split at e2
    case h_2 => cases e2
    case h_1 k' q d' hk1 hq hd =>
    split at e2
    case isFalse => cases e2
    case isTrue hcond =>
    obtain ⟨rfl, rfl, hF, hl3⟩ := hcond
    cases e2
    obtain ⟨R, hp, h⟩ := o.ok X N sc ok.b.x (.int k') y d' hd
    refine ⟨_, ps_fldaug (vis_pe ok h1) pe_mx hp, _, ev, a, A, dx, _, _, rfl, hH, y1, y2, hl, ?_⟩
    refine (evB_ok b ok.b e h4 t (noRt t)).1 _ e1 σ H F cs cx _ (bs_of s g) ⟨fun d'' t' ee yv H1 F1 cy cs1 k1 kk1 s1 g1 ry => ?_, fun _ _ ee => nomatch ee⟩
    cases ee
    obtain ⟨x1, c3, c4, ev1, rp1, s3, pp1⟩ := s1.take hi1
    rw [ev] at ev1; cases ev1
    simp only [Rp] at rp1
    obtain ⟨a', A', dx', vs', c5, ea, hA', hlen', hH', rs', rfl⟩ := rp1
    cases ea
    rw [hA] at hA'; cases hA'
    refine h _ yv H1 F1 (a :: c5 ++ c4 ++ cx) [] cy _ (by simp only [Rp]; exact ⟨trivial, trivial⟩) ry (g1.perm (perm_of fun z => ?_)) fun z H2 F2 cd' l2' k2 g2 rd => ?_
    · have := pp1.count_eq z
      simp only [List.count_append, List.count_nil] at *
      omega
    · have rd0 := rd.flat hF
      have ha2 : H2 a = some (.ins A dx' (fs'.zip vs')) := (k2 a (by simp)).trans hH'
      have hqlt : q < xs'.length := by rw [← hlen']; exact idxOf_lt hq
      refine ⟨dx', _, ha2, by rw [List.length_zip]; omega, ?_⟩
      rw [putF_zip hq (by rw [hlen', rs'.length])]
      have na : a ∉ c5 ++ c4 ++ cx := by
        have nd := g2.nd
        have p : (cd' ++ (a :: c5 ++ c4 ++ cx)).Perm (a :: (cd' ++ (c5 ++ c4 ++ cx))) := perm_of fun z => by simp only [List.count_append, List.count_cons]; omega
        have := (List.nodup_cons.mp (p.nodup_iff.mp nd)).1
        intro hm
        exact this (by simp only [List.mem_append] at *; exact .inr hm)
      have ku : ∀ b ∈ c5 ++ c4 ++ cx, upd H2 a (.ins A dx' (fs'.zip (vs'.set q z))) b = H2 b := fun b hb => upd_ne fun e => na (e ▸ hb)
      have rd1 : Rp X.K X.mg (upd H2 a (.ins A dx' (fs'.zip (vs'.set q z)))) F2 d' z [] := Rp.keep (Le.refl F2) _ _ _ rd0 fun b hb => by simp at hb
      obtain ⟨c6, g6, rs6, p6⟩ := Rps.setF (H' := upd H2 a (.ins A dx' (fs'.zip (vs'.set q z)))) l2' rs' (fun b hb => (ku b (by simp [hb])).trans (k2 b (by simp [hb]))) hqlt rd1
      have hlt : i < t1.length := (List.getElem?_eq_some_iff.mp hi1).1
      have s4 := s3.keep (H' := upd H2 a (.ins A dx' (fs'.zip (vs'.set q z)))) l2' fun b hb => (ku b (by simp [hb])).trans (k2 b (by simp [hb]))
      have s5 := SR.put (d := .ins true C' fs' (xs'.set q d')) s4 hlt ev (c1 := a :: c6) (by
        simp only [Rp]
        exact ⟨a, A, dx', vs'.set q z, c6, rfl, hA, by rw [List.length_set]; exact hlen', upd_same, rs6, rfl⟩)
      refine kp.nx _ rfl σ _ F2 _ (k1.trans l2') (fun b hb => (ku b (by simp [hb])).trans ((k2 b (by simp [hb])).trans (kk1 b hb))) s5 ?_ (fun _ _ => rfl) rfl
      have gu : Good (upd H2 a (.ins A dx' (fs'.zip (vs'.set q z)))) F2 (a :: c5 ++ c4 ++ cx) := by
        have g3 : Good H2 F2 (a :: c5 ++ c4 ++ cx) := g2.memo
        refine ⟨fun b o e => ?_, g3.nd, fun b hb => ?_⟩
        · have hne : b ≠ a := fun e2 => by
            have := (g3.own a (by simp)).1
            rw [← e2] at this
            rw [this] at e; cases e
          rw [upd_ne hne]; exact g3.sub b o e
        · refine ⟨(g3.own b hb).1, ?_⟩
          by_cases hne : b = a
          · subst hne; exact ⟨_, upd_same⟩
          · rw [upd_ne hne]; exact (g3.own b hb).2
      refine gu.part (g := g6) (perm_of fun z => ?_)
      have := p6.count_eq z
      simp only [List.count_append, List.count_cons] at *
      omega
  · have hp : InOp X o.op (fun _ _ _ _ => False) := fun _ _ _ _ _ _ _ _ _ _ _ _ h => h.elim
    refine ⟨_, ps_fldaug (vis_pe ok h1) pe_mx hp, _, ev, a, A, dx, _, _, rfl, hH, y1, y2, hl, ?_⟩
    exact (evB_ok b ok.b e h4 t (noRt t)).1 _ e1 σ H F cs cx _ (bs_of s g) ⟨fun _ _ ee => (nomatch ee), fun x' t' ee cls od H' F' cs' l kk s' g' rx => by cases ee; exact kp.ex z t1 rfl cls od σ H' F' cs' l kk s' g' rx (fun _ _ => rfl) rfl⟩
end
end Ev
end
section
set_option maxRecDepth 100000
set_option maxHeartbeats 4000000
namespace Ev
open PySem PySem.Spec L2
section
variable {P : Pg} {X : Cx} {N : List Str} {sc : Scope} {k : Nat} {cl : Cl} {W : WX}
theorem sub_assign {o i : Expr} {pos : Pos} {env : Env} (h : plainX i = true) : ∀ v, assign (.Subscript o i pos) env v = (do
      let ov ← holding [v] (eval o env)
      let iv ← holding [v, ov] (eval i env)
      standAt pos
      holding [v, ov, iv] (setItem ov iv v)
      release [v, ov, iv] []) := by
  intro v
  cases i <;> first | rfl | (simp [plainX] at h)
/-- a cell written -/
theorem Good.write {H F : Hp} {c : List Addr} {a : Addr} {o : HO} (g : Good H F c) (ha : a ∈ c) : Good (upd H a o) F c := by
  refine ⟨fun b u e => ?_, g.nd, fun b hb => ⟨(g.own b hb).1, ?_⟩⟩
  · have hne : b ≠ a := fun e2 => by
      have := (g.own a ha).1
      rw [← e2] at this
      rw [this] at e; cases e
    rw [upd_ne hne]; exact g.sub b u e
  · by_cases hne : b = a
    · subst hne; exact ⟨_, upd_same⟩
    · rw [upd_ne hne]; exact (g.own b hb).2
theorem txs_len : ∀ {l : List (Tx P)} {ds : List D} {t t' : Tr}, txs l ds t = some t' → l.length = ds.length
  | [], [], _, _, _ => rfl
  | .n i :: r, d :: ds, t, t', h => by
    simp only [txs] at h
    split at h
    · rw [List.length_cons, List.length_cons, txs_len h]
    · cases h
  | .s i a :: r, d :: ds, t, t', h => by
    simp only [txs] at h
    split at h
    · split at h
      · rw [List.length_cons, List.length_cons, txs_len h]
      · cases h
    · cases h
  | [], _ :: _, _, _, h => by simp [txs] at h
  | .n _ :: _, [], _, _, h => by simp [txs] at h
  | .s _ _ :: _, [], _, _, h => by simp [txs] at h
theorem chkTx_len : ∀ {l : List (Tx P)} {es : List Expr}, chkTx N sc l es = true → l.length = es.length
  | [], [], _ => rfl
  | .n i :: r, e :: es, h => by
    cases e with
    | Name x p =>
      simp only [chkTx, Bool.and_eq_true] at h
      rw [List.length_cons, List.length_cons, chkTx_len h.2]
    | _ => simp [chkTx] at h
  | .s i a :: r, e :: es, h => by
    match e, h with
    | .Subscript (.Name x p) y q, h =>
      simp only [chkTx, Bool.and_eq_true] at h
      rw [List.length_cons, List.length_cons, chkTx_len h.2]
  | [], _ :: _, h => by simp [chkTx] at h
  | .n _ :: _, [], h => by simp [chkTx] at h
  | .s _ _ :: _, [], h => by simp [chkTx] at h
theorem noRt_set {t : Tr} {i : Nat} {o : Option D} : noRt (t.set i o) = noRt t := by
  unfold noRt
  rw [List.map_set, ← List.map_set (f := fun _ => (none : Option D)) (a := none)]
  refine List.ext_getElem? fun j => ?_
  simp only [List.getElem?_map, List.getElem?_set]
  split
  · rename_i e
    subst e
    by_cases h : i < t.length
    · simp [h]
    · simp [h]
  · rfl
theorem txs_ok (ok : SOk P X N sc k cl W) : ∀ (l : List (Tx P)) (es : List Expr), es.all plainX = true → chkTx N sc l es = true → ∀ (ds : List D) (t t' : Tr), txs l ds t = some t' →
    ∀ (vs : List V) (σ : L2.St) (H F : Hp) (cs cx cd : List Addr) (Q : L2.St → Hp → Prop), SR X.K X.mg H F t σ cs → Rps X.K X.mg H F ds vs cd → Good H F (cd ++ cs ++ cx) →
      (∀ σ' H' F' cs', Le F F' → (∀ a ∈ cx, H' a = H a) → SR X.K X.mg H' F' t' σ' cs' → Good H' F' (cs' ++ cx) → (∀ j, j ∉ txS l → σ'[j]? = σ[j]?) → σ'.length = σ.length → Q σ' H') → mxGs X es vs σ H Q
  | [], es, hp, hc, ds, t, t', ha, vs, σ, H, F, cs, cx, cd, Q, s, r, g, k => by
    cases es with
    | cons _ _ => simp [chkTx] at hc
    | nil =>
      cases ds with
      | cons _ _ => simp [txs] at ha
      | nil =>
        simp only [txs, Option.some.injEq] at ha
        subst ha
        simp only [Rps] at r
        obtain ⟨rfl, rfl⟩ := r
        exact ⟨_, pgs_nil, rfl, k σ H F cs (Le.refl F) (fun _ _ => rfl) s (by simpa using g) (fun _ _ => rfl) rfl⟩
  | .n i :: l, es, hp, hc, ds, t, t', ha, vs, σ, H, F, cs, cx, cd, Q, s, r, g, k => by
    match es, ds, hc, ha with
    | .Name x p :: es, d :: ds, hc, ha =>
      simp only [chkTx, Bool.and_eq_true] at hc
      have hp2 := hp
      rw [List.all_cons, Bool.and_eq_true] at hp2
      simp only [txs] at ha
      split at ha
      · rename_i hi
        simp only [Rps] at r
        obtain ⟨v, w, c1, c2, rfl, rfl, r1, r2⟩ := r
        obtain ⟨l1, l2, l3⟩ := locB_ok ok hc.1
        refine ⟨_, pgs_cons (pg_name (nodupX ok) l1 l2 l3) pgs_mx (assignEach_cons hp), v, w, rfl, ?_⟩
        obtain ⟨cs2, s2, g2⟩ := set_slot (cx := c2 ++ cx) s r1 (g.perm (perm_of fun z => by simp only [List.count_append]; omega)) hi
        refine txs_ok ok l es hp2.2 hc.2 ds _ t' ha w _ H F cs2 cx c2 Q s2 r2 (g2.perm (perm_of fun z => by simp only [List.count_append]; omega)) fun σ3 H3 F3 cs3 l3 kk s3 g3 k3 len3 => ?_
        refine k σ3 H3 F3 cs3 l3 kk s3 g3 (fun j hj => ?_) (len3.trans (by rw [List.length_set]))
        simp only [txS, List.mem_cons, not_or] at hj
        rw [k3 j hj.2, List.getElem?_set_ne (Ne.symm hj.1)]
      · cases ha
    | [], _, hc, _ => simp [chkTx] at hc
    | _, [], _, ha => simp [txs] at ha
  | .s i a :: l, es, hp, hc, ds, t, t', ha, vs, σ, H, F, cs, cx, cd, Q, s, r, g, k => by
    match es, ds, hc, ha with
    | .Subscript (.Name x p) y q :: es, d :: ds, hc, ha =>
      simp only [chkTx, Bool.and_eq_true] at hc
      obtain ⟨⟨⟨h1, h2⟩, h3⟩, h4⟩ := hc
      have hp2 := hp
      rw [List.all_cons, Bool.and_eq_true] at hp2
      simp only [txs] at ha
      split at ha
      · rename_i xs kk hi hix
        split at ha
        · rename_i j hj
          simp only [Rps] at r
          obtain ⟨v, w, c1, c2, rfl, rfl, r1, r2⟩ := r
          refine ⟨_, pgs_cons (pg_sub (vis_pe ok h1) pe_mx set_list (sub_assign h2)) pgs_mx (assignEach_cons hp), v, w, rfl, ?_⟩
          obtain ⟨v0, c3, c4, ev, rp, s2, pp⟩ := s.take hi
          refine ⟨v0, ev, ?_⟩
          have stt : Stt X.K X.mg H F t (noRt t) σ (cs ++ (c1 ++ c2 ++ cx)) := (bs_of s (g.perm (perm_of fun z => by simp only [List.count_append]; omega))).stt
          refine (evA_ok ok.b.x a y h3).1 _ hix σ H F _ _ stt fun iv H1 F1 cc ci l1 k1 g1 hcc hci _ ri => ?_
          have g2 : Good H1 F1 (cs ++ (c1 ++ c2 ++ cx)) := stt.g.of g1 hcc
          have rp1 := Rp.keep (H' := H1) l1 _ _ _ rp fun b hb => k1 b (by simp [pp.symm.subset (show b ∈ c3 ++ c4 by simp [hb])])
          have s3 := s2.keep (H' := H1) l1 fun b hb => k1 b (by simp [pp.symm.subset (show b ∈ c3 ++ c4 by simp [hb])])
          simp only [Rp] at rp1
          obtain ⟨pa, ws, c5, rfl, hH, rs, rfl⟩ := rp1
          refine ⟨pa, ws, kk, j, rfl, ri.intE, hH, by rw [← rs.length]; exact hj, ?_⟩
          have r1' := Rp.keep (H' := H1) l1 _ _ _ r1 fun b hb => k1 b (by simp [hb])
          have r2' := Rps.keep (H' := H1) l1 _ _ _ r2 fun b hb => k1 b (by simp [hb])
          have g3 : Good H1 F1 (pa :: (c5 ++ c4 ++ c1 ++ c2 ++ cx)) := g2.perm (perm_of fun z => by
            have := pp.count_eq z
            simp only [List.count_append, List.count_cons] at *
            omega)
          have g4 : Good (upd H1 pa (.lst (ws.set j v))) F1 (pa :: (c5 ++ c4 ++ c1 ++ c2 ++ cx)) := g3.write (by simp)
          have ku : ∀ b ∈ c5 ++ c4 ++ c1 ++ c2 ++ cx, upd H1 pa (.lst (ws.set j v)) b = H1 b := fun b hb => upd_ne fun e => (List.nodup_cons.mp g3.nd).1 (e ▸ hb)
          have jlt : j < xs.length := by
            exact (ixN_seq hj).2.1
          obtain ⟨c6, g6, rs6, p6⟩ := Rps.setD (H := upd H1 pa (.lst (ws.set j v))) (Rps.keep (Le.refl F1) _ _ _ rs fun b hb => ku b (by simp [hb])) jlt (Rp.keep (Le.refl F1) _ _ _ r1' fun b hb => ku b (by simp [hb]))
          have s4 := SR.put (d := .lst true (xs.set j d)) (s3.keep (H' := upd H1 pa (.lst (ws.set j v))) (Le.refl F1) fun b hb => ku b (by simp [hb])) (List.getElem?_eq_some_iff.mp hi).1 ev (c1 := pa :: c6) (by
            simp only [Rp]
            exact ⟨pa, ws.set j v, c6, rfl, upd_same, rs6, rfl⟩)
          have ha' : txs l ds (t.set i (some (.lst true (xs.set j d)))) = some t' := ha
          refine txs_ok ok l es hp2.2 h4 ds _ t' ha' w σ _ F1 _ cx c2 Q s4 (Rps.keep (Le.refl F1) _ _ _ r2' fun b hb => ku b (by simp [hb])) (g4.part (g := g6) (perm_of fun z => ?_)) fun σ3 H3 F3 cs3 l3 kk s3 g3 k3 len3 => ?_
          · have := p6.count_eq z
            simp only [List.count_append, List.count_cons] at *
            omega
          · exact k σ3 H3 F3 cs3 (l1.trans l3) (fun b hb => (kk b hb).trans ((ku b (by simp [hb])).trans (k1 b (by simp [hb])))) s3 g3 (fun j hj => k3 j hj) len3
        · cases ha
      · cases ha
    | [], _, hc, _ => simp [chkTx] at hc
    | _, [], _, ha => simp [txs] at ha
end
end Ev
end
section
set_option maxRecDepth 100000
set_option maxHeartbeats 4000000
namespace Ev
open PySem PySem.Spec L2
section
variable {P : Pg} {X : Cx} {N : List Str} {sc : Scope} {k : Nat} {cl : Cl} {W : WX}
theorem s_tx (ok : SOk P X N sc k cl W) {l : List (Tx P)} {b : B P} {es : List Expr} {kt : Nat} {e : Expr} {p pos : Pos} {n : Nat} {pr : List Nat} (hc : chkS N sc pr (.tx l b) (.Assign [.Tuple es kt p] e pos) = true) {t : Tr} {r : RsS} (he : exS cl n (.tx l b) t = some r) : SVal X W pr r t (mxS X (.Assign [.Tuple es kt p] e pos)) := by
  intro σ H F cs cx D s g kp
  simp only [chkS, Bool.and_eq_true] at hc
  obtain ⟨⟨⟨⟨⟨h1, h2⟩, h3⟩, h4⟩, h5⟩, h6⟩ := hc
  simp only [exS] at he
  have hsw : swappedStores [.Tuple es kt p] e X.env = pure none := by
    cases ht : isTupE e with
    | false => exact swNo ht
    | true =>
      rw [ht] at h5
      match e, l, h5 with
      | .Tuple vs k2 p2, .s i a :: l', h5 =>
        match es, h3 with
        | .Subscript (.Name x p) y q :: es', h3 =>
          unfold swappedStores
          simp only
          split
          · rfl
          · split
            · rfl
            · rw [if_pos]
              simp only [Bool.or_eq_true, bne_iff_ne]
              refine .inl ?_
              rw [List.filterMap_cons_none rfl]
              refine Nat.ne_of_lt ?_
              rw [List.length_cons]
              exact Nat.lt_succ_of_le (List.length_filterMap_le _ _)
  refine ⟨_, ps_asg (g := gTup X.K es.length (mxGs X es)) pe_mx (pg_tup ok.b.x.calm pgs_mx (assignEach_len h2) (assignEach_star h2)) (by unfold swapsWithSole; exact swaps_of h4) hsw (by rfl), ?_⟩
  refine ex_run ok h6 he s g kp fun d t1 _ e2 v H' F' cd cs' l' kk s' g' rd => ?_
  split at e2
  · rename_i _ ds _
    obtain ⟨t2, e3, e4⟩ := Option.map_eq_some_iff.mp e2
    subst e4
    simp only [Rp] at rd
    obtain ⟨a, vs, rfl, hq, rs⟩ := rd
    refine ⟨a, vs, rfl, g'.sub.sqT hq, by rw [← rs.length, ← txs_len e3, chkTx_len h3], ?_⟩
    refine txs_ok ok l es h2 h3 ds t1 t2 e3 vs σ H' F' cs' cx cd D.nx s' rs g' fun σ2 H2 F2 cs2 l2 k2 s2 g2 k3 l3 => ?_
    exact kp.nx _ rfl σ2 H2 F2 cs2 (l'.trans l2) (fun a ha => (k2 a ha).trans (kk a ha)) s2 g2 (fun j hj => k3 j (out_ok h1 j hj)) l3
  · cases e2
theorem s_iff (ok : SOk P X N sc k cl W) {c : B P} {a b : List (S P)} {e : Expr} {x y : List Stmt} {pos : Pos} {n : Nat} {pr : List Nat} (hc : chkB N sc c e = true)
    (ha : ∀ t r, exSs cl n a t = some r → SVal X W pr r t (mxSs X x)) (hb : ∀ t r, exSs cl n b t = some r → SVal X W pr r t (mxSs X y)) {t : Tr} {r : RsS} (he : exS cl n (.iff c a b) t = some r) : SVal X W pr r t (mxS X (.If e x y pos)) := by
  intro σ H F cs cx D s g kp
  simp only [exS] at he
  refine ⟨_, ps_if pt_mx pss_mx pss_mx, ?_⟩
  show mxT X e σ H _
  have later : ∀ {H' F' : Hp}, Le F F' → (∀ a ∈ cx, H' a = H a) → PostS X W H' F' σ cx pr r D := fun l kk =>
    ⟨fun t' e σ' H2 F2 cs2 l2 k2 => kp.nx t' e σ' H2 F2 cs2 (l.trans l2) fun a ha => (k2 a ha).trans (kk a ha), fun d t' e v σ' H2 F2 cd cs2 l2 k2 => kp.rt d t' e v σ' H2 F2 cd cs2 (l.trans l2) fun a ha => (k2 a ha).trans (kk a ha),
      fun x t' e cls od σ' H2 F2 cs2 l2 k2 => kp.ex x t' e cls od σ' H2 F2 cs2 (l.trans l2) fun a ha => (k2 a ha).trans (kk a ha)⟩
  rcases bindS_some he with ⟨d, t1, e1, e2⟩ | ⟨z, t1, e1, rfl⟩
  · split at e2
    · refine (evB_ok c ok.b e hc t (noRt t)).2 _ e1 (fun d' t' ee => by cases ee; exact ⟨_, rfl⟩) σ H F cs cx _ (bs_of s g) ⟨fun d' t' ee v H' F' cd cs' l kk s' g' rd => ?_, fun _ _ ee => nomatch ee⟩
      cases ee
      refine ⟨true, rd.blE, ?_⟩
      rw [if_pos rfl]
      exact ha t1 r e2 σ H' F' cs' cx D s' (g'.part (g := cd) (perm_of fun z => by simp only [List.count_append]; omega)) (later l kk)
    · refine (evB_ok c ok.b e hc t (noRt t)).2 _ e1 (fun d' t' ee => by cases ee; exact ⟨_, rfl⟩) σ H F cs cx _ (bs_of s g) ⟨fun d' t' ee v H' F' cd cs' l kk s' g' rd => ?_, fun _ _ ee => nomatch ee⟩
      cases ee
      refine ⟨false, rd.blE, ?_⟩
      rw [if_neg Bool.false_ne_true]
      exact hb t1 r e2 σ H' F' cs' cx D s' (g'.part (g := cd) (perm_of fun z => by simp only [List.count_append]; omega)) (later l kk)
    · cases e2
  · exact (evB_ok c ok.b e hc t (noRt t)).2 _ e1 (fun d' t' ee => nomatch ee) σ H F cs cx _ (bs_of s g) ⟨fun _ _ ee => (nomatch ee), fun x' t' ee cls od H' F' cs' l kk s' g' rx => by cases ee; exact kp.ex z t1 rfl cls od σ H' F' cs' l kk s' g' rx (fun _ _ => rfl) rfl⟩
theorem s_whl (ok : SOk P X N sc k cl W) {c : B P} {body : List (S P)} {e : Expr} {x : List Stmt} {pos : Pos} {n : Nat} {pr : List Nat} (hc : chkB N sc c e = true)
    (hb : ∀ t r, exSs cl n body t = some r → SVal X W pr r t (mxSs X x)) {t : Tr} {r : RsS} (he : exS cl n (.whl c body) t = some r) : SVal X W pr r t (mxS X (.While e x [] pos)) := by
  intro σ H F cs cx D s g kp
  simp only [exS] at he
  refine ⟨_, ps_while ok.hp pt_mx pss_mx, ?_⟩
  refine ⟨fun m σ' H' => ∃ F' t' cs', Le F F' ∧ (∀ a ∈ cx, H' a = H a) ∧ SR X.K X.mg H' F' t' σ' cs' ∧ Good H' F' (cs' ++ cx) ∧ (∀ j ∈ pr, σ'[j]? = σ[j]?) ∧ σ'.length = σ.length ∧ whGo (fun t => evB cl (noRt t) c t) (exSs cl n body) m t' = some r, ⟨n, F, t, cs, Le.refl F, fun _ _ => rfl, s, g, fun _ _ => rfl, rfl, he⟩, ?_⟩
  rintro m σ1 H1 ⟨F1, t1, cs1, l1, k1, s1, g1, p1, len1, he1⟩
  cases m with
  | zero => cases he1
  | succ m =>
    show mxT X e σ1 H1 _
    simp only [whGo] at he1
    split at he1
    · rename_i t2 e1
      refine (evB_ok c ok.b e hc t1 (noRt t1)).2 _ e1 (fun d' t' ee => by cases ee; exact ⟨_, rfl⟩) σ1 H1 F1 cs1 cx _ (bs_of s1 g1) ⟨fun d' t' ee v H' F' cd cs' l kk s' g' rd => ?_, fun _ _ ee => nomatch ee⟩
      cases ee
      refine ⟨true, rd.blE, ?_⟩
      rw [if_pos rfl]
      refine ⟨fun σ' H2 => ∃ F' t' cs', Le F F' ∧ (∀ a ∈ cx, H2 a = H a) ∧ SR X.K X.mg H2 F' t' σ' cs' ∧ Good H2 F' (cs' ++ cx) ∧ (∀ j ∈ pr, σ'[j]? = σ[j]?) ∧ σ'.length = σ.length ∧ whGo (fun t => evB cl (noRt t) c t) (exSs cl n body) m t' = some r, fun σ' H2 h => ⟨m, Nat.lt_succ_self m, h⟩, ?_⟩
      have g2 := g'.part (g := cd) (c' := cs' ++ cx) (perm_of fun z => by simp only [List.count_append]; omega)
      have k2 : ∀ a ∈ cx, H' a = H a := fun a ha => (kk a ha).trans (k1 a ha)
      cases hq : exSs cl n body t2 with
      | none => rw [hq] at he1; cases he1
      | some r2 =>
        rw [hq] at he1
        refine hb t2 r2 hq σ1 H' F' cs' cx _ s' g2 ⟨fun t3 ee σ2 H2 F2 cs2 l2 k3 s2 g3 p2 len2 => ?_, fun d t3 ee v σ2 H2 F2 cd2 cs2 l2 k3 s2 g3 rd2 p2 len2 => ?_, fun x3 t3 ee cls od σ2 H2 F2 cs2 l2 k3 s2 g3 rx p2 len2 => ?_⟩
        · subst ee
          exact ⟨F2, t3, cs2, l1.trans (l.trans l2), fun a ha => (k3 a ha).trans (k2 a ha), s2, g3, fun j hj => (p2 j hj).trans (p1 j hj), len2.trans len1, he1⟩
        · subst ee
          cases he1
          exact kp.rt d t3 rfl v σ2 H2 F2 cd2 cs2 (l1.trans (l.trans l2)) (fun a ha => (k3 a ha).trans (k2 a ha)) s2 g3 rd2 (fun j hj => (p2 j hj).trans (p1 j hj)) (len2.trans len1)
        · subst ee
          cases he1
          exact kp.ex x3 t3 rfl cls od σ2 H2 F2 cs2 (l1.trans (l.trans l2)) (fun a ha => (k3 a ha).trans (k2 a ha)) s2 g3 rx (fun j hj => (p2 j hj).trans (p1 j hj)) (len2.trans len1)
    · rename_i t2 e1
      cases he1
      refine (evB_ok c ok.b e hc t1 (noRt t1)).2 _ e1 (fun d' t' ee => by cases ee; exact ⟨_, rfl⟩) σ1 H1 F1 cs1 cx _ (bs_of s1 g1) ⟨fun d' t' ee v H' F' cd cs' l kk s' g' rd => ?_, fun _ _ ee => nomatch ee⟩
      cases ee
      refine ⟨false, rd.blE, ?_⟩
      rw [if_neg Bool.false_ne_true]
      exact kp.nx _ rfl σ1 H' F' cs' (l1.trans l) (fun a ha => (kk a ha).trans (k1 a ha)) s' (g'.part (g := cd) (perm_of fun z => by simp only [List.count_append]; omega)) p1 len1
    · rename_i x2 t2 e1
      cases he1
      exact (evB_ok c ok.b e hc t1 (noRt t1)).2 _ e1 (fun d' t' ee => nomatch ee) σ1 H1 F1 cs1 cx _ (bs_of s1 g1) ⟨fun _ _ ee => (nomatch ee), fun x' t' ee cls od H' F' cs' l kk s' g' rx => by cases ee; exact kp.ex x2 t2 rfl cls od σ1 H' F' cs' (l1.trans l) (fun a ha => (kk a ha).trans (k1 a ha)) s' g' rx p1 len1⟩
    · cases he1
end
end Ev
end
section
set_option maxRecDepth 100000
set_option maxHeartbeats 4000000
namespace Ev
open PySem PySem.Spec L2
def refsO : List Opd → List Nat
  | [] => []
  | .ref i :: r => i :: refsO r
  | _ :: r => refsO r
theorem RO.st {K : PySem.W.Frag} {mg : Str → Option Value} {H F : Hp} {σ σ' : L2.St} {hd : Option HD} : ∀ {os : List Opd} {ws : List V} {cv : List Addr}, RO K mg H F σ hd os ws cv → (∀ j ∈ refsO os, σ'[j]? = σ[j]?) → RO K mg H F σ' hd os ws cv
  | [], ws, cv, h, _ => by simpa only [RO] using h
  | .ref i :: r, ws, cv, h, k => by
    simp only [RO] at h ⊢
    obtain ⟨v, w, e, e2, h⟩ := h
    exact ⟨v, w, e, (k i (by simp [refsO])).trans e2, h.st fun j hj => k j (by simp [refsO, hj])⟩
  | .val d :: r, ws, cv, h, k => by
    simp only [RO] at h ⊢
    obtain ⟨v, w, c1, c2, e, e2, rp, h⟩ := h
    exact ⟨v, w, c1, c2, e, e2, rp, h.st fun j hj => k j (by simp [refsO, hj])⟩
  | .dp i st :: r, ws, cv, h, k => by
    simp only [RO] at h ⊢
    obtain ⟨v, w, hh, d1, e, e2, e3, f, h⟩ := h
    exact ⟨v, w, hh, d1, e, e2, e3, f, h.st fun j hj => k j (by simp [refsO, hj])⟩
section
variable {P : Pg} {X : Cx} {N : List Str} {sc : Scope} {k : Nat} {cl : Cl} {W : WX}
theorem refs_of : ∀ {es : List (B P)} {rt t t1 : Tr} {os : List Opd}, evOs cl none rt es t = some (.ok os t1) → ∀ j ∈ refsO os, j ∈ refsOf es
  | [], rt, t, t1, os, h, j, hj => by
    simp only [evOs] at h
    cases h
    simp [refsO] at hj
  | b :: r, rt, t, t1, os, h, j, hj => by
    have gen : ∀ (d0 : D → Opd), (∀ d, ∀ os', refsO (d0 d :: os') = refsO os') → (bindR (evB cl rt b t) fun d t1 => bindR (evOs cl none rt r t1) fun os t2 => some (.ok (d0 d :: os) t2)) = some (.ok os t1) → j ∈ refsOf r := by
      intro d0 hd h
      rcases bindR_some h with ⟨d, t2, e1, e2⟩ | ⟨x, t2, e1, e2⟩
      · rcases bindR_some e2 with ⟨os', t3, e3, e4⟩ | ⟨x, t3, e3, e4⟩
        · cases e4
          rw [hd] at hj
          exact refs_of e3 j hj
        · cases e4
      · cases e2
    cases b with
    | rf i =>
      simp only [evOs] at h
      split at h
      · rcases bindR_some h with ⟨os', t3, e3, e4⟩ | ⟨x, t3, e3, e4⟩
        · cases e4
          simp only [refsO, List.mem_cons] at hj
          rcases hj with rfl | hj
          · simp [refsOf]
          · simp only [refsOf, List.mem_cons]; exact .inr (refs_of e3 j hj)
        · cases e4
      · cases h
    | dp a =>
      simp only [evOs] at h
      split at h
      · split at h
        · rename_i hc
          exact absurd hc.1 (by simp)
        · cases h
      · cases h
    | _ =>
      simp only [refsOf]
      exact gen .val (fun _ _ => rfl) (by simpa only [evOs] using h)
theorem s_for (ok : SOk P X N sc k cl W) {tg : Tg} {it : Itr P} {es : List (B P)} {body : List (S P)} {tg' iter : Expr} {x : List Stmt} {xs : List Expr} {pos : Pos} {n : Nat} {pr : List Nat} (hsh : it.sh sc tg' iter = some xs) (ho : out (pr ++ refsOf es) (tgS tg) = true) (htg : chkTg N sc tg tg' = true) (hes : chkBs N sc es xs = true)
    (hb : ∀ t r, exSs cl n body t = some r → SVal X W (pr ++ refsOf es) r t (mxSs X x)) {t : Tr} {r : RsS} (he : exS cl n (.for tg it es body) t = some r) : SVal X W pr r t (mxS X (.For tg' iter x [] pos)) := by
  intro σ H F cs cx D s g kp
  simp only [exS] at he
  have hfold : ∀ y, foldedSetIterable iter X.env y = pure y := fun y => fold_of (it.pl _ _ _ _ hsh)
  rcases bindS_some he with ⟨os, t1, e1, e2⟩ | ⟨z, t1, e1, rfl⟩
  case inr =>
    obtain ⟨S, hPI⟩ := it.sound X N sc ok.b.x tg' iter xs hsh
    refine ⟨_, ps_for ok.hp ok.b.x.calm (hPI _ (allPE_mx xs)) pg_mx pss_mx hfold, ?_⟩
    have main : ∀ (G : It → Hp → Prop), tL (xs.map (mx X)) σ H (fun vs H1 => S vs H1 G) := by
      intro G
      have z := os_ex (R := fun vs H1 _ => S vs H1 G) (Q := fun _ _ => True) (evOs_ok es ok.b xs hes).1 e1 (bs_of s g) (hd := none) rfl no_hd fun cls od H' F' cs' l kk s' g' rx => kp.ex z t1 rfl cls od σ H' F' cs' l kk s' g' rx (fun _ _ => rfl) rfl
      rw [tL_ops] at z; exact z
    exact main _
  obtain ⟨ds, q1, e3⟩ := Option.bind_eq_some_iff.mp e2
  obtain ⟨l, q2, hgo0⟩ := Option.bind_eq_some_iff.mp e3
  obtain ⟨S, hPI, hJ⟩ := it.ok X N sc ok.b.x tg' iter xs hsh ds l q2
  refine ⟨_, ps_for ok.hp ok.b.x.calm (hPI _ (allPE_mx xs)) pg_mx pss_mx hfold, ?_⟩
  have main : ∀ (G : It → Hp → Prop), (∀ ws H1 F1 cv cs1, Le F F1 → (∀ a ∈ cx, H1 a = H a) → SR X.K X.mg H1 F1 t1 σ cs1 → Good H1 F1 (cv ++ cs1 ++ cx) → RO X.K X.mg H1 F1 σ none os ws cv → S ws H1 G) → tL (xs.map (mx X)) σ H (fun vs H1 => S vs H1 G) := by
    intro G hG
    have z := os_at (R := fun vs H1 _ => S vs H1 G) (Q := fun _ _ => True) (evOs_ok es ok.b xs hes).1 e1 (bs_of s g) (hd := none) rfl no_hd fun ws H1 F1 cv cs1 l1 k1 s1 g1 ro => hG ws H1 F1 cv cs1 l1 k1 s1 g1 ro
    rw [tL_ops] at z; exact z
  refine main _ fun ws H1 F1 cv cs1 l1 k1 s1 g1 ro => ?_
  clear main
  obtain ⟨J, hJ1, hJ2⟩ := hJ ws
  refine hJ1 H1 F1 (cv ++ cs1 ++ cx) _ (ro.rpe s1 q1 (fun a ha => by simp [ha]) (fun a ha => by simp [ha])) g1 ?_
  refine ⟨fun i m σ' H' => ∃ F' t' cs', i ≤ l.length ∧ m = l.length - i ∧ Le F1 F' ∧ SR X.K X.mg H' F' t' σ' cs' ∧ Good H' F' (cs' ++ (cv ++ cx)) ∧ (∀ a ∈ cv ++ cx, H' a = H1 a) ∧ (∀ j ∈ pr ++ refsOf es, σ'[j]? = σ[j]?) ∧ σ'.length = σ.length ∧ forGo os ds tg (exSs cl n body) (l.drop i) t' = some r, ?_, ?_⟩
  · exact ⟨l.length, F1, t1, cs1, Nat.zero_le _, rfl, Le.refl F1, s1, g1.perm (perm_of fun z => by simp only [List.count_append]; omega), fun _ _ => rfl, fun _ _ => rfl, rfl, by rw [List.drop_zero]; exact hgo0⟩
  rintro i m σ1 H' ⟨F', t', cs', hi, rfl, l', st, g', k', p1, len1, hgo⟩
  have kk : ∀ a ∈ cx, H' a = H a := fun a ha => (k' a (by simp [ha])).trans (k1 a ha)
  have keepO : RO X.K X.mg H' F' σ1 none os ws cv := (ro.keep (H' := H') l' (fun a ha => k' a (by simp [ha])) fun _ e => nomatch e).st fun j hj => p1 j (by simp [refs_of e1 j hj])
  have hop : opdDs t' os = some ds := by
    cases hl : l.drop i with
    | nil =>
      rw [hl] at hgo
      simp only [forGo] at hgo
      split at hgo
      · assumption
      · cases hgo
    | cons x0 r0 =>
      rw [hl] at hgo
      simp only [forGo] at hgo
      split at hgo
      · assumption
      · cases hgo
  obtain ⟨hgo1, hstop⟩ := hJ2 H' F' (cs' ++ (cv ++ cx)) (keepO.rpe st hop (fun a ha => by simp [ha]) (fun a ha => by simp [ha])) g' i
  by_cases hlt : i < l.length
  case neg =>
    have hie : i = l.length := by omega
    subst hie
    rw [List.drop_length] at hgo
    simp only [forGo] at hgo
    rw [if_pos hop] at hgo
    cases hgo
    refine .inl ⟨hstop (Nat.le_refl _), ?_⟩
    exact kp.nx _ rfl σ1 H' F' cs' (l1.trans l') kk st (g'.part (g := cv) (perm_of fun z => by simp only [List.count_append]; omega)) (fun j hj => p1 j (by simp [hj])) len1
  case pos =>
  have hd : l.drop i = l[i] :: l.drop (i + 1) := List.drop_eq_getElem_cons hlt
  rw [hd] at hgo
  simp only [forGo] at hgo
  rw [if_pos hop] at hgo
  obtain ⟨jg, jy⟩ := hgo1 l[i] (by simp [hlt])
  refine .inr ⟨jg, fun σ2 H2 => ∃ F' t' cs', i + 1 ≤ l.length ∧ l.length - (i + 1) = l.length - (i + 1) ∧ Le F1 F' ∧ SR X.K X.mg H2 F' t' σ2 cs' ∧ Good H2 F' (cs' ++ (cv ++ cx)) ∧ (∀ a ∈ cv ++ cx, H2 a = H1 a) ∧ (∀ j ∈ pr ++ refsOf es, σ2[j]? = σ[j]?) ∧ σ2.length = σ.length ∧ forGo os ds tg (exSs cl n body) (l.drop (i + 1)) t' = some r,
    fun σ2 H2 h => ⟨l.length - (i + 1), by omega, h⟩, fun xv H2 hy => ?_⟩
  obtain ⟨F2, l2, g2, k2, rx⟩ := jy xv H2 hy
  cases ea : asg tg l[i] t' with
  | none => rw [ea] at hgo; cases hgo
  | some t3 =>
  rw [ea] at hgo
  have st2 : SR X.K X.mg H2 F2 t' σ1 cs' := st.keep l2 fun a ha => k2 a (by simp [ha])
  refine asg_ok ok.tg tg tg' htg l[i] t' t3 ea xv σ1 H2 F2 cs' (cv ++ cx) [] _ st2 rx (by simpa using g2) fun σ2 cs2 s2 g3 ks lens => ?_
  cases hq : exSs cl n body t3 with
  | none =>
    have hgo : (match exSs cl n body t3 with
      | some (.nx t') => forGo os ds tg (exSs cl n body) (l.drop (i + 1)) t'
      | z => z) = some r := hgo
    rw [hq] at hgo; cases hgo
  | some r2 =>
  have hgo : (match exSs cl n body t3 with
      | some (.nx t') => forGo os ds tg (exSs cl n body) (l.drop (i + 1)) t'
      | z => z) = some r := hgo
  rw [hq] at hgo
  have pp2 : ∀ j ∈ pr ++ refsOf es, σ2[j]? = σ[j]? := fun j hj => (ks j (out_ok ho j hj)).trans (p1 j hj)
  have kc : ∀ a ∈ cv ++ cx, H2 a = H1 a := fun a ha => (k2 a (by simp only [List.mem_append] at *; exact .inr ha)).trans (k' a ha)
  refine hb t3 r2 hq σ2 H2 F2 cs2 (cv ++ cx) _ s2 g3 ⟨fun t4 ee σ3 H3 F3 cs3 l3 k3 s3 g4 p3 len3 => ?_, fun d t4 ee v σ3 H3 F3 cd3 cs3 l3 k3 s3 g4 rd3 p3 len3 => ?_, fun x4 t4 ee cls od σ3 H3 F3 cs3 l3 k3 s3 g4 rx p3 len3 => ?_⟩
  · subst ee
    exact ⟨F3, t4, cs3, hlt, rfl, l'.trans (l2.trans l3), s3, g4, fun a ha => (k3 a ha).trans (kc a ha), fun j hj => (p3 j hj).trans (pp2 j hj), len3.trans (lens.trans len1), hgo⟩
  · subst ee
    cases hgo
    exact kp.rt d t4 rfl v σ3 H3 F3 cd3 cs3 (l1.trans (l'.trans (l2.trans l3))) (fun a ha => (k3 a (by simp [ha])).trans ((kc a (by simp [ha])).trans (k1 a ha))) s3 (g4.part (g := cv) (perm_of fun z => by simp only [List.count_append]; omega)) rd3 (fun j hj => (p3 j (by simp [hj])).trans (pp2 j (by simp [hj]))) (len3.trans (lens.trans len1))
  · subst ee
    cases hgo
    exact kp.ex x4 t4 rfl cls od σ3 H3 F3 cs3 (l1.trans (l'.trans (l2.trans l3))) (fun a ha => (k3 a (by simp [ha])).trans ((kc a (by simp [ha])).trans (k1 a ha))) s3 (g4.part (g := cv) (perm_of fun z => by simp only [List.count_append]; omega)) rx (fun j hj => (p3 j (by simp [hj])).trans (pp2 j (by simp [hj]))) (len3.trans (lens.trans len1))
theorem exS_step (ok : SOk P X N sc k cl W) {n : Nat} (b : S P) (pr : List Nat) (st : Stmt) (hc : chkS N sc pr b st = true) (ih : ∀ (c : List (S P)), sizeOf c < sizeOf b → ∀ (pr : List Nat) (st : List Stmt), chkSs N sc pr c st = true → ∀ t r, exSs cl n c t = some r → SVal X W pr r t (mxSs X st)) (t : Tr) (r : RsS) (he : exS cl n b t = some r) : SVal X W pr r t (mxS X st) := by
  cases b with
  | ex b =>
    obtain ⟨e, pos, rfl⟩ := inv_ex hc
    simp only [chkS, Bool.and_eq_true] at hc
    exact s_ex ok hc.1 hc.2 he
  | set i b =>
    obtain ⟨x, p, e, pos, rfl⟩ := inv_set hc
    exact s_set ok hc he
  | asg g b =>
    obtain ⟨tg, e, pos, rfl⟩ := inv_asg hc
    exact s_asg ok hc he
  | par i j a b => exact s_par ok hc he
  | tx l b =>
    obtain ⟨es, kt, p, e, pos, rfl⟩ := inv_tx hc
    exact s_tx ok hc he
  | put o h v es =>
    obtain ⟨tg, e, pos, rfl⟩ := inv_put hc
    simp only [chkS] at hc
    split at hc
    · rename_i xs hsh
      simp only [Bool.and_eq_true] at hc
      cases h with
      | none => exact s_put0 ok hsh hc.1.2 hc.2 he
      | some i => exact s_put1 ok hsh hc.1.2 hc.2 he
    · cases hc
  | aug o i b =>
    obtain ⟨x, p, op, e, pos, rfl⟩ := inv_aug hc
    exact s_aug ok hc he
  | augA o i f b =>
    obtain ⟨x, p, g, q, op, e, pos, rfl⟩ := inv_augA hc
    exact s_augA ok hc he
  | ret b =>
    obtain ⟨e, pos, rfl⟩ := inv_ret hc
    simp only [chkS] at hc
    exact s_ret ok hc he
  | ret0 =>
    obtain ⟨pos, rfl⟩ := inv_ret0 hc
    exact s_ret0 he
  | pass =>
    obtain ⟨pos, rfl⟩ := inv_pass hc
    exact s_pass he
  | iff c a b =>
    obtain ⟨e, x, y, pos, rfl⟩ := inv_iff hc
    simp only [chkS, Bool.and_eq_true] at hc
    exact s_iff ok hc.1.1 (fun t r h => ih a (by simp only [S.iff.sizeOf_spec]; omega) pr x hc.1.2 t r h) (fun t r h => ih b (by simp only [S.iff.sizeOf_spec]; omega) pr y hc.2 t r h) he
  | «for» tg it es body =>
    obtain ⟨tg', iter, body', pos, rfl⟩ := inv_for hc
    simp only [chkS] at hc
    split at hc
    · rename_i xs hsh
      simp only [Bool.and_eq_true] at hc
      exact s_for ok hsh hc.1.1.1 hc.1.1.2 hc.1.2 (fun t r h => ih body (by simp only [S.for.sizeOf_spec]; omega) (pr ++ refsOf es) body' hc.2 t r h) he
    · cases hc
  | whl c body =>
    obtain ⟨e, body', pos, rfl⟩ := inv_whl hc
    simp only [chkS, Bool.and_eq_true] at hc
    exact s_whl ok hc.1 (fun t r h => ih body (by simp only [S.whl.sizeOf_spec]; omega) pr body' hc.2 t r h) he
  | fg js => simp [chkS] at hc
  | shr i => simp [chkS] at hc
  | unp l i =>
    obtain ⟨tg, e, pos, rfl⟩ := inv_unp hc
    exact s_unp ok hc he
  | no => simp only [exS] at he; cases he
theorem chkSs_cons {N : List Str} {sc : Scope} {pr : List Nat} {b : S P} {bs : List (S P)} {s : Stmt} {sts : List Stmt} (h : ¬ ∃ js, b = .fg js) (h' : ¬ ∃ i, b = .shr i) : chkSs N sc pr (b :: bs) (s :: sts) = (chkS N sc pr b s && chkSs N sc pr bs sts) := by
  cases b <;> first | rfl | exact absurd ⟨_, rfl⟩ h | exact absurd ⟨_, rfl⟩ h'
theorem SR.fgt {K : PySem.W.Frag} {mg : Str → Option Value} {H F : Hp} {σ : L2.St} : ∀ (js : List Nat) {t : Tr} {cs : List Addr}, SR K mg H F t σ cs → ∃ c', SR K mg H F (wipeT t js) σ c' ∧ ∃ r, cs.Perm (r ++ c')
  | [], t, cs, h => ⟨cs, h, [], by simp⟩
  | j :: js, t, cs, h => by
    obtain ⟨c1, h1, r1, p1⟩ := SR.fgt js h
    obtain ⟨c2, h2, r2, p2⟩ := h1.drop (i := j)
    exact ⟨c2, h2, r1 ++ r2, p1.trans (by rw [List.append_assoc]; exact p2.append_left r1)⟩
theorem exSs_aux (ok : SOk P X N sc k cl W) {n : Nat} : ∀ (m : Nat) (b : List (S P)), sizeOf b < m → ∀ (pr : List Nat) (st : List Stmt), chkSs N sc pr b st = true → ∀ t r, exSs cl n b t = some r → SVal X W pr r t (mxSs X st)
  | 0, b, hm, _, _, _, _, _, _ => absurd hm (Nat.not_lt_zero _)
  | m + 1, [], hm, pr, st, hc, t, r, he => by
    cases st with
    | nil =>
      simp only [exSs] at he
      cases he
      intro σ H F cs cx D s g kp
      exact ⟨_, pss_nil, kp.nx _ rfl σ H F cs (Le.refl F) (fun _ _ => rfl) s g (fun _ _ => rfl) rfl⟩
    | cons _ _ => simp [chkSs] at hc
  | m + 1, b :: bs, hm, pr, st, hc, t, r, he => by
    simp only [List.cons.sizeOf_spec] at hm
    by_cases hfg : ∃ js, b = .fg js
    · obtain ⟨js, rfl⟩ := hfg
      simp only [chkSs] at hc
      simp only [exSs, exS] at he
      intro σ H F cs cx D s g kp
      obtain ⟨c', s', q, p⟩ := s.fgt js
      exact exSs_aux ok m bs (by omega) pr st hc _ r he σ H F c' cx D s' (g.part (g := q) (perm_of fun z => by have := p.count_eq z; simp only [List.count_append] at *; omega)) kp
    by_cases hsh : ∃ i, b = .shr i
    · obtain ⟨i, rfl⟩ := hsh
      simp only [chkSs] at hc
      simp only [exSs, exS] at he
      intro σ H F cs cx D s g kp
      cases hi : t[i]? with
      | none => rw [hi] at he; cases he
      | some od =>
        cases od with
        | none => rw [hi] at he; cases he
        | some d =>
          rw [hi] at he
          obtain ⟨v, c1, c2, ev, rp, s2, p⟩ := s.take hi
          have g1 : Good H F (c1 ++ (c2 ++ cx)) := g.perm (perm_of fun z => by have := p.count_eq z; simp only [List.count_append] at *; omega)
          have rf : Rp X.K X.mg H (join F H c1) (frz d) v [] := Rp.frz g1.le_join d v c1 rp fun a ha => join_in ha
          have s3 := SR.put (s2.keep (H' := H) g1.le_join fun _ _ => rfl) (List.getElem?_eq_some_iff.mp hi).1 ev rf
          have l0 := g1.le_join
          exact exSs_aux ok m bs (by omega) pr st hc _ r he σ H (join F H c1) c2 cx D s3 g1.join ⟨fun t' e σ' H2 F2 cs2 l2 k2 s2 g2 p2 len2 => kp.nx t' e σ' H2 F2 cs2 (l0.trans l2) k2 s2 g2 p2 len2, fun d t' e v σ' H2 F2 cd cs2 l2 k2 s2 g2 rd p2 len2 => kp.rt d t' e v σ' H2 F2 cd cs2 (l0.trans l2) k2 s2 g2 rd p2 len2, fun x t' e cls od σ' H2 F2 cs2 l2 k2 s2 g2 rx p2 len2 => kp.ex x t' e cls od σ' H2 F2 cs2 (l0.trans l2) k2 s2 g2 rx p2 len2⟩
    cases st with
    | nil => cases b <;> first | (simp [chkSs] at hc; done) | exact absurd ⟨_, rfl⟩ hfg | exact absurd ⟨_, rfl⟩ hsh
    | cons st sts =>
      rw [chkSs_cons hfg hsh, Bool.and_eq_true] at hc
      simp only [exSs] at he
      intro σ H F cs cx D s g kp
      refine ⟨_, pss_cons ps_mx pss_mx, ?_⟩
      cases hq : exS cl n b t with
      | none => rw [hq] at he; cases he
      | some r1 =>
        rw [hq] at he
        refine exS_step ok b pr st hc.1 (fun c hl pr st hc t r he => exSs_aux ok m c (by omega) pr st hc t r he) t r1 hq σ H F cs cx _ s g ⟨fun t4 ee σ3 H3 F3 cs3 l3 k3 s3 g4 p3 len3 => ?_, fun d t4 ee v σ3 H3 F3 cd3 cs3 l3 k3 s3 g4 rd3 p3 len3 => ?_, fun x4 t4 ee cls od σ3 H3 F3 cs3 l3 k3 s3 g4 rx p3 len3 => ?_⟩
        · subst ee
          refine exSs_aux ok m bs (by omega) pr sts hc.2 t4 r he σ3 H3 F3 cs3 cx D s3 g4 ⟨fun t' e σ' H2 F2 cs2 l2 k2 s2 g2 p2 len2 => ?_, fun d t' e v σ' H2 F2 cd cs2 l2 k2 s2 g2 rd p2 len2 => ?_, fun x t' e cls od σ' H2 F2 cs2 l2 k2 s2 g2 rx p2 len2 => ?_⟩
          · exact kp.nx t' e σ' H2 F2 cs2 (l3.trans l2) (fun a ha => (k2 a ha).trans (k3 a ha)) s2 g2 (fun j hj => (p2 j hj).trans (p3 j hj)) (len2.trans len3)
          · exact kp.rt d t' e v σ' H2 F2 cd cs2 (l3.trans l2) (fun a ha => (k2 a ha).trans (k3 a ha)) s2 g2 rd (fun j hj => (p2 j hj).trans (p3 j hj)) (len2.trans len3)
          · exact kp.ex x t' e cls od σ' H2 F2 cs2 (l3.trans l2) (fun a ha => (k2 a ha).trans (k3 a ha)) s2 g2 rx (fun j hj => (p2 j hj).trans (p3 j hj)) (len2.trans len3)
        · subst ee
          cases he
          exact kp.rt d t4 rfl v σ3 H3 F3 cd3 cs3 l3 k3 s3 g4 rd3 p3 len3
        · subst ee
          cases he
          exact kp.ex x4 t4 rfl cls od σ3 H3 F3 cs3 l3 k3 s3 g4 rx p3 len3
theorem exSs_ok (ok : SOk P X N sc k cl W) {n : Nat} (b : List (S P)) (pr : List Nat) (st : List Stmt) (hc : chkSs N sc pr b st = true) (t : Tr) (r : RsS) (he : exSs cl n b t = some r) : SVal X W pr r t (mxSs X st) :=
  exSs_aux ok (sizeOf b + 1) b (Nat.lt_succ_self _) pr st hc t r he
end
end Ev
end
section
set_option maxRecDepth 100000
set_option maxHeartbeats 4000000
namespace Ev
open PySem PySem.Spec L2
/-- a def: its text, its slots, the slots that may be lent, its code -/
structure Df (P : Pg) where
  d : He.DefD
  N : List Str
  ps : List Str
  pr : List Nat
  body : List (S P)
  dv : List D := []
def outs : List (Bool × D) → Tr → List (Option D)
  | [], _ => []
  | _ :: r, [] => none :: outs r []
  | (l, _) :: r, o :: t => (if l = true then o else none) :: outs r t
def lentOk (pr : List Nat) : Nat → List (Bool × D) → Bool
  | _, [] => true
  | i, (l, _) :: r => (!l || decide (i ∈ pr)) && lentOk pr (i + 1) r
section
variable {P : Pg}
noncomputable def runD (cl : Cl) (fuel : Nat) (d : Df P) (args : List (Bool × D)) : Option CR :=
  if args.length = d.ps.length ∧ lentOk d.pr 0 args = true then match exSs cl fuel d.body ((args.map (·.2)).map some ++ List.replicate (d.N.length - args.length) none) with
    | some (.nx t) => some (.ok .non (outs args t))
    | some (.rt x t) => some (.ok x (outs args t))
    | some (.ex x t) => some (.ex x (outs args t))
    | none => none
  else none
noncomputable def callN (tab : FKey → Option (Df P)) (fuel : Nat) : Nat → Cl
  | 0 => fun _ _ => none
  | n + 1 => fun key args => (tab key).bind fun d => runD (callN tab fuel n) fuel d args
structure DfOk (d : Df P) : Prop where
  sc : FnScope d.N d.ps d.d.scope
  ck : chkSs d.N d.d.scope d.pr d.body d.d.body = true
  df : d.d.kwd = []
  bs : ∀ {K : PySem.W.Frag} {f : Addr} {fd : FuncData}, FunD K d.d.name d.d.qual d.d.params d.d.body d.d.scope (d.d.dvs K) [] f fd → Binds K fd d.ps []
  bsd : ∀ dv ∈ d.dv, ∀ {K : PySem.W.Frag} {mg : Str → Option Value} {f : Addr} {fd : FuncData}, FunD K d.d.name d.d.qual d.d.params d.d.body d.d.scope (d.d.dvs K) [] f fd → ∃ v u, RelV v u ∧ (∀ H F, Rp K mg H F dv v []) ∧ Binds K fd d.ps [u]
  bd : d.d.dfl = [] → ∀ (kV doc pm : Value) (an : Option Addr) (cdv ct : Value) (us : List Value), us.length = d.ps.length → bindArgs (PySem.W.fnOf d.d.name d.d.qual d.d.params d.d.body d.d.scope .none kV doc pm an cdv ct) ⟨us, []⟩ = pure (d.ps.zip us)
/-- what the head tells of the program -/
structure PgOk (P : Pg) (tab : FKey → Option (Df P)) (K : PySem.W.Frag) (mg : Str → Option Value) (w : World) : Prop where
  blt : ∀ x, isBlt x = true → mg x = none
  glob : ∀ x d, P.gl x = some d → ∃ v u, mg x = some u ∧ RelV v u ∧ isF d = true ∧ ∀ H F, Rp K mg H F d v []
  cls : ∀ C A f, P.att C f = true → mg C = some (.ref A) → Cls K A ∧ NoAttr K A f
  def_ : ∀ key d, tab key = some d → DfOk d ∧ ∃ fd, FunD K d.d.name d.d.qual d.d.params d.d.body d.d.scope (d.d.dvs K) [] (He.fAd K key) fd
  fn : ∀ f, P.fn f = true → mg f = some (.ref (He.ga K f)) ∧ (tab (f, none)).isSome = true
  me : ∀ C m, P.mt C m = true → mg C = some (.ref (He.ga K C)) ∧ Cls K (He.ga K C) ∧ Meth K (He.ga K C) m (He.ma K (He.ga K C) m) ∧ (tab (C, some m)).isSome = true
  mak : ∀ C, P.ck C = true → mg C = some (.ref (He.ga K C)) ∧ Mk K (He.ga K C) (He.ma K (He.ga K C) "__init__") ∧ (tab (C, some "__init__")).isSome = true
  dfl : ∀ C dv, P.dk C = some dv → ∀ d, tab (C, some "__init__") = some d → dv ∈ d.dv
  dtab : ∀ x kvs, P.dt x = some kvs → ∃ a, mg x = some (.ref a) ∧ KTab K w a kvs
end
theorem outs_ok {K : PySem.W.Frag} {mg : Str → Option Value} {H F : Hp} : ∀ {args : List (Bool × D)} {vs : List V} {t : Tr} {σ : L2.St} {cs : List Addr}, SR K mg H F t σ cs → args.length = vs.length → (∀ (i : Nat) d v, args[i]? = some (true, d) → vs[i]? = some v → σ[i]? = some (some v)) → ∃ co g, SR K mg H F (outs args t) (vs.map some) co ∧ cs.Perm (g ++ co)
  | [], vs, t, σ, cs, s, hl, hk => by
    cases vs with
    | cons _ _ => simp at hl
    | nil => exact ⟨[], cs, by simp only [outs, List.map_nil, SR]; exact ⟨trivial, trivial⟩, by simp⟩
  | (l, d) :: r, [], t, σ, cs, s, hl, hk => by simp at hl
  | (l, d) :: r, v :: vs, [], σ, cs, s, hl, hk => by
    have e := s.len
    have eσ : σ = [] := by cases σ with | nil => rfl | cons _ _ => simp at e
    subst eσ
    obtain ⟨co, g, h1, h2⟩ := outs_ok (args := r) (vs := vs) (t := []) (σ := []) (cs := cs) s (by simpa using hl) fun i d' v' e1 e2 => by
      have := hk (i + 1) d' v' (by simpa using e1) (by simpa using e2)
      simp at this
    refine ⟨co, g, ?_, h2⟩
    simp only [outs, List.map_cons, SR]
    exact ⟨some v, _, rfl, h1⟩
  | (l, d) :: r, v :: vs, none :: t, σ, cs, s, hl, hk => by
    simp only [SR] at s
    obtain ⟨w, σ', rfl, s⟩ := s
    obtain ⟨co, g, h1, h2⟩ := outs_ok (args := r) (vs := vs) s (by simpa using hl) fun i d' v' e1 e2 => by simpa using hk (i + 1) d' v' (by simpa using e1) (by simpa using e2)
    refine ⟨co, g, ?_, h2⟩
    simp only [outs, List.map_cons, ite_self, SR]
    exact ⟨some v, _, rfl, h1⟩
  | (l, d) :: r, v :: vs, some d0 :: t, σ, cs, s, hl, hk => by
    simp only [SR] at s
    obtain ⟨w, σ', c1, c2, rfl, p, rp, s⟩ := s
    obtain ⟨co, g, h1, h2⟩ := outs_ok (args := r) (vs := vs) s (by simpa using hl) fun i d' v' e1 e2 => by simpa using hk (i + 1) d' v' (by simpa using e1) (by simpa using e2)
    cases l with
    | false =>
      refine ⟨co, c1 ++ g, ?_, perm_of fun z => ?_⟩
      · simp only [outs, List.map_cons, Bool.false_eq_true, if_false, SR]
        exact ⟨some v, _, rfl, h1⟩
      · have a1 := p.count_eq z
        have a2 := h2.count_eq z
        simp only [List.count_append] at *
        omega
    | true =>
      have e := hk 0 d v rfl rfl
      simp at e
      subst e
      refine ⟨c1 ++ co, g, ?_, perm_of fun z => ?_⟩
      · simp only [outs, List.map_cons, if_true, SR]
        exact ⟨w, _, c1, co, rfl, List.Perm.refl _, rp, h1⟩
      · have a1 := p.count_eq z
        have a2 := h2.count_eq z
        simp only [List.count_append] at *
        omega
theorem lentOk_ok {pr : List Nat} : ∀ {i : Nat} {args : List (Bool × D)}, lentOk pr i args = true → ∀ (j : Nat) d, args[j]? = some (true, d) → i + j ∈ pr
  | i, [], _, j, d, h => by simp at h
  | i, (l, d0) :: r, h, j, d, e => by
    simp only [lentOk, Bool.and_eq_true, Bool.or_eq_true, Bool.not_eq_true', decide_eq_true_eq] at h
    cases j with
    | zero =>
      simp at e
      rcases h.1 with h1 | h1
      · rw [e.1] at h1; cases h1
      · simpa using h1
    | succ j =>
      have := lentOk_ok h.2 j d (by simpa using e)
      have e2 : i + (j + 1) = i + 1 + j := by omega
      rw [e2]; exact this
section
variable {P : Pg} {tab : FKey → Option (Df P)} {K : PySem.W.Frag} {mg : Str → Option Value}
theorem fn_level {w : World} (ok : PgOk P tab K mg w) {p : Program} {base : Heap} {fuel : Nat} : ∀ j : Nat, ∀ key d, tab key = some d → ∀ fd, FunD K d.d.name d.d.qual d.d.params d.d.body d.d.scope (d.d.dvs K) [] (He.fAd K key) fd →
    FnOk p w K mg base (L2.CX p w) (2 * j) (He.fAd K key) fd d.ps (spOf K mg (callN tab fuel j key))
  | 0, key, d, hd, fd, F => by
    have no : ∀ vs H Q E, spOf K mg (callN tab fuel 0 key) vs H Q E → False := fun vs H Q E ⟨_, _, _, _, _, _, _, h, _⟩ => by cases h
    exact ⟨fun vs H Q E h => (no vs H Q E h).elim, fun A outer s H args us vs Q E _ _ _ _ h => (no vs H Q E h).elim⟩
  | j + 1, key, d, hd, fd, F => by
    obtain ⟨dok, _⟩ := ok.def_ key d hd
    have ih := fn_level ok (p := p) (base := base) (fuel := fuel) j
    have e2 : 2 * (j + 1) = (2 * j + 1) + 1 := by omega
    rw [e2]
    refine F.ok dok.sc (fun vs H Q E h => ?_) (fun cdv A outer s H vs Q E hr h => ?_)
    · obtain ⟨F1, args, c, cx, r, rp, g, h1, _⟩ := h
      have h1 : runD (callN tab fuel j) fuel d args = some r := by
        simp only [callN, hd] at h1; exact h1
      unfold runD at h1
      split at h1
      · rename_i hc
        have := rp.length
        rw [List.length_map] at this
        omega
      · cases h1
    · obtain ⟨F1, args, c, cx, r, rp, g, h1, hpost⟩ := h
      have h1 : runD (callN tab fuel j) fuel d args = some r := by
        simp only [callN, hd] at h1; exact h1
      unfold runD at h1
      split at h1
      case isFalse => cases h1
      case isTrue hc =>
      obtain ⟨hc1, hc2⟩ := hc
      have hlen := rp.length
      rw [List.length_map] at hlen
      generalize hX : cxOf (L2.CX p w) p w K mg base d.N d.d.qual d.d.scope (He.fAd K key) cdv A outer s H E = X
      have xK : X.K = K := by subst hX; rfl
      have xmg : X.mg = mg := by subst hX; rfl
      have sok : SOk P X d.N d.d.scope (2 * j) (callN tab fuel j) (fun cls od _ H => E cls od H) := by
        subst hX
        refine ⟨⟨⟨rfl, rfl, dok.sc.nd, rfl, by have := hr.units0; have := hr.un; show _ < cLine; show (A.deeper _).units + 66 < cLine; omega, ok.blt, ok.glob, ok.cls, ok.dtab⟩, ⟨hr, fun f hf => ?_, fun C m hm => ?_, fun C hm => ?_, fun C dv hm hk => ?_⟩, ?_⟩, ?_, ⟨rfl, rfl, dok.sc.nd, fun x hx => ⟨hx, .inl rfl⟩⟩, dok.sc.kind⟩
        · obtain ⟨h2, h3⟩ := ok.fn f hf
          obtain ⟨d2, hd2⟩ := Option.isSome_iff_exists.mp h3
          obtain ⟨dok2, fd2, F2⟩ := ok.def_ _ d2 hd2
          exact ⟨_, fd2, d2.ps, ih _ d2 hd2 fd2 F2, h2, F2.kp, dok2.bs F2⟩
        · obtain ⟨h2, h3, h4, h5⟩ := ok.me C m hm
          obtain ⟨d2, hd2⟩ := Option.isSome_iff_exists.mp h5
          obtain ⟨dok2, fd2, F2⟩ := ok.def_ _ d2 hd2
          exact ⟨_, _, fd2, d2.ps, h2, ih _ d2 hd2 fd2 F2, h3, h4, dok2.bs F2⟩
        · obtain ⟨h2, h3, h5⟩ := ok.mak C hm
          obtain ⟨d2, hd2⟩ := Option.isSome_iff_exists.mp h5
          obtain ⟨dok2, fd2, F2⟩ := ok.def_ _ d2 hd2
          exact ⟨_, _, fd2, d2.ps, h2, ih _ d2 hd2 fd2 F2, h3, dok2.bs F2⟩
        · obtain ⟨h2, h3, h5⟩ := ok.mak C hm
          obtain ⟨d2, hd2⟩ := Option.isSome_iff_exists.mp h5
          obtain ⟨dok2, fd2, F2⟩ := ok.def_ _ d2 hd2
          exact ⟨_, _, fd2, d2.ps, h2, ih _ d2 hd2 fd2 F2, h3, dok2.bs F2, dok2.bsd dv (ok.dfl C dv hk d2 hd2) F2⟩
        · exact takes_of rfl rfl rfl rfl
        · exact passes_of rfl
      cases hq : exSs (callN tab fuel j) fuel d.body ((args.map (·.2)).map some ++ List.replicate (d.N.length - args.length) none) with
      | none => rw [hq] at h1; cases h1
      | some rs =>
        rw [hq] at h1
        have sv := exSs_ok sok d.body d.pr d.d.body dok.ck _ rs hq
        have st0 : SR K mg H F1 ((args.map (·.2)).map some ++ List.replicate (d.N.length - args.length) none) (L2.start d.N vs) c := by
          have := SR.start rp (d.N.length - args.length)
          rw [show L2.start d.N vs = vs.map some ++ List.replicate (d.N.length - args.length) none from by unfold L2.start; rw [hlen]]
          exact this
        refine ⟨mxSs X d.d.body, by rw [← hX]; exact pss_mx, ?_⟩
        have oo : ∀ (t' : Tr) (σ' : L2.St) (H' F' : Hp) (cs' : List Addr), SR X.K X.mg H' F' t' σ' cs' → (∀ i ∈ d.pr, σ'[i]? = (L2.start d.N vs)[i]?) → ∃ co g, SR K mg H' F' (outs args t') (vs.map some) co ∧ cs'.Perm (g ++ co) := by
          intro t' σ' H' F' cs' s' hp
          rw [xK, xmg] at s'
          refine outs_ok s' hlen fun i d' v e1 e3 => ?_
          have hi := lentOk_ok hc2 i d' e1
          rw [Nat.zero_add] at hi
          rw [hp i hi]
          unfold L2.start
          have hlt : i < vs.length := (List.getElem?_eq_some_iff.mp e3).1
          rw [List.getElem?_append_left (by simpa using hlt), List.getElem?_map, e3]; rfl
        refine sv (L2.start d.N vs) H F1 c cx _ (by rw [xK, xmg]; exact st0) g ⟨fun t' ee σ' H' F' cs' l kk s' g' hp hl => ?_, fun d' t' ee v σ' H' F' cd cs' l kk s' g' rd hp hl => ?_, fun x t' ee cls od σ' H' F' cs' l kk s' g' rx hp hl => ?_⟩
        · subst ee
          cases h1
          obtain ⟨co, gg, so, pp⟩ := oo t' σ' H' F' cs' s' hp
          exact hpost .non H' F' [] co l kk (g'.part (g := gg) (perm_of fun z => by have := pp.count_eq z; simp only [List.count_append, List.count_nil] at *; omega)) (by simp only [Rp]; exact ⟨trivial, trivial⟩) so
        · subst ee
          cases h1
          obtain ⟨co, gg, so, pp⟩ := oo t' σ' H' F' cs' s' hp
          rw [xK, xmg] at rd
          exact hpost v H' F' cd co l kk (g'.part (g := gg) (perm_of fun z => by have := pp.count_eq z; simp only [List.count_append] at *; omega)) rd so
        · subst ee
          cases h1
          obtain ⟨co, gg, so, pp⟩ := oo t' σ' H' F' cs' s' hp
          rw [xK, xmg] at rx
          exact hpost cls od H' F' co l kk (g'.part (g := gg) (perm_of fun z => by have := pp.count_eq z; simp only [List.count_append] at *; omega)) rx so
end
end Ev
end
section
set_option maxRecDepth 100000
set_option maxHeartbeats 4000000
/-! list(reversed(a list)) -/
namespace RT
open PySem PySem.Spec PyProof.Rows
section
variable {prog : Program} {w : World} {A : Around} {s : Shared} {R : Result → Shared → Prop}
theorem extend_rev {it l : Addr} {items : Array Value} (hh : A.in1.handled = none) (hit : s.heap.IsRevIter it l ((items.size : Int) - 1)) (hl : s.heap.IsList l items) (hne : l ≠ it) (hn : items.size ≤ sizeLine) (S : Addr) (hSi : S ≠ it) (hSl : S ≠ l) (res : Value) (c₀ : Nat) (hS : s.heap.get? S = some { cls := .type "list", data := .seq #[] c₀ })
    (hR : ∀ h' tk acc' c', (∀ b o, b ≠ S → b ≠ it → s.heap.get? b = some o → h'.get? b = some o) → h'.get? S = some { cls := .type "list", dict := none, data := .seq acc' c', slots := #[] } → ItemsOf (fun i v => items[items.size - 1 - i]? = some v) acc' items.size → R (.ok (.ret res)) { s with heap := h', toks := tk }) :
    wpAny (model prog w) A.in1 (Builtin.List.listExtendWith (.ref S) (.ref it) res)
      (fun fin s' => match fin with | .done f => R (.ok f) s' | .again c' => c'.quiet = true ∧ codeAny (model prog w) A c' R s') (fun e s' => R (.error e) s') s := by
  have W := (Walks.listRev (prog := prog) (w := w) (A := A.in1) hh it l hne items).toS
  have hSf : S ∉ [it, l] := by simp only [List.mem_cons, List.not_mem_nil, or_false, not_or]; exact ⟨hSi, hSl⟩
  have hT : s.TypeIs (.ref it) "list_reverseiterator" := hit.typeIs
  have h1 : Builtin.List.listSameRef (.ref S) (.ref it) = false := by simp [Builtin.List.listSameRef, hSi]
  unfold Builtin.List.listExtendWith
  refine wpAny_bind (wpAny_typeOf hT ?_)
  rw [if_neg (by rw [h1]; decide)]
  refine wpAny_bind (wpAny_pyIter_revIter (s := s) hit ?_)
  refine wpAny_bind (wpAny_holding ?_)
  unfold Builtin.List.listLengthHint
  refine wpAny_bind (wpAny_specialOf hT nolen_lri ?_)
  show wpAny _ A.in1 (specialOf (Value.ref it) (Str.ofString "__length_hint__") >>= _) _ _ _
  refine wpAny_bind (wpAny_specialOf hT hint_lri ?_)
  generalize hid : ("list_reverseiterator.__length_hint__" : String) = id0
  wp_delta
  rw [show splitId id0 = some ("list_reverseiterator", "__length_hint__") from by subst hid; decide +kernel]
  subst hid
  refine wpAny_bind (wpAny_isInstance (b := true) hT (by rw [isSubtype_type]; kernel_rfl) ?_)
  refine wpAny_pure ?_
  rw [if_neg (by decide)]
  have e0 : ((items.size : Nat) : Int) - 1 - ((0 : Nat) : Int) = (items.size : Int) - 1 := by omega
  refine wpAny_pure ⟨plainId_quiet F.plain_extend_loop _, codeAny_extend_loopS W hn _ hSf _ items.size 0 _ _ _ rfl (Nat.zero_le _) ⟨Nat.zero_le _, by rw [e0]; exact hit, hl⟩ hS (ItemsOf.nil _) fun s' acc' c' hm hS' hacc => ?_⟩
  rw [Moved.eq_with hm]
  refine hR s'.heap s'.toks acc' c' (fun b o hb hb2 e => hm.heap b o (fun hmem => ?_) e) hS' hacc
  rcases List.mem_cons.mp hmem with e' | hmem
  · exact hb e'
  · exact hb2 (List.mem_singleton.mp hmem)
theorem init_rev {it l : Addr} {items : Array Value} (hh : A.in1.handled = none) (hit : s.heap.IsRevIter it l ((items.size : Int) - 1)) (hl : s.heap.IsList l items) (hne : l ≠ it) (hn : items.size ≤ sizeLine) (S : Addr) (hSi : S ≠ it) (hSl : S ≠ l) (hS : s.heap.get? S = some { cls := .type "list", data := .seq #[] })
    (hR : ∀ h' tk acc' c', (∀ b o, b ≠ S → b ≠ it → s.heap.get? b = some o → h'.get? b = some o) → h'.get? S = some { cls := .type "list", dict := none, data := .seq acc' c', slots := #[] } → ItemsOf (fun i v => items[items.size - 1 - i]? = some v) acc' items.size → R (.ok (.ret .none)) { s with heap := h', toks := tk }) :
    wpAny (model prog w) A.in1 (Builtin.«list.__init__» ⟨[.ref S, .ref it], []⟩)
      (fun fin s' => match fin with | .done f => R (.ok f) s' | .again c' => c'.quiet = true ∧ codeAny (model prog w) A c' R s') (fun e s' => R (.error e) s') s := by
  show wpAny _ A.in1 (do let old ← Builtin.List.listItems (.ref S); Builtin.List.listUpdate (.ref S) (fun _ => #[]); letGo old.toList.reverse; Builtin.List.listExtendWith (.ref S) (.ref it) .none) _ _ s
  refine wpAny_bind ?_
  unfold Builtin.List.listItems
  refine wpAny_bind (wpAny_seqItems hS rfl (wpAny_pure ?_))
  show wpAny _ A.in1 (updateSeq S (fun _ => #[]) >>= fun _ => letGo (#[] : Array Value).toList.reverse >>= fun _ => Builtin.List.listExtendWith (.ref S) (.ref it) .none) _ _ s
  refine wpAny_bind (wpAny_updateSeq hS rfl ?_)
  have hS₂ := Heap.get?_update_self (Obj.mapSeq (fun _ => (#[] : Array Value))) hS rfl
  have oth : ∀ b o, b ≠ S → s.heap.get? b = some o → (s.heap.update S (Obj.mapSeq (fun _ => (#[] : Array Value)))).get? b = some o :=
    fun b o hb e => (Heap.get?_update_other _ _ (Ne.symm hb)).trans e
  refine wpAny_bind (wpAny_letGo ?_)
  have hit2 : (s.heap.update S (Obj.mapSeq (fun _ => (#[] : Array Value)))).IsRevIter it l ((items.size : Int) - 1) := hit.at fun o e => oth _ o hSi.symm e
  have hl2 : (s.heap.update S (Obj.mapSeq (fun _ => (#[] : Array Value)))).IsList l items := hl.at fun o e => oth _ o hSl.symm e
  refine extend_rev hh hit2 hl2 hne hn S hSi hSl .none _ hS₂ fun h' tk acc' c' hk hS' hacc => ?_
  exact hR h' tk acc' c' (fun b o hb hb2 e => hk b o hb hb2 (oth b o hb e)) hS' hacc
end
theorem call_list_rev {prog : Program} {w : World} {A : Around} {E : Value → Shared → Prop} {s : Shared} {it l : Addr} {items : Array Value} {Q : Value → Shared → Prop} (hh : A.handled = none) (hit : s.heap.IsRevIter it l ((items.size : Int) - 1)) (hl : s.heap.IsList l items) (hne : l ≠ it) (hn : items.size ≤ sizeLine)
    (hQ : ∀ h' tk acc' c', (∀ b o, b ≠ it → s.heap.get? b = some o → h'.get? b = some o) → h'.get? s.heap.objs.size = some { cls := .type "list", dict := none, data := .seq acc' c', slots := #[] } → ItemsOf (fun i v => items[items.size - 1 - i]? = some v) acc' items.size → Q (.ref s.heap.objs.size) { s with heap := h', toks := tk }) :
    wpAny (model prog w) A (call (.type "list") [.ref it]) Q E s := by
  refine callType_codes (Q₁ := fun obj s₁ => obj = .ref s.heap.objs.size ∧ s₁ = { s with heap := s.heap.push { cls := .type "list", data := .seq #[] } }) PySem.F.called_list (PySem.F.typeCall_list_1 _) PySem.F.entry_list_init
    (code_list_new _ ⟨rfl, rfl⟩) fun obj s₁ h₁ => ?_
  obtain ⟨rfl, rfl⟩ := h₁
  have hS : (s.heap.push { cls := .type "list", data := .seq #[] }).get? s.heap.objs.size = some { cls := .type "list", data := .seq #[] } := Heap.get?_push_size _ rfl
  obtain ⟨oi, hoi, _⟩ := id hit
  obtain ⟨ol, hol, _⟩ := id hl
  have hit1 : (s.heap.push { cls := .type "list", data := .seq #[] }).IsRevIter it l ((items.size : Int) - 1) := hit.at fun o e => Heap.get?_push_of_some _ e
  refine ⟨⟨_, hS, rfl⟩, PySem.F.args_list_init_2 _ _, init_rev (A := A.in1) hh hit1 (hl.push _) hne hn _ (Nat.ne_of_gt (Heap.lt_size hoi)) (Nat.ne_of_gt (Heap.lt_size hol)) hS (fun h' tk acc' c' hk hS' hacc => ?_)⟩
  exact ⟨rfl, hQ h' tk acc' c' (fun b o hb e => hk b o (Nat.ne_of_lt (Heap.lt_size e)) hb (Heap.get?_push_of_some _ e)) hS' hacc⟩
end RT
namespace L2
open PySem PySem.Spec PyProof.Rows
def tLstRev (K : PySem.W.Frag) (te : TE) : TE := fun σ H Q => te σ H fun x H1 => ∃ (a : Addr) (xs : List V), x = .ref a ∧ SqL K H1 a xs ∧ ∀ p, H1 p = none → Q (.ref p) (upd H1 p (.lst xs.reverse))
section
variable {X : Cx}
theorem pe_listRev {e : Expr} {te : TE} {p p2 pos pos2 : Pos} (hc : X.calm = true) (hg : Gl X "list") (hm : X.mg "list" = none) (hg2 : Gl X "reversed") (hm2 : X.mg "reversed" = none) (he : PE X e te)
    (hs : starEach [e] X.env = (false, eval e X.env) :: starEach [] X.env := by rfl)
    (hs2 : starEach [.Call (.Name "reversed" p2) [e] [] pos2] X.env = (false, eval (.Call (.Name "reversed" p2) [e] [] pos2) X.env) :: starEach [] X.env := by rfl) :
    PE X (.Call (.Name "list" p) [.Call (.Name "reversed" p2) [e] [] pos2] [] pos) (tLstRev X.K te) := by
  refine ⟨fun pins s σ H Q I h => ?_⟩
  refine Call_ (ld_blt I hg hm PyProof.Rows.boot_list (PyProof.Rows.callWith_type1 (args_cons (Call_ (ld_blt I hg2 hm2 PyProof.Rows.boot_reversed (PyProof.Rows.callWith_type1 (args_cons (thn (he.run pins s σ H _ I h) fun u s1 ⟨v, H1, I1, r1, q1⟩ => args_nil ?_) hs) hs rfl))) hs2) hs2 rfl))
  obtain ⟨a, xs, ev, hq, q⟩ := q1
  subst ev
  obtain rfl : u = Value.ref a := r1
  obtain ⟨its, rv, p', hz⟩ := I1.list hq
  refine call_reversed_list p'.isList (args_nil ?_)
  have k0 : ∀ b o, s1.heap.get? b = some o → (s1.heap.push (revObj a ((its.toArray.size : Int) - 1))).get? b = some o := fun b o e => Heap.get?_push_of_some _ e
  have I2 : Inv X pins σ H1 { s1 with heap := s1.heap.push (revObj a ((its.toArray.size : Int) - 1)) } := I1.kept (t' := s1.toks) k0
  have fp := I1.fpOk (H' := H1) (b := s1.heap.objs.size) (Nat.le_refl _) (I1.hok.fresh (Nat.le_refl _))
  have hl := p'.isList
  obtain ⟨ol, hol, _⟩ := id hl
  have hne : a ≠ s1.heap.objs.size := Nat.ne_of_lt (Heap.lt_size hol)
  have hn : its.toArray.size ≤ sizeLine := by rw [List.size_toArray, ← rv.length]; exact hz
  refine RT.call_list_rev (s := { s1 with heap := s1.heap.push (revObj a ((its.toArray.size : Int) - 1)) }) (I1.ok.hd hc) ⟨_, Heap.get?_push_size _ rfl, rfl, rfl⟩ (hl.push _) hne hn fun h' tk acc c hk hS hi => ?_
  have hT : (s1.heap.push (revObj a ((its.toArray.size : Int) - 1))).objs.size ≤ (s1.heap.push (revObj a ((its.toArray.size : Int) - 1))).objs.size := Nat.le_refl _
  have hfp : ∀ b ∈ [s1.heap.objs.size], FpOk X pins H1 b := fun b hb => by
    have e : b = s1.heap.objs.size := by simpa using hb
    rw [e]; exact fp
  have I3 := I2.turnedNew (t' := tk) (h' := h') (T := (s1.heap.push (revObj a ((its.toArray.size : Int) - 1))).objs.size) (ob := .lst xs.reverse) (fun b o hb e => hk b o (by simpa using hb) e) hfp hT ?_
  · exact ⟨.ref _, _, I3, rfl, q _ (I2.hok.fresh (Nat.le_refl _))⟩
  · refine ⟨by rw [List.length_reverse]; exact hz, acc.toList, c, RT.vals_rev rv hi, ?_⟩
    rw [Array.toArray_toList]
    exact hS
end
end L2
end
section
set_option maxRecDepth 100000
set_option maxHeartbeats 4000000
namespace Ev
open PySem PySem.Spec L2
variable {P : Pg}
/-! ### built-in functions -/
def lenF : List D → Option D
  | [.lst _ xs] => some (.int xs.length)
  | [.tup xs] => some (.int xs.length)
  | [.scr xs] => some (.int xs.length)
  | [.str z] => if z.length ≤ sizeLine then some (.int z.length) else none
  | _ => none
theorem Rps.len {K : PySem.W.Frag} {mg : Str → Option Value} {H F : Hp} {xs : List D} {vs : List V} {c : List Addr} (r : Rps K mg H F xs vs c) : (xs.length : Int) = vs.length := by rw [r.length]
def opLen : Opr P := opB "len" "len" 1 lenF (by decide) (by kernel_rfl) (by decide) (by decide) (by
  intro X N sc ok ds d h
  refine ⟨_, call_len, fun vs H F c Q r g k => ?_⟩
  match ds, h with
  | [.lst o xs], h =>
    cases h
    obtain ⟨v, cd, rfl, r, _⟩ := r.one
    obtain ⟨a, vs, cs, rfl, q, rs, _⟩ := r.lstE g.sub
    exact ⟨_, xs.length, rfl, .inl ⟨vs, .inl q, rs.length⟩, k.int g⟩
  | [.tup xs], h =>
    cases h
    obtain ⟨v, cd, rfl, r, _⟩ := r.one
    obtain ⟨a, vs, rfl, q, rs⟩ := r.tupE g.sub
    exact ⟨_, xs.length, rfl, .inr ⟨vs, q, rs.length⟩, k.int g⟩
  | [.scr xs], h =>
    cases h
    obtain ⟨v, cd, rfl, r, _⟩ := r.one
    simp only [Rp] at r
    obtain ⟨a, rfl, q, _⟩ := r
    exact ⟨_, xs.length, rfl, .inl ⟨_, g.sub.sqL q, by rw [List.length_map]⟩, k.int g⟩
  | [.str z], h =>
    simp only [lenF] at h
    split at h
    · rename_i hz
      cases h
      obtain ⟨v, cd, rfl, r, _⟩ := r.one
      rw [r.strE]
      exact ⟨_, z.length, rfl, ⟨hz, rfl⟩, k.int g⟩
    · cases h)
def absF : List D → Option D
  | [.int i] => some (.int (if i < 0 then -i else i))
  | _ => none
def opAbs : Opr P := opB "abs" "abs" 1 absF (by decide) (by kernel_rfl) (by decide) (by decide) (by
  intro X N sc ok ds d h
  refine ⟨_, call_abs, fun vs H F c Q r g k => ?_⟩
  match ds, h with
  | [.int i], h =>
    cases h
    obtain ⟨v, cd, rfl, r, _⟩ := r.one
    rw [r.intE]
    exact ⟨i, rfl, k.int g⟩)
/-! ### list(reversed(x)) -/
def shLR (sc : Scope) : Expr → Option (List Expr)
  | .Call (.Name y _) [.Call (.Name z _) [e] [] _] [] _ => if y = "list" ∧ z = "reversed" ∧ glB sc "list" = true ∧ glB sc "reversed" = true ∧ plainX e = true then some [e] else none
  | _ => none
theorem shLR_some {sc : Scope} {e : Expr} {es : List Expr} (h : shLR sc e = some es) : ∃ p q a p2 p3, e = .Call (.Name "list" p) [.Call (.Name "reversed" q) [a] [] p2] [] p3 ∧ es = [a] ∧ glB sc "list" = true ∧ glB sc "reversed" = true ∧ plainX a = true := by
  unfold shLR at h
  split at h
  · split at h
    · rename_i hc
      obtain ⟨rfl, rfl, h1, h2, h3⟩ := hc
      exact ⟨_, _, _, _, _, rfl, (Option.some.inj h).symm, h1, h2, h3⟩
    · cases h
  · cases h
def revF : List D → Option D
  | [.lst _ xs] => if isFs xs = true then some (.lst true xs.reverse) else none
  | [.scr xs] => some (.lst true (xs.map D.int).reverse)
  | _ => none
theorem Rps.rev {K : PySem.W.Frag} {mg : Str → Option Value} {H F : Hp} : ∀ {xs : List D} {vs : List V}, Rps K mg H F xs vs [] → Rps K mg H F xs.reverse vs.reverse []
  | [], vs, h => by
    simp only [Rps] at h
    rw [h.1]; simp only [List.reverse_nil, Rps]; exact ⟨trivial, trivial⟩
  | d :: r, vs, h => by
    simp only [Rps] at h
    obtain ⟨v, w, c1, c2, rfl, e, h1, h2⟩ := h
    obtain ⟨rfl, rfl⟩ := List.append_eq_nil_iff.mp e.symm
    rw [List.reverse_cons, List.reverse_cons]
    have z : Rps K mg H F [d] [v] ([] ++ []) := by
      simp only [Rps]
      exact ⟨v, [], [], [], rfl, rfl, h1, rfl, rfl⟩
    exact Rps.append (c1 := []) (c2 := []) h2.rev z
def opListRev : Opr P where
  f := revF
  sh := shLR
  ok := by
    intro X N sc ok e es he ds d hd
    obtain ⟨p, q, a, p2, p3, rfl, rfl, h1, h2, h3⟩ := shLR_some he
    have hh : HasOp X (.Call (.Name "list" p) [.Call (.Name "reversed" q) [a] [] p2] [] p3) [a] (R1of fun x H1 Q => ∃ (a : Addr) (xs : List V), x = .ref a ∧ SqL X.K H1 a xs ∧ ∀ p, H1 p = none → Q (.ref p) (upd H1 p (.lst xs.reverse))) :=
      hasOp1 fun ta pt => pe_listRev ok.calm (ok.gl h1) (ok.blt _ (by decide)) (ok.gl h2) (ok.blt _ (by decide)) pt (star_cons h3)
    refine ⟨_, hh, hasT_of hh (fun _ => rfl), fun vs H F c Q r g k => ?_⟩
    match ds, hd with
    | [.lst o xs], hd =>
      simp only [revF] at hd
      split at hd
      · rename_i hf
        cases hd
        obtain ⟨v, cd, rfl, r, _⟩ := r.one
        obtain ⟨b, vs, cs, rfl, q, rs, _⟩ := r.lstE g.sub
        exact ⟨b, vs, rfl, .inl q, fun p hp => k.lst g hp (rs.flat hf).rev⟩
      · cases hd
    | [.scr xs], hd =>
      cases hd
      obtain ⟨v, cd, rfl, r, _⟩ := r.one
      simp only [Rp] at r
      obtain ⟨b, rfl, q, _⟩ := r
      exact ⟨b, _, rfl, g.sub.sqL q, fun p hp => k.lst g hp (Rps.intsOf xs).rev⟩
  pl := by
    intro sc e es he
    obtain ⟨p, q, a, p2, p3, rfl, _⟩ := shLR_some he
    rfl
  sound := by
    intro X N sc ok e es he
    obtain ⟨p, q, a, p2, p3, rfl, rfl, h1, h2, h3⟩ := shLR_some he
    have hh : HasOp X (.Call (.Name "list" p) [.Call (.Name "reversed" q) [a] [] p2] [] p3) [a] (R1of fun x H1 Q => ∃ (a : Addr) (xs : List V), x = .ref a ∧ SqL X.K H1 a xs ∧ ∀ p, H1 p = none → Q (.ref p) (upd H1 p (.lst xs.reverse))) :=
      hasOp1 fun ta pt => pe_listRev ok.calm (ok.gl h1) (ok.blt _ (by decide)) (ok.gl h2) (ok.blt _ (by decide)) pt (star_cons h3)
    exact ⟨_, hh, hasT_of hh (fun _ => rfl)⟩
/-! ### x[i] of values -/
def shIx (_ : Scope) : Expr → Option (List Expr)
  | .Subscript e i _ => if plainX i = true then some [e, i] else none
  | _ => none
theorem shIx_some {sc : Scope} {e : Expr} {es : List Expr} (h : shIx sc e = some es) : ∃ a i pos, e = .Subscript a i pos ∧ es = [a, i] ∧ plainX i = true := by
  unfold shIx at h
  split at h
  · split at h
    · rename_i hc
      exact ⟨_, _, _, rfl, (Option.some.inj h).symm, hc⟩
    · cases h
  · cases h
def ixF : List D → Option D
  | [.lst _ xs, .int i] => (atI xs i).bind fun d => if isF d = true then some d else none
  | [.tup xs, .int i] => (atI xs i).bind fun d => if isF d = true then some d else none
  | [.scr xs, .int i] => (atI xs i).map .int
  | [.str z, .int i] => if z.length ≤ sizeLine then (atI z.cps.toList i).map fun c => .str ⟨#[c]⟩ else none
  | _ => none
def opIx : Opr P where
  f := ixF
  sh := shIx
  ok := by
    intro X N sc ok e es he ds d hd
    obtain ⟨a, i, pos, rfl, rfl, h1⟩ := shIx_some he
    match ds, hd with
    | [.lst o xs, .int j], hd =>
      have hh : HasOp X (.Subscript a i pos) [a, i] _ := hasOp2 fun ta tb p q => pe_ix ix_list p q (plainIx h1)
      refine ⟨_, hh, hasT_of hh (fun _ => rfl), fun vs H F c Q r g k => ?_⟩
      obtain ⟨y, e1, e2⟩ := Option.bind_eq_some_iff.mp hd
      split at e2
      · rename_i hf
        cases e2
        obtain ⟨x, w, ca, cb, rfl, r1, _, r2, _⟩ := r.two
        obtain ⟨b, vs, cs, rfl, q, rs, _⟩ := r1.lstE g.sub
        obtain ⟨n, h3, h4⟩ := atI_of rs.length e1
        obtain ⟨v1, c1, z1, z2, _⟩ := rs.get h3
        exact ⟨b, vs, j, v1, rfl, r2.intE, .inl q, h4 v1 z1, k.flat g (z2.flat hf)⟩
      · cases e2
    | [.scr xs, .int j], hd =>
      have hh : HasOp X (.Subscript a i pos) [a, i] _ := hasOp2 fun ta tb p q => pe_ix ix_list p q (plainIx h1)
      refine ⟨_, hh, hasT_of hh (fun _ => rfl), fun vs H F c Q r g k => ?_⟩
      obtain ⟨y, e1, rfl⟩ := Option.map_eq_some_iff.mp hd
      obtain ⟨x, w, ca, cb, rfl, r1, _, r2, _⟩ := r.two
      simp only [Rp] at r1
      obtain ⟨b, rfl, q, _⟩ := r1
      obtain ⟨n, h3, h4⟩ := atI_of (ys := xs.map V.int) (by rw [List.length_map]) e1
      exact ⟨b, _, j, .int y, rfl, r2.intE, g.sub.sqL q, h4 _ (by rw [List.getElem?_map, h3]; rfl), k.int g⟩
    | [.str z, .int j], hd =>
      have hh : HasOp X (.Subscript a i pos) [a, i] _ := hasOp2 fun ta tb p q => pe_ix ix_str p q (plainIx h1)
      refine ⟨_, hh, hasT_of hh (fun _ => rfl), fun vs H F c Q r g k => ?_⟩
      simp only [ixF] at hd
      split at hd
      · rename_i hz
        obtain ⟨y, e1, rfl⟩ := Option.map_eq_some_iff.mp hd
        obtain ⟨x, w, ca, cb, rfl, r1, _, r2, _⟩ := r.two
        exact ⟨z, j, y, r1.strE, r2.intE, hz, e1, k.str g⟩
      · cases hd
    | [.tup xs, .int j], hd =>
      have hh : HasOp X (.Subscript a i pos) [a, i] _ := hasOp2 fun ta tb p q => pe_ix ix_tup p q (plainIx h1)
      refine ⟨_, hh, hasT_of hh (fun _ => rfl), fun vs H F c Q r g k => ?_⟩
      obtain ⟨y, e1, e2⟩ := Option.bind_eq_some_iff.mp hd
      split at e2
      · rename_i hf
        cases e2
        obtain ⟨x, w, ca, cb, rfl, r1, _, r2, _⟩ := r.two
        obtain ⟨b, vs, rfl, q, rs⟩ := r1.tupE g.sub
        obtain ⟨n, h3, h4⟩ := atI_of rs.length e1
        obtain ⟨v1, c1, z1, z2, _⟩ := rs.get h3
        exact ⟨b, vs, j, v1, rfl, r2.intE, q, h4 v1 z1, k.flat g (z2.flat hf)⟩
      · cases e2
  pl := by
    intro sc e es he
    obtain ⟨a, i, pos, rfl, _⟩ := shIx_some he
    rfl
  sound := by
    intro X N sc ok e es he
    obtain ⟨a, i, pos, rfl, rfl, h1⟩ := shIx_some he
    have hh : HasOp X (.Subscript a i pos) [a, i] _ := hasOp2 fun ta tb p q => pe_ix ix_list p q (plainIx h1)
    exact ⟨_, hh, hasT_of hh (fun _ => rfl)⟩
end Ev
end
section
set_option maxRecDepth 100000
set_option maxHeartbeats 4000000
namespace Ev
open PySem PySem.Spec L2
variable {P : Pg}
/-! ### methods of lists -/
def lstB : D → Bool
  | .lst _ _ => true
  | .scr _ => true
  | _ => false
theorem lst_mid (K : PySem.W.Frag) (mg : Str → Option Value) (d : D) (h : lstB d = true) (x : V) (H F : Hp) (c : List Addr) (r : Rp K mg H F d x c) (l : Le F H) : tyV K "list" x H := by
  cases d with
  | lst o xs =>
    obtain ⟨a, vs, cs, rfl, q, _⟩ := r.lstE l
    exact .inl ⟨rfl, vs, .inl q⟩
  | scr xs =>
    simp only [Rp] at r
    obtain ⟨a, rfl, q, _⟩ := r
    exact .inl ⟨rfl, _, l.sqL q⟩
  | _ => simp [lstB] at h
/-- x.m(..) on one line -/
def shM (m : Str) (n : Nat) (_ : Scope) : Expr → Option (Expr × List Expr)
  | .Call (.Attribute o m' apos) as [] pos => if m' = m ∧ as.length = n ∧ plainX o = true ∧ as.all plainX = true ∧ (apos.endLine == pos.line) = true then some (o, as) else none
  | _ => none
theorem shM_some {m : Str} {n : Nat} {sc : Scope} {e x : Expr} {ys : List Expr} (h : shM m n sc e = some (x, ys)) : ∃ apos pos, e = .Call (.Attribute x m apos) ys [] pos ∧ ys.length = n ∧ plainX x = true ∧ ys.all plainX = true ∧ (apos.endLine == pos.line) = true := by
  unfold shM at h
  split at h
  · split at h
    · rename_i hc
      obtain ⟨rfl, h1, h2, h3, h4⟩ := hc
      cases h
      exact ⟨_, _, rfl, h1, h2, h3, h4⟩
    · cases h
  · cases h
/-- a method's rule as operands one by one -/
theorem hasM_bm {X : Cx} {T id : String} {name : Str} {r : V → List V → Hp → VK → Prop} {x : Expr} {ys : List Expr} {apos pos : Pos} (pa : PlainAttrs T) (slot : Slot T name id) (hty : typeOf (.builtin id) = pure (.type "method_descriptor")) (hm : MtR X id r)
    (hx : plainX x = true) (hy : ys.all plainX = true) (hl : (apos.endLine == pos.line) = true) (hn : ys.length < 29) :
    HasM X (.Call (.Attribute x name apos) ys [] pos) x ys (tyV X.K T) (fun vs H Q => match vs with
      | [] => False
      | v :: ws => r v ws H Q) := by
  intro t ts p1 p2
  cases ys with
  | nil =>
    cases p2
    exact pe_bm0 pa slot hty hm p1 (base_of hx) hl
  | cons e es =>
    have hy' := hy
    rw [List.all_cons, Bool.and_eq_true] at hy'
    have z := pe_bm pa slot hty hm p1 (pa_all p2 hy) (base_of hx) (by
      have h1 := noStar (env := X.env) (pos := pos) hy
      have h2 : (backTo pos (starEach (e :: es) X.env)).all (fun x => !x.1) = true := by
        rw [List.all_eq_not_any_not]
        have : (fun (x : Bool × Sem Value) => !(!x.1)) = (·.1) := by funext x; simp
        simp only [this, h1]; rfl
      rw [h2]
      simp only [List.length_cons] at hn
      simp [keywordEach, backToKw]
      omega) hl (star_cons hy'.1) (noStar hy'.2)
    have e2 : (fun (σ : L2.St) (H : Hp) (Q : VK) => t σ H fun v H1 => tyV X.K T v H1 ∧ tOps ts (fun vs H2 Q => match v :: vs with
      | [] => False
      | v :: ws => r v ws H2 Q) σ H1 Q) = tBM X.K T r t (tL ts) := by
      funext σ H Q
      unfold tBM
      congr 1
      funext v H1
      rw [tL_ops]
    rw [e2]
    exact z
def mutM (id : String) (name : Str) (n : Nat) (r : V → List V → Hp → VK → Prop) (f : D → List D → Option (D × D)) (slot : Slot "list" name id) (hty : typeOf (.builtin id) = pure (.type "method_descriptor")) (hm : ∀ X : Cx, MtR X id r) (hn : n < 29)
    (h : ∀ (X : Cx) (d : D) (ds : List D) (a d' : D), f d ds = some (a, d') → ∀ (x : V) (ws : List V) (H F : Hp) (c cd cw : List Addr) (Q : VK), Rp X.K X.mg H F d x cd → Rps X.K X.mg H F ds ws cw → Good H F (cd ++ cw ++ c) →
      (∀ v H' F' cr cd', Le F F' → (∀ b ∈ c, H' b = H b) → Good H' F' (cr ++ cd' ++ c) → Rp X.K X.mg H' F' a v cr → Rp X.K X.mg H' F' d' x cd' → Q v H') → r x ws H Q) : Mut P where
  f := f
  hd := lstB
  Mid := fun K => tyV K "list"
  sh := shM name n
  mid := lst_mid
  pl := by
    intro sc e x ys he
    obtain ⟨_, _, rfl, _⟩ := shM_some he
    rfl
  sound := by
    intro X N sc ok e x ys he
    obtain ⟨apos, pos, rfl, h1, h2, h3, h4⟩ := shM_some he
    exact ⟨_, hasM_bm PySem.F.plainAttrs_list slot hty (hm X) h2 h3 h4 (by omega)⟩
  ok := by
    intro X N sc ok e x ys he d ds a d' hf
    obtain ⟨apos, pos, rfl, h1, h2, h3, h4⟩ := shM_some he
    exact ⟨_, hasM_bm PySem.F.plainAttrs_list slot hty (hm X) h2 h3 h4 (by omega), fun v ws H F c cd cw Q r1 r2 g k => h X d ds a d' hf v ws H F c cd cw Q r1 r2 g k⟩
def appF : D → List D → Option (D × D)
  | .lst true xs, [y] => if xs.length < sizeLine then some (.non, .lst true (xs ++ [y])) else none
  | _, _ => none
/-- an owned list rewritten -/
theorem lst_write {K : PySem.W.Frag} {mg : Str → Option Value} {H F : Hp} {a : Addr} {vs : List V} {xs : List D} {c cx : List Addr} (g : Good H F (a :: (c ++ cx))) (r : Rps K mg H F xs vs c) :
    Good (upd H a (.lst vs)) F (a :: (c ++ cx)) ∧ (∀ b ∈ cx, upd H a (.lst vs) b = H b) ∧ Rp K mg (upd H a (.lst vs)) F (.lst true xs) (.ref a) (a :: c) := by
  have nd := (List.nodup_cons.mp g.nd).1
  have ku : ∀ b ∈ c ++ cx, upd H a (.lst vs) b = H b := fun b hb => upd_ne fun e => nd (e ▸ hb)
  refine ⟨g.write (by simp), fun b hb => ku b (by simp [hb]), ?_⟩
  simp only [Rp]
  exact ⟨a, vs, c, rfl, upd_same, Rps.keep (Le.refl F) _ _ _ r fun b hb => ku b (by simp [hb]), rfl⟩
def mAppend : Mut P := mutM "list.append" "append" 1 rAppend appF PySem.F.slot_list_append PySem.F.type_list_append (fun _ => mt_append) (by decide) (by
  intro X d ds a d' hf x ws H F c cd cw Q r1 r2 g k
  match d, ds, hf with
  | .lst true xs, [y], hf =>
    simp only [appF] at hf
    split at hf
    · rename_i hl
      cases hf
      simp only [Rp] at r1
      obtain ⟨p, vs, c', rfl, hH, rs, rfl⟩ := r1
      have r2' := r2
      simp only [Rps] at r2
      obtain ⟨v, w, c1, c2, rfl, rfl, ry, rfl, rfl⟩ := r2
      refine ⟨p, vs, v, rfl, rfl, hH, by rw [← rs.length]; exact hl, ?_⟩
      have g2 : Good H F (p :: ((c' ++ (c1 ++ [])) ++ c)) := g.perm (perm_of fun z => by simp only [List.count_append, List.count_cons, List.count_nil]; omega)
      obtain ⟨g3, k3, r3⟩ := lst_write g2 (rs.append r2')
      refine k .non _ F [] (p :: (c' ++ (c1 ++ []))) (Le.refl F) k3 (by simpa using g3) (by simp only [Rp]; exact ⟨trivial, trivial⟩) r3
    · cases hf)
def popF : D → List D → Option (D × D)
  | .lst true xs, [] => (xs[xs.length - 1]?).map fun y => (y, .lst true xs.dropLast)
  | _, _ => none
theorem Rps.split {K : PySem.W.Frag} {mg : Str → Option Value} {H F : Hp} : ∀ {xs : List D} {vs : List V} {c : List Addr} {y : D}, Rps K mg H F xs vs c → xs[xs.length - 1]? = some y → ∃ v c1 c2, vs[vs.length - 1]? = some v ∧ Rp K mg H F y v c2 ∧ Rps K mg H F xs.dropLast vs.dropLast c1 ∧ c = c1 ++ c2
  | [], vs, c, y, h, e => by simp at e
  | [d], vs, c, y, h, e => by
    simp at e
    subst e
    simp only [Rps] at h
    obtain ⟨v, w, c1, c2, rfl, rfl, r, rfl, rfl⟩ := h
    exact ⟨v, [], c1, rfl, r, by simp only [List.dropLast_singleton, Rps]; exact ⟨trivial, trivial⟩, by simp⟩
  | d :: d2 :: r, vs, c, y, h, e => by
    rw [Rps] at h
    obtain ⟨v, w, c1, c2, rfl, rfl, r1, r2⟩ := h
    have hw : w.length = r.length + 1 := by rw [← r2.length]; rfl
    obtain ⟨v', c3, c4, h1, h2, h3, h4⟩ := Rps.split r2 (y := y) (by simpa using e)
    cases w with
    | nil => simp at hw
    | cons v2 w =>
      refine ⟨v', c1 ++ c3, c4, by simpa using h1, h2, ?_, by rw [h4, List.append_assoc]⟩
      show Rps K mg H F (d :: (d2 :: r).dropLast) (v :: (v2 :: w).dropLast) _
      rw [Rps]
      exact ⟨v, _, c1, c3, rfl, rfl, r1, h3⟩
def mPop : Mut P := mutM "list.pop" "pop" 0 rPop popF PySem.F.slot_list_pop PySem.F.type_list_pop (fun _ => mt_pop) (by decide) (by
  intro X d ds a d' hf x ws H F c cd cw Q r1 r2 g k
  match d, ds, hf with
  | .lst true xs, [], hf =>
    obtain ⟨y, h1, h2⟩ := Option.map_eq_some_iff.mp hf
    cases h2
    simp only [Rp] at r1
    obtain ⟨p, vs, c', rfl, hH, rs, rfl⟩ := r1
    simp only [Rps] at r2
    obtain ⟨rfl, rfl⟩ := r2
    obtain ⟨v, c1, c2, e1, ry, rd, rfl⟩ := rs.split h1
    refine ⟨p, vs, v, rfl, rfl, hH, e1, ?_⟩
    have g2 : Good H F (p :: (c1 ++ (c2 ++ c))) := g.perm (perm_of fun z => by simp only [List.count_append, List.count_cons, List.count_nil]; omega)
    obtain ⟨g3, k3, r3⟩ := lst_write g2 rd
    refine k v _ F c2 (p :: c1) (Le.refl F) (fun b hb => k3 b (by simp [hb])) (g3.perm (perm_of fun z => by simp only [List.count_append, List.count_cons]; omega)) (Rp.keep (Le.refl F) _ _ _ ry fun b hb => k3 b (by simp [hb])) r3)
/-! ### l[i] = v -/
def shPutI (_ : Scope) : Expr → Option (List Expr)
  | .Subscript o i _ => if plainX i = true then some [o, i] else none
  | _ => none
theorem shPutI_some {sc : Scope} {e : Expr} {es : List Expr} (h : shPutI sc e = some es) : ∃ o i pos, e = .Subscript o i pos ∧ es = [o, i] ∧ plainX i = true := by
  unfold shPutI at h
  split at h
  · split at h
    · rename_i hc
      exact ⟨_, _, _, rfl, (Option.some.inj h).symm, hc⟩
    · cases h
  · cases h
def putIF : D → List D → D → Option D
  | .lst true xs, [.int k], y => (ixN xs.length k).map fun j => .lst true (xs.set j y)
  | _, _, _ => none
theorem swI {o i v : Expr} {p2 : Pos} {env : Env} : swappedStores [.Subscript o i p2] v env = pure none := rfl
theorem swS {o i v : Expr} {p2 : Pos} {l : Nat} {env : Env} : swapsWithSole [.Subscript o i p2] v l env = pure false := by
  unfold swapsWithSole
  cases v <;> rfl
theorem ps_putI {X : Cx} {o i v : Expr} {p2 pos : Pos} {tv : TE} {ts : List TE} (h : plainX i = true) (hv : PE X v tv) (ht : AllPE X [o, i] ts) :
    PS X (.Assign [.Subscript o i p2] v pos) (fun D σ H => tv σ H fun y H1 => tL ts σ H1 fun vs H2 => (match vs with
      | [x, k] => rSetL x k y H2 fun H3 => D.nx σ H3
      | _ => False)) := by
  cases ht with
  | cons p1 ht =>
    cases ht with
    | cons p3 ht =>
      cases ht
      exact ps_asg hv (pg_sub p1 p3 set_list (sub_assign h)) swS swI (by rfl)
def putI : Put P where
  f := putIF
  sh := shPutI
  sound := by
    intro X N sc ok e es he
    obtain ⟨o, i, p2, rfl, rfl, h⟩ := shPutI_some he
    refine ⟨fun vs y H2 Q => (match vs with
      | [x, k] => rSetL x k y H2 Q
      | _ => False), fun v pos tv ts hv ht => ps_putI h hv ht⟩
  ok := by
    intro X N sc ok e es he d ds y d' hf
    obtain ⟨o, i, p2, rfl, rfl, h⟩ := shPutI_some he
    refine ⟨fun vs y H2 Q => (match vs with
      | [x, k] => rSetL x k y H2 Q
      | _ => False), fun v pos tv ts hv ht => ?_, fun x ws yv H F c cd cw cy Q r1 r2 ry g k => ?_⟩
    · exact ps_putI h hv ht
    · match d, ds, hf with
      | .lst true xs, [.int kk], hf =>
        obtain ⟨j, hj, rfl⟩ := Option.map_eq_some_iff.mp hf
        simp only [Rp] at r1
        obtain ⟨p, vs, c', rfl, hH, rs, rfl⟩ := r1
        simp only [Rps] at r2
        obtain ⟨w, w', c1, c2, rfl, rfl, rk, rfl, rfl⟩ := r2
        refine ⟨p, vs, kk, j, rfl, rk.intE, hH, by rw [← rs.length]; exact hj, ?_⟩
        obtain ⟨c6, g6, rs6, p6⟩ := Rps.setD (q := j) rs (ixN_seq hj).2.1 ry
        have g2 : Good H F (p :: (c6 ++ c)) := g.part (g := g6 ++ c1) (perm_of fun z => by
          have := p6.count_eq z
          simp only [List.count_append, List.count_cons, List.count_nil] at *
          omega)
        obtain ⟨g3, k3, r3⟩ := lst_write g2 rs6
        exact k _ (p :: c6) k3 (by simpa using g3) r3
end Ev
end
section
set_option maxRecDepth 100000
set_option maxHeartbeats 4000000
namespace Ev
open PySem PySem.Spec L2
variable {P : Pg}
/-! ### walks -/
def shIt (_ : Scope) (_ e : Expr) : Option (List Expr) := if plainX e = true then some [e] else none
theorem shIt_some {sc : Scope} {tg e : Expr} {es : List Expr} (h : shIt sc tg e = some es) : es = [e] ∧ plainX e = true := by
  unfold shIt at h
  split at h
  · rename_i hc; exact ⟨(Option.some.inj h).symm, hc⟩
  · cases h
def itLF : List D → Option (List D)
  | [.lst _ xs] => if isFs xs = true then some xs else none
  | [.scr xs] => some (xs.map .int)
  | [.tup xs] => if isFs xs = true then some xs else none
  | _ => none
def sL (K : PySem.W.Frag) : List V → Hp → (It → Hp → Prop) → Prop := fun vs H R => match vs with
  | [x] => ∃ a, x = .ref a ∧ (∃ xs, SqL K H a xs) ∧ R (Itl K a) H
  | _ => False
def sT (K : PySem.W.Frag) : List V → Hp → (It → Hp → Prop) → Prop := fun vs H R => match vs with
  | [x] => ∃ a, x = .ref a ∧ (∃ xs, SqT K H a xs) ∧ R (Itt K a) H
  | _ => False
def jOf (f : Addr → It) : List V → It
  | [.ref a] => f a
  | _ => f 0
theorem flat_at {K : PySem.W.Frag} {mg : Str → Option Value} {H F : Hp} {xs : List D} {vs : List V} {cs : List Addr} (r : Rps K mg H F xs vs cs) (hf : isFs xs = true) {i : Nat} {d : D} (e : xs[i]? = some d) : ∃ v, vs[i]? = some v ∧ Rp K mg H F d v [] := by
  obtain ⟨v, c1, h1, h2, _⟩ := (r.flat hf).get e
  have : c1 = [] := by
    cases c1 with
    | nil => rfl
    | cons a _ => rename_i h; have := h a (by simp); simp at this
  subst this
  exact ⟨v, h1, h2⟩
def itList : Itr P where
  f := itLF
  sh := shIt
  pl := by
    intro sc tg e es he
    exact (shIt_some he).2
  sound := by
    intro X N sc ok tg e es he
    obtain ⟨rfl, h⟩ := shIt_some he
    refine ⟨sL X.K, fun ts ht => ?_⟩
    cases ht with
    | cons p1 ht => cases ht; exact pi_list p1
  ok := by
    intro X N sc ok tg e es he ds l hl
    obtain ⟨rfl, h⟩ := shIt_some he
    match ds, hl with
    | [.lst o xs], hl =>
      simp only [itLF] at hl
      split at hl
      case isFalse => cases hl
      case isTrue hf =>
      cases hl
      refine ⟨sL X.K, fun ts ht => ?_, fun vs => ⟨jOf (Itl X.K) vs, fun H F c R r g hR => ?_, fun H F c r g i => ⟨fun d hd => ?_, fun hi => ?_⟩⟩⟩
      · cases ht with
        | cons p1 ht => cases ht; exact pi_list p1
      · obtain ⟨v, cd, rfl, r, _⟩ := r.one
        obtain ⟨a, vs, cs, rfl, q, rs, _⟩ := r.lstE g.sub
        exact ⟨a, rfl, ⟨vs, .inl q⟩, hR⟩
      · obtain ⟨v, cd, rfl, r, _⟩ := r.one
        obtain ⟨a, vs, cs, rfl, q, rs, _⟩ := r.lstE g.sub
        obtain ⟨w, z1, z2⟩ := flat_at rs hf hd
        refine ⟨⟨vs, w, .inl q, z1⟩, fun x H' hy => ⟨F, Le.refl F, ?_⟩⟩
        obtain ⟨rfl, hy⟩ := hy
        have := hy vs (.inl q)
        rw [z1] at this; cases this
        exact ⟨g, fun _ _ => rfl, z2⟩
      · obtain ⟨v, cd, rfl, r, _⟩ := r.one
        obtain ⟨a, vs, cs, rfl, q, rs, _⟩ := r.lstE g.sub
        exact ⟨vs, .inl q, by rw [← rs.length]; exact hi⟩
    | [.scr xs], hl =>
      cases hl
      refine ⟨sL X.K, fun ts ht => ?_, fun vs => ⟨jOf (Itl X.K) vs, fun H F c R r g hR => ?_, fun H F c r g i => ⟨fun d hd => ?_, fun hi => ?_⟩⟩⟩
      · cases ht with
        | cons p1 ht => cases ht; exact pi_list p1
      · obtain ⟨v, cd, rfl, r, _⟩ := r.one
        simp only [Rp] at r
        obtain ⟨a, rfl, q, _⟩ := r
        exact ⟨a, rfl, ⟨_, g.sub.sqL q⟩, hR⟩
      · obtain ⟨v, cd, rfl, r, _⟩ := r.one
        simp only [Rp] at r
        obtain ⟨a, rfl, q, _⟩ := r
        obtain ⟨w, z1, z2⟩ := flat_at (K := X.K) (mg := X.mg) (H := H) (F := F) (Rps.intsOf xs) (by
          rw [isFs_all]; simp [isF]) hd
        refine ⟨⟨_, w, g.sub.sqL q, z1⟩, fun x H' hy => ⟨F, Le.refl F, ?_⟩⟩
        obtain ⟨rfl, hy⟩ := hy
        have := hy _ (g.sub.sqL q)
        rw [z1] at this; cases this
        exact ⟨g, fun _ _ => rfl, z2⟩
      · obtain ⟨v, cd, rfl, r, _⟩ := r.one
        simp only [Rp] at r
        obtain ⟨a, rfl, q, _⟩ := r
        exact ⟨_, g.sub.sqL q, by simpa using hi⟩
    | [.tup xs], hl =>
      simp only [itLF] at hl
      split at hl
      case isFalse => cases hl
      case isTrue hf =>
      cases hl
      refine ⟨sT X.K, fun ts ht => ?_, fun vs => ⟨jOf (Itt X.K) vs, fun H F c R r g hR => ?_, fun H F c r g i => ⟨fun d hd => ?_, fun hi => ?_⟩⟩⟩
      · cases ht with
        | cons p1 ht => cases ht; exact pi_tup p1
      · obtain ⟨v, cd, rfl, r, _⟩ := r.one
        obtain ⟨a, vs, rfl, q, rs⟩ := r.tupE g.sub
        exact ⟨a, rfl, ⟨vs, q⟩, hR⟩
      · obtain ⟨v, cd, rfl, r, _⟩ := r.one
        obtain ⟨a, vs, rfl, q, rs⟩ := r.tupE g.sub
        obtain ⟨w, z1, z2⟩ := flat_at rs hf hd
        refine ⟨⟨vs, w, q, z1⟩, fun x H' hy => ⟨F, Le.refl F, ?_⟩⟩
        obtain ⟨rfl, hy⟩ := hy
        have := hy vs q
        rw [z1] at this; cases this
        exact ⟨g, fun _ _ => rfl, z2⟩
      · obtain ⟨v, cd, rfl, r, _⟩ := r.one
        obtain ⟨a, vs, rfl, q, rs⟩ := r.tupE g.sub
        exact ⟨vs, q, by rw [← rs.length]; exact hi⟩
/-! range(..) -/
def rngL (lo : Int) (n : Nat) : List D := (List.range n).map fun i : Nat => .int (lo + (i : Int))
theorem rngL_get {lo : Int} {n i : Nat} {d : D} (h : (rngL lo n)[i]? = some d) : i < n ∧ d = .int (lo + (i : Int)) := by
  unfold rngL at h
  rw [List.getElem?_map] at h
  obtain ⟨j, e1, e2⟩ := Option.map_eq_some_iff.mp h
  obtain ⟨h1, h2⟩ := List.getElem?_eq_some_iff.mp e1
  rw [List.getElem_range] at h2
  rw [List.length_range] at h1
  subst h2
  exact ⟨h1, e2.symm⟩
def shFn (x : Str) (n : Nat) (sc : Scope) (_ : Expr) : Expr → Option (List Expr)
  | .Call (.Name y _) as [] _ => if y = x ∧ as.length = n ∧ glB sc x = true ∧ as.all plainX = true ∧ n ≠ 0 then some as else none
  | _ => none
theorem shFn_some {x : Str} {n : Nat} {sc : Scope} {tg e : Expr} {es : List Expr} (h : shFn x n sc tg e = some es) : ∃ p pos, e = .Call (.Name x p) es [] pos ∧ es.length = n ∧ glB sc x = true ∧ es.all plainX = true ∧ n ≠ 0 := by
  unfold shFn at h
  split at h
  · split at h
    · rename_i hc
      obtain ⟨rfl, h1⟩ := hc
      cases h
      exact ⟨_, _, rfl, h1⟩
    · cases h
  · cases h
theorem starOf {env : Env} : ∀ {es : List Expr}, es.all plainX = true → starEach es env = es.map fun e => (false, eval e env)
  | [], _ => rfl
  | e :: es, h => by
    rw [List.all_cons, Bool.and_eq_true] at h
    rw [star_cons h.1, starOf h.2]; rfl
def rng1F : List D → Option (List D)
  | [.int j] => if -(2 ^ 62) ≤ j ∧ j < 2 ^ 62 then some (rngL 0 j.toNat) else none
  | _ => none
def sR1 : List V → Hp → (It → Hp → Prop) → Prop := fun vs H1 R => ∃ j : Int, vs = [.int j] ∧ -(2 ^ 62) ≤ j ∧ j < 2 ^ 62 ∧ R (L2.Itr 0 j.toNat) H1
def jR1 : List V → It
  | [.int j] => L2.Itr 0 j.toNat
  | _ => L2.Itr 0 0
theorem call_plain1 {x : Str} {p pos : Pos} {es : List Expr} (h : es.length ≠ 0) : plainX (.Call (.Name x p) es [] pos) = true := by
  cases es with
  | nil => exact absurd rfl h
  | cons _ _ => rfl
theorem pi_r1 {X : Cx} {N : List Str} {sc : Scope} (ok : XOk P X N sc) {tg : Expr} {p pos : Pos} {es : List Expr} (hl : es.length = 1) (h1 : glB sc "range" = true) (h2 : es.all plainX = true) {ts : List TE} (ht : AllPE X es ts) : PI X tg (.Call (.Name "range" p) es [] pos) (fun σ H R => tL ts σ H fun vs H1 => sR1 vs H1 R) := by
  match es, hl, ht with
  | [a], _, ht => exact pi_range1 (ok.gl h1) (ok.blt _ (by decide)) (pa_all ht h2) (starOf h2)
def itRng1 : Itr P where
  f := rng1F
  sh := shFn "range" 1
  pl := by
    intro sc tg e es he
    obtain ⟨p, pos, rfl, hl, h1, h2, h3⟩ := shFn_some he
    exact call_plain1 (by omega)
  sound := by
    intro X N sc ok tg e es he
    obtain ⟨p, pos, rfl, hl, h1, h2, h3⟩ := shFn_some he
    exact ⟨sR1, fun ts ht => pi_r1 ok hl h1 h2 ht⟩
  ok := by
    intro X N sc ok tg e es he ds l hf
    obtain ⟨p, pos, rfl, hl, h1, h2, h3⟩ := shFn_some he
    match ds, hf with
    | [.int j], hf =>
      simp only [rng1F] at hf
      split at hf
      case isFalse => cases hf
      case isTrue hb =>
      cases hf
      refine ⟨sR1, fun ts ht => pi_r1 ok hl h1 h2 ht, fun vs => ⟨jR1 vs, fun H F c R r g hR => ?_, fun H F c r g i => ⟨fun d hd => ?_, fun hi => ?_⟩⟩⟩
      · obtain ⟨v, cd, rfl, r, _⟩ := r.one
        have r := r.intE
        subst r
        exact ⟨j, rfl, hb.1, hb.2, hR⟩
      · obtain ⟨v, cd, rfl, r, _⟩ := r.one
        have r := r.intE
        subst r
        obtain ⟨h4, rfl⟩ := rngL_get hd
        refine ⟨h4, fun x H' hy => ⟨F, Le.refl F, ?_⟩⟩
        obtain ⟨rfl, rfl⟩ := hy
        exact ⟨g, fun _ _ => rfl, by simp only [Rp]; exact ⟨trivial, trivial⟩⟩
      · obtain ⟨v, cd, rfl, r, _⟩ := r.one
        have r := r.intE
        subst r
        show j.toNat ≤ i
        simp [rngL] at hi
        omega
def rng2F : List D → Option (List D)
  | [.int i, .int j] => if -(2 ^ 62) ≤ i ∧ i < 2 ^ 62 ∧ -(2 ^ 62) ≤ j ∧ j < 2 ^ 62 then some (rngL i (j - i).toNat) else none
  | _ => none
def sR2 : List V → Hp → (It → Hp → Prop) → Prop := fun vs H1 R => ∃ i j : Int, vs = [.int i, .int j] ∧ (-(2 ^ 62) ≤ i ∧ i < 2 ^ 62 ∧ -(2 ^ 62) ≤ j ∧ j < 2 ^ 62) ∧ R (L2.Itr i (j - i).toNat) H1
def jR2 : List V → It
  | [.int i, .int j] => L2.Itr i (j - i).toNat
  | _ => L2.Itr 0 0
theorem pi_r2 {X : Cx} {N : List Str} {sc : Scope} (ok : XOk P X N sc) {tg : Expr} {p pos : Pos} {es : List Expr} (hl : es.length = 2) (h1 : glB sc "range" = true) (h2 : es.all plainX = true) {ts : List TE} (ht : AllPE X es ts) : PI X tg (.Call (.Name "range" p) es [] pos) (fun σ H R => tL ts σ H fun vs H1 => sR2 vs H1 R) := by
  match es, hl, ht with
  | [a, b], _, ht =>
    have h2' := h2
    rw [List.all_cons, Bool.and_eq_true] at h2'
    exact pi_range2 (ok.gl h1) (ok.blt _ (by decide)) (pa_all ht h2) (starOf h2) (starOf h2'.2)
def itRng2 : Itr P where
  f := rng2F
  sh := shFn "range" 2
  pl := by
    intro sc tg e es he
    obtain ⟨p, pos, rfl, hl, h1, h2, h3⟩ := shFn_some he
    exact call_plain1 (by omega)
  sound := by
    intro X N sc ok tg e es he
    obtain ⟨p, pos, rfl, hl, h1, h2, h3⟩ := shFn_some he
    exact ⟨sR2, fun ts ht => pi_r2 ok hl h1 h2 ht⟩
  ok := by
    intro X N sc ok tg e es he ds l hf
    obtain ⟨p, pos, rfl, hl, h1, h2, h3⟩ := shFn_some he
    match ds, hf with
    | [.int i0, .int j], hf =>
      simp only [rng2F] at hf
      split at hf
      case isFalse => cases hf
      case isTrue hb =>
      cases hf
      refine ⟨sR2, fun ts ht => pi_r2 ok hl h1 h2 ht, fun vs => ⟨jR2 vs, fun H F c R r g hR => ?_, fun H F c r g i => ⟨fun d hd => ?_, fun hi => ?_⟩⟩⟩
      · obtain ⟨v, w, ca, cb, rfl, r1, _, r2, _⟩ := r.two
        have r1 := r1.intE
        have r2 := r2.intE
        subst r1 r2
        exact ⟨i0, j, rfl, hb, hR⟩
      · obtain ⟨v, w, ca, cb, rfl, r1, _, r2, _⟩ := r.two
        have r1 := r1.intE
        have r2 := r2.intE
        subst r1 r2
        obtain ⟨h4, rfl⟩ := rngL_get hd
        refine ⟨h4, fun x H' hy => ⟨F, Le.refl F, ?_⟩⟩
        obtain ⟨rfl, rfl⟩ := hy
        exact ⟨g, fun _ _ => rfl, by simp only [Rp]; exact ⟨trivial, trivial⟩⟩
      · obtain ⟨v, w, ca, cb, rfl, r1, _, r2, _⟩ := r.two
        have r1 := r1.intE
        have r2 := r2.intE
        subst r1 r2
        show (j - i0).toNat ≤ i
        simp [rngL] at hi
        omega
/-! zip of two lists, of two tuples -/
def shZip (sc : Scope) (tg : Expr) : Expr → Option (List Expr)
  | .Call (.Name y _) as [] _ => match tg with
    | .Tuple .. => if y = "zip" ∧ as.length = 2 ∧ glB sc "zip" = true ∧ as.all plainX = true then some as else none
    | _ => none
  | _ => none
theorem shZip_some {sc : Scope} {tg e : Expr} {es : List Expr} (h : shZip sc tg e = some es) : ∃ p pos a b el k q, tg = .Tuple el k q ∧ e = .Call (.Name "zip" p) es [] pos ∧ es = [a, b] ∧ glB sc "zip" = true ∧ es.all plainX = true := by
  unfold shZip at h
  split at h
  · split at h
    · split at h
      · rename_i hc
        obtain ⟨rfl, h1, h2, h3⟩ := hc
        cases h
        match es, h1 with
        | [a, b], _ => exact ⟨_, _, a, b, _, _, _, rfl, rfl, rfl, h2, h3⟩
      · cases h
    · cases h
  · cases h
def zipD (xs ys : List D) : List D := (xs.zip ys).map fun p => .tup [p.1, p.2]
def zipF : List D → Option (List D)
  | [.lst _ xs, .lst _ ys] => if isFs xs = true ∧ isFs ys = true then some (zipD xs ys) else none
  | [.tup xs, .tup ys] => if isFs xs = true ∧ isFs ys = true then some (zipD xs ys) else none
  | _ => none
def sZ (K : PySem.W.Frag) : List V → Hp → (It → Hp → Prop) → Prop := fun vs H1 R => ∃ a b xs ys, vs = [.ref a, .ref b] ∧ ((SqL K H1 a xs ∧ SqL K H1 b ys ∧ R (Itz K a b) H1) ∨ (SqT K H1 a xs ∧ SqT K H1 b ys ∧ R (RZ.ItzT K a b) H1))
def jZ (f : Addr → Addr → It) : List V → It
  | [.ref a, .ref b] => f a b
  | _ => f 0 0
theorem zipD_get {xs ys : List D} {i : Nat} {d : D} (h : (zipD xs ys)[i]? = some d) : ∃ x y, xs[i]? = some x ∧ ys[i]? = some y ∧ d = .tup [x, y] := by
  unfold zipD at h
  rw [List.getElem?_map] at h
  obtain ⟨p, e1, e2⟩ := Option.map_eq_some_iff.mp h
  obtain ⟨x, y⟩ := p
  rw [List.getElem?_zip_eq_some] at e1
  exact ⟨x, y, e1.1, e1.2, e2.symm⟩
theorem zip_new {K : PySem.W.Frag} {mg : Str → Option Value} {H F : Hp} {c : List Addr} {x y : D} {v w : V} {T : Addr} (g : Good H F c) (hT : H T = none) (r1 : Rp K mg H F x v []) (r2 : Rp K mg H F y w []) :
    ∃ F', Le F F' ∧ Good (upd H T (.tup [v, w])) F' c ∧ (∀ a ∈ c, upd H T (.tup [v, w]) a = H a) ∧ Rp K mg (upd H T (.tup [v, w])) F' (.tup [x, y]) (.ref T) [] := by
  obtain ⟨g2, k2, l2⟩ := g.newF (o := .tup [v, w]) hT
  refine ⟨_, l2, g2, k2, ?_⟩
  simp only [Rp, Rps]
  exact ⟨T, [v, w], rfl, SqT.of upd_same, v, [w], [], [], rfl, rfl, Rp.keep l2 _ _ _ r1 (fun a ha => by simp at ha), w, [], [], [], rfl, rfl, Rp.keep l2 _ _ _ r2 (fun a ha => by simp at ha), rfl, rfl⟩
theorem pi_z {X : Cx} {N : List Str} {sc : Scope} (ok : XOk P X N sc) {el : List Expr} {k : Nat} {q p pos : Pos} {a b : Expr} (h1 : glB sc "zip" = true) (h2 : [a, b].all plainX = true) {ts : List TE} (ht : AllPE X [a, b] ts) : PI X (.Tuple el k q) (.Call (.Name "zip" p) [a, b] [] pos) (fun σ H R => tL ts σ H fun vs H1 => sZ X.K vs H1 R) := by
  have h2' := h2
  rw [List.all_cons, Bool.and_eq_true] at h2'
  exact RZ.pi_zipA (ok.gl h1) (ok.blt _ (by decide)) (pa_all ht h2) (star_cons h2'.1) (noStar h2'.2)
def itZip : Itr P where
  f := zipF
  sh := shZip
  pl := by
    intro sc tg e es he
    obtain ⟨p, pos, a, b, el, k, q, rfl, rfl, rfl, h1, h2⟩ := shZip_some he
    rfl
  sound := by
    intro X N sc ok tg e es he
    obtain ⟨p, pos, a, b, el, k, q, rfl, rfl, rfl, h1, h2⟩ := shZip_some he
    exact ⟨sZ X.K, fun ts ht => pi_z ok h1 h2 ht⟩
  ok := by
    intro X N sc ok tg e es he ds l hf
    obtain ⟨p, pos, a, b, el, k, q, rfl, rfl, rfl, h1, h2⟩ := shZip_some he
    match ds, hf with
    | [.lst o xs, .lst o' ys], hf =>
      simp only [zipF] at hf
      split at hf
      case isFalse => cases hf
      case isTrue hb =>
      cases hf
      refine ⟨sZ X.K, fun ts ht => pi_z ok h1 h2 ht, fun vs => ⟨jZ (Itz X.K) vs, fun H F c R r g hR => ?_, fun H F c r g i => ⟨fun d hd => ?_, fun hi => ?_⟩⟩⟩
      · obtain ⟨v, w, ca, cb, rfl, r1, _, r2, _⟩ := r.two
        obtain ⟨a1, vs1, _, rfl, q1, rs1, _⟩ := r1.lstE g.sub
        obtain ⟨a2, vs2, _, rfl, q2, rs2, _⟩ := r2.lstE g.sub
        exact ⟨a1, a2, vs1, vs2, rfl, .inl ⟨.inl q1, .inl q2, hR⟩⟩
      · obtain ⟨v, w, ca, cb, rfl, r1, _, r2, _⟩ := r.two
        obtain ⟨a1, vs1, _, rfl, q1, rs1, _⟩ := r1.lstE g.sub
        obtain ⟨a2, vs2, _, rfl, q2, rs2, _⟩ := r2.lstE g.sub
        obtain ⟨x, y, e1, e2, rfl⟩ := zipD_get hd
        obtain ⟨v1, z1, z2⟩ := flat_at rs1 hb.1 e1
        obtain ⟨v2, z3, z4⟩ := flat_at rs2 hb.2 e2
        refine ⟨⟨vs1, vs2, v1, v2, .inl q1, .inl q2, z1, z3⟩, fun u H' hy => ?_⟩
        obtain ⟨T, x', y', rfl, hT, rfl, h5, h6⟩ := hy
        have h5 := h5 vs1 (.inl q1)
        have h6 := h6 vs2 (.inl q2)
        rw [z1] at h5; cases h5
        rw [z3] at h6; cases h6
        exact zip_new g hT z2 z4
      · obtain ⟨v, w, ca, cb, rfl, r1, _, r2, _⟩ := r.two
        obtain ⟨a1, vs1, _, rfl, q1, rs1, _⟩ := r1.lstE g.sub
        obtain ⟨a2, vs2, _, rfl, q2, rs2, _⟩ := r2.lstE g.sub
        refine ⟨vs1, vs2, .inl q1, .inl q2, ?_⟩
        rw [← rs1.length, ← rs2.length]
        simp [zipD] at hi
        omega
    | [.tup xs, .tup ys], hf =>
      simp only [zipF] at hf
      split at hf
      case isFalse => cases hf
      case isTrue hb =>
      cases hf
      refine ⟨sZ X.K, fun ts ht => pi_z ok h1 h2 ht, fun vs => ⟨jZ (RZ.ItzT X.K) vs, fun H F c R r g hR => ?_, fun H F c r g i => ⟨fun d hd => ?_, fun hi => ?_⟩⟩⟩
      · obtain ⟨v, w, ca, cb, rfl, r1, _, r2, _⟩ := r.two
        obtain ⟨a1, vs1, rfl, q1, rs1⟩ := r1.tupE g.sub
        obtain ⟨a2, vs2, rfl, q2, rs2⟩ := r2.tupE g.sub
        exact ⟨a1, a2, vs1, vs2, rfl, .inr ⟨q1, q2, hR⟩⟩
      · obtain ⟨v, w, ca, cb, rfl, r1, _, r2, _⟩ := r.two
        obtain ⟨a1, vs1, rfl, q1, rs1⟩ := r1.tupE g.sub
        obtain ⟨a2, vs2, rfl, q2, rs2⟩ := r2.tupE g.sub
        obtain ⟨x, y, e1, e2, rfl⟩ := zipD_get hd
        obtain ⟨v1, z1, z2⟩ := flat_at rs1 hb.1 e1
        obtain ⟨v2, z3, z4⟩ := flat_at rs2 hb.2 e2
        refine ⟨⟨vs1, vs2, v1, v2, q1, q2, z1, z3⟩, fun u H' hy => ?_⟩
        obtain ⟨T, x', y', rfl, hT, rfl, h5, h6⟩ := hy
        have h5 := h5 vs1 q1
        have h6 := h6 vs2 q2
        rw [z1] at h5; cases h5
        rw [z3] at h6; cases h6
        exact zip_new g hT z2 z4
      · obtain ⟨v, w, ca, cb, rfl, r1, _, r2, _⟩ := r.two
        obtain ⟨a1, vs1, rfl, q1, rs1⟩ := r1.tupE g.sub
        obtain ⟨a2, vs2, rfl, q2, rs2⟩ := r2.tupE g.sub
        refine ⟨vs1, vs2, q1, q2, ?_⟩
        rw [← rs1.length, ← rs2.length]
        simp [zipD] at hi
        omega
/-! ### op= of ints -/
def augI (op : Operator) (g : Int → Int → Int) (h : ∀ X : Cx, PIp X op (ipI g)) : Aug P where
  op := op
  f := fun d y => match d, y with
    | .int i, .int j => some (.int (g i j))
    | _, _ => none
  ok := by
    intro X N sc ok d y d' hf
    match d, y, hf with
    | .int i, .int j, hf =>
      cases hf
      refine ⟨_, h X, fun x yv H F c cd cy Q r1 r2 gd k => ⟨i, j, r1.intE, r2.intE, ?_⟩⟩
      exact k _ H F [] (Le.refl F) (fun _ _ => rfl) (gd.part (g := cd ++ cy) (perm_of fun z => by simp only [List.count_append, List.count_nil]; omega)) (by simp only [Rp]; exact ⟨trivial, trivial⟩)
def augAdd : Aug P := augI .Add (fun i j => i + j) fun _ => ip_add
def augSub : Aug P := augI .Sub (fun i j => i - j) fun _ => ip_sub
/-! ### isinstance of a built-in type -/
def tyD : D → Option String
  | .non => some "NoneType"
  | .bl _ => some "bool"
  | .int _ => some "int"
  | .str _ => some "str"
  | .lst _ _ => some "list"
  | .tup _ => some "tuple"
  | .dic _ _ _ => some "dict"
  | _ => none
theorem tyX_of {K : PySem.W.Frag} {mg : Str → Option Value} {H F : Hp} {d : D} {t : String} {v : V} {c : List Addr} (h : tyD d = some t) (r : Rp K mg H F d v c) (l : Le F H) : TyX K H v (.type t) := by
  cases d with
  | non => cases h; rw [r.nonE]; exact .base .non
  | bl b => cases h; rw [r.blE]; exact .base (.bl b)
  | int b => cases h; rw [r.intE]; exact .base (.int b)
  | str b => cases h; rw [r.strE]; exact .base (.str b)
  | lst o xs =>
    cases h
    obtain ⟨a, vs, cs, rfl, q, _⟩ := r.lstE l
    rcases q with q | ⟨o, q⟩
    · exact .base (.lst q)
    · exact .base (.frz q)
  | tup xs =>
    cases h
    obtain ⟨a, vs, rfl, q, _⟩ := r.tupE l
    rcases q with q | ⟨o, its, n, h1, h2, _⟩
    · rcases q with q | ⟨o, q⟩
      · exact .base (.tup q)
      · exact .fTuple q
    · exact .kTuple h1 h2
  | dic o ks xs =>
    cases h
    cases o with
    | true =>
      simp only [Rp] at r
      obtain ⟨a, vs, c', rfl, _, _, q, _⟩ := r
      exact .base (.dK q)
    | false =>
      simp only [Rp] at r
      obtain ⟨a, vs, rfl, _, _, q, _⟩ := r
      exact .base (.dK (l _ _ q))
  | _ => cases h
def isiF : List D → Option D
  | [d, .ty n] => (tyD d).bind fun t => (kitB t n).map .bl
  | _ => none
def opIsi : Opr P := opB "isinstance" "isinstance" 2 isiF (by decide) (by kernel_rfl) (by decide) (by decide) (by
  intro X N sc ok ds d h
  refine ⟨_, call_isi, fun vs H F c Q r g k => ?_⟩
  match ds, h with
  | [d0, .ty n], h =>
    obtain ⟨t, h1, h2⟩ := Option.bind_eq_some_iff.mp h
    obtain ⟨b, h3, rfl⟩ := Option.map_eq_some_iff.mp h2
    obtain ⟨v, w, ca, cb, rfl, r1, _, r2, _⟩ := r.two
    simp only [Rp] at r2
    obtain ⟨rfl, _⟩ := r2
    exact ⟨v, .ty n, _, _, b, rfl, .ty n, tyX_of h1 r1 g.sub, kit_ty h3, k.bl g⟩)
end Ev
end
section
set_option maxRecDepth 100000
set_option maxHeartbeats 4000000
namespace Ev
open PySem PySem.Spec L2
variable {P : Pg}
/-! ### list(x), tuple(x), int(x) -/
def listF : List D → Option D
  | [.lst _ xs] => if isFs xs = true then some (.lst true xs) else none
  | [.tup xs] => if isFs xs = true then some (.lst true xs) else none
  | [.scr xs] => some (.lst true (xs.map D.int))
  | _ => none
def opList : Opr P := opTy "list" "list" 1 listF (by decide) (by kernel_rfl) (by decide) (by decide) (by
  intro X N sc ok ds d h
  refine ⟨_, call_list_of, fun vs H F c Q r g k => ?_⟩
  match ds, h with
  | [.lst o xs], h =>
    simp only [listF] at h
    split at h
    · rename_i hf
      cases h
      obtain ⟨v, cd, rfl, r, _⟩ := r.one
      obtain ⟨a, vs, cs, rfl, q, rs, _⟩ := r.lstE g.sub
      exact ⟨a, vs, rfl, .inl (.inl q), fun p hp => k.lst g hp (rs.flat hf)⟩
    · cases h
  | [.tup xs], h =>
    simp only [listF] at h
    split at h
    · rename_i hf
      cases h
      obtain ⟨v, cd, rfl, r, _⟩ := r.one
      obtain ⟨a, vs, rfl, q, rs⟩ := r.tupE g.sub
      exact ⟨a, vs, rfl, .inr q, fun p hp => k.lst g hp (rs.flat hf)⟩
    · cases h
  | [.scr xs], h =>
    cases h
    obtain ⟨v, cd, rfl, r, _⟩ := r.one
    simp only [Rp] at r
    obtain ⟨a, rfl, q, _⟩ := r
    exact ⟨a, _, rfl, .inl (g.sub.sqL q), fun p hp => k.lst g hp (Rps.intsOf xs)⟩)
def tupleF : List D → Option D
  | [.lst _ xs] => if isFs xs = true then some (.tup xs) else none
  | [.tup xs] => if isFs xs = true then some (.tup xs) else none
  | _ => none
def opTuple : Opr P := opTy "tuple" "tuple" 1 tupleF (by decide) (by kernel_rfl) (by decide) (by decide) (by
  intro X N sc ok ds d h
  refine ⟨_, call_tuple_of, fun vs H F c Q r g k => ?_⟩
  match ds, h with
  | [.lst o xs], h =>
    simp only [tupleF] at h
    split at h
    · rename_i hf
      cases h
      obtain ⟨v, cd, rfl, r, _⟩ := r.one
      obtain ⟨a, vs, cs, rfl, q, rs, _⟩ := r.lstE g.sub
      exact ⟨a, vs, rfl, .inl ⟨.inl q, fun p hp => k.tup g hp (rs.flat hf)⟩⟩
    · cases h
  | [.tup xs], h =>
    simp only [tupleF] at h
    split at h
    · rename_i hf
      cases h
      obtain ⟨v, cd, rfl, r, _⟩ := r.one
      have r0 : Rp X.K X.mg H F (.tup xs) v [] := r.flat (by simpa only [isF] using hf)
      obtain ⟨a, vs, rfl, q, rs⟩ := r0.tupE g.sub
      exact ⟨a, vs, rfl, .inr ⟨q, k.flat g r0⟩⟩
    · cases h)
def intF : List D → Option D
  | [.int i] => some (.int i)
  | [.bl b] => some (.int (if b then 1 else 0))
  | _ => none
def opInt : Opr P := opTy "int" "int" 1 intF (by decide) (by kernel_rfl) (by decide) (by decide) (by
  intro X N sc ok ds d h
  refine ⟨_, call_int1, fun vs H F c Q r g k => ?_⟩
  match ds, h with
  | [.int i], h =>
    cases h
    obtain ⟨v, cd, rfl, r, _⟩ := r.one
    rw [r.intE]
    exact .inl ⟨i, rfl, k.int g⟩
  | [.bl b], h =>
    cases h
    obtain ⟨v, cd, rfl, r, _⟩ := r.one
    rw [r.blE]
    exact .inr ⟨b, rfl, k.int g⟩)
/-! ### max, min, sum, all, any, sorted, divmod -/
def max2F : List D → Option D
  | [.int i, .int j] => some (.int (if j > i then j else i))
  | _ => none
def opMax2 : Opr P := opB "max" "max" 2 max2F (by decide) (by kernel_rfl) (by decide) (by decide) (by
  intro X N sc ok ds d h
  refine ⟨_, call_max2 ok.calm, fun vs H F c Q r g k => ?_⟩
  match ds, h with
  | [.int i, .int j], h =>
    cases h
    obtain ⟨v, w, ca, cb, rfl, r1, _, r2, _⟩ := r.two
    rw [r1.intE, r2.intE]
    exact ⟨i, j, rfl, k.int g⟩)
def min2F : List D → Option D
  | [.int i, .int j] => some (.int (if j < i then j else i))
  | _ => none
def opMin2 : Opr P := opB "min" "min" 2 min2F (by decide) (by kernel_rfl) (by decide) (by decide) (by
  intro X N sc ok ds d h
  refine ⟨_, call_min2 ok.calm, fun vs H F c Q r g k => ?_⟩
  match ds, h with
  | [.int i, .int j], h =>
    cases h
    obtain ⟨v, w, ca, cb, rfl, r1, _, r2, _⟩ := r.two
    rw [r1.intE, r2.intE]
    exact ⟨i, j, rfl, k.int g⟩)
/-- a list of ints -/
def intsD : List D → Option (List Int)
  | [] => some []
  | .int i :: r => (intsD r).map fun z => i :: z
  | _ => none
theorem intsD_some : ∀ {xs : List D} {ns : List Int}, intsD xs = some ns → xs = ns.map D.int
  | [], ns, h => by cases h; rfl
  | .int i :: r, ns, h => by
    obtain ⟨z, h1, rfl⟩ := Option.map_eq_some_iff.mp h
    rw [intsD_some h1]; rfl
  | .non :: _, _, h => by simp [intsD] at h
  | .bl _ :: _, _, h => by simp [intsD] at h
  | .str _ :: _, _, h => by simp [intsD] at h
  | .tup _ :: _, _, h => by simp [intsD] at h
  | .lst _ _ :: _, _, h => by simp [intsD] at h
  | .dic _ _ _ :: _, _, h => by simp [intsD] at h
  | .ins _ _ _ _ :: _, _, h => by simp [intsD] at h
  | .fn _ :: _, _, h => by simp [intsD] at h
  | .ty _ :: _, _, h => by simp [intsD] at h
  | .scr _ :: _, _, h => by simp [intsD] at h
theorem intsD_map : ∀ ns : List Int, intsD (ns.map D.int) = some ns
  | [] => rfl
  | n :: ns => by rw [List.map_cons, intsD, intsD_map ns]; rfl
def blsD : List D → Option (List Bool)
  | [] => some []
  | .bl i :: r => (blsD r).map fun z => i :: z
  | _ => none
theorem blsD_some : ∀ {xs : List D} {ns : List Bool}, blsD xs = some ns → xs = ns.map D.bl
  | [], ns, h => by cases h; rfl
  | .bl i :: r, ns, h => by
    obtain ⟨z, h1, rfl⟩ := Option.map_eq_some_iff.mp h
    rw [blsD_some h1]; rfl
  | .non :: _, _, h => by simp [blsD] at h
  | .int _ :: _, _, h => by simp [blsD] at h
  | .str _ :: _, _, h => by simp [blsD] at h
  | .tup _ :: _, _, h => by simp [blsD] at h
  | .lst _ _ :: _, _, h => by simp [blsD] at h
  | .dic _ _ _ :: _, _, h => by simp [blsD] at h
  | .ins _ _ _ _ :: _, _, h => by simp [blsD] at h
  | .fn _ :: _, _, h => by simp [blsD] at h
  | .ty _ :: _, _, h => by simp [blsD] at h
  | .scr _ :: _, _, h => by simp [blsD] at h
theorem blsD_map : ∀ ns : List Bool, blsD (ns.map D.bl) = some ns
  | [] => rfl
  | n :: ns => by rw [List.map_cons, blsD, blsD_map ns]; rfl
def onInts (f : List Int → Option D) : List D → Option D
  | [.lst _ xs] => (intsD xs).bind f
  | _ => none
def onBls (f : List Bool → Option D) : List D → Option D
  | [.lst _ xs] => (blsD xs).bind f
  | _ => none
theorem onInts_ok {K : PySem.W.Frag} {mg : Str → Option Value} {H F : Hp} {c : List Addr} {f : List Int → Option D} {ds : List D} {d : D} {vs : List V} (h : onInts f ds = some d) (r : RpE K mg H F c ds vs) (l : Le F H) : ∃ a ns, vs = [.ref a] ∧ SqL K H a (ns.map V.int) ∧ f ns = some d := by
  match ds, h with
  | [.lst o xs], h =>
    obtain ⟨ns, h1, h2⟩ := Option.bind_eq_some_iff.mp h
    obtain ⟨v, cd, rfl, r, _⟩ := r.one
    obtain ⟨a, vs, cs, rfl, q, rs, _⟩ := r.lstE l
    rw [intsD_some h1] at rs
    rw [rs.ints] at q
    exact ⟨a, ns, rfl, .inl q, h2⟩
theorem onBls_ok {K : PySem.W.Frag} {mg : Str → Option Value} {H F : Hp} {c : List Addr} {f : List Bool → Option D} {ds : List D} {d : D} {vs : List V} (h : onBls f ds = some d) (r : RpE K mg H F c ds vs) (l : Le F H) : ∃ a ns, vs = [.ref a] ∧ SqL K H a (ns.map V.bl) ∧ f ns = some d := by
  match ds, h with
  | [.lst o xs], h =>
    obtain ⟨ns, h1, h2⟩ := Option.bind_eq_some_iff.mp h
    obtain ⟨v, cd, rfl, r, _⟩ := r.one
    obtain ⟨a, vs, cs, rfl, q, rs, _⟩ := r.lstE l
    rw [blsD_some h1] at rs
    rw [rs.bls] at q
    exact ⟨a, ns, rfl, .inl q, h2⟩
def opSum : Opr P := opB "sum" "sum" 1 (onInts fun ns => some (.int ns.sum)) (by decide) (by kernel_rfl) (by decide) (by decide) (by
  intro X N sc ok ds d h
  refine ⟨_, cr_sum ok.calm, fun vs H F c Q r g k => ?_⟩
  obtain ⟨a, ns, rfl, q, e⟩ := onInts_ok h r g.sub
  cases e
  exact ⟨a, ns, rfl, q, k.int g⟩)
def opAll : Opr P := opB "all" "all" 1 (onBls fun ns => some (.bl (ns.all id))) (by decide) (by kernel_rfl) (by decide) (by decide) (by
  intro X N sc ok ds d h
  refine ⟨_, cr_all ok.calm, fun vs H F c Q r g k => ?_⟩
  obtain ⟨a, ns, rfl, q, e⟩ := onBls_ok h r g.sub
  cases e
  exact ⟨a, ns, rfl, q, k.bl g⟩)
def opAny : Opr P := opB "any" "any" 1 (onBls fun ns => some (.bl (ns.any id))) (by decide) (by kernel_rfl) (by decide) (by decide) (by
  intro X N sc ok ds d h
  refine ⟨_, cr_any ok.calm, fun vs H F c Q r g k => ?_⟩
  obtain ⟨a, ns, rfl, q, e⟩ := onBls_ok h r g.sub
  cases e
  exact ⟨a, ns, rfl, q, k.bl g⟩)
def maxI : List Int → Option Int
  | [] => none
  | x :: r => some (r.foldl (fun a b => if a < b then b else a) x)
def minI : List Int → Option Int
  | [] => none
  | x :: r => some (r.foldl (fun a b => if b < a then b else a) x)
theorem maxI_fold : ∀ (r : List Int) (x : Int), let m := r.foldl (fun a b => if a < b then b else a) x; (m = x ∨ m ∈ r) ∧ x ≤ m ∧ ∀ y ∈ r, y ≤ m
  | [], x => ⟨.inl rfl, Int.le_refl x, by simp⟩
  | y :: r, x => by
    obtain ⟨h1, h2, h3⟩ := maxI_fold r (if x < y then y else x)
    simp only [List.foldl_cons]
    refine ⟨?_, ?_, ?_⟩
    · rcases h1 with h1 | h1
      · rw [h1]; split
        · exact .inr (by simp)
        · exact .inl rfl
      · exact .inr (by simp [h1])
    · have : x ≤ (if x < y then y else x) := by split <;> omega
      exact Int.le_trans this h2
    · intro z hz
      rcases List.mem_cons.mp hz with rfl | hz
      · have : z ≤ (if x < z then z else x) := by split <;> omega
        exact Int.le_trans this h2
      · exact h3 z hz
theorem minI_fold : ∀ (r : List Int) (x : Int), let m := r.foldl (fun a b => if b < a then b else a) x; (m = x ∨ m ∈ r) ∧ m ≤ x ∧ ∀ y ∈ r, m ≤ y
  | [], x => ⟨.inl rfl, Int.le_refl x, by simp⟩
  | y :: r, x => by
    obtain ⟨h1, h2, h3⟩ := minI_fold r (if y < x then y else x)
    simp only [List.foldl_cons]
    refine ⟨?_, ?_, ?_⟩
    · rcases h1 with h1 | h1
      · rw [h1]; split
        · exact .inr (by simp)
        · exact .inl rfl
      · exact .inr (by simp [h1])
    · have : (if y < x then y else x) ≤ x := by split <;> omega
      exact Int.le_trans h2 this
    · intro z hz
      rcases List.mem_cons.mp hz with rfl | hz
      · have : (if z < x then z else x) ≤ z := by split <;> omega
        exact Int.le_trans h2 this
      · exact h3 z hz
theorem maxI_some {ns : List Int} {m : Int} (h : maxI ns = some m) : m ∈ ns ∧ ∀ y ∈ ns, y ≤ m := by
  cases ns with
  | nil => cases h
  | cons x r =>
    cases h
    obtain ⟨h1, h2, h3⟩ := maxI_fold r x
    refine ⟨by rcases h1 with h1 | h1 <;> simp [h1], fun y hy => ?_⟩
    rcases List.mem_cons.mp hy with rfl | hy
    · exact h2
    · exact h3 y hy
theorem minI_some {ns : List Int} {m : Int} (h : minI ns = some m) : m ∈ ns ∧ ∀ y ∈ ns, m ≤ y := by
  cases ns with
  | nil => cases h
  | cons x r =>
    cases h
    obtain ⟨h1, h2, h3⟩ := minI_fold r x
    refine ⟨by rcases h1 with h1 | h1 <;> simp [h1], fun y hy => ?_⟩
    rcases List.mem_cons.mp hy with rfl | hy
    · exact h2
    · exact h3 y hy
def opMax1 : Opr P := opB "max" "max" 1 (onInts fun ns => (maxI ns).map D.int) (by decide) (by kernel_rfl) (by decide) (by decide) (by
  intro X N sc ok ds d h
  refine ⟨_, cr_max ok.calm, fun vs H F c Q r g k => ?_⟩
  obtain ⟨a, ns, rfl, q, e⟩ := onInts_ok h r g.sub
  obtain ⟨m, h1, rfl⟩ := Option.map_eq_some_iff.mp e
  obtain ⟨h2, h3⟩ := maxI_some h1
  refine ⟨a, ns, rfl, q, List.length_pos_of_mem h2, fun m' h4 h5 => ?_⟩
  rw [show m' = m from Int.le_antisymm (h3 m' h4) (h5 m h2)]
  exact k.int g)
def opMin1 : Opr P := opB "min" "min" 1 (onInts fun ns => (minI ns).map D.int) (by decide) (by kernel_rfl) (by decide) (by decide) (by
  intro X N sc ok ds d h
  refine ⟨_, cr_min ok.calm, fun vs H F c Q r g k => ?_⟩
  obtain ⟨a, ns, rfl, q, e⟩ := onInts_ok h r g.sub
  obtain ⟨m, h1, rfl⟩ := Option.map_eq_some_iff.mp e
  obtain ⟨h2, h3⟩ := minI_some h1
  refine ⟨a, ns, rfl, q, List.length_pos_of_mem h2, fun m' h4 h5 => ?_⟩
  rw [show m' = m from Int.le_antisymm (h5 m h2) (h3 m' h4)]
  exact k.int g)
/-- ints in order -/
def insI (x : Int) : List Int → List Int
  | [] => [x]
  | y :: r => if x ≤ y then x :: y :: r else y :: insI x r
def sortI : List Int → List Int
  | [] => []
  | x :: r => insI x (sortI r)
theorem insI_perm (x : Int) : ∀ l : List Int, (insI x l).Perm (x :: l)
  | [] => .refl _
  | y :: r => by
    unfold insI
    split
    · exact .refl _
    · exact ((insI_perm x r).cons y).trans (.swap x y r)
theorem sortI_perm : ∀ l : List Int, (sortI l).Perm l
  | [] => .refl _
  | x :: r => (insI_perm x (sortI r)).trans ((sortI_perm r).cons x)
theorem insI_sorted (x : Int) : ∀ l : List Int, l.Pairwise (· ≤ ·) → (insI x l).Pairwise (· ≤ ·)
  | [], _ => by simp [insI]
  | y :: r, h => by
    rw [List.pairwise_cons] at h
    unfold insI
    split
    · rename_i hx
      refine List.pairwise_cons.mpr ⟨fun z hz => ?_, List.pairwise_cons.mpr h⟩
      rcases List.mem_cons.mp hz with rfl | hz
      · exact hx
      · have := h.1 z hz; omega
    · refine List.pairwise_cons.mpr ⟨fun z hz => ?_, insI_sorted x r h.2⟩
      rcases List.mem_cons.mp ((insI_perm x r).mem_iff.mp hz) with rfl | hz
      · omega
      · exact h.1 z hz
theorem sortI_sorted : ∀ l : List Int, (sortI l).Pairwise (· ≤ ·)
  | [] => List.Pairwise.nil
  | x :: r => insI_sorted x _ (sortI_sorted r)
theorem sorted_one : ∀ {l m : List Int}, l.Perm m → l.Pairwise (· ≤ ·) → m.Pairwise (· ≤ ·) → l = m
  | [], m, p, _, _ => (List.nil_perm.mp p).symm
  | x :: l, [], p, _, _ => by have := p.length_eq; simp at this
  | x :: l, y :: m, p, h, k => by
    have e : x = y := by
      rw [List.pairwise_cons] at h k
      have h1 : x ∈ y :: m := p.subset (by simp)
      have h2 : y ∈ x :: l := p.symm.subset (by simp)
      rcases List.mem_cons.mp h1 with e | h1
      · exact e
      rcases List.mem_cons.mp h2 with e | h2
      · exact e.symm
      have := h.1 y h2; have := k.1 x h1; omega
    subst e
    rw [List.pairwise_cons] at h k
    rw [sorted_one (List.perm_cons x |>.mp p) h.2 k.2]
def opSorted : Opr P := opB "sorted" "sorted" 1 (onInts fun ns => some (.lst true ((sortI ns).map D.int))) (by decide) (by kernel_rfl) (by decide) (by decide) (by
  intro X N sc ok ds d h
  refine ⟨_, cr_sortedI, fun vs H F c Q r g k => ?_⟩
  obtain ⟨a, ns, rfl, q, e⟩ := onInts_ok h r g.sub
  cases e
  refine ⟨a, ns, rfl, q, fun ns' p h1 h2 hp => ?_⟩
  rw [sorted_one (h1.trans (sortI_perm ns).symm) h2 (sortI_sorted ns)]
  exact k.lst g hp (Rps.intsOf _))
def divmodF : List D → Option D
  | [.int i, .int j] => if 0 < j ∧ j < 2 ^ 64 then some (.tup [.int (i / j), .int (i % j)]) else none
  | _ => none
theorem pylong_ok {i j : Int} (h : j < 2 ^ 64) (h0 : 0 < j) : Builtin.divisionGoesByPylong i j = false := by
  have h1 : j.natAbs.log2 < 64 := PySem.Flt.log2_lt_of (by decide) (by omega)
  unfold Builtin.divisionGoesByPylong
  have e : (j == 0) = false := by simp; omega
  simp only [e, Bool.false_eq_true, if_false, Bool.and_eq_false_iff, decide_eq_false_iff_not]
  left; omega
def opDivmod : Opr P := opB "divmod" "divmod" 2 divmodF (by decide) (by kernel_rfl) (by decide) (by decide) (by
  intro X N sc ok ds d h
  refine ⟨_, call_divmodW, fun vs H F c Q r g k => ?_⟩
  match ds, h with
  | [.int i, .int j], h =>
    simp only [divmodF] at h
    split at h
    · rename_i hj
      cases h
      obtain ⟨v, w, ca, cb, rfl, r1, _, r2, _⟩ := r.two
      rw [r1.intE, r2.intE]
      refine ⟨i, j, rfl, ⟨hj.1, pylong_ok hj.2 hj.1⟩, fun p hp => k.tup g hp (vs := [.int (i / j), .int (i % j)]) ?_⟩
      simp only [Rps, Rp]
      exact ⟨_, _, [], [], rfl, rfl, ⟨rfl, rfl⟩, _, _, [], [], rfl, rfl, ⟨rfl, rfl⟩, rfl, rfl⟩
    · cases h)
end Ev
end
section
set_option maxRecDepth 100000
set_option maxHeartbeats 4000000
namespace Ev
open PySem PySem.Spec L2
variable {P : Pg}
/-! ### x[lo:], x[:hi], x[::-1] -/
def slLoF : List D → Option D
  | [d, .int i] => slG (some i) none d
  | _ => none
def slHiF : List D → Option D
  | [d, .int i] => slG none (some i) d
  | _ => none
def shSlLo (_ : Scope) : Expr → Option (List Expr)
  | .Subscript e (.Slice (some lo) none none _) _ => some [e, lo]
  | _ => none
def shSlHi (_ : Scope) : Expr → Option (List Expr)
  | .Subscript e (.Slice none (some hi) none _) _ => some [e, hi]
  | _ => none
theorem shSlLo_some {sc : Scope} {e : Expr} {es : List Expr} (h : shSlLo sc e = some es) : ∃ a lo p2 pos, e = .Subscript a (.Slice (some lo) none none p2) pos ∧ es = [a, lo] := by
  unfold shSlLo at h
  split at h
  · exact ⟨_, _, _, _, rfl, (Option.some.inj h).symm⟩
  · cases h
theorem shSlHi_some {sc : Scope} {e : Expr} {es : List Expr} (h : shSlHi sc e = some es) : ∃ a lo p2 pos, e = .Subscript a (.Slice none (some lo) none p2) pos ∧ es = [a, lo] := by
  unfold shSlHi at h
  split at h
  · exact ⟨_, _, _, _, rfl, (Option.some.inj h).symm⟩
  · cases h
def rLo (r : V → Option Int → Option Int → Hp → VK → Prop) : R2 := fun x y H Q => ∃ i, y = .int i ∧ r x (some i) none H Q
def rHi (r : V → Option Int → Option Int → Hp → VK → Prop) : R2 := fun x y H Q => ∃ i, y = .int i ∧ r x none (some i) H Q
theorem hasLo {X : Cx} {r : V → Option Int → Option Int → Hp → VK → Prop} (hr : SlR X r) {a lo : Expr} {p2 pos : Pos} : HasOp X (.Subscript a (.Slice (some lo) none none p2) pos) [a, lo] (R2of (rLo r)) :=
  hasOp2 fun ta tb p q => pe_slice hr p (po_some q) po_none
theorem hasHi {X : Cx} {r : V → Option Int → Option Int → Hp → VK → Prop} (hr : SlR X r) {a lo : Expr} {p2 pos : Pos} : HasOp X (.Subscript a (.Slice none (some lo) none p2) pos) [a, lo] (R2of (rHi r)) :=
  hasOp2 fun ta tb p q => pe_slice hr p po_none (po_some q)
theorem noSlR {X : Cx} : SlR X (fun _ _ _ _ _ => False) := fun _ _ _ _ _ _ _ _ _ _ _ _ _ _ _ _ _ h => h.elim
def opSlLo : Opr P where
  f := slLoF
  sh := shSlLo
  ok := by
    intro X N sc ok e es he ds d hd
    obtain ⟨a, lo, p2, pos, rfl, rfl⟩ := shSlLo_some he
    match ds, hd with
    | [x, .int i], hd =>
      obtain ⟨r, hr, k⟩ := slG_ok (X := X) hd
      refine ⟨_, hasLo hr, hasT_of (hasLo hr) (fun _ => rfl), fun vs H F c Q rr g kk => ?_⟩
      obtain ⟨v, w, ca, cb, rfl, r1, _, r2, _⟩ := rr.two
      exact ⟨i, r2.intE, k v H F c ca Q r1 g kk⟩
  pl := by
    intro sc e es he
    obtain ⟨a, lo, p2, pos, rfl, rfl⟩ := shSlLo_some he
    rfl
  sound := by
    intro X N sc ok e es he
    obtain ⟨a, lo, p2, pos, rfl, rfl⟩ := shSlLo_some he
    exact ⟨_, hasLo noSlR, hasT_of (hasLo noSlR) (fun _ => rfl)⟩
def opSlHi : Opr P where
  f := slHiF
  sh := shSlHi
  ok := by
    intro X N sc ok e es he ds d hd
    obtain ⟨a, lo, p2, pos, rfl, rfl⟩ := shSlHi_some he
    match ds, hd with
    | [x, .int i], hd =>
      obtain ⟨r, hr, k⟩ := slG_ok (X := X) hd
      refine ⟨_, hasHi hr, hasT_of (hasHi hr) (fun _ => rfl), fun vs H F c Q rr g kk => ?_⟩
      obtain ⟨v, w, ca, cb, rfl, r1, _, r2, _⟩ := rr.two
      exact ⟨i, r2.intE, k v H F c ca Q r1 g kk⟩
  pl := by
    intro sc e es he
    obtain ⟨a, lo, p2, pos, rfl, rfl⟩ := shSlHi_some he
    rfl
  sound := by
    intro X N sc ok e es he
    obtain ⟨a, lo, p2, pos, rfl, rfl⟩ := shSlHi_some he
    exact ⟨_, hasHi noSlR, hasT_of (hasHi noSlR) (fun _ => rfl)⟩
def shRev (_ : Scope) : Expr → Option (List Expr)
  | .Subscript e (.Slice none none (some (.UnaryOp .USub (.Constant (.int i) _ _) _)) _) _ => if i = 1 then some [e] else none
  | _ => none
theorem shRev_some {sc : Scope} {e : Expr} {es : List Expr} (h : shRev sc e = some es) : ∃ a k p1 p2 p3 pos, e = .Subscript a (.Slice none none (some (.UnaryOp .USub (.Constant (.int 1) k p1) p2)) p3) pos ∧ es = [a] := by
  unfold shRev at h
  split at h
  · split at h
    · rename_i hi
      subst hi
      exact ⟨_, _, _, _, _, _, rfl, (Option.some.inj h).symm⟩
    · cases h
  · cases h
def opRevS : Opr P where
  f := revF
  sh := shRev
  ok := by
    intro X N sc ok e es he ds d hd
    obtain ⟨a, k, p1, p2, p3, pos, rfl, rfl⟩ := shRev_some he
    have hh : HasOp X (.Subscript a (.Slice none none (some (.UnaryOp .USub (.Constant (.int 1) k p1) p2)) p3) pos) [a] (R1of fun x H1 Q => ∃ (a : Addr) (xs : List V), x = .ref a ∧ SqL X.K H1 a xs ∧ ∀ p, H1 p = none → Q (.ref p) (upd H1 p (.lst xs.reverse))) :=
      hasOp1 fun ta pt => pe_revL pt
    refine ⟨_, hh, hasT_of hh (fun _ => rfl), fun vs H F c Q r g k => ?_⟩
    match ds, hd with
    | [.lst o xs], hd =>
      simp only [revF] at hd
      split at hd
      · rename_i hf
        cases hd
        obtain ⟨v, cd, rfl, r, _⟩ := r.one
        obtain ⟨b, vs, cs, rfl, q, rs, _⟩ := r.lstE g.sub
        exact ⟨b, vs, rfl, .inl q, fun p hp => k.lst g hp (rs.flat hf).rev⟩
      · cases hd
    | [.scr xs], hd =>
      cases hd
      obtain ⟨v, cd, rfl, r, _⟩ := r.one
      simp only [Rp] at r
      obtain ⟨b, rfl, q, _⟩ := r
      exact ⟨b, _, rfl, g.sub.sqL q, fun p hp => k.lst g hp (Rps.intsOf xs).rev⟩
  pl := by
    intro sc e es he
    obtain ⟨a, k, p1, p2, p3, pos, rfl, rfl⟩ := shRev_some he
    rfl
  sound := by
    intro X N sc ok e es he
    obtain ⟨a, k, p1, p2, p3, pos, rfl, rfl⟩ := shRev_some he
    have hh : HasOp X (.Subscript a (.Slice none none (some (.UnaryOp .USub (.Constant (.int 1) k p1) p2)) p3) pos) [a] (R1of fun x H1 Q => ∃ (a : Addr) (xs : List V), x = .ref a ∧ SqL X.K H1 a xs ∧ ∀ p, H1 p = none → Q (.ref p) (upd H1 p (.lst xs.reverse))) :=
      hasOp1 fun ta pt => pe_revL pt
    exact ⟨_, hh, hasT_of hh (fun _ => rfl)⟩
/-! ### enumerate of a list -/
def shEn (sc : Scope) (tg : Expr) : Expr → Option (List Expr)
  | .Call (.Name y _) as [] _ => match tg with
    | .Tuple .. => if y = "enumerate" ∧ as.length = 1 ∧ glB sc "enumerate" = true ∧ as.all plainX = true then some as else none
    | _ => none
  | _ => none
theorem shEn_some {sc : Scope} {tg e : Expr} {es : List Expr} (h : shEn sc tg e = some es) : ∃ p pos a el k q, tg = .Tuple el k q ∧ e = .Call (.Name "enumerate" p) es [] pos ∧ es = [a] ∧ glB sc "enumerate" = true ∧ es.all plainX = true := by
  unfold shEn at h
  split at h
  · split at h
    · split at h
      · rename_i hc
        obtain ⟨rfl, h1, h2, h3⟩ := hc
        cases h
        match es, h1 with
        | [a], _ => exact ⟨_, _, a, _, _, _, rfl, rfl, rfl, h2, h3⟩
      · cases h
    · cases h
  · cases h
def enumFrom {α : Type} : Nat → List α → List (Int × α)
  | _, [] => []
  | n, x :: r => ((n : Int), x) :: enumFrom (n + 1) r
theorem enum_get {α : Type} : ∀ {xs : List α} {n i : Nat} {p : Int × α}, (enumFrom n xs)[i]? = some p → xs[i]? = some p.2 ∧ p.1 = ((n + i : Nat) : Int)
  | [], n, i, p, h => by simp [enumFrom] at h
  | x :: r, n, 0, p, h => by simp [enumFrom] at h; subst h; simp
  | x :: r, n, i + 1, p, h => by
    have := enum_get (xs := r) (n := n + 1) (i := i) (p := p) (by simpa [enumFrom] using h)
    refine ⟨by simpa using this.1, ?_⟩
    rw [this.2]; congr 1; omega
theorem enum_len {α : Type} : ∀ (xs : List α) (n : Nat), (enumFrom n xs).length = xs.length
  | [], _ => rfl
  | _ :: r, n => by simp [enumFrom, enum_len r]
def enumD (xs : List D) : List D := (enumFrom 0 xs).map fun p => .tup [.int p.1, p.2]
def enF : List D → Option (List D)
  | [.lst _ xs] => if isFs xs = true then some (enumD xs) else none
  | _ => none
def sE (K : PySem.W.Frag) : List V → Hp → (It → Hp → Prop) → Prop := fun vs H1 R => ∃ a xs, vs = [.ref a] ∧ SqL K H1 a xs ∧ R (Ite K a) H1
theorem enumD_get {xs : List D} {i : Nat} {d : D} (h : (enumD xs)[i]? = some d) : ∃ x, xs[i]? = some x ∧ d = .tup [.int (i : Nat), x] := by
  unfold enumD at h
  rw [List.getElem?_map] at h
  obtain ⟨p, e1, e2⟩ := Option.map_eq_some_iff.mp h
  obtain ⟨h1, h2⟩ := enum_get e1
  refine ⟨p.2, h1, ?_⟩
  rw [← e2, h2, Nat.zero_add]
theorem pi_e {X : Cx} {N : List Str} {sc : Scope} (ok : XOk P X N sc) {el : List Expr} {k : Nat} {q p pos : Pos} {a : Expr} (h1 : glB sc "enumerate" = true) (h2 : [a].all plainX = true) {ts : List TE} (ht : AllPE X [a] ts) : PI X (.Tuple el k q) (.Call (.Name "enumerate" p) [a] [] pos) (fun σ H R => tL ts σ H fun vs H1 => sE X.K vs H1 R) := by
  have h2' := h2
  rw [List.all_cons, Bool.and_eq_true] at h2'
  exact pi_enum (ok.gl h1) (ok.blt _ (by decide)) (pa_all ht h2) (star_cons h2'.1)
def itEnum : Itr P where
  f := enF
  sh := shEn
  pl := by
    intro sc tg e es he
    obtain ⟨p, pos, a, el, k, q, rfl, rfl, rfl, h1, h2⟩ := shEn_some he
    rfl
  sound := by
    intro X N sc ok tg e es he
    obtain ⟨p, pos, a, el, k, q, rfl, rfl, rfl, h1, h2⟩ := shEn_some he
    exact ⟨sE X.K, fun ts ht => pi_e ok h1 h2 ht⟩
  ok := by
    intro X N sc ok tg e es he ds l hf
    obtain ⟨p, pos, a, el, k, q, rfl, rfl, rfl, h1, h2⟩ := shEn_some he
    match ds, hf with
    | [.lst o xs], hf =>
      simp only [enF] at hf
      split at hf
      case isFalse => cases hf
      case isTrue hb =>
      cases hf
      refine ⟨sE X.K, fun ts ht => pi_e ok h1 h2 ht, fun vs => ⟨jOf (Ite X.K) vs, fun H F c R r g hR => ?_, fun H F c r g i => ⟨fun d hd => ?_, fun hi => ?_⟩⟩⟩
      · obtain ⟨v, cd, rfl, r1, _⟩ := r.one
        obtain ⟨a1, vs1, _, rfl, q1, rs1, _⟩ := r1.lstE g.sub
        exact ⟨a1, vs1, rfl, .inl q1, hR⟩
      · obtain ⟨v, cd, rfl, r1, _⟩ := r.one
        obtain ⟨a1, vs1, _, rfl, q1, rs1, _⟩ := r1.lstE g.sub
        obtain ⟨x, e1, rfl⟩ := enumD_get hd
        obtain ⟨v1, z1, z2⟩ := flat_at rs1 hb e1
        refine ⟨⟨vs1, v1, .inl q1, z1⟩, fun u H' hy => ?_⟩
        obtain ⟨T, x', rfl, hT, rfl, h5⟩ := hy
        have h5 := h5 vs1 (.inl q1)
        rw [z1] at h5; cases h5
        exact zip_new g hT (by simp only [Rp]; exact ⟨trivial, trivial⟩) z2
      · obtain ⟨v, cd, rfl, r1, _⟩ := r.one
        obtain ⟨a1, vs1, _, rfl, q1, rs1, _⟩ := r1.lstE g.sub
        refine ⟨vs1, .inl q1, ?_⟩
        rw [← rs1.length]
        simp [enumD, enum_len] at hi
        omega
/-! ### list methods -/
def extF : D → List D → Option (D × D)
  | .lst true xs, [.lst true ys] => if isFs ys = true ∧ xs.length + ys.length ≤ sizeLine then some (.non, .lst true (xs ++ ys)) else none
  | _, _ => none
def revMF : D → List D → Option (D × D)
  | .lst true xs, [] => if isFs xs = true then some (.non, .lst true xs.reverse) else none
  | _, _ => none
def mReverse : Mut P := mutM "list.reverse" "reverse" 0 rReverse revMF PySem.F.slot_list_reverse PySem.F.type_list_reverse (fun _ => mt_reverse) (by decide) (by
  intro X d ds a d' hf x ws H F c cd cw Q r1 r2 g k
  match d, ds, hf with
  | .lst true xs, [], hf =>
    simp only [revMF] at hf
    split at hf
    · rename_i hl
      cases hf
      simp only [Rp] at r1
      obtain ⟨p, vs, c', rfl, hH, rs, rfl⟩ := r1
      simp only [Rps] at r2
      obtain ⟨rfl, rfl⟩ := r2
      refine ⟨p, vs, rfl, rfl, hH, ?_⟩
      have g2 : Good H F (p :: ([] ++ c)) := g.sublist (by simp)
      obtain ⟨g3, k3, r3⟩ := lst_write g2 (rs.flat hl).rev
      exact k .non _ F [] [p] (Le.refl F) k3 (by simpa using g3) (by simp only [Rp]; exact ⟨trivial, trivial⟩) r3
    · cases hf)
def clrF : D → List D → Option (D × D)
  | .lst true xs, [] => some (.non, .lst true [])
  | _, _ => none
def mClear : Mut P := mutM "list.clear" "clear" 0 rClear clrF PySem.F.slot_list_clear PySem.F.type_list_clear (fun _ => mt_clear) (by decide) (by
  intro X d ds a d' hf x ws H F c cd cw Q r1 r2 g k
  match d, ds, hf with
  | .lst true xs, [], hf =>
    cases hf
    simp only [Rp] at r1
    obtain ⟨p, vs, c', rfl, hH, rs, rfl⟩ := r1
    simp only [Rps] at r2
    obtain ⟨rfl, rfl⟩ := r2
    refine ⟨p, vs, rfl, rfl, hH, ?_⟩
    have g2 : Good H F (p :: ([] ++ c)) := g.sublist (by simp)
    obtain ⟨g3, k3, r3⟩ := lst_write (xs := []) (vs := []) g2 (by simp only [Rps]; exact ⟨trivial, trivial⟩)
    exact k .non _ F [] [p] (Le.refl F) k3 (by simpa using g3) (by simp only [Rp]; exact ⟨trivial, trivial⟩) r3)
def mExtend : Mut P := mutM "list.extend" "extend" 1 rExtend extF PySem.F.slot_list_extend PySem.F.type_list_extend (fun _ => mt_extend) (by decide) (by
  intro X d ds a d' hf x ws H F c cd cw Q r1 r2 g k
  match d, ds, hf with
  | .lst true xs, [.lst true ys], hf =>
    simp only [extF] at hf
    split at hf
    · rename_i hl
      cases hf
      simp only [Rp] at r1
      obtain ⟨p, vs, c', rfl, hH, rs, rfl⟩ := r1
      rw [Rps] at r2
      obtain ⟨w, w2, c1, c2, rfl, rfl, ry, r3⟩ := r2
      simp only [Rps] at r3
      obtain ⟨rfl, rfl⟩ := r3
      simp only [Rp] at ry
      obtain ⟨b, zs, cs, rfl, hb, rz, rfl⟩ := ry
      refine ⟨p, b, vs, zs, rfl, rfl, hH, hb, by rw [← rs.length, ← rz.length]; exact hl.2, ?_⟩
      have g2 : Good H F (p :: ((c' ++ []) ++ c)) := by
        refine g.sublist ?_
        simp only [List.append_nil, List.cons_append, List.append_assoc]
        exact ((List.sublist_append_right (b :: cs) c).append_left c').cons_cons p
      obtain ⟨g3, k3, r3⟩ := lst_write g2 (rs.append (rz.flat hl.1))
      exact k .non _ F [] (p :: (c' ++ [])) (Le.refl F) k3 (by simpa using g3) (by simp only [Rp]; exact ⟨trivial, trivial⟩) r3
    · cases hf)
end Ev
end
section
set_option maxRecDepth 100000
set_option maxHeartbeats 4000000
namespace Ev
open PySem PySem.Spec L2
variable {P : Pg}
/-! ### dicts: in, a store, a display of one -/
theorem Rp.dicE {K : PySem.W.Frag} {mg : Str → Option Value} {H F : Hp} {o : Bool} {ks : List Key} {xs : List D} {v : V} {cd : List Addr} (h : Rp K mg H F (.dic o ks xs) v cd) (l : Le F H) : ∃ a vs cs, v = .ref a ∧ ks.length = xs.length ∧ ks.Nodup ∧ H a = some (.dK (ks.zip vs)) ∧ Rps K mg H F xs vs cs ∧ ∀ b ∈ cs, b ∈ cd := by
  cases o with
  | true =>
    simp only [Rp] at h
    obtain ⟨a, vs, c', rfl, h1, h2, h3, h4, rfl⟩ := h
    exact ⟨a, vs, c', rfl, h1, h2, h3, h4, fun b hb => by simp [hb]⟩
  | false =>
    simp only [Rp] at h
    obtain ⟨a, vs, rfl, h1, h2, h3, h4⟩ := h
    exact ⟨a, vs, cd, rfl, h1, h2, l _ _ h3, h4, fun b hb => hb⟩
def hasK (ks : List Key) (k : Key) : Bool := ks.any fun g => decide (g = k)
theorem hasK_cons (g : Key) (ks : List Key) (k : Key) : hasK (g :: ks) k = (decide (g = k) || hasK ks k) := rfl
theorem hasK_iff {ks : List Key} {k : Key} : hasK ks k = true ↔ k ∈ ks := by
  unfold hasK
  rw [List.any_eq_true]
  constructor
  · rintro ⟨g, hg, e⟩
    exact of_decide_eq_true e ▸ hg
  · exact fun h => ⟨k, h, by simp⟩
theorem valV_has {vs : List V} {k : Key} : ∀ {ks : List Key} {ws : List V}, ks.length = ws.length → (valV (ks.zip ws) k).isSome = hasK ks k
  | [], ws, h => by simp [valV, hasK]
  | g :: ks, [], h => by simp at h
  | g :: ks, w :: ws, h => by
    rw [List.zip_cons_cons]
    by_cases e : g = k
    · subst e; rw [valV_pos rfl, hasK_cons]; simp
    · rw [valV_neg e, valV_has (vs := vs) (by simpa using h), hasK_cons]
      simp [e]
def dinF (neg : Bool) : D → D → Option D
  | k, .dic _ ks xs => (keyD k).map fun kk => .bl (if neg then !hasK ks kk else hasK ks kk)
  | _, _ => none
theorem keyD_V {K : PySem.W.Frag} {mg : Str → Option Value} {H F : Hp} {k : D} {kk : Key} {v : V} {c : List Addr} (h : keyD k = some kk) (r : Rp K mg H F k v c) : v = kV kk := by
  cases k <;> simp [keyD] at h
  · subst h; rw [r.intE]; rfl
  · subst h; rw [r.strE]; rfl
def rDIn (neg : Bool) : R2 := fun y x H Q => ∃ a o, x = .ref a ∧ DGet H a y o ∧ Q (.bl (if neg then !o.isSome else o.isSome)) H
def opDin (neg : Bool) : Opr P where
  f := f2 (dinF neg)
  sh := shCmp (if neg then .NotIn else .In)
  ok := by
    intro X N sc ok e es he ds d hd
    obtain ⟨a, b, rfl, hf⟩ := f2_some hd
    obtain ⟨l, r, pos, rfl, h1, h2, rfl⟩ := shCmp_some he
    have hu := ok.units
    have e1 : HasOp X (.Compare l [if neg then .NotIn else .In] [r] pos) [l, r] (R2of (rDIn neg)) := hasOp2 fun ta tb p q => by
      cases neg
      · exact pe_cmp (pc_din (by omega) p q) (marks h2)
      · exact pe_cmp (pc_dnotin (by omega) p q) (marks h2)
    have e2 : HasOpT X (.Compare l [if neg then .NotIn else .In] [r] pos) [l, r] (R2of (rDIn neg)) := hasOp2T fun ta tb p q => by
      cases neg
      · exact pt_cmp (pc_din (by omega) p q) (marks h2)
      · exact pt_cmp (pc_dnotin (by omega) p q) (marks h2)
    refine ⟨_, e1, e2, two_end fun y x H F c ca cb Q ra _ rb _ g k => ?_⟩
    match b, hf with
    | .dic o ks xs, hf =>
      obtain ⟨kk, hk, rfl⟩ := Option.map_eq_some_iff.mp hf
      obtain ⟨p, vs, cs, rfl, q1, q2, q3, q4, _⟩ := rb.dicE g.sub
      rw [keyD_V hk ra]
      refine ⟨p, _, rfl, DGet.k q3, ?_⟩
      rw [valV_has (vs := vs) (q1.trans q4.length)]
      exact k.bl g
  pl := by
    intro sc e es he
    obtain ⟨l, r, pos, rfl, h1, h2, rfl⟩ := shCmp_some he
    rfl
  sound := by
    intro X N sc ok e es he
    obtain ⟨l, r, pos, rfl, h1, h2, rfl⟩ := shCmp_some he
    have hu := ok.units
    have e1 : HasOp X (.Compare l [if neg then .NotIn else .In] [r] pos) [l, r] (R2of (rDIn neg)) := hasOp2 fun ta tb p q => by
      cases neg
      · exact pe_cmp (pc_din (by omega) p q) (marks h2)
      · exact pe_cmp (pc_dnotin (by omega) p q) (marks h2)
    have e2 : HasOpT X (.Compare l [if neg then .NotIn else .In] [r] pos) [l, r] (R2of (rDIn neg)) := hasOp2T fun ta tb p q => by
      cases neg
      · exact pt_cmp (pc_din (by omega) p q) (marks h2)
      · exact pt_cmp (pc_dnotin (by omega) p q) (marks h2)
    exact ⟨_, e1, e2⟩
/-! in, not in a list of data -/
def inDO : D → D → Option Bool := fun a b => match toPy a, toPy b with
  | some p, some (.list ps) => if SeqAt.shaped p = true ∧ SeqAt.shaped (.list ps) = true then some (ps.any fun z => PyData.eqv z p) else none
  | _, _ => none
theorem inDO_some {a b : D} {r : Bool} (h : inDO a b = some r) : ∃ p ps, toPy a = some p ∧ toPy b = some (.list ps) ∧ SeqAt.shaped p = true ∧ SeqAt.shaped (.list ps) = true ∧ r = ps.any fun z => PyData.eqv z p := by
  unfold inDO at h
  split at h
  · rename_i p ps e1 e2
    split at h
    · rename_i hc
      cases h
      exact ⟨p, ps, e1, e2, hc.1, hc.2, rfl⟩
    · cases h
  · cases h
theorem two_inD : Two P (fun X r => OpR X (compareOp .In) r) (fun a b => (inDO a b).map D.bl) := by
  intro X N sc ok a b d h
  obtain ⟨r, e, rfl⟩ := Option.map_eq_some_iff.mp h
  obtain ⟨p, ps, e1, e2, s1, s2, rfl⟩ := inDO_some e
  have := ok.units
  exact ⟨_, op_inD (by omega), fun x y H F c ca cb Q ra _ rb _ g k => ⟨p, ps, dp_of g.sub _ _ _ _ ra e1, dp_of g.sub _ _ _ _ rb e2, s1, s2, k.bl g⟩⟩
theorem two_ninD : Two P (fun X r => OpR X (compareOp .NotIn) r) (fun a b => (inDO a b).map fun r => D.bl (!r)) := by
  intro X N sc ok a b d h
  obtain ⟨r, e, rfl⟩ := Option.map_eq_some_iff.mp h
  obtain ⟨p, ps, e1, e2, s1, s2, rfl⟩ := inDO_some e
  have := ok.units
  exact ⟨_, op_notInD (by omega), fun x y H F c ca cb Q ra _ rb _ g k => ⟨p, ps, dp_of g.sub _ _ _ _ ra e1, dp_of g.sub _ _ _ _ rb e2, s1, s2, k.bl g⟩⟩
def opInD : Opr P := opCmp .In (fun a b => (inDO a b).map D.bl) two_inD
def opNotInD : Opr P := opCmp .NotIn (fun a b => (inDO a b).map fun r => D.bl (!r)) two_ninD
/-- len of a dict -/
def lenDF : List D → Option D
  | [.dic _ ks _] => some (.int ks.length)
  | _ => none
def opLenD : Opr P := opB "len" "len" 1 lenDF (by decide) (by kernel_rfl) (by decide) (by decide) (by
  intro X N sc ok ds d h
  refine ⟨_, call_lenD, fun vs H F c Q r g k => ?_⟩
  match ds, h with
  | [.dic o ks xs], h =>
    cases h
    obtain ⟨v, cd, rfl, r, _⟩ := r.one
    obtain ⟨p, vs, cs, rfl, q1, q2, q3, q4, _⟩ := r.dicE g.sub
    refine ⟨p, _, rfl, q3, ?_⟩
    have e : (ks.zip vs).length = ks.length := by rw [List.length_zip, ← q4.length, ← q1, Nat.min_self]
    rw [e]
    exact k.int g)
/-! d[k] = v -/
def idxK (ks : List Key) (k : Key) : Nat := ks.findIdx fun g => decide (g = k)
def putDk (ks : List Key) (k : Key) : List Key := if hasK ks k = true then ks else ks ++ [k]
def putDv {α : Type} (ks : List Key) (xs : List α) (k : Key) (y : α) : List α := if hasK ks k = true then xs.set (idxK ks k) y else xs ++ [y]
theorem idx_set {v : V} {k : Key} : ∀ {ks : List Key} {vs : List V}, ks.length = vs.length → ks.Nodup → k ∈ ks → (ks.zip vs).map (fun kv => if kv.1 = k then (kv.1, v) else kv) = ks.zip (vs.set (idxK ks k) v)
  | [], vs, h, _, hk => by simp at hk
  | g :: ks, [], h, _, _ => by simp at h
  | g :: ks, w :: ws, h, hn, hk => by
    rw [List.nodup_cons] at hn
    by_cases e : g = k
    · subst e
      have hz : ∀ p ∈ ks.zip ws, (if p.1 = g then (p.1, v) else p) = p := fun p hp => by
        rw [if_neg]
        intro e2
        exact hn.1 (e2 ▸ (List.of_mem_zip hp).1)
      rw [show idxK (g :: ks) g = 0 from by simp [idxK, List.findIdx_cons], List.zip_cons_cons, List.map_cons, if_pos rfl, List.map_congr_left hz, List.set_cons_zero, List.zip_cons_cons, List.map_id']
    · have hk' : k ∈ ks := by
        rcases List.mem_cons.mp hk with e2 | e2
        · exact absurd e2.symm e
        · exact e2
      rw [show idxK (g :: ks) k = idxK ks k + 1 from by simp [idxK, List.findIdx_cons, e], List.zip_cons_cons, List.map_cons, if_neg e, idx_set (by simpa using h) hn.2 hk', List.set_cons_succ, List.zip_cons_cons]
theorem putK_zip {k : Key} {v : V} {ks : List Key} {vs : List V} (hl : ks.length = vs.length) (hn : ks.Nodup) : putK (ks.zip vs) k v = (putDk ks k).zip (putDv ks vs k v) := by
  unfold putK putDk putDv
  have e : (ks.zip vs).any (fun kv => decide (kv.1 = k)) = hasK ks k := by
    rw [Bool.eq_iff_iff, List.any_eq_true, hasK_iff]
    constructor
    · rintro ⟨p, hp, h⟩
      rw [decide_eq_true_iff] at h
      exact h ▸ (List.of_mem_zip hp).1
    · intro h
      obtain ⟨i, hi, e⟩ := List.mem_iff_getElem.mp h
      refine ⟨(ks[i], vs[i]'(by omega)), ?_, by simp [e]⟩
      exact List.mem_iff_getElem.mpr ⟨i, by simp; omega, by simp⟩
  rw [e]
  cases h : hasK ks k with
  | true =>
    simp only [if_true]
    exact idx_set hl hn (hasK_iff.mp h)
  | false =>
    simp only [Bool.false_eq_true, if_false]
    rw [List.zip_append hl]; rfl
def putDF : D → List D → D → Option D
  | .dic true ks xs, [k], y => (keyD k).bind fun kk => if ks.length < sizeLine then some (.dic true (putDk ks kk) (putDv ks xs kk y)) else none
  | _, _, _ => none
theorem swD {o i v : Expr} {p2 : Pos} {l : Nat} {env : Env} : swapsWith v (some (.Subscript o i p2)) l env = pure false := by
  unfold swapsWith
  cases v <;> rfl
def rDPut : List V → V → Hp → (Hp → Prop) → Prop := fun vs y H Q => match vs with
  | [x, k] => ∃ a H', x = .ref a ∧ DPut H a k y H' ∧ Q H'
  | _ => False
theorem ps_putD {X : Cx} (hu : X.A.units + 1 < cLine) {o i v : Expr} {p2 pos : Pos} {tv : TE} {ts : List TE} (hv : PE X v tv) (ht : AllPE X [o, i] ts) :
    PS X (.Assign [.Subscript o i p2] v pos) (fun D σ H => tv σ H fun y H1 => tL ts σ H1 fun vs H2 => rDPut vs y H2 fun H3 => D.nx σ H3) := by
  cases ht with
  | cons p1 ht =>
    cases ht with
    | cons p3 ht =>
      cases ht
      exact ps_dput hu p1 p3 hv swD
theorem putDv_len {α : Type} {ks : List Key} {xs : List α} {k : Key} {y : α} (h : ks.length = xs.length) : (putDk ks k).length = (putDv ks xs k y).length := by
  unfold putDk putDv
  split
  · rw [List.length_set]; exact h
  · simp [h]
theorem putDk_nodup {ks : List Key} {k : Key} (h : ks.Nodup) : (putDk ks k).Nodup := by
  unfold putDk
  split
  · exact h
  · rename_i hk
    refine List.nodup_append.mpr ⟨h, by simp, fun a ha b hb => ?_⟩
    simp at hb; subst hb
    exact fun e => hk (hasK_iff.mpr (e ▸ ha))
def putD : Put P where
  f := putDF
  sh := shPutI
  sound := by
    intro X N sc ok e es he
    obtain ⟨o, i, p2, rfl, rfl, h⟩ := shPutI_some he
    have hu := ok.units
    exact ⟨rDPut, fun v pos tv ts hv ht => ps_putD (by omega) hv ht⟩
  ok := by
    intro X N sc ok e es he d ds y d' hf
    obtain ⟨o, i, p2, rfl, rfl, h⟩ := shPutI_some he
    have hu := ok.units
    refine ⟨rDPut, fun v pos tv ts hv ht => ps_putD (by omega) hv ht, fun x ws yv H F c cd cw cy Q r1 r2 ry g k => ?_⟩
    match d, ds, hf with
    | .dic true ks xs, [kd], hf =>
      obtain ⟨kk, hk, hf⟩ := Option.bind_eq_some_iff.mp hf
      split at hf
      case isFalse => cases hf
      case isTrue hl =>
      cases hf
      simp only [Rp] at r1
      obtain ⟨p, vs, c', rfl, q1, q2, hH, rs, rfl⟩ := r1
      rw [Rps] at r2
      obtain ⟨w, w', c1, c2, rfl, rfl, rk, r3⟩ := r2
      simp only [Rps] at r3
      obtain ⟨rfl, rfl⟩ := r3
      have hw := keyD_V hk rk
      subst hw
      have el : (ks.zip vs).length = ks.length := by rw [List.length_zip, ← rs.length, ← q1, Nat.min_self]
      refine ⟨p, _, rfl, DPut.k hH (by rw [el]; exact hl), ?_⟩
      rw [putK_zip (q1.trans rs.length) q2]
      have main : ∃ c6 g6, Rps X.K X.mg H F (putDv ks xs kk y) (putDv ks vs kk yv) c6 ∧ (c' ++ cy).Perm (g6 ++ c6) := by
        unfold putDv
        cases hm : hasK ks kk with
        | true =>
          simp only [if_true]
          have hi : idxK ks kk < ks.length := List.findIdx_lt_length_of_exists ⟨kk, hasK_iff.mp hm, by simp⟩
          obtain ⟨c6, g6, rs6, p6⟩ := Rps.setD (q := idxK ks kk) rs (by rw [← q1]; exact hi) ry
          exact ⟨c6, g6, rs6, (List.perm_append_comm).trans p6⟩
        | false =>
          simp only [Bool.false_eq_true, if_false]
          refine ⟨c' ++ (cy ++ []), [], rs.append ?_, by simp⟩
          rw [Rps]
          exact ⟨yv, [], cy, [], rfl, rfl, ry, by simp only [Rps]; exact ⟨trivial, trivial⟩⟩
      obtain ⟨c6, g6, rs6, p6⟩ := main
      have g2 : Good H F (p :: (c6 ++ c)) := g.part (g := g6 ++ c1) (perm_of fun z => by
        have := p6.count_eq z
        simp only [List.count_append, List.count_cons, List.count_nil] at *
        omega)
      have nd := (List.nodup_cons.mp g2.nd).1
      have ku : ∀ b ∈ c6 ++ c, upd H p (.dK ((putDk ks kk).zip (putDv ks vs kk yv))) b = H b := fun b hb => upd_ne fun e => nd (e ▸ hb)
      refine k _ (p :: c6) (fun b hb => ku b (by simp [hb])) (by simpa using g2.write (by simp)) ?_
      simp only [Rp]
      exact ⟨p, _, c6, rfl, putDv_len q1, putDk_nodup q2, upd_same, Rps.keep (Le.refl F) _ _ _ rs6 fun b hb => ku b (by simp [hb]), rfl⟩
end Ev
end
section
set_option maxRecDepth 100000
set_option maxHeartbeats 4000000
namespace Ev
open PySem PySem.Spec L2
variable {P : Pg}
/-! ### x.f = v -/
def shPutA (f : Str) (_ : Scope) : Expr → Option (List Expr)
  | .Attribute o g _ => if g = f then some [o] else none
  | _ => none
theorem shPutA_some {f : Str} {sc : Scope} {e : Expr} {es : List Expr} (h : shPutA f sc e = some es) : ∃ o pos, e = .Attribute o f pos ∧ es = [o] := by
  unfold shPutA at h
  split at h
  · split at h
    · rename_i hc
      subst hc
      exact ⟨_, _, rfl, (Option.some.inj h).symm⟩
    · cases h
  · cases h
def putAF (P : Pg) (f : Str) : D → List D → D → Option D
  | .ins true C fs xs, [], y => if P.att C f = true ∧ fs.length < 900 then match idxOf f fs with
    | some q => some (.ins true C fs (xs.set q y))
    | none => some (.ins true C (fs ++ [f]) (xs ++ [y])) else none
  | _, _, _ => none
theorem swA {o v : Expr} {f : Str} {p2 : Pos} {l : Nat} {env : Env} : swapsWith v (some (.Attribute o f p2)) l env = pure false := by
  unfold swapsWith
  cases v <;> rfl
theorem putF_new {f : Str} {v : V} : ∀ {fs : List Str} {vs : List V}, idxOf f fs = none → fs.length = vs.length → putF f v (fs.zip vs) = (fs ++ [f]).zip (vs ++ [v])
  | [], [], _, _ => rfl
  | [], _ :: _, _, hl => by simp at hl
  | g :: fs, [], h, hl => by simp at hl
  | g :: fs, w :: vs, h, hl => by
    by_cases e : g = f
    · subst e; simp [idxOf] at h
    · simp only [idxOf, if_neg e] at h
      have h1 := Option.map_eq_none_iff.mp h
      rw [List.zip_cons_cons]
      show (if g = f then (g, v) :: fs.zip vs else (g, w) :: putF f v (fs.zip vs)) = _
      rw [if_neg e, putF_new h1 (by simpa using hl)]; rfl
theorem ins_write {K : PySem.W.Frag} {mg : Str → Option Value} {H F : Hp} {a A : Addr} {dx : Addr} {C : Str} {fs : List Str} {vs : List V} {xs : List D} {c cx : List Addr} (hA : mg C = some (.ref A)) (hl : fs.length = xs.length) (g : Good H F (a :: (c ++ cx))) (r : Rps K mg H F xs vs c) :
    Good (upd H a (.ins A dx (fs.zip vs))) F (a :: (c ++ cx)) ∧ (∀ b ∈ cx, upd H a (.ins A dx (fs.zip vs)) b = H b) ∧ Rp K mg (upd H a (.ins A dx (fs.zip vs))) F (.ins true C fs xs) (.ref a) (a :: c) := by
  have nd := (List.nodup_cons.mp g.nd).1
  have ku : ∀ b ∈ c ++ cx, upd H a (.ins A dx (fs.zip vs)) b = H b := fun b hb => upd_ne fun e => nd (e ▸ hb)
  refine ⟨g.write (by simp), fun b hb => ku b (by simp [hb]), ?_⟩
  simp only [Rp]
  exact ⟨a, A, dx, vs, c, rfl, hA, hl, upd_same, Rps.keep (Le.refl F) _ _ _ r fun b hb => ku b (by simp [hb]), rfl⟩
theorem idxOf_lt' {f : Str} : ∀ {fs : List Str} {q : Nat}, idxOf f fs = some q → q < fs.length
  | [], _, h => by simp [idxOf] at h
  | g :: fs, q, h => by
    by_cases e : g = f
    · simp only [idxOf, if_pos e] at h; cases h; simp
    · simp only [idxOf, if_neg e] at h
      obtain ⟨q', h1, rfl⟩ := Option.map_eq_some_iff.mp h
      have := idxOf_lt' h1
      simp only [List.length_cons]; omega
def rFld (K : PySem.W.Frag) (f : Str) (vs : List V) (y : V) (H : Hp) (Q : Hp → Prop) : Prop := match vs with
  | [x] => ∃ a C dx fs, x = .ref a ∧ H a = some (.ins C dx fs) ∧ Cls K C ∧ NoAttr K C f ∧ fs.length < 1000 ∧ Q (upd H a (.ins C dx (putF f y fs)))
  | _ => False
theorem ps_putA {X : Cx} {o v : Expr} {f : Str} {p2 pos : Pos} {tv : TE} {ts : List TE} (hv : PE X v tv) (ht : AllPE X [o] ts) :
    PS X (.Assign [.Attribute o f p2] v pos) (fun D σ H => tv σ H fun y H1 => tL ts σ H1 fun vs H2 => rFld X.K f vs y H2 fun H3 => D.nx σ H3) := by
  cases ht with
  | cons p1 ht =>
    cases ht
    exact ps_fld p1 hv swA
def putA (f : Str) : Put P where
  f := putAF P f
  sh := shPutA f
  sound := by
    intro X N sc ok e es he
    obtain ⟨o, p2, rfl, rfl⟩ := shPutA_some he
    exact ⟨fun vs y H2 Q => rFld X.K f vs y H2 Q, fun v pos tv ts hv ht => ps_putA hv ht⟩
  ok := by
    intro X N sc ok e es he d ds y d' hf
    obtain ⟨o, p2, rfl, rfl⟩ := shPutA_some he
    refine ⟨fun vs y H2 Q => rFld X.K f vs y H2 Q, fun v pos tv ts hv ht => ps_putA hv ht, fun x ws yv H F c cd cw cy Q r1 r2 ry g k => ?_⟩
    match d, ds, hf with
    | .ins true C fs xs, [], hf =>
      simp only [putAF] at hf
      split at hf
      case isFalse => cases hf
      case isTrue hc =>
      simp only [Rp] at r1
      obtain ⟨a, A, dx, vs, c', rfl, hA, hlen, hH, rs, rfl⟩ := r1
      simp only [Rps] at r2
      obtain ⟨rfl, rfl⟩ := r2
      obtain ⟨y1, y2⟩ := ok.cls C A f hc.1 hA
      have hvl : fs.length = vs.length := by rw [hlen, rs.length]
      refine ⟨a, A, dx, _, rfl, hH, y1, y2, by rw [List.length_zip]; omega, ?_⟩
      split at hf
      · rename_i q hq
        cases hf
        have hqlt : q < xs.length := by rw [← hlen]; exact idxOf_lt' hq
        obtain ⟨c6, g6, rs6, p6⟩ := Rps.setD (q := q) rs hqlt ry
        rw [putF_zip hq hvl]
        have g2 : Good H F (a :: (c6 ++ c)) := g.part (g := g6) (perm_of fun z => by
          have := p6.count_eq z
          simp only [List.count_append, List.count_cons, List.count_nil] at *
          omega)
        obtain ⟨g3, k3, r3⟩ := ins_write (dx := dx) (fs := fs) hA (by rw [List.length_set]; exact hlen) g2 rs6
        exact k _ (a :: c6) k3 (by simpa using g3) r3
      · rename_i hq
        cases hf
        rw [putF_new hq hvl]
        have ra := rs.append (show Rps X.K X.mg H F [y] [yv] (cy ++ []) by simp only [Rps]; exact ⟨yv, [], cy, [], rfl, rfl, ry, rfl, rfl⟩)
        have g2 : Good H F (a :: ((c' ++ (cy ++ [])) ++ c)) := g.perm (perm_of fun z => by simp only [List.count_append, List.count_cons, List.count_nil]; omega)
        obtain ⟨g3, k3, r3⟩ := ins_write (dx := dx) (fs := fs ++ [f]) hA (by simp [hlen]) g2 ra
        exact k _ (a :: (c' ++ (cy ++ []))) k3 (by simpa using g3) r3
end Ev
end
section
set_option maxRecDepth 100000
set_option maxHeartbeats 4000000
namespace Ev
open PySem PySem.Spec L2
variable {P : Pg}
/-! ### a walk of reversed(l) -/
def shRw (sc : Scope) (_ : Expr) : Expr → Option (List Expr)
  | .Call (.Name y _) as [] _ => if y = "reversed" ∧ as.length = 1 ∧ glB sc "reversed" = true ∧ as.all plainX = true then some as else none
  | _ => none
theorem shRw_some {sc : Scope} {tg e : Expr} {es : List Expr} (h : shRw sc tg e = some es) : ∃ p pos a, e = .Call (.Name "reversed" p) es [] pos ∧ es = [a] ∧ glB sc "reversed" = true ∧ es.all plainX = true := by
  unfold shRw at h
  split at h
  · split at h
    · rename_i hc
      obtain ⟨rfl, h1, h2, h3⟩ := hc
      cases h
      match es, h1 with
      | [a], _ => exact ⟨_, _, a, rfl, rfl, h2, h3⟩
    · cases h
  · cases h
def rwF : List D → Option (List D)
  | [.lst _ xs] => if isFs xs = true then some xs.reverse else none
  | _ => none
def sRw (K : PySem.W.Frag) : List V → Hp → (It → Hp → Prop) → Prop := fun vs H1 R => match vs with
  | [v] => ∃ (a : Addr) (xs : List V), v = .ref a ∧ ((SqL K H1 a xs ∧ R (Itv K a xs.length) H1) ∨ (SqT K H1 a xs ∧ R (RT.ItvT K a xs.length) H1))
  | _ => False
theorem pi_rw {X : Cx} {N : List Str} {sc : Scope} (ok : XOk P X N sc) {tg : Expr} {p pos : Pos} {a : Expr} (h1 : glB sc "reversed" = true) (h2 : [a].all plainX = true) {ts : List TE} (ht : AllPE X [a] ts) : PI X tg (.Call (.Name "reversed" p) [a] [] pos) (fun σ H R => tL ts σ H fun vs H1 => sRw X.K vs H1 R) := by
  have h2' := h2
  rw [List.all_cons, Bool.and_eq_true] at h2'
  cases ht with
  | cons p1 ht =>
    cases ht
    exact RT.pi_revA (tg := tg) (p := p) (pos := pos) (ok.gl h1) (ok.blt _ (by decide)) p1 (star_cons h2'.1)
def itRev : Itr P where
  f := rwF
  sh := shRw
  pl := by
    intro sc tg e es he
    obtain ⟨p, pos, a, rfl, rfl, h1, h2⟩ := shRw_some he
    rfl
  sound := by
    intro X N sc ok tg e es he
    obtain ⟨p, pos, a, rfl, rfl, h1, h2⟩ := shRw_some he
    exact ⟨sRw X.K, fun ts ht => pi_rw ok h1 h2 ht⟩
  ok := by
    intro X N sc ok tg e es he ds l hf
    obtain ⟨p, pos, a, rfl, rfl, h1, h2⟩ := shRw_some he
    match ds, hf with
    | [.lst o xs], hf =>
      simp only [rwF] at hf
      split at hf
      case isFalse => cases hf
      case isTrue hb =>
      cases hf
      refine ⟨sRw X.K, fun ts ht => pi_rw ok h1 h2 ht, fun vs => ⟨jOf (fun a => Itv X.K a xs.length) vs, fun H F c R r g hR => ?_, fun H F c r g i => ⟨fun d hd => ?_, fun hi => ?_⟩⟩⟩
      · obtain ⟨v, cd, rfl, r1, _⟩ := r.one
        obtain ⟨a1, vs1, _, rfl, q1, rs1, _⟩ := r1.lstE g.sub
        exact ⟨a1, vs1, rfl, .inl ⟨.inl q1, by rw [← rs1.length]; exact hR⟩⟩
      · obtain ⟨v, cd, rfl, r1, _⟩ := r.one
        obtain ⟨a1, vs1, _, rfl, q1, rs1, _⟩ := r1.lstE g.sub
        have hi : i < xs.length := by
          have := (List.getElem?_eq_some_iff.mp hd).1
          simpa using this
        rw [List.getElem?_reverse hi] at hd
        obtain ⟨w, z1, z2⟩ := flat_at rs1 hb hd
        refine ⟨⟨hi, vs1, w, .inl q1, z1⟩, fun x H' hy => ⟨F, Le.refl F, ?_⟩⟩
        obtain ⟨rfl, hy⟩ := hy
        have := hy vs1 (.inl q1)
        rw [z1] at this; cases this
        exact ⟨g, fun _ _ => rfl, z2⟩
      · obtain ⟨v, cd, rfl, r1, _⟩ := r.one
        obtain ⟨a1, vs1, _, rfl, q1, rs1, _⟩ := r1.lstE g.sub
        show xs.length ≤ i
        simpa using hi
end Ev
end
section
set_option maxRecDepth 100000
set_option maxHeartbeats 4000000
namespace Ev
open PySem PySem.Spec L2
/-- a law that comes to True -/
theorem sp_law {K : PySem.W.Frag} {mg : Str → Option Value} {H : Hp} {a : Addr} {ns : List Int} {cl1 : List (Bool × D) → Option CR} {o : List (Option D)} (h : cl1 [(false, .scr ns)] = some (.ok (.bl true) o)) (hS : SqL K H a (ns.map V.int)) :
    spOf K mg cl1 [.ref a] H (fun v _ => v = .bl true) (fun _ _ _ => False) := by
  refine ⟨H, [(false, .scr ns)], [], [], _, ?_, Good.nil (Le.refl H), h, fun v H' F' cd co l k g r s => r.blE⟩
  simp only [List.map_cons, List.map_nil, Rps, Rp]
  exact ⟨_, [], [], [], rfl, rfl, ⟨a, rfl, hS, rfl⟩, rfl, rfl⟩
/-- nothing comes out of the law -/
theorem cx_false {p : Program} {w : World} {H : Hp} {s : Shared} {e : Value} {s' : Shared} (h : L2.CX p w [] H s (fun _ _ _ => False) e s') : False := by
  obtain ⟨_, _, _, _, _, _, _, _, _, _, _, _, h⟩ := h
  exact h
section
variable {P : Pg} {ds : List (Df P)} {K : PySem.W.Frag} {h : Heap} {mg : Str → Option Value} {fa : List He.Fa} {fn : List He.DefD}
def tabOf (ds : List (Df P)) (k : FKey) : Option (Df P) := ds.find? fun d => decide (d.d.at_ = k)
theorem tab_mem {k : FKey} {d : Df P} (e : tabOf ds k = some d) : d ∈ ds ∧ d.d.at_ = k := by
  unfold tabOf at e
  exact ⟨List.mem_of_find?_eq_some e, by simpa using List.find?_some e⟩
/-- the facts of a program without classes and constants -/
theorem pg_of (X : K.In h) (G : h.Ns mainGlobals mg) (c : He.SaysD fa fn K) (hfn : fn = ds.map (·.d)) (hds : ∀ d ∈ ds, DfOk d) (hgl : P.gl = fun _ => none) (hatt : ∀ C f, P.att C f = false) (hmt : ∀ C f, P.mt C f = false) (hck : ∀ C, P.ck C = false) (hdk : ∀ C, P.dk C = none) (hdt : ∀ x, P.dt x = none) {w : World}
    (hfa : ∀ f, P.fn f = true → He.Fa.glo f ∈ fa ∧ (tabOf ds (f, none)).isSome = true) (hfree : ∀ x ∈ bltNames, He.Fa.free x ∈ fa) : PgOk P (tabOf ds) K mg w := by
  have fact : ∀ f ∈ fa, f.ok K = true := fun f hf => by
    obtain ⟨i, hi, e⟩ := List.mem_iff_getElem.mp hf
    exact c.fact i (by rw [List.getElem?_eq_getElem hi, e])
  refine ⟨fun x hx => ?_, fun x d e => ?_, fun C A f e => ?_, fun key d e => ?_, fun f hf => ?_, fun C m e => ?_, fun C e => ?_, fun C dv e => ?_, fun x kvs e => ?_⟩
  · exact He.free_ok X G (fact _ (hfree x (by
      unfold isBlt at hx
      exact List.contains_iff_mem.mp hx)))
  · rw [hgl] at e; cases e
  · rw [hatt] at e; cases e
  · obtain ⟨hm, hk⟩ := tab_mem e
    refine ⟨hds d hm, ?_⟩
    have hm2 : d.d ∈ fn := by rw [hfn]; exact List.mem_map_of_mem hm
    obtain ⟨i, hi, e2⟩ := List.mem_iff_getElem.mp hm2
    obtain ⟨fd, F⟩ := c.def_ i (d := d.d) (by rw [List.getElem?_eq_getElem hi, e2])
    refine ⟨fd, ?_⟩
    have d2 := (hds d hm).df
    have e4 : d.d.kws K = [] := by unfold He.DefD.kws; rw [d2]; rfl
    rw [e4, hk] at F
    exact F
  · obtain ⟨h1, h2⟩ := hfa f hf
    exact ⟨He.glo_ok X G (fact _ h1), h2⟩
  · rw [hmt] at e; cases e
  · rw [hck] at e; cases e
  · rw [hdk] at e; cases e
  · rw [hdt] at e; cases e
/-- the end of a law's row -/
theorem walkW {row : PySem.W.OpenLaw} {kk : Nat} {q : Program} {loose : List Str} {XP : (Str → Option Value) → Heap → Prop} {d0 : DefRec} {x : Str} {nn : Nat} {fuel j : Nat} {dl : Df P} {SD : World → Heap → PySem.W.Frag → Prop}
    (hn : row.most = some nn) (hn2 : nn ≤ sizeLine) (hdf : d0.params.defaults = []) (hr : Room kk callerA) (hkk : kk = 2 * j) (hname : d0.name = ("law" : Str))
    (hpg : ∀ (w : World) (K : PySem.W.Frag) (h : Heap) (mg : Str → Option Value), K.In h → h.Ns mainGlobals mg → SD w h K → PgOk P (tabOf ds) K mg w)
    (hlaw : P.fn "law" = true) (htab : tabOf ds ("law", none) = some dl) (hps : dl.ps = [x]) (hdfl : dl.d.dfl = [])
    (ht : ∀ ns : List Int, ∃ o, callN (tabOf ds) fuel j ("law", none) [(false, .scr ns)] = some (.ok (.bl true) o)) :
    PySem.W.WalkO q loose XP (fun w h => ∃ K : PySem.W.Frag, K.In h ∧ SD w h K) row.row.toRowW d0 [] (fun f vs => PySem.call f vs) := by
  refine Att.attach_call hn hdf fun w _ sB mg _ fA _ _ _ _ aS _ ns G Y _ _ _ hmg hob his hle hg => ?_
  obtain ⟨K, KX, c⟩ := Y
  have ok := hpg w K _ mg KX G.T.g c
  obtain ⟨dok, fd, F⟩ := ok.def_ _ dl htab
  have e1 : fA = He.ga K "law" := by
    have z := (ok.fn "law" hlaw).1
    rw [hname] at hmg
    rw [hmg] at z
    simpa using z
  have hb : ∀ (s : Shared) (u : Value), BindsTo s fd ⟨[u], []⟩ [(x, u)] := fun s u => by
    have F' := F
    have e3 : dl.d.dvs K = [] := by unfold He.DefD.dvs; rw [hdfl]; rfl
    rw [e3] at F'
    have z := FunD.bindsA (ps := dl.ps) F' (dok.bd hdfl) s [u] (by rw [hps]; rfl)
    rw [hps] at z
    exact z
  subst e1
  refine law_call (CX := L2.CX row.prog w) (sp := spOf K mg (callN (tabOf ds) fuel j ("law", none))) KX G.T.g G.T.b G.T.builtins G.T.nolimit hg hob his (Nat.le_trans hle hn2) hr (fun base _ _ => ?_) hb (fun H _ hS => ?_) fun H e s' z => cx_false z
  · have z := fn_level ok (p := row.prog) (base := base) (fuel := fuel) j _ dl htab fd F
    rw [hkk, ← hps]
    exact z
  · obtain ⟨o, ho⟩ := ht ns
    exact sp_law ho hS
end
end Ev
end
section
set_option maxRecDepth 100000
set_option maxHeartbeats 4000000
namespace Ev
open PySem PySem.Spec L2
section
variable {P : Pg} {ds : List (Df P)} {K : PySem.W.Frag} {h : Heap} {mg : Str → Option Value} {fa : List He.Fa} {fn : List He.DefD}
/-- the facts of a program with classes and constants -/
theorem pg_ofC (X : K.In h) (G : h.Ns mainGlobals mg) (c : He.SaysD fa fn K) (hfn : fn = ds.map (·.d)) (hds : ∀ d ∈ ds, DfOk d)
    (hgl : ∀ x d, P.gl x = some d → (∃ i, d = .int i ∧ He.Fa.int x i ∈ fa) ∨ (∃ z, d = .str z ∧ He.Fa.str x z ∈ fa) ∨ (d = .fn x ∧ He.Fa.glo x ∈ fa))
    (hatt : ∀ C f, P.att C f = true → He.Fa.glo C ∈ fa ∧ He.Fa.cls C ∈ fa ∧ He.Fa.noat C f ∈ fa)
    (hmt : ∀ C m, P.mt C m = true → He.Fa.glo C ∈ fa ∧ He.Fa.cls C ∈ fa ∧ He.Fa.meth C m ∈ fa ∧ (tabOf ds (C, some m)).isSome = true)
    (hck : ∀ C, P.ck C = true → He.Fa.glo C ∈ fa ∧ He.Fa.mkr C ∈ fa ∧ (tabOf ds (C, some "__init__")).isSome = true)
    (hdk : ∀ C dv, P.dk C = some dv → ∀ d, tabOf ds (C, some "__init__") = some d → dv ∈ d.dv)
    (hfa : ∀ f, P.fn f = true → He.Fa.glo f ∈ fa ∧ (tabOf ds (f, none)).isSome = true) (hfree : ∀ x ∈ bltNames, He.Fa.free x ∈ fa) {w : World} (hdt : ∀ x kvs, P.dt x = some kvs → ∃ a, mg x = some (.ref a) ∧ KTab K w a kvs) : PgOk P (tabOf ds) K mg w := by
  have fact : ∀ f ∈ fa, f.ok K = true := fun f hf => by
    obtain ⟨i, hi, e⟩ := List.mem_iff_getElem.mp hf
    exact c.fact i (by rw [List.getElem?_eq_getElem hi, e])
  refine ⟨fun x hx => ?_, fun x d e => ?_, fun C A f e hA => ?_, fun key d e => ?_, fun f hf => ?_, fun C m e => ?_, fun C e => ?_, hdk, hdt⟩
  · exact He.free_ok X G (fact _ (hfree x (by
      unfold isBlt at hx
      exact List.contains_iff_mem.mp hx)))
  · rcases hgl x d e with ⟨i, rfl, hf⟩ | ⟨z, rfl, hf⟩ | ⟨rfl, hf⟩
    · obtain ⟨t, ht⟩ := He.int_ok X G (fact _ hf)
      exact ⟨.int i, _, ht, ⟨t, rfl⟩, rfl, fun H F => by simp [Rp]⟩
    · obtain ⟨t, ht⟩ := He.str_ok X G (fact _ hf)
      exact ⟨.str z, _, ht, ⟨t, rfl⟩, rfl, fun H F => by simp [Rp]⟩
    · have z := He.glo_ok X G (fact _ hf)
      exact ⟨.ref (He.ga K x), _, z, rfl, rfl, fun H F => by simp only [Rp]; exact ⟨⟨_, rfl, z⟩, trivial⟩⟩
  · obtain ⟨h1, h2, h3⟩ := hatt C f e
    have z := He.glo_ok X G (fact _ h1)
    rw [hA] at z
    cases z
    exact ⟨He.cls_ok (fact _ h2), He.noat_ok (fact _ h3)⟩
  · obtain ⟨hm, hk⟩ := tab_mem e
    refine ⟨hds d hm, ?_⟩
    have hm2 : d.d ∈ fn := by rw [hfn]; exact List.mem_map_of_mem hm
    obtain ⟨i, hi, e2⟩ := List.mem_iff_getElem.mp hm2
    obtain ⟨fd, F⟩ := c.def_ i (d := d.d) (by rw [List.getElem?_eq_getElem hi, e2])
    refine ⟨fd, ?_⟩
    have d2 := (hds d hm).df
    have e4 : d.d.kws K = [] := by unfold He.DefD.kws; rw [d2]; rfl
    rw [e4, hk] at F
    exact F
  · obtain ⟨h1, h2⟩ := hfa f hf
    exact ⟨He.glo_ok X G (fact _ h1), h2⟩
  · obtain ⟨h1, h2, h3, h4⟩ := hmt C m e
    exact ⟨He.glo_ok X G (fact _ h1), He.cls_ok (fact _ h2), He.meth_ok (fact _ h3), h4⟩
  · obtain ⟨h1, h2, h3⟩ := hck C e
    exact ⟨He.glo_ok X G (fact _ h1), He.mkr_ok (fact _ h2), h3⟩
/-- a written dict of the top, from what the head tells -/
theorem nsIn_none {K : PySem.W.Frag} {w : World} {a : Addr} {es : Array DictEntry} {n : Nat} {ks : List Str} (D : KDict K w a es n) (h : es.toList.map He.keyOf = He.keysIn w.params ks) {z : Str} (hz : z ∉ ks) : PySem.W.nsIn K a z = some none := by
  unfold PySem.W.nsIn
  rw [D.at_]
  have key : ∀ (l : List DictEntry) (ks : List Str), l.map He.keyOf = He.keysIn w.params ks → z ∉ ks → l.find? (·.key.isStr z) = none ∧ l.any (·.refKey) = false := by
    intro l
    induction l with
    | nil => intro ks _ _; exact ⟨rfl, rfl⟩
    | cons e l ih =>
      intro ks h hz
      cases ks with
      | nil => cases h
      | cons k ks =>
        have h1 : He.keyOf e :: l.map He.keyOf = some (k, PyData.keyHash w.params k) :: He.keysIn w.params ks := h
        injection h1 with h2 h3
        obtain ⟨i1, i2⟩ := ih ks h3 (fun hm => hz (List.mem_cons_of_mem _ hm))
        unfold He.keyOf at h2
        split at h2
        · rename_i x t q
          have h4 := Option.some.inj h2
          have h5 := (Prod.mk.inj h4).1
          subst h5
          have e1 : e.key.isStr z = false := by
            rw [q]
            cases hb : (Value.str x t).isStr z with
            | false => rfl
            | true =>
              have : x = z := by simpa [Value.isStr] using hb
              exact absurd (List.mem_cons.mpr (.inl this.symm)) hz
          have e2 : e.refKey = false := by
            unfold DictEntry.refKey
            rw [q]
          rw [List.find?_cons, e1, List.any_cons, e2, i2]
          exact ⟨i1, rfl⟩
        · cases h2
  obtain ⟨h1, h2⟩ := key es.toList ks h hz
  show (match es.toList.find? (·.key.isStr z) with
    | some e => some (some e.val)
    | none => if es.toList.any (·.refKey) then none else some none) = some none
  rw [h1, h2]; rfl
theorem ktab_of {K : PySem.W.Frag} {w : World} {a : Addr} {kvs : List (Str × Str)} (h : He.dicW K a = some (He.keysIn w.params (kvs.map (·.1)))) (hv : He.valsB K a (kvs.map fun p => (p.1, He.Dv.str p.2)) = true) : KTab K w a kvs := by
  obtain ⟨es, n, D⟩ := He.dicW_ok h
  refine ⟨es, n, D, fun z y hz => ?_, fun z hz => ?_⟩
  · have hm : (z, y) ∈ kvs := by
      have : ∀ l : List (Str × Str), l.lookup z = some y → (z, y) ∈ l := by
        intro l
        induction l with
        | nil => intro h; cases h
        | cons p l ih =>
          obtain ⟨p1, p2⟩ := p
          intro h
          rw [List.lookup_cons] at h
          cases hb : z == p1 with
          | true =>
            rw [hb] at h
            have e1 : z = p1 := beq_iff_eq.mp hb
            have e2 : p2 = y := Option.some.inj h
            rw [e1, e2]; exact List.mem_cons_self
          | false =>
            rw [hb] at h
            exact List.mem_cons_of_mem _ (ih h)
      exact this kvs hz
    obtain ⟨u, hu, r⟩ := He.valsB_ok hv (List.mem_map_of_mem (f := fun p : Str × Str => (p.1, He.Dv.str p.2)) hm)
    obtain ⟨t, rfl⟩ := (show ∃ t, u = .str y t from r)
    exact ⟨t, hu⟩
  · have hd : es.toList.map He.keyOf = He.keysIn w.params (kvs.map (·.1)) := by
      have h' := h
      unfold He.dicW at h'
      rw [D.at_] at h'
      have h2 : (match decide (("dict" : String) = "dict") && ((#[] : Array (Option Value)).isEmpty && !(a == sysModules)) with
        | true => some (es.toList.map He.keyOf)
        | false => none) = some (He.keysIn w.params (kvs.map (·.1))) := h'
      rw [D.low] at h2
      exact Option.some.inj h2
    refine nsIn_none D hd fun hm => ?_
    obtain ⟨p, hp, e⟩ := List.mem_map.mp hm
    have : ∀ l : List (Str × Str), l.lookup z = none → ∀ p ∈ l, p.1 ≠ z := by
      intro l
      induction l with
      | nil => intro _ p hp; cases hp
      | cons q l ih =>
        intro h p hp
        obtain ⟨q1, q2⟩ := q
        rw [List.lookup_cons] at h
        cases hb : z == q1 with
        | true => rw [hb] at h; cases h
        | false =>
          rw [hb] at h
          rcases List.mem_cons.mp hp with rfl | hp
          · intro e2
            have e3 : q1 = z := e2
            rw [e3] at hb
            simp at hb
          · exact ih h p hp
    exact this kvs hz p hp e
def tabsOf (dtN : List (Str × List (Str × Str))) : List He.Tab := dtN.map fun p => (fun K => He.ga K p.1, p.2.map (·.1))
def exOf (dtN : List (Str × List (Str × Str))) (K : PySem.W.Frag) : Bool := dtN.all fun p => He.valsB K (He.ga K p.1) (p.2.map fun q => (q.1, He.Dv.str q.2))
theorem lookup_mem' {α : Type} {x : Str} {y : α} : ∀ {l : List (Str × α)}, l.lookup x = some y → (x, y) ∈ l
  | [], h => by cases h
  | (p1, p2) :: l, h => by
    rw [List.lookup_cons] at h
    cases hb : x == p1 with
    | true =>
      rw [hb] at h
      have e1 : x = p1 := beq_iff_eq.mp hb
      have e2 : p2 = y := Option.some.inj h
      rw [e1, e2]; exact List.mem_cons_self
    | false =>
      rw [hb] at h
      exact List.mem_cons_of_mem _ (lookup_mem' h)
theorem dts_of {dtN : List (Str × List (Str × Str))} {w : World} (X : K.In h) (G : h.Ns mainGlobals mg) (c : He.SaysT fa fn (tabsOf dtN) w K) (hex : exOf dtN K = true) (hglo : ∀ p ∈ dtN, He.Fa.glo p.1 ∈ fa) (x : Str) (kvs : List (Str × Str)) (e : dtN.lookup x = some kvs) : ∃ a, mg x = some (.ref a) ∧ KTab K w a kvs := by
  have hm := lookup_mem' e
  refine ⟨He.ga K x, He.glo_ok X G (c.d.facts (hglo _ hm)), ?_⟩
  have e1 : (tabsOf dtN).map (fun t => He.dicW K (t.1 K)) = (tabsOf dtN).map fun t => some (He.keysIn w.params t.2) := congrArg (fun z : He.AlT => z.2) c
  have e2 := List.map_inj_left.mp e1 (fun K => He.ga K x, kvs.map (·.1)) (List.mem_map_of_mem (f := fun p : Str × List (Str × Str) => ((fun K => He.ga K p.1, p.2.map (·.1)) : He.Tab)) hm)
  exact ktab_of e2 (List.all_eq_true.mp hex _ hm)
end
end Ev
end
section
set_option maxRecDepth 100000
set_option maxHeartbeats 4000000
namespace Ev
open PySem PySem.Spec L2
variable {P : Pg}
/-! ### operations, one by one -/
@[simp] theorem f_sub (a b : Int) : (opSub : Opr P).f [.int a, .int b] = some (.int (a - b)) := rfl
@[simp] theorem f_add (a b : Int) : (opAdd : Opr P).f [.int a, .int b] = some (.int (a + b)) := rfl
@[simp] theorem f_neg (a : Int) : (opNeg : Opr P).f [.int a] = some (.int (-a)) := rfl
@[simp] theorem f_and (a b : Int) : (opAnd : Opr P).f [.int a, .int b] = some (.int (Builtin.bitAnd a b)) := rfl
@[simp] theorem f_or (a b : Int) : (opOr : Opr P).f [.int a, .int b] = some (.int (Builtin.bitOr a b)) := rfl
@[simp] theorem f_xor (a b : Int) : (opXor : Opr P).f [.int a, .int b] = some (.int (Builtin.bitXor a b)) := rfl
theorem f_mod {a b : Int} (h : 0 < b) : (opMod : Opr P).f [.int a, .int b] = some (.int (a % b)) := by
  show (if cMod a b = true then some (D.int (a % b)) else none) = _
  rw [if_pos (by simpa [cMod] using h)]
theorem f_div {a b : Int} (h : 0 < b) (h2 : b < 2 ^ 64) : (opDiv : Opr P).f [.int a, .int b] = some (.int (a / b)) := by
  show (if cDiv a b = true then some (D.int (a / b)) else none) = _
  rw [if_pos (by simp [cDiv]; omega)]
theorem f_mul {a b : Int} (h : a.natAbs < 2 ^ 64 ∨ b.natAbs < 2 ^ 64) : (opMul : Opr P).f [.int a, .int b] = some (.int (a * b)) := by
  show (if a.natAbs < 2 ^ 64 ∨ b.natAbs < 2 ^ 64 then some (D.int (a * b)) else none) = _
  rw [if_pos h]
theorem f_pow {a b : Int} (h : 0 ≤ b) (h2 : b ≤ 1000000) (h3 : a.natAbs < 2 ^ 64) : (opPow : Opr P).f [.int a, .int b] = some (.int (a ^ b.toNat)) := by
  show (if cPow a b = true then some (D.int (a ^ b.toNat)) else none) = _
  rw [if_pos (by simp [cPow]; omega)]
theorem f_shl {a b : Int} (h : 0 ≤ b) (h2 : b ≤ 1000000) (h3 : a.natAbs < 2 ^ 64) : (opShl : Opr P).f [.int a, .int b] = some (.int (a * 2 ^ b.toNat)) := by
  show (if cPow a b = true then some (D.int (a * 2 ^ b.toNat)) else none) = _
  rw [if_pos (by simp [cPow]; omega)]
theorem f_shr {a b : Int} (h : 0 ≤ b) : (opShr : Opr P).f [.int a, .int b] = some (.int (a / 2 ^ b.toNat)) := by
  show (if cShr a b = true then some (D.int (a / 2 ^ b.toNat)) else none) = _
  rw [if_pos (by simpa [cShr] using h)]
@[simp] theorem f_lt (a b : Int) : (opLt : Opr P).f [.int a, .int b] = some (.bl (decide (a < b))) := rfl
@[simp] theorem f_le (a b : Int) : (opLe : Opr P).f [.int a, .int b] = some (.bl (decide (a ≤ b))) := rfl
@[simp] theorem f_gt (a b : Int) : (opGt : Opr P).f [.int a, .int b] = some (.bl (decide (b < a))) := rfl
@[simp] theorem f_ge (a b : Int) : (opGe : Opr P).f [.int a, .int b] = some (.bl (decide (b ≤ a))) := rfl
@[simp] theorem eqD_ii (a b : Int) : eqD (.int a) (.int b) = some (decide (a = b)) := by
  simp [eqD, toPy, SeqAt.shaped, PyData.eqv, PyData.canLay0, PyData.depth]
  rfl
theorem f_eqD {a b : D} {r : Bool} (h : eqD a b = some r) : (opEq : Opr P).f [a, b] = some (.bl r) := by
  show (eqD a b).map _ = _
  rw [h]; rfl
theorem f_neD {a b : D} {r : Bool} (h : eqD a b = some r) : (opNe : Opr P).f [a, b] = some (.bl (!r)) := by
  show (eqD a b).map _ = _
  rw [h]; rfl
@[simp] theorem f_eq (a b : Int) : (opEq : Opr P).f [.int a, .int b] = some (.bl (decide (a = b))) := f_eqD (eqD_ii a b)
@[simp] theorem f_ne (a b : Int) : (opNe : Opr P).f [.int a, .int b] = some (.bl (!decide (a = b))) := f_neD (eqD_ii a b)
@[simp] theorem f_abs (a : Int) : (opAbs : Opr P).f [.int a] = some (.int (if a < 0 then -a else a)) := rfl
@[simp] theorem f_lenL (o : Bool) (xs : List D) : (opLen : Opr P).f [.lst o xs] = some (.int xs.length) := rfl
@[simp] theorem f_lenT (xs : List D) : (opLen : Opr P).f [.tup xs] = some (.int xs.length) := rfl
@[simp] theorem isFs_ints (xs : List Int) : isFs (xs.map D.int) = true := by rw [isFs_all]; simp [isF]
@[simp] theorem isF_int (i : Int) : isF (.int i) = true := rfl
@[simp] theorem isF_bl (i : Bool) : isF (.bl i) = true := rfl
@[simp] theorem isF_str (i : Str) : isF (.str i) = true := rfl
theorem toPys_ints : ∀ xs : List Int, toPys (xs.map D.int) = some (xs.map PyData.int)
  | [] => rfl
  | x :: xs => by
    simp only [List.map_cons, toPys, toPy, toPys_ints xs]
theorem lay_ints : ∀ xs : List Int, PyData.canLayAll0 (xs.map PyData.int) = true ∧ PyData.depthAll (xs.map PyData.int) = 0
  | [] => by simp [PyData.canLayAll0, PyData.depthAll]
  | x :: xs => by
    obtain ⟨h1, h2⟩ := lay_ints xs
    simp [PyData.canLayAll0, PyData.depthAll, PyData.canLay0, PyData.depth, h1, h2]
theorem shaped_ints (xs : List Int) : SeqAt.shaped (.list (xs.map PyData.int)) = true := by
  obtain ⟨h1, h2⟩ := lay_ints xs
  simp [SeqAt.shaped, PyData.canLay0, PyData.depth, h1, h2]
theorem eqD_nil {o : Bool} (xs : List Int) : eqD (.lst o (xs.map D.int)) (.lst true []) = some xs.isEmpty := by
  have h1 := shaped_ints xs
  have h2 := shaped_ints []
  simp only [eqD, toPy, toPys_ints, toPys, Option.map_some, h1]
  rw [if_pos ⟨trivial, h2⟩]
  cases xs with
  | nil => simp [PyData.eqv, PyData.eqvAll]
  | cons x xs => simp [PyData.eqv, PyData.eqvAll]
theorem f_ne_nil {o : Bool} (xs : List Int) : (opNe : Opr P).f [.lst o (xs.map D.int), .lst true []] = some (.bl (!xs.isEmpty)) := f_neD (eqD_nil xs)
theorem atI_last {α : Type} (xs : List α) (c : α) : atI (xs ++ [c]) (-1) = some c := by
  unfold atI ixN
  rw [if_neg (by omega), if_pos (by simp; omega)]
  show (xs ++ [c])[((-1 : Int) + ((xs ++ [c]).length : Int)).toNat]? = some c
  have : ((-1 : Int) + ((xs ++ [c]).length : Int)).toNat = xs.length := by simp; omega
  rw [this]
  simp
theorem getI_last {o : Bool} (xs : List D) (c : D) : getI (.lst o (xs ++ [c])) (.int (-1)) = some c := atI_last xs c
theorem getI_at {o : Bool} {xs : List D} {i : Int} (h : 0 ≤ i) (h2 : i < xs.length) : getI (.lst o xs) (.int i) = xs[i.toNat]? := by
  show atI xs i = _
  unfold atI ixN
  rw [if_pos h, if_pos h2]; rfl
theorem popF_last {xs : List D} (c : D) : popF (.lst true (xs ++ [c])) [] = some (c, .lst true xs) := by
  have : (xs ++ [c])[(xs ++ [c]).length - 1]? = some c := by simp
  show Option.map (fun y => (y, D.lst true (xs ++ [c]).dropLast)) (xs ++ [c])[(xs ++ [c]).length - 1]? = _
  rw [this]
  simp
/-! ### statements, one by one -/
section
variable {cl : Cl} {n : Nat} {t t1 t' rt : Tr} {r : List (S P)}
theorem ss_nil : exSs cl n ([] : List (S P)) t = some (.nx t) := by simp only [exSs]
theorem ss_nx {s : S P} (h : exS cl n s t = some (.nx t')) : exSs cl n (s :: r) t = exSs cl n r t' := by simp only [exSs, h]
theorem ss_rt {s : S P} {d : D} (h : exS cl n s t = some (.rt d t')) : exSs cl n (s :: r) t = some (.rt d t') := by simp only [exSs, h]
theorem s_set' {i : Nat} {b : B P} {d : D} (h : evB cl (noRt t) b t = some (.ok d t1)) (hi : i < t1.length) : exS cl n (.set i b) t = some (.nx (t1.set i (some d))) := by
  simp only [exS, h, bindS]; rw [if_pos hi]
theorem s_ret' {b : B P} {d : D} (h : evB cl (noRt t) b t = some (.ok d t1)) : exS cl n (.ret b) t = some (.rt d t1) := by simp only [exS, h, bindS]
theorem s_t {c : B P} {a b : List (S P)} (h : evB cl (noRt t) c t = some (.ok (.bl true) t1)) : exS cl n (.iff c a b) t = exSs cl n a t1 := by simp only [exS, h, bindS]
theorem s_f {c : B P} {a b : List (S P)} (h : evB cl (noRt t) c t = some (.ok (.bl false) t1)) : exS cl n (.iff c a b) t = exSs cl n b t1 := by simp only [exS, h, bindS]
theorem s_ex' {b : B P} {d : D} (h : evB cl (noRt t) b t = some (.ok d t1)) : exS cl n (.ex b) t = some (.nx t1) := by simp only [exS, h, bindS]
theorem b_pu {a : A P} {d : D} (h : evA t rt a = some d) (hf : isF d = true ∨ shares a = false) : evB cl rt (.pu a) t = some (.ok d t) := by
  simp only [evB, h, Option.bind_some]; rw [if_pos hf]
/-- x[i] = v, x a name's list -/
theorem s_putI {i : Nat} {v : B P} {k : A P} {y : D} {xs : List D} {kk : Int} {j : Nat} (h : evB cl (noRt t) v t = some (.ok y t1)) (h1 : t1[i]? = some (some (.lst true xs))) (h2 : evA t1 (noRt t) k = some (.int kk)) (h3 : ixN xs.length kk = some j) :
    exS cl n (.put putI none v [.rf i, .pu k]) t = some (.nx (t1.set i (some (.lst true (xs.set j y))))) := by
  have e : evOs cl none (noRt t) [.rf i, .pu k] t1 = some (.ok [.ref i, .val (.int kk)] t1) := by
    simp [evOs, h1, evB, h2, bindR, isF]
  simp only [exS, h, bindS, e, h1, valsOf, Option.map_some]
  show (putIF (.lst true xs) [.int kk] y).map _ = _
  simp [putIF, h3]
/-- abs(x[k].pop()), x a name's list -/
theorem b_popAbs {i : Nat} {xs : List D} {ys : List D} {c : Int} (h1 : t[i]? = some (some (.lst true (.lst true (ys ++ [.int c]) :: xs)))) (hr : t.length = rt.length) (hrn : rt[i]? = some none) :
    evB cl rt (.q opAbs [.mut mPop (some i) [.dp (.ix (.v i) (.c (.int 0)))]] : B P) t = some (.ok (.int (if c < 0 then -c else c)) (t.set i (some (.lst true (.lst true ys :: xs))))) := by
  have hi : i < rt.length := (List.getElem?_eq_some_iff.mp hrn).1
  have hi2 : i < t.length := by omega
  have lk : look (t.set i none) (rt.set i (some (.lst true (.lst true (ys ++ [.int c]) :: xs)))) i = some (.lst true (.lst true (ys ++ [.int c]) :: xs)) := by
    unfold look
    rw [List.getElem?_set_self hi2, List.getElem?_set_self hi]
  have e1 : evA (t.set i none) (rt.set i (some (.lst true (.lst true (ys ++ [.int c]) :: xs)))) (.ix (.v i) (.c (.int 0)) : A P) = some (.lst true (ys ++ [.int c])) := by
    simp [evA, lk, getI, atI, ixN]
  have e2 : pth (t.set i none) (rt.set i (some (.lst true (.lst true (ys ++ [.int c]) :: xs)))) (.ix (.v i) (.c (.int 0)) : A P) = some (i, [.ix 0]) := by
    simp [pth, evA, lk, stpOf, ixN]
  have e3 : evB cl rt (.mut mPop (some i) [.dp (.ix (.v i) (.c (.int 0)))] : B P) t = some (.ok (.int c) (t.set i (some (.lst true (.lst true ys :: xs))))) := by
    simp only [evB, h1, hdD, e1]
    rw [if_pos (by rfl)]
    simp only [evOs, e1, e2]
    rw [if_pos ⟨trivial, by simp [List.getElem?_set_self hi2]⟩]
    simp only [bindR, valsOf, getP, getS]
    simp [mPop, mutM, popF_last, putP, getS, setS]
  have e4 : evOs cl none rt [(.mut mPop (some i) [.dp (.ix (.v i) (.c (.int 0)))] : B P)] t = some (.ok [.val (.int c)] (t.set i (some (.lst true (.lst true ys :: xs))))) := by simp [evOs, e3, bindR]
  rw [evB, e4]
  simp [bindR, opdDs, opdD]
/-- a call of a def by values and lent names -/
theorem b_call {f : Str} {es : List (B P)} {os : List Opd} {args : List (Bool × D)} {t2 t3 : Tr} {d : D} {o : List (Option D)} (h1 : evOs cl none rt es t = some (.ok os t1)) (h2 : lend none os t1 = some (args, t2)) (h3 : cl (f, none) args = some (.ok d o)) (h4 : giveB os o t2 none = some (t3, none)) :
    evB cl rt (.call (.glob f) none es) t = some (.ok d t3) := by
  simp only [evB, rcvOk, if_true, resF, Option.bind_some, h1, bindR, callK, h2, Option.bind_some, fkey, backF, h3, backR, h4, noW, Option.map_some]
open Classical in
/-- a comprehension whose turns leave the slots as they were -/
theorem lcGo_pure {own : List Nat} {os : List Opd} {ds : List D} {one : D → Tr → Option (Rs (Option D))} {p : D → Option D} (hos : opdDs t os = some ds) : ∀ (l acc : List D), (∀ x ∈ l, ∃ t', one x t = some (.ok (p x) t') ∧ wipeT t' own = t) → acc.length + l.length ≤ sizeLine →
    lcGo own os ds one l acc t = some (.ok (acc ++ l.filterMap p) t)
  | [], acc, _, _ => by simp [lcGo, hos]
  | x :: l, acc, h, hl => by
    obtain ⟨t', h1, h2⟩ := h x (by simp)
    simp only [List.length_cons] at hl
    simp only [lcGo]
    rw [if_pos hos, h1]
    cases e : p x with
    | none =>
      simp only [h2]
      rw [lcGo_pure hos l acc (fun y hy => h y (by simp [hy])) (by omega)]
      simp [e]
    | some d =>
      simp only [h2]
      rw [if_pos (by omega), lcGo_pure hos l (acc ++ [d]) (fun y hy => h y (by simp [hy])) (by simp; omega)]
      simp [e]
/-- a loop by what stays true -/
theorem forGo_inv {os : List Opd} {ds : List D} {tg : Tg} {one : Tr → Option RsS} {I : List D → Tr → Prop} (hos : ∀ pre t, I pre t → opdDs t os = some ds) : ∀ (l pre : List D) (t : Tr), I pre t → (∀ x ∈ l, ∀ pre t, I pre t → ∃ t', (asg tg x t).bind one = some (.nx t') ∧ I (pre ++ [x]) t') →
    ∃ t', forGo os ds tg one l t = some (.nx t') ∧ I (pre ++ l) t'
  | [], pre, t, h, _ => ⟨t, by simp only [forGo]; rw [if_pos (hos pre t h)], by simpa using h⟩
  | x :: l, pre, t, h, k => by
    obtain ⟨t1, h1, h2⟩ := k x (by simp) pre t h
    obtain ⟨t2, h3, h4⟩ := forGo_inv hos l (pre ++ [x]) t1 h2 fun y hy => k y (by simp [hy])
    refine ⟨t2, ?_, by simpa using h4⟩
    simp only [forGo]
    rw [if_pos (hos pre t h), h1]
    exact h3
theorem forGo_split {os : List Opd} {ds : List D} {tg : Tg} {one : Tr → Option RsS} {I : List D → Tr → Prop} {L : List D} (hos : ∀ pre t, I pre t → opdDs t os = some ds) (k : ∀ pre x post, L = pre ++ x :: post → ∀ t, I pre t → ∃ t', (asg tg x t).bind one = some (.nx t') ∧ I (pre ++ [x]) t') : ∀ (l pre : List D) (t : Tr), L = pre ++ l → I pre t →
    ∃ t', forGo os ds tg one l t = some (.nx t') ∧ I L t'
  | [], pre, t, e, h => ⟨t, by simp only [forGo]; rw [if_pos (hos pre t h)], by rw [e]; simpa using h⟩
  | x :: l, pre, t, e, h => by
    obtain ⟨t1, h1, h2⟩ := k pre x l e t h
    obtain ⟨t2, h3, h4⟩ := forGo_split hos k l (pre ++ [x]) t1 (by rw [e]; simp) h2
    refine ⟨t2, ?_, h4⟩
    simp only [forGo]
    rw [if_pos (hos pre t h), h1]
    exact h3
/-- x.append(e), x a name's list -/
theorem s_app {i : Nat} {b : B P} {d : D} {xs : List D} (h : evB cl (noRt t) b t = some (.ok d t1)) (h0 : t[i]? = some (some (.lst true xs))) (h1 : t1[i]? = some (some (.lst true xs))) (hl : xs.length < sizeLine) (eo : ∀ rt t, evOs cl none rt [b] t = bindR (evB cl rt b t) fun d t1 => some (.ok [.val d] t1)) :
    exS cl n (.ex (.mut mAppend none [.rf i, b])) t = some (.nx (t1.set i (some (.lst true (xs ++ [d]))))) := by
  refine s_ex' (d := .non) ?_
  rw [evB]
  simp only [hdD, h0, Option.join_some]
  rw [if_pos (by rfl)]
  simp only [evOs, h0]
  rw [eo, h]
  simp only [bindR, h1, valsOf, Option.map_some]
  show ((appF (.lst true xs) [d]).map _) = _
  simp [appF, hl]
theorem s_for' {tg : Tg} {it : Itr P} {es : List (B P)} {body : List (S P)} {os : List Opd} {ds l : List D} (h1 : evOs cl none (noRt t) es t = some (.ok os t1)) (h2 : opdDs t1 os = some ds) (h3 : it.f ds = some l) : exS cl n (.for tg it es body) t = forGo os ds tg (exSs cl n body) l t1 := by
  simp only [exS, h1, bindS, h2, h3, Option.bind_some]
/-- a def that returns -/
theorem call_rt {tab : FKey → Option (Df P)} {fuel k : Nat} {key : FKey} {args : List (Bool × D)} {df : Df P} {t0 : Tr} {x : D} (h1 : tab key = some df) (h2 : args.length = df.ps.length) (h3 : lentOk df.pr 0 args = true) (h0 : (args.map (·.2)).map some ++ List.replicate (df.N.length - args.length) none = t0)
    (h4 : exSs (callN tab fuel k) fuel df.body t0 = some (.rt x t)) : callN tab fuel (k + 1) key args = some (.ok x (outs args t)) := by
  subst h0
  show (tab key).bind (fun d => runD (callN tab fuel k) fuel d args) = _
  rw [h1]
  simp only [Option.bind_some, runD]
  rw [if_pos ⟨h2, h3⟩, h4]
end
end Ev
end
section
set_option maxRecDepth 100000
set_option maxHeartbeats 4000000
namespace Ev
open PySem PySem.Spec L2
/-! ### frozen data -/
inductive Q where
  | non | bl (b : Bool) | int (i : Int) | str (x : Str)
  | tup (xs : List Q) | lst (xs : List Q)
mutual
def eQ : Q → D
  | .non => .non
  | .bl b => .bl b
  | .int i => .int i
  | .str x => .str x
  | .tup xs => .tup (eQs xs)
  | .lst xs => .lst false (eQs xs)
def eQs : List Q → List D
  | [] => []
  | d :: r => eQ d :: eQs r
end
theorem eQs_map : ∀ xs : List Q, eQs xs = xs.map eQ
  | [] => rfl
  | x :: xs => by simp only [eQs, List.map_cons, eQs_map xs]
mutual
theorem isF_eQ : ∀ q : Q, isF (eQ q) = true
  | .non => rfl
  | .bl _ => rfl
  | .int _ => rfl
  | .str _ => rfl
  | .tup xs => by simp only [eQ, isF, isFs_eQs xs]
  | .lst xs => by simp only [eQ, isF, isFs_eQs xs]; rfl
theorem isFs_eQs : ∀ q : List Q, isFs (eQs q) = true
  | [] => rfl
  | x :: xs => by simp only [eQs, isFs, isF_eQ x, isFs_eQs xs]; rfl
end
/-! ### from values to trees -/
section
variable {α β γ δ : Type}
abbrev eI : Int → D := D.int
abbrev eB : Bool → D := D.bl
abbrev eS : Str → D := D.str
abbrev eN : Unit → D := fun _ => .non
abbrev eScr : List Int → D := D.scr
def eO (e : α → D) : Option α → D
  | none => .non
  | some a => e a
abbrev eL (o : Bool) (e : α → D) (xs : List α) : D := .lst o (xs.map e)
abbrev eT1 (e1 : α → D) (p : α) : D := .tup [e1 p]
abbrev eT2 (e1 : α → D) (e2 : β → D) (p : α × β) : D := .tup [e1 p.1, e2 p.2]
abbrev eT3 (e1 : α → D) (e2 : β → D) (e3 : γ → D) (p : α × β × γ) : D := .tup [e1 p.1, e2 p.2.1, e3 p.2.2]
abbrev eT4 (e1 : α → D) (e2 : β → D) (e3 : γ → D) (e4 : δ → D) (p : α × β × γ × δ) : D := .tup [e1 p.1, e2 p.2.1, e3 p.2.2.1, e4 p.2.2.2]
abbrev eF2 (e1 : α → D) (e2 : β → D) (p : α × β) : D := .lst true [e1 p.1, e2 p.2]
abbrev eF3 (e1 : α → D) (e2 : β → D) (e3 : γ → D) (p : α × β × γ) : D := .lst true [e1 p.1, e2 p.2.1, e3 p.2.2]
abbrev eF4 (e1 : α → D) (e2 : β → D) (e3 : γ → D) (e4 : δ → D) (p : α × β × γ × δ) : D := .lst true [e1 p.1, e2 p.2.1, e3 p.2.2.1, e4 p.2.2.2]
/-- frozen throughout -/
def Fz (e : α → D) : Prop := ∀ a, isF (e a) = true
theorem fzI : Fz eI := fun _ => rfl
theorem fzB : Fz eB := fun _ => rfl
theorem fzS : Fz eS := fun _ => rfl
theorem fzN : Fz eN := fun _ => rfl
theorem fzQ : Fz eQ := isF_eQ
theorem fzScr : Fz eScr := fun _ => rfl
theorem isFs_map {e : α → D} (h : Fz e) (xs : List α) : isFs (xs.map e) = true := by
  rw [isFs_all, List.all_map]; exact List.all_eq_true.mpr fun a _ => h a
theorem fzL {e : α → D} (h : Fz e) : Fz (eL false e) := fun xs => by simp only [isF, isFs_map h]; rfl
theorem fzO {e : α → D} (h : Fz e) : Fz (eO e)
  | none => rfl
  | some a => h a
theorem fzT1 {e1 : α → D} (h1 : Fz e1) : Fz (eT1 e1) := fun p => by simp only [isF, isFs, h1 _]; rfl
theorem fzT2 {e1 : α → D} {e2 : β → D} (h1 : Fz e1) (h2 : Fz e2) : Fz (eT2 e1 e2) := fun p => by simp only [isF, isFs, h1 _, h2 _]; rfl
theorem fzT3 {e1 : α → D} {e2 : β → D} {e3 : γ → D} (h1 : Fz e1) (h2 : Fz e2) (h3 : Fz e3) : Fz (eT3 e1 e2 e3) := fun p => by simp only [isF, isFs, h1 _, h2 _, h3 _]; rfl
theorem fzT4 {e1 : α → D} {e2 : β → D} {e3 : γ → D} {e4 : δ → D} (h1 : Fz e1) (h2 : Fz e2) (h3 : Fz e3) (h4 : Fz e4) : Fz (eT4 e1 e2 e3 e4) := fun p => by simp only [isF, isFs, h1 _, h2 _, h3 _, h4 _]; rfl
/-- freezing -/
def Fr (e e' : α → D) : Prop := ∀ a, frz (e a) = e' a
theorem frzs_map {e e' : α → D} (h : Fr e e') : ∀ xs : List α, frzs (xs.map e) = xs.map e'
  | [] => rfl
  | x :: xs => by simp only [List.map_cons, frzs, h x, frzs_map h xs]
theorem frOf {e : α → D} (h : Fz e) : Fr e e := fun a => frz_isF _ (h a)
theorem frL {o : Bool} {e e' : α → D} (h : Fr e e') : Fr (eL o e) (eL false e') := fun xs => by simp only [frz, frzs_map h]
theorem frO {e e' : α → D} (h : Fr e e') : Fr (eO e) (eO e')
  | none => rfl
  | some a => h a
theorem frT2 {e1 e1' : α → D} {e2 e2' : β → D} (h1 : Fr e1 e1') (h2 : Fr e2 e2') : Fr (eT2 e1 e2) (eT2 e1' e2') := fun p => by simp only [frz, frzs, h1 _, h2 _]
theorem frT3 {e1 e1' : α → D} {e2 e2' : β → D} {e3 e3' : γ → D} (h1 : Fr e1 e1') (h2 : Fr e2 e2') (h3 : Fr e3 e3') : Fr (eT3 e1 e2 e3) (eT3 e1' e2' e3') := fun p => by simp only [frz, frzs, h1 _, h2 _, h3 _]
end
/-! ### operations on values -/
def modO (a b : Int) : Option Int := if 0 < b then some (a % b) else none
def divO (a b : Int) : Option Int := if 0 < b ∧ b < 2 ^ 64 then some (a / b) else none
def mulO (a b : Int) : Option Int := if a.natAbs < 2 ^ 64 ∨ b.natAbs < 2 ^ 64 then some (a * b) else none
def powO (a b : Int) : Option Int := if 0 ≤ b ∧ b ≤ 1000000 ∧ a.natAbs < 2 ^ 64 then some (a ^ b.toNat) else none
def shlO (a b : Int) : Option Int := if 0 ≤ b ∧ b ≤ 1000000 ∧ a.natAbs < 2 ^ 64 then some (a * 2 ^ b.toNat) else none
def shrO (a b : Int) : Option Int := if 0 ≤ b then some (a / 2 ^ b.toNat) else none
def absI (a : Int) : Int := if a < 0 then -a else a
def ixO {α : Type} (xs : List α) (i : Int) : Option α := atI xs i
def appO {α : Type} (xs : List α) (x : α) : Option (List α) := if xs.length < sizeLine then some (xs ++ [x]) else none
def popO {α : Type} (xs : List α) : Option (α × List α) := (xs[xs.length - 1]?).map fun y => (y, xs.dropLast)
def putO {α : Type} (xs : List α) (i : Int) (y : α) : Option (List α) := (ixN xs.length i).map fun j => xs.set j y
def rng (a b : Int) : List Int := (List.range (b - a).toNat).map fun i : Nat => a + (i : Int)
def rngO (a b : Int) : Option (List Int) := if -(2 ^ 62) ≤ a ∧ a < 2 ^ 62 ∧ -(2 ^ 62) ≤ b ∧ b < 2 ^ 62 then some (rng a b) else none
def lenO {α : Type} (xs : List α) : Option Int := if xs.length ≤ sizeLine then some (xs.length : Int) else none
def catO {α : Type} (xs ys : List α) : Option (List α) := if xs.length + ys.length ≤ sizeLine then some (xs ++ ys) else none
def repO {α : Type} (xs : List α) (k : Int) : Option (List α) := if -(2 ^ 63) ≤ k ∧ k < 2 ^ 63 ∧ xs.length * k.toNat ≤ sizeLine then some (List.replicate k.toNat xs).flatten else none
def eqS (a b : Str) : Option Bool := eqD (.str a) (.str b)
def ixQ : Q → Int → Option Q
  | .tup xs, i => atI xs i
  | .lst xs, i => atI xs i
  | _, _ => none
def lenQ : Q → Option Int
  | .tup xs => some xs.length
  | .lst xs => some xs.length
  | _ => none
def eqQ (a b : Q) : Option Bool := eqD (eQ a) (eQ b)
def tyQ : Q → String
  | .non => "NoneType"
  | .bl _ => "bool"
  | .int _ => "int"
  | .str _ => "str"
  | .lst _ => "list"
  | .tup _ => "tuple"
def isiQ (q : Q) (n : String) : Option Bool := kitB (tyQ q) n
def asI : Q → Option Int
  | .int i => some i
  | _ => none
def asS : Q → Option Str
  | .str i => some i
  | _ => none
def asB : Q → Option Bool
  | .bl i => some i
  | _ => none
def asL : Q → Option (List Q)
  | .lst i => some i
  | _ => none
def asT : Q → Option (List Q)
  | .tup i => some i
  | _ => none
def asX : Q → Option (List Q)
  | .tup i => some i
  | .lst i => some i
  | _ => none
def un1 : Q → Option Q
  | .tup [a] => some a
  | _ => none
def un2 : Q → Option (Q × Q)
  | .tup [a, b] => some (a, b)
  | _ => none
def un3 : Q → Option (Q × Q × Q)
  | .tup [a, b, c] => some (a, b, c)
  | _ => none
def un4 : Q → Option (Q × Q × Q × Q)
  | .tup [a, b, c, d] => some (a, b, c, d)
  | _ => none
def un5 : Q → Option (Q × Q × Q × Q × Q)
  | .tup [a, b, c, d, e] => some (a, b, c, d, e)
  | _ => none
section
variable {α β σ ρ : Type}
def gdO (b : Bool) : Option Unit := if b = true then some () else none
/-- where a block ends -/
inductive Ctl (σ ρ : Type) where
  | nx (s : σ)
  | rt (v : ρ)
def forO (f : σ → α → Option σ) : List α → σ → Option σ
  | [], s => some s
  | x :: r, s => Option.bind (f s x) fun s' => forO f r s'
def forC (f : σ → α → Option (Ctl σ ρ)) : List α → σ → Option (Ctl σ ρ)
  | [], s => some (.nx s)
  | x :: r, s => Option.bind (f s x) fun c => match c with
    | .nx s' => forC f r s'
    | .rt v => some (.rt v)
def whO (c : σ → Option Bool) (f : σ → Option σ) : Nat → σ → Option σ
  | 0, _ => none
  | n + 1, s => Option.bind (c s) fun b => if b = true then Option.bind (f s) fun s' => whO c f n s' else some s
def whC (c : σ → Option Bool) (f : σ → Option (Ctl σ ρ)) : Nat → σ → Option (Ctl σ ρ)
  | 0, _ => none
  | n + 1, s => Option.bind (c s) fun b => if b = true then Option.bind (f s) fun k => (match k with
    | .nx s' => whC c f n s'
    | .rt v => some (.rt v)) else some (.nx s)
def mapO' (f : α → Option β) : List α → Option (List β)
  | [] => some []
  | x :: r => Option.bind (f x) fun y => Option.bind (mapO' f r) fun ys => some (y :: ys)
def mapO (f : α → Option β) (xs : List α) : Option (List β) := if xs.length ≤ sizeLine then mapO' f xs else none
def filO' (f : α → Option (Option β)) : List α → Option (List β)
  | [] => some []
  | x :: r => Option.bind (f x) fun y => Option.bind (filO' f r) fun ys => some (match y with
    | some z => z :: ys
    | none => ys)
def filO (f : α → Option (Option β)) (xs : List α) : Option (List β) := if xs.length ≤ sizeLine then filO' f xs else none
def mapS' (f : σ → α → Option (β × σ)) : List α → σ → Option (List β × σ)
  | [], s => some ([], s)
  | x :: r, s => Option.bind (f s x) fun y => Option.bind (mapS' f r y.2) fun ys => some (y.1 :: ys.1, ys.2)
def mapS (f : σ → α → Option (β × σ)) (xs : List α) (s : σ) : Option (List β × σ) := if xs.length ≤ sizeLine then mapS' f xs s else none
def filS' (f : σ → α → Option (Option β × σ)) : List α → σ → Option (List β × σ)
  | [], s => some ([], s)
  | x :: r, s => Option.bind (f s x) fun y => Option.bind (filS' f r y.2) fun ys => some ((match y.1 with
    | some z => z :: ys.1
    | none => ys.1), ys.2)
def filS (f : σ → α → Option (Option β × σ)) (xs : List α) (s : σ) : Option (List β × σ) := if xs.length ≤ sizeLine then filS' f xs s else none
theorem nt {b : Bool} (h : b = false) : ¬ b = true := by rw [h]; exact Bool.false_ne_true
theorem bd {m : Option α} {f : α → Option β} {r : β} (h : Option.bind m f = some r) : ∃ a, m = some a ∧ f a = some r := Option.bind_eq_some_iff.mp h
end
/-! ### operations: from the evaluator's to the values' -/
section
variable {P : Pg} {α β γ : Type}
theorem g_mod {a b c : Int} (h : modO a b = some c) : (opMod : Opr P).f [.int a, .int b] = some (.int c) := by
  unfold modO at h; split at h
  · cases h; exact f_mod (by assumption)
  · cases h
theorem g_div {a b c : Int} (h : divO a b = some c) : (opDiv : Opr P).f [.int a, .int b] = some (.int c) := by
  unfold divO at h; split at h
  · rename_i h1; cases h; exact f_div h1.1 h1.2
  · cases h
theorem g_mul {a b c : Int} (h : mulO a b = some c) : (opMul : Opr P).f [.int a, .int b] = some (.int c) := by
  unfold mulO at h; split at h
  · rename_i h1; cases h; exact f_mul h1
  · cases h
theorem g_pow {a b c : Int} (h : powO a b = some c) : (opPow : Opr P).f [.int a, .int b] = some (.int c) := by
  unfold powO at h; split at h
  · rename_i h1; cases h; exact f_pow h1.1 h1.2.1 h1.2.2
  · cases h
theorem g_shl {a b c : Int} (h : shlO a b = some c) : (opShl : Opr P).f [.int a, .int b] = some (.int c) := by
  unfold shlO at h; split at h
  · rename_i h1; cases h; exact f_shl h1.1 h1.2.1 h1.2.2
  · cases h
theorem g_shr {a b c : Int} (h : shrO a b = some c) : (opShr : Opr P).f [.int a, .int b] = some (.int c) := by
  unfold shrO at h; split at h
  · rename_i h1; cases h; exact f_shr h1
  · cases h
theorem g_eq {a b : D} {c : Bool} (h : eqD a b = some c) : (opEq : Opr P).f [a, b] = some (.bl c) := f_eqD h
theorem g_ne {a b : D} {c : Bool} (h : eqD a b = some c) : (opNe : Opr P).f [a, b] = some (.bl (!c)) := f_neD h
theorem g_eqI (a b : Int) : (opEq : Opr P).f [.int a, .int b] = some (.bl (decide (a = b))) := f_eq a b
theorem g_neI (a b : Int) : (opNe : Opr P).f [.int a, .int b] = some (.bl (!decide (a = b))) := f_ne a b
theorem atI_map {f : α → β} {xs : List α} {i : Int} {x : α} (h : atI xs i = some x) : atI (xs.map f) i = some (f x) := by
  unfold atI at h ⊢
  obtain ⟨j, h1, h2⟩ := Option.bind_eq_some_iff.mp h
  rw [List.length_map, h1]
  simp [h2]
/-- x[i] in pure code -/
theorem i_L {o : Bool} {e : α → D} {xs : List α} {i : Int} {x : α} (h : ixO xs i = some x) : getI (eL o e xs) (.int i) = some (e x) := atI_map h
theorem i_Scr {xs : List Int} {i : Int} {x : Int} (h : ixO xs i = some x) : (opIx : Opr P).f [.scr xs, .int i] = some (.int x) := by
  show Option.map D.int (atI xs i) = _
  rw [show atI xs i = some x from h]; rfl
theorem i_Q {q : Q} {i : Int} {x : Q} (h : ixQ q i = some x) : getI (eQ q) (.int i) = some (eQ x) := by
  cases q <;> simp only [ixQ] at h <;> first | (cases h; done) | skip
  all_goals
    simp only [eQ, getI, eQs_map]
    exact atI_map h
/-- x[i] of values -/
theorem j_L {o : Bool} {e : α → D} {xs : List α} {i : Int} {x : α} (he : Fz e) (h : ixO xs i = some x) : (opIx : Opr P).f [eL o e xs, .int i] = some (e x) := by
  show (atI (xs.map e) i).bind _ = _
  rw [atI_map (show atI xs i = some x from h)]
  simp [he x]
theorem j_Q {q : Q} {i : Int} {x : Q} (h : ixQ q i = some x) : (opIx : Opr P).f [eQ q, .int i] = some (eQ x) := by
  cases q <;> simp only [ixQ] at h <;> first | (cases h; done) | skip
  all_goals
    show (atI (eQs _) i).bind _ = _
    rw [eQs_map, atI_map h]
    simp [isF_eQ x]
theorem l_L {o : Bool} {e : α → D} {xs : List α} : (opLen : Opr P).f [eL o e xs] = some (.int (xs.length : Int)) := by
  show some (D.int ((xs.map e).length : Int)) = _
  rw [List.length_map]
theorem l_Q {q : Q} {i : Int} (h : lenQ q = some i) : (opLen : Opr P).f [eQ q] = some (.int i) := by
  cases q <;> simp only [lenQ] at h <;> cases h
  all_goals
    show some (D.int ((eQs _).length : Int)) = _
    rw [eQs_map, List.length_map]
theorem g_isiQ {q : Q} {n : String} {b : Bool} (h : isiQ q n = some b) : (opIsi : Opr P).f [eQ q, .ty n] = some (.bl b) := by
  have e : tyD (eQ q) = some (tyQ q) := by cases q <;> rfl
  show (tyD (eQ q)).bind _ = _
  rw [e]
  show (kitB (tyQ q) n).map _ = _
  rw [show kitB (tyQ q) n = some b from h]; rfl
theorem g_cat {o o' : Bool} {e : α → D} {xs ys zs : List α} (he : Fz e) (h : catO xs ys = some zs) : (opAdd : Opr P).f [eL o e xs, eL o' e ys] = some (eL true e zs) := by
  unfold catO at h; split at h
  · rename_i h1
    cases h
    show addF (.lst o (xs.map e)) (.lst o' (ys.map e)) = _
    simp only [addF, isFs_map he, List.length_map]
    rw [if_pos ⟨trivial, trivial, h1⟩, eL, List.map_append]
  · cases h
theorem g_rep {e : α → D} {xs zs : List α} {k : Int} (he : Fz e) (h : repO xs k = some zs) : (opMul : Opr P).f [eL true e xs, .int k] = some (eL true e zs) := by
  unfold repO at h; split at h
  · rename_i h1
    cases h
    show mulF (.lst true (xs.map e)) (.int k) = _
    simp only [mulF, isFs_map he, List.length_map]
    rw [if_pos ⟨trivial, h1.1, h1.2.1, h1.2.2⟩, eL, List.map_flatten, List.map_replicate]
  · cases h
theorem inFl_int (a : Int) : ∀ xs : List Int, inFl (.int a) (xs.map D.int) = decide (a ∈ xs)
  | [] => rfl
  | x :: xs => by
    have h := inFl_int a xs
    simp only [inFl] at h
    rw [inFl, List.map_cons, List.any_cons, h]
    show ((x == a) || decide (a ∈ xs)) = _
    by_cases e : x = a
    · simp [e]
    · have e' : ¬ a = x := fun k => e k.symm
      simp [e, e']
theorem flat_ints : ∀ xs : List Int, (xs.map D.int).all flatD = true
  | [] => rfl
  | x :: xs => by simp only [List.map_cons, List.all_cons, flat_ints xs]; rfl
theorem g_inI {a : Int} {o : Bool} {xs : List Int} : (opIn : Opr P).f [.int a, eL o eI xs] = some (.bl (decide (a ∈ xs))) := by
  show inF false (.int a) (.lst o (xs.map D.int)) = _
  simp only [inF, flat_ints, inFl_int]
  rfl
theorem g_ninI {a : Int} {o : Bool} {xs : List Int} : (opNotIn : Opr P).f [.int a, eL o eI xs] = some (.bl (!decide (a ∈ xs))) := by
  show inF true (.int a) (.lst o (xs.map D.int)) = _
  simp only [inF, flat_ints, inFl_int]
  rfl
theorem r_Scr {xs : List Int} : (opListRev : Opr P).f [.scr xs] = some (eL true eI xs.reverse) := by
  show some (D.lst true (xs.map D.int).reverse) = _
  rw [eL, List.map_reverse]
theorem r_L {o : Bool} {e : α → D} {xs : List α} (he : Fz e) : (opListRev : Opr P).f [eL o e xs] = some (eL true e xs.reverse) := by
  show revF [.lst o (xs.map e)] = _
  simp only [revF, isFs_map he, if_true]
  rw [eL, List.map_reverse]
/-! walks -/
theorem w_rng2 {a b : Int} {xs : List Int} (h : rngO a b = some xs) : (itRng2 : Itr P).f [.int a, .int b] = some (xs.map eI) := by
  unfold rngO at h; split at h
  · rename_i h1
    cases h
    show rng2F [.int a, .int b] = _
    simp only [rng2F]
    rw [if_pos h1]
    simp [rng, rngL, eI, Function.comp_def]
  · cases h
theorem w_rng1 {b : Int} {xs : List Int} (h : rngO 0 b = some xs) : (itRng1 : Itr P).f [.int b] = some (xs.map eI) := by
  unfold rngO at h; split at h
  · rename_i h1
    cases h
    show rng1F [.int b] = _
    simp only [rng1F]
    rw [if_pos ⟨h1.2.2.1, h1.2.2.2⟩]
    simp [rng, rngL, eI, Function.comp_def]
  · cases h
theorem w_L {o : Bool} {e : α → D} {xs : List α} (he : Fz e) : (itList : Itr P).f [eL o e xs] = some (xs.map e) := by
  show itLF [.lst o (xs.map e)] = _
  simp only [itLF, isFs_map he, if_true]
theorem w_Scr {xs : List Int} : (itList : Itr P).f [eScr xs] = some (xs.map eI) := rfl
theorem w_Q {q : Q} {xs : List Q} (h : asL q = some xs) : (itList : Itr P).f [eQ q] = some (xs.map eQ) := by
  cases q <;> simp only [asL] at h <;> cases h
  show itLF [.lst false (eQs _)] = _
  simp only [itLF, eQs_map, isFs_map fzQ, if_true]
theorem w_QT {q : Q} {xs : List Q} (h : asT q = some xs) : (itList : Itr P).f [eQ q] = some (xs.map eQ) := by
  cases q <;> simp only [asT] at h <;> cases h
  show itLF [.tup (eQs _)] = _
  simp only [itLF, eQs_map, isFs_map fzQ, if_true]
theorem w_X {q : Q} {xs : List Q} (h : asX q = some xs) : (itList : Itr P).f [eQ q] = some (xs.map eQ) := by
  cases q <;> simp only [asX] at h <;> cases h
  · exact w_QT rfl
  · exact w_Q rfl
theorem w_zip {o o' : Bool} {e : α → D} {e' : β → D} {xs : List α} {ys : List β} (he : Fz e) (he' : Fz e') : (itZip : Itr P).f [eL o e xs, eL o' e' ys] = some ((xs.zip ys).map (eT2 e e')) := by
  show zipF [.lst o (xs.map e), .lst o' (ys.map e')] = _
  simp only [zipF, isFs_map he, isFs_map he']
  rw [if_pos ⟨trivial, trivial⟩, zipD, List.zip_map, List.map_map]
  rfl
/-! mutation -/
theorem m_app {e : α → D} {xs ys : List α} {x : α} (h : appO xs x = some ys) : (mAppend : Mut P).f (eL true e xs) [e x] = some (.non, eL true e ys) := by
  unfold appO at h; split at h
  · rename_i h1
    cases h
    show appF (.lst true (xs.map e)) [e x] = _
    simp [appF, h1]
  · cases h
theorem m_pop {e : α → D} {xs ys : List α} {x : α} (h : popO xs = some (x, ys)) : (mPop : Mut P).f (eL true e xs) [] = some (e x, eL true e ys) := by
  show Option.map (fun y => (y, D.lst true (xs.map e).dropLast)) ((xs.map e)[(xs.map e).length - 1]?) = _
  obtain ⟨y, h1, h2⟩ := Option.map_eq_some_iff.mp h
  cases h2
  rw [List.length_map, List.getElem?_map, h1, List.dropLast_eq_take, List.dropLast_eq_take]
  simp [List.map_take]
theorem m_put {e : α → D} {xs ys : List α} {i : Int} {x : α} (h : putO xs i x = some ys) : (putI : Put P).f (eL true e xs) [.int i] (e x) = some (eL true e ys) := by
  obtain ⟨j, h1, rfl⟩ := Option.map_eq_some_iff.mp h
  show putIF (.lst true (xs.map e)) [.int i] (e x) = _
  simp [putIF, h1]
/-! coercions -/
theorem c_I {q : Q} {i : Int} (h : asI q = some i) : eQ q = .int i := by cases q <;> simp only [asI] at h <;> cases h <;> rfl
theorem c_S {q : Q} {i : Str} (h : asS q = some i) : eQ q = .str i := by cases q <;> simp only [asS] at h <;> cases h <;> rfl
theorem c_B {q : Q} {i : Bool} (h : asB q = some i) : eQ q = .bl i := by cases q <;> simp only [asB] at h <;> cases h <;> rfl
theorem c_L {q : Q} {i : List Q} (h : asL q = some i) : eQ q = eL false eQ i := by cases q <;> simp only [asL] at h <;> cases h <;> simp only [eQ, eQs_map]
theorem c_2 {q : Q} {p : Q × Q} (h : un2 q = some p) : eQ q = eT2 eQ eQ p := by
  unfold un2 at h; split at h <;> cases h; rfl
theorem c_3 {q : Q} {p : Q × Q × Q} (h : un3 q = some p) : eQ q = eT3 eQ eQ eQ p := by
  unfold un3 at h; split at h <;> cases h; rfl
theorem c_4 {q : Q} {p : Q × Q × Q × Q} (h : un4 q = some p) : eQ q = eT4 eQ eQ eQ eQ p := by
  unfold un4 at h; split at h <;> cases h; rfl
end
/-! ### pure code -/
section
variable {P : Pg} {t rt : Tr}
theorem a1 {o : Opr P} {a : A P} {x z : D} (ha : evA t rt a = some x) (hf : o.f [x] = some z) : evA t rt (.p o [a]) = some z := by
  simp only [evA, evAs, ha, Option.bind_some, hf]
theorem a2 {o : Opr P} {a b : A P} {x y z : D} (ha : evA t rt a = some x) (hb : evA t rt b = some y) (hf : o.f [x, y] = some z) : evA t rt (.p o [a, b]) = some z := by
  simp only [evA, evAs, ha, hb, Option.bind_some, hf]
theorem a3 {o : Opr P} {a b c : A P} {x y w z : D} (ha : evA t rt a = some x) (hb : evA t rt b = some y) (hc : evA t rt c = some w) (hf : o.f [x, y, w] = some z) : evA t rt (.p o [a, b, c]) = some z := by
  simp only [evA, evAs, ha, hb, hc, Option.bind_some, hf]
theorem aix {a b : A P} {x y z : D} (ha : evA t rt a = some x) (hb : evA t rt b = some y) (hf : getI x y = some z) : evA t rt (.ix a b) = some z := by
  simp only [evA, ha, hb, hf]
theorem aeq {a : A P} {x y : D} (ha : evA t rt a = some x) (h : x = y) : evA t rt a = some y := h ▸ ha
theorem anot {a : A P} {b : Bool} (ha : evA t rt a = some (.bl b)) : evA t rt (.not a) = some (.bl (!b)) := by simp only [evA, ha]
/-- lists of operands -/
theorem as0 : evAs t rt ([] : List (A P)) = some [] := rfl
theorem as1 {a : A P} {r : List (A P)} {x : D} {y : List D} (ha : evA t rt a = some x) (hr : evAs t rt r = some y) : evAs t rt (a :: r) = some (x :: y) := by simp only [evAs, ha, hr]
theorem atup {es : List (A P)} {ds : List D} (h : evAs t rt es = some ds) (h2 : isFs ds = true) (h3 : Nat.blt ds.length 1000 = true) : evA t rt (.tup es) = some (.tup ds) := by
  simp only [evA, h, Option.bind_some]; rw [if_pos ⟨h2, by have := Nat.le_of_ble_eq_true h3; unfold sizeLine; omega⟩]
theorem alst {es : List (A P)} {ds : List D} (h : evAs t rt es = some ds) (h2 : isFs ds = true) (h3 : Nat.blt ds.length 1000 = true) : evA t rt (.lst es) = some (.lst true ds) := by
  simp only [evA, h, Option.bind_some]; rw [if_pos ⟨h2, by have := Nat.le_of_ble_eq_true h3; unfold sizeLine; omega⟩]
theorem is1 {d : D} {r : List D} (h : isF d = true) (hr : isFs r = true) : isFs (d :: r) = true := by simp only [isFs, h, hr]; rfl
/-- and, or -/
theorem and1 {a : A P} {b : Bool} (h : evA t rt a = some (.bl b)) : evAnd t rt [a] = some (.bl b) := by simp [evAnd, h, isF]
theorem and2 {a b : A P} {r : List (A P)} {x y : Bool} (h : evA t rt a = some (.bl x)) (hr : evAnd t rt (b :: r) = some (.bl y)) : evAnd t rt (a :: b :: r) = some (.bl (x && y)) := by
  rw [evAnd, h]; cases x <;> simp [hr]; simp
theorem andp {a b : A P} {r : List (A P)} {x c : Bool} {m : Option Bool} (h : evA t rt a = some (.bl x)) (hr : ∀ y, m = some y → evAnd t rt (b :: r) = some (.bl y)) (hc : (if x = true then m else some false) = some c) : evAnd t rt (a :: b :: r) = some (.bl c) := by
  rw [evAnd, h]
  · cases x
    · simp at hc; simp [hc]
    · simp at hc; simp [hr c hc]
  · simp
theorem aand {es : List (A P)} {d : D} (h : evAnd t rt es = some d) : evA t rt (.and es) = some d := by simpa only [evA] using h
theorem or1 {a : A P} {b : Bool} (h : evA t rt a = some (.bl b)) : evOr t rt [a] = some (.bl b) := by simp [evOr, h, isF]
theorem or2 {a b : A P} {r : List (A P)} {x y : Bool} (h : evA t rt a = some (.bl x)) (hr : evOr t rt (b :: r) = some (.bl y)) : evOr t rt (a :: b :: r) = some (.bl (x || y)) := by
  rw [evOr, h]; cases x <;> simp [hr]; simp
theorem orp {a b : A P} {r : List (A P)} {x c : Bool} {m : Option Bool} (h : evA t rt a = some (.bl x)) (hr : ∀ y, m = some y → evOr t rt (b :: r) = some (.bl y)) (hc : (if x = true then some true else m) = some c) : evOr t rt (a :: b :: r) = some (.bl c) := by
  rw [evOr, h]
  · cases x
    · simp at hc; simp [hr c hc]
    · simp at hc; simp [hc]
  · simp
theorem aor {es : List (A P)} {d : D} (h : evOr t rt es = some d) : evA t rt (.or es) = some d := by simpa only [evA] using h
theorem aite {c a b : A P} {x : Bool} {d : D} (hc : evA t rt c = some (.bl x)) (ha : x = true → evA t rt a = some d) (hb : x = false → evA t rt b = some d) (hf : isF d = true) : evA t rt (.ite c a b) = some d := by
  simp only [evA, hc]
  cases x
  · simp [hb rfl, hf]
  · simp [ha rfl, hf]
end
/-! ### code with effects -/
section
variable {P : Pg} {cl : Cl} {t t1 t2 t3 rt : Tr}
theorem blift {α : Type} {e : α → D} {b : B P} {x y : α} (h : some x = some y) (p : evB cl rt b t = some (.ok (e x) t1)) : evB cl rt b t = some (.ok (e y) t1) := by cases h; exact p
theorem bnm {i : Nat} {d d' : D} (h : t[i]? = some (some d)) (hf : frz d = d') : evB cl rt (.nm i : B P) t = some (.ok d' (t.set i (some d'))) := by
  simp only [evB, h, hf]
theorem bmv {i : Nat} {d : D} (h : t[i]? = some (some d)) : evB cl rt (.mv i : B P) t = some (.ok d (t.set i none)) := by
  simp only [evB, h]
theorem bq {o : Opr P} {es : List (B P)} {os : List Opd} {ds : List D} {d : D} (h : evOs cl none rt es t = some (.ok os t1)) (h2 : opdDs t1 os = some ds) (h3 : o.f ds = some d) : evB cl rt (.q o es) t = some (.ok d t1) := by
  simp only [evB, h, bindR, h2, Option.bind_some, h3, Option.map_some]
theorem btup {es : List (B P)} {os : List Opd} {ds : List D} (h : evOs cl none rt es t = some (.ok os t1)) (h2 : valsOf os = some ds) (h3 : Nat.blt ds.length 1000 = true) : evB cl rt (.tup es) t = some (.ok (.tup ds) t1) := by
  simp only [evB, h, bindR, h2, Option.bind_some]; rw [if_pos (by have := Nat.le_of_ble_eq_true h3; unfold sizeLine; omega)]
theorem blst {es : List (B P)} {os : List Opd} {ds : List D} (h : evOs cl none rt es t = some (.ok os t1)) (h2 : valsOf os = some ds) (h3 : Nat.blt ds.length 1000 = true) : evB cl rt (.lst es) t = some (.ok (.lst true ds) t1) := by
  simp only [evB, h, bindR, h2, Option.bind_some]; rw [if_pos (by have := Nat.le_of_ble_eq_true h3; unfold sizeLine; omega)]
theorem bnot {a : B P} {b : Bool} (h : evB cl rt a t = some (.ok (.bl b) t1)) : evB cl rt (.not a) t = some (.ok (.bl (!b)) t1) := by
  simp only [evB, h, bindR]
theorem eo0 {h : Option Nat} : evOs cl h rt ([] : List (B P)) t = some (.ok [] t) := by simp only [evOs]
theorem eor {h : Option Nat} {i : Nat} {r : List (B P)} {d : D} {os : List Opd} (h1 : t[i]? = some (some d)) (hr : evOs cl h rt r t = some (.ok os t2)) : evOs cl h rt (.rf i :: r) t = some (.ok (.ref i :: os) t2) := by
  simp only [evOs, h1, hr, bindR]
theorem eov {h : Option Nat} {b : B P} {r : List (B P)} {d : D} {os : List Opd} (hb : evB cl rt b t = some (.ok d t1)) (hr : evOs cl h rt r t1 = some (.ok os t2)) : evOs cl h rt (b :: r) t = some (.ok (.val d :: os) t2) := by
  have e : evOs cl h rt (b :: r) t = bindR (evB cl rt b t) fun d t1 => bindR (evOs cl h rt r t1) fun os t2 => some (.ok (.val d :: os) t2) := by
    cases b <;> first | (simp only [evOs]; done) | (simp [evB] at hb; done)
  rw [e, hb]
  simp only [bindR, hr]
theorem eod {i : Nat} {a : A P} {r : List (B P)} {st : List Stp} {d : D} {os : List Opd} (h1 : pth t rt a = some (i, st)) (h2 : evA t rt a = some d) (h3 : (t[i]?.join).isNone = true) (hr : evOs cl (some i) rt r t = some (.ok os t2)) : evOs cl (some i) rt (.dp a :: r) t = some (.ok (.dp i st :: os) t2) := by
  simp only [evOs, h1, h2]
  rw [if_pos ⟨trivial, h3⟩]
  simp only [hr, bindR]
/-- and, or of code with effects; they leave the state -/
theorem band1 {a : B P} {d : D} (h : evB cl rt a t = some (.ok d t1)) : evAn cl rt [a] t = some (.ok d t1) := by simpa only [evAn] using h
theorem band2 {a b : B P} {r : List (B P)} {x c : Bool} {m : Option Bool} (h : evB cl rt a t = some (.ok (.bl x) t1)) (hr : ∀ y, m = some y → evAn cl rt (b :: r) t1 = some (.ok (.bl y) t1)) (hc : (if x = true then m else some false) = some c) : evAn cl rt (a :: b :: r) t = some (.ok (.bl c) t1) := by
  have e : evAn cl rt (a :: b :: r) t = bindR (evB cl rt a t) fun d t1 => match d with
    | .bl true => evAn cl rt (b :: r) t1
    | .bl false => some (.ok (.bl false) t1)
    | _ => none := by
      first
        | (rw [evAn]; rfl; exact fun h => by cases h)
        | (rw [evAn]; exact fun h => by cases h)
  rw [e, h]
  cases x
  · simp at hc; simp [bindR, hc]
  · simp at hc; simp [bindR, hr c hc]
theorem band {es : List (B P)} {d : D} (h : evAn cl rt es t = some (.ok d t1)) : evB cl rt (.and es) t = some (.ok d t1) := by simpa only [evB] using h
theorem bor1 {a : B P} {d : D} (h : evB cl rt a t = some (.ok d t1)) : evOn cl rt [a] t = some (.ok d t1) := by simpa only [evOn] using h
theorem bor2 {a b : B P} {r : List (B P)} {x c : Bool} {m : Option Bool} (h : evB cl rt a t = some (.ok (.bl x) t1)) (hr : ∀ y, m = some y → evOn cl rt (b :: r) t1 = some (.ok (.bl y) t1)) (hc : (if x = true then some true else m) = some c) : evOn cl rt (a :: b :: r) t = some (.ok (.bl c) t1) := by
  have e : evOn cl rt (a :: b :: r) t = bindR (evB cl rt a t) fun d t1 => match d with
    | .bl false => evOn cl rt (b :: r) t1
    | .bl true => some (.ok (.bl true) t1)
    | _ => none := by
      first
        | (rw [evOn]; rfl; exact fun h => by cases h)
        | (rw [evOn]; exact fun h => by cases h)
  rw [e, h]
  cases x
  · simp at hc; simp [bindR, hr c hc]
  · simp at hc; simp [bindR, hc]
theorem bor {es : List (B P)} {d : D} (h : evOn cl rt es t = some (.ok d t1)) : evB cl rt (.or es) t = some (.ok d t1) := by simpa only [evB] using h
/-- a call by values and lent names -/
theorem bcall {f : Str} {es : List (B P)} {os : List Opd} {args : List (Bool × D)} {d : D} {o : List (Option D)} (h1 : evOs cl none rt es t = some (.ok os t1)) (h2 : lend none os t1 = some (args, t2)) (h3 : cl (f, none) args = some (.ok d o)) (h4 : giveB os o t2 none = some (t3, none)) :
    evB cl rt (.call (.glob f) none es) t = some (.ok d t3) := b_call h1 h2 h3 h4
/-- a method of a built-in type that changes a name's object -/
theorem bmut {o : Mut P} {i : Nat} {es : List (B P)} {os : List Opd} {ds : List D} {d d' x : D} (h1 : evOs cl none rt es t = some (.ok os t1)) (h0 : ∃ d0, t[i]? = some (some d0) ∧ o.hd d0 = true) (h2 : t1[i]? = some (some d)) (h3 : valsOf os = some ds) (h4 : o.f d ds = some (x, d')) :
    evB cl rt (.mut o none (.rf i :: es)) t = some (.ok x (t1.set i (some d'))) := by
  obtain ⟨d0, e1, e2⟩ := h0
  simp only [evB, hdD, e1, Option.join_some, hdOk]
  rw [if_pos e2]
  simp only [evOs, e1, h1, bindR, h2, h3, h4, Option.map_some]
/-- .. of an object on a path -/
theorem bmutP {o : Mut P} {i : Nat} {a : A P} {es : List (B P)} {st : List Stp} {os : List Opd} {ds : List D} {d0 dr d d' x d0' : D} (h0 : t[i]? = some (some d0)) (hr : evA (t.set i none) (rt.set i (some d0)) a = some dr) (hh : o.hd dr = true)
    (h1 : evOs cl (some i) (rt.set i (some d0)) (.dp a :: es) (t.set i none) = some (.ok (.dp i st :: os) t1)) (h2 : getP d0 st = some d) (h3 : valsOf os = some ds) (h4 : o.f d ds = some (x, d')) (h5 : putP d0 st d' = some d0') :
    evB cl rt (.mut o (some i) (.dp a :: es)) t = some (.ok x (t1.set i (some d0'))) := by
  simp only [evB, h0, hdD, hr, hdOk]
  rw [if_pos hh]
  simp only [h1, bindR, h2, h3, h4, h5, ne_eq, not_true, if_false, Option.bind_some, Option.map_some]
end
end Ev
end
section
set_option maxRecDepth 100000
set_option maxHeartbeats 4000000
namespace Ev
open PySem PySem.Spec L2
/-! ### blocks -/
/-- where a block comes to -/
def Bk {P : Pg} (cl : Cl) (n : Nat) (ss : List (S P)) (t : Tr) (q : RsS → Prop) : Prop := ∃ r, exSs cl n ss t = some r ∧ q r
/-- .. a block that may end -/
def QC {σ ρ : Type} (E : σ → Tr) (qr : ρ → RsS → Prop) (w : Ctl σ ρ) (z : RsS) : Prop := match w with
  | .nx s => z = .nx (E s)
  | .rt v => (∀ t, z ≠ .nx t) ∧ qr v z
section
variable {P : Pg} {cl : Cl} {n : Nat} {t t1 t2 t' rt : Tr} {r : List (S P)} {q q1 : RsS → Prop}
theorem k_nil (h : q (.nx t)) : Bk cl n ([] : List (S P)) t q := ⟨_, ss_nil, h⟩
theorem k_nx {s : S P} (h : exS cl n s t = some (.nx t')) (k : Bk cl n r t' q) : Bk cl n (s :: r) t q := by
  obtain ⟨z, h1, h2⟩ := k
  exact ⟨z, (ss_nx h).trans h1, h2⟩
theorem k_rt {s : S P} {d : D} (h : exS cl n s t = some (.rt d t')) (k : q (.rt d t')) : Bk cl n (s :: r) t q := ⟨_, ss_rt h, k⟩
theorem k_shr {i : Nat} {d d' : D} (h : t[i]? = some (some d)) (hf : frz d = d') (ht : t.set i (some d') = t') (k : Bk cl n r t' q) : Bk cl n (.shr i :: r) t q := k_nx (by subst hf; simp only [exS, h, ht]) k
theorem k_fg {js : List Nat} (h : wipeT t js = t') (k : Bk cl n r t' q) : Bk cl n (.fg js :: r) t q := k_nx (by simp only [exS, h]) k
theorem exSs_app : ∀ (a b : List (S P)) (t : Tr), exSs cl n (a ++ b) t = match exSs cl n a t with
    | some (.nx t') => exSs cl n b t'
    | z => z
  | [], b, t => by simp only [List.nil_append, exSs]
  | s :: a, b, t => by
    simp only [List.cons_append, exSs]
    split
    · rename_i t2 h2
      rw [exSs_app a b t2]
    · rename_i h2
      split
      · rename_i t3 e
        rw [e] at h2
        exact absurd rfl (h2 t3)
      · rfl
theorem k_iff {c : B P} {a b : List (S P)} {x : Bool} (h : evB cl (noRt t) c t = some (.ok (.bl x) t1)) (k : Bk cl n ((if x = true then a else b) ++ r) t1 q) : Bk cl n (.iff c a b :: r) t q := by
  obtain ⟨z, h1, h2⟩ := k
  refine ⟨z, ?_, h2⟩
  rw [exSs_app] at h1
  cases x
  · simp only [Bool.false_eq_true, if_false] at h1
    simp only [exSs, s_f h]
    exact h1
  · simp only [if_true] at h1
    simp only [exSs, s_t h]
    exact h1
theorem k_ifT {c : B P} {a b : List (S P)} {x : Bool} (h : evB cl (noRt t) c t = some (.ok (.bl x) t1)) (hx : x = true) (k : Bk cl n (a ++ r) t1 q) : Bk cl n (.iff c a b :: r) t q := by
  subst hx; exact k_iff h k
theorem k_ifF {c : B P} {a b : List (S P)} {x : Bool} (h : evB cl (noRt t) c t = some (.ok (.bl x) t1)) (hx : x = false) (k : Bk cl n (b ++ r) t1 q) : Bk cl n (.iff c a b :: r) t q := by
  subst hx; exact k_iff h k
/-- both ways meet -/
theorem k_if {c : B P} {a b : List (S P)} {x : Bool} (h : evB cl (noRt t) c t = some (.ok (.bl x) t1)) (ha : x = true → Bk cl n a t1 fun z => z = .nx t2) (hb : x = false → Bk cl n b t1 fun z => z = .nx t2) (k : Bk cl n r t2 q) : Bk cl n (.iff c a b :: r) t q := by
  refine k_nx (t' := t2) ?_ k
  cases x
  · obtain ⟨z, h1, rfl⟩ := hb rfl
    exact (s_f h).trans h1
  · obtain ⟨z, h1, rfl⟩ := ha rfl
    exact (s_t h).trans h1
/-- .. or end -/
theorem k_ifC {σ ρ : Type} {c : B P} {a b : List (S P)} {x : Bool} {E : σ → Tr} {qr : ρ → RsS → Prop} {w : Ctl σ ρ} (h : evB cl (noRt t) c t = some (.ok (.bl x) t1))
    (ha : x = true → Bk cl n a t1 fun z => QC E qr w z)
    (hb : x = false → Bk cl n b t1 fun z => QC E qr w z)
    (kn : ∀ s, w = .nx s → Bk cl n r (E s) q) (kr : ∀ v, w = .rt v → ∀ z, (∀ t, z ≠ .nx t) → qr v z → q z) : Bk cl n (.iff c a b :: r) t q := by
  have e : ∃ z, exS cl n (.iff c a b) t = some z ∧ (QC E qr w z) := by
    cases x
    · obtain ⟨z, h1, h2⟩ := hb rfl
      exact ⟨z, (s_f h).trans h1, h2⟩
    · obtain ⟨z, h1, h2⟩ := ha rfl
      exact ⟨z, (s_t h).trans h1, h2⟩
  obtain ⟨z, e1, e2⟩ := e
  cases w with
  | nx s => cases e2; exact k_nx e1 (kn s rfl)
  | rt v =>
    refine ⟨z, ?_, kr v rfl z e2.1 e2.2⟩
    simp only [exSs, e1]
    split
    · rename_i t' h'
      cases h'
      exact absurd rfl (e2.1 _)
    · rfl
/-! statements -/
theorem sset {i : Nat} {b : B P} {d : D} (h : evB cl (noRt t) b t = some (.ok d t1)) (hi : Nat.blt i t1.length = true) (e : t1.set i (some d) = t') : exS cl n (.set i b) t = some (.nx t') := by
  subst e; exact s_set' h (Nat.le_of_ble_eq_true hi)
theorem sex {b : B P} {d : D} (h : evB cl (noRt t) b t = some (.ok d t1)) : exS cl n (.ex b) t = some (.nx t1) := s_ex' h
theorem sasg {g : Tg} {b : B P} {d : D} (h : evB cl (noRt t) b t = some (.ok d t1)) (e : asg g d t1 = some t') : exS cl n (.asg g b) t = some (.nx t') := by
  simp only [exS, h, bindS, e, Option.map_some]
theorem stx {l : List (Tx P)} {b : B P} {ds : List D} (h : evB cl (noRt t) b t = some (.ok (.tup ds) t1)) (e : txs l ds t1 = some t') : exS cl n (.tx l b) t = some (.nx t') := by
  simp only [exS, h, bindS, e, Option.map_some]
theorem spar {i j : Nat} {a b : B P} {d e : D} {os : List Opd} (h : evOs cl none (noRt t) [a, b] t = some (.ok os t1)) (h2 : valsOf os = some [d, e]) (hi : Nat.blt i t1.length = true) (hj : Nat.blt j t1.length = true) (et : (t1.set i (some d)).set j (some e) = t') : exS cl n (.par i j a b) t = some (.nx t') := by
  simp only [exS, h, bindS, h2]; rw [if_pos ⟨Nat.le_of_ble_eq_true hi, Nat.le_of_ble_eq_true hj⟩, et]
theorem sput {o : Put P} {v : B P} {es : List (B P)} {i : Nat} {y d d' : D} {os : List Opd} {ds : List D} (h : evB cl (noRt t) v t = some (.ok y t1)) (h1 : evOs cl none (noRt t) (.rf i :: es) t1 = some (.ok (.ref i :: os) t2)) (h2 : t2[i]? = some (some d)) (h3 : valsOf os = some ds) (h4 : o.f d ds y = some d') (e : t2.set i (some d') = t') :
    exS cl n (.put o none v (.rf i :: es)) t = some (.nx t') := by
  subst e
  simp only [exS, h, bindS, h1, h2, h3, h4, Option.map_some]
theorem sputP {o : Put P} {v : B P} {es : List (B P)} {i : Nat} {a : A P} {y d0 d d' d0' : D} {st : List Stp} {os : List Opd} {ds : List D} (h : evB cl (noRt t) v t = some (.ok y t1)) (h0 : t1[i]? = some (some d0)) (h1 : evOs cl (some i) ((noRt t).set i (some d0)) (.dp a :: es) (t1.set i none) = some (.ok (.dp i st :: os) t2)) (h2 : getP d0 st = some d) (h3 : valsOf os = some ds) (h4 : o.f d ds y = some d') (h5 : putP d0 st d' = some d0') (e : t2.set i (some d0') = t') :
    exS cl n (.put o (some i) v (.dp a :: es)) t = some (.nx t') := by
  subst e
  simp only [exS, h, bindS, h0, h1, h2, h3, h4, h5, ne_eq, not_true, if_false, Option.bind_some, Option.map_some]
theorem saug {o : Aug P} {i : Nat} {b : B P} {d0 y d d' : D} (h0 : t[i]? = some (some d0)) (h : evB cl (noRt t) b t = some (.ok y t1)) (h1 : t1[i]? = some (some d)) (h2 : o.f d y = some d') (e : t1.set i (some d') = t') : exS cl n (.aug o i b) t = some (.nx t') := by
  subst e
  simp only [exS, h0, h, bindS, h1, h2, Option.map_some]
theorem sret {b : B P} {d : D} (h : evB cl (noRt t) b t = some (.ok d t1)) : exS cl n (.ret b) t = some (.rt d t1) := s_ret' h
theorem sret0 : exS cl n (.ret0 : S P) t = some (.rt .non t) := by simp only [exS]
theorem spass : exS cl n (.pass : S P) t = some (.nx t) := by simp only [exS]
/-! loops -/
theorem forO_ok {α σ : Type} {os : List Opd} {ds : List D} {tg : Tg} {body : List (S P)} {e : α → D} {E : σ → Tr} {f : σ → α → Option σ} (hos : ∀ s, opdDs (E s) os = some ds)
    (hb : ∀ s x s', f s x = some s' → ∃ t2, asg tg (e x) (E s) = some t2 ∧ Bk cl n body t2 fun z => z = .nx (E s')) : ∀ (xs : List α) (s s' : σ), forO f xs s = some s' → forGo os ds tg (exSs cl n body) (xs.map e) (E s) = some (.nx (E s'))
  | [], s, s', h => by
    cases h
    simp only [List.map_nil, forGo]; rw [if_pos (hos s)]
  | x :: xs, s, s', h => by
    obtain ⟨s1, h1, h2⟩ := bd h
    obtain ⟨t2, a1, z, a2, rfl⟩ := hb s x s1 h1
    simp only [List.map_cons, forGo]
    rw [if_pos (hos s), a1, Option.bind_some, a2]
    exact forO_ok hos hb xs s1 s' h2
theorem k_for {α σ : Type} {os : List Opd} {ds : List D} {tg : Tg} {it : Itr P} {es : List (B P)} {body : List (S P)} {e : α → D} (E : σ → Tr) {f : σ → α → Option σ} {xs : List α} {s0 s1 : σ} (h : forO f xs s0 = some s1)
    (h1 : evOs cl none (noRt t) es t = some (.ok os (E s0))) (h2 : opdDs (E s0) os = some ds) (h3 : it.f ds = some (xs.map e)) (hos : ∀ s, opdDs (E s) os = some ds)
    (hb : ∀ s x s', f s x = some s' → ∃ t2, asg tg (e x) (E s) = some t2 ∧ Bk cl n body t2 fun z => z = .nx (E s')) (k : Bk cl n r (E s1) q) : Bk cl n (.for tg it es body :: r) t q :=
  k_nx ((s_for' h1 h2 h3).trans (forO_ok hos hb xs s0 s1 h)) k
theorem forC_ok {α σ ρ : Type} {os : List Opd} {ds : List D} {tg : Tg} {body : List (S P)} {e : α → D} {E : σ → Tr} {f : σ → α → Option (Ctl σ ρ)} {qr : ρ → RsS → Prop} (hos : ∀ s, opdDs (E s) os = some ds)
    (hb : ∀ s x w, f s x = some w → ∃ t2, asg tg (e x) (E s) = some t2 ∧ Bk cl n body t2 fun z => QC E qr w z) : ∀ (xs : List α) (s : σ) (w : Ctl σ ρ), forC f xs s = some w → ∃ z, forGo os ds tg (exSs cl n body) (xs.map e) (E s) = some z ∧ QC E qr w z
  | [], s, w, h => by
    cases h
    refine ⟨_, ?_, rfl⟩
    simp only [List.map_nil, forGo]; rw [if_pos (hos s)]
  | x :: xs, s, w, h => by
    obtain ⟨w1, h1, h2⟩ := bd h
    obtain ⟨t2, a1, z, a2, a3⟩ := hb s x w1 h1
    cases w1 with
    | nx s1 =>
      cases a3
      obtain ⟨z, b1, b2⟩ := forC_ok hos hb xs s1 w h2
      refine ⟨z, ?_, b2⟩
      simp only [List.map_cons, forGo]
      rw [if_pos (hos s), a1, Option.bind_some, a2]
      exact b1
    | rt v =>
      cases h2
      refine ⟨z, ?_, a3⟩
      simp only [List.map_cons, forGo]
      rw [if_pos (hos s), a1, Option.bind_some, a2]
      split
      · rename_i t' h'
        cases h'
        exact absurd rfl (a3.1 _)
      · rfl
theorem k_forC {α σ ρ : Type} {os : List Opd} {ds : List D} {tg : Tg} {it : Itr P} {es : List (B P)} {body : List (S P)} {e : α → D} (E : σ → Tr) {f : σ → α → Option (Ctl σ ρ)} {qr : ρ → RsS → Prop} {xs : List α} {s0 : σ} {w : Ctl σ ρ} (h : forC f xs s0 = some w)
    (h1 : evOs cl none (noRt t) es t = some (.ok os (E s0))) (h2 : opdDs (E s0) os = some ds) (h3 : it.f ds = some (xs.map e)) (hos : ∀ s, opdDs (E s) os = some ds)
    (hb : ∀ s x w, f s x = some w → ∃ t2, asg tg (e x) (E s) = some t2 ∧ Bk cl n body t2 fun z => QC E qr w z) (kn : ∀ s, w = .nx s → Bk cl n r (E s) q) (kr : ∀ v, w = .rt v → ∀ z, (∀ t, z ≠ .nx t) → qr v z → q z) : Bk cl n (.for tg it es body :: r) t q := by
  obtain ⟨z, a1, a2⟩ := forC_ok (n := n) hos hb xs s0 w h
  have e1 := (s_for' (n := n) h1 h2 h3).trans a1
  cases w with
  | nx s => cases a2; exact k_nx e1 (kn s rfl)
  | rt v =>
    refine ⟨z, ?_, kr v rfl z a2.1 a2.2⟩
    simp only [exSs, e1]
    split
    · rename_i t' h'
      cases h'
      exact absurd rfl (a2.1 _)
    · rfl
theorem whO_ok {σ : Type} {c : B P} {body : List (S P)} {E : σ → Tr} {g : σ → Option Bool} {f : σ → Option σ} (hc : ∀ s b, g s = some b → evB cl (noRt (E s)) c (E s) = some (.ok (.bl b) (E s)))
    (hb : ∀ s s', f s = some s' → Bk cl n body (E s) fun z => z = .nx (E s')) : ∀ (m : Nat) (s s' : σ), whO g f m s = some s' → whGo (fun t => evB cl (noRt t) c t) (exSs cl n body) m (E s) = some (.nx (E s'))
  | 0, s, s', h => by cases h
  | m + 1, s, s', h => by
    obtain ⟨b, h1, h2⟩ := bd h
    have e := hc s b h1
    cases b with
    | false =>
      simp only [Bool.false_eq_true, if_false] at h2
      cases h2
      simp only [whGo, e]
    | true =>
      simp only [if_true] at h2
      obtain ⟨s1, h3, h4⟩ := bd h2
      obtain ⟨z, h5, rfl⟩ := hb s s1 h3
      simp only [whGo, e, h5]
      exact whO_ok hc hb m s1 s' h4
theorem k_wh {σ : Type} {c : B P} {body : List (S P)} (E : σ → Tr) {g : σ → Option Bool} {f : σ → Option σ} {s0 s1 : σ} (h : whO g f n s0 = some s1) (h0 : t = E s0) (hc : ∀ s b, g s = some b → evB cl (noRt (E s)) c (E s) = some (.ok (.bl b) (E s)))
    (hb : ∀ s s', f s = some s' → Bk cl n body (E s) fun z => z = .nx (E s')) (k : Bk cl n r (E s1) q) : Bk cl n (.whl c body :: r) t q := by
  subst h0
  refine k_nx (t' := E s1) ?_ k
  simp only [exS]
  exact whO_ok hc hb n s0 s1 h
theorem whC_ok {σ ρ : Type} {c : B P} {body : List (S P)} {E : σ → Tr} {g : σ → Option Bool} {f : σ → Option (Ctl σ ρ)} {qr : ρ → RsS → Prop} (hc : ∀ s b, g s = some b → evB cl (noRt (E s)) c (E s) = some (.ok (.bl b) (E s)))
    (hb : ∀ s w, f s = some w → Bk cl n body (E s) fun z => QC E qr w z) : ∀ (m : Nat) (s : σ) (w : Ctl σ ρ), whC g f m s = some w → ∃ z, whGo (fun t => evB cl (noRt t) c t) (exSs cl n body) m (E s) = some z ∧ QC E qr w z
  | 0, s, w, h => by cases h
  | m + 1, s, w, h => by
    obtain ⟨b, h1, h2⟩ := bd h
    have e := hc s b h1
    cases b with
    | false =>
      simp only [Bool.false_eq_true, if_false] at h2
      cases h2
      exact ⟨_, by simp only [whGo, e], rfl⟩
    | true =>
      simp only [if_true] at h2
      obtain ⟨w1, h3, h4⟩ := bd h2
      obtain ⟨z, h5, h6⟩ := hb s w1 h3
      cases w1 with
      | nx s1 =>
        cases h6
        obtain ⟨z, b1, b2⟩ := whC_ok hc hb m s1 w h4
        exact ⟨z, by simp only [whGo, e, h5]; exact b1, b2⟩
      | rt v =>
        cases h4
        refine ⟨z, ?_, h6⟩
        simp only [whGo, e, h5]
        split
        · rename_i t' h'
          cases h'
          exact absurd rfl (h6.1 _)
        · rfl
theorem k_whC {σ ρ : Type} {c : B P} {body : List (S P)} (E : σ → Tr) {g : σ → Option Bool} {f : σ → Option (Ctl σ ρ)} {qr : ρ → RsS → Prop} {s0 : σ} {w : Ctl σ ρ} (h : whC g f n s0 = some w) (h0 : t = E s0) (hc : ∀ s b, g s = some b → evB cl (noRt (E s)) c (E s) = some (.ok (.bl b) (E s)))
    (hb : ∀ s w, f s = some w → Bk cl n body (E s) fun z => QC E qr w z) (kn : ∀ s, w = .nx s → Bk cl n r (E s) q) (kr : ∀ v, w = .rt v → ∀ z, (∀ t, z ≠ .nx t) → qr v z → q z) : Bk cl n (.whl c body :: r) t q := by
  subst h0
  obtain ⟨z, a1, a2⟩ := whC_ok hc hb n s0 w h
  have e1 : exS cl n (.whl c body) (E s0) = some z := by simp only [exS]; exact a1
  cases w with
  | nx s => cases a2; exact k_nx e1 (kn s rfl)
  | rt v =>
    refine ⟨z, ?_, kr v rfl z a2.1 a2.2⟩
    simp only [exSs, e1]
    split
    · rename_i t' h'
      cases h'
      exact absurd rfl (a2.1 _)
    · rfl
/-! ### comprehensions -/
/-- one turn -/
noncomputable def oneLc (cl : Cl) (rt : Tr) (elt : B P) (tg : Tg) (ow : List Nat) (ifs : List (B P)) (x : D) (t2 : Tr) : Option (Rs (Option D)) :=
  (asg tg x t2).bind fun t3 => bindR (evIf cl (wipeT rt ow) ifs t3) fun b t4 => if b = true then bindR (evB cl (wipeT rt ow) elt t4) fun d t5 => some (.ok (some d) t5) else some (.ok none t4)
theorem lc_go {α β σ : Type} {os : List Opd} {ds : List D} {ow : List Nat} {one : D → Tr → Option (Rs (Option D))} {e : α → D} {e' : β → D} {E : σ → Tr} {f : σ → α → Option (Option β × σ)} (hos : ∀ s, opdDs (E s) os = some ds)
    (hb : ∀ s x y s', f s x = some (y, s') → ∃ t2, one (e x) (E s) = some (.ok (y.map e') t2) ∧ wipeT t2 ow = E s') : ∀ (xs : List α) (acc : List D) (s s' : σ) (ys : List β), acc.length + xs.length ≤ sizeLine → filS' f xs s = some (ys, s') → lcGo ow os ds one (xs.map e) acc (E s) = some (.ok (acc ++ ys.map e') (E s'))
  | [], acc, s, s', ys, hl, h => by
    cases h
    simp only [List.map_nil, lcGo, List.append_nil]; rw [if_pos (hos s)]
  | x :: xs, acc, s, s', ys, hl, h => by
    obtain ⟨⟨y, s1⟩, h1, h2⟩ := bd h
    obtain ⟨⟨zs, s2⟩, h3, h4⟩ := bd h2
    obtain ⟨t2, a1, a2⟩ := hb s x y s1 h1
    simp only [List.length_cons] at hl
    simp only [List.map_cons, lcGo]
    rw [if_pos (hos s), a1]
    cases y with
    | none =>
      cases h4
      simp only [Option.map_none, a2]
      exact lc_go hos hb xs acc s1 s2 zs (by omega) h3
    | some b =>
      cases h4
      simp only [Option.map_some, a2]
      rw [if_pos (by omega), lc_go hos hb xs (acc ++ [e' b]) s1 s2 zs (by simp; omega) h3]
      simp
theorem blcS {α β σ : Type} {elt : B P} {tg : Tg} {own : List (Str × Nat)} {it : Itr P} {es ifs : List (B P)} {os : List Opd} {ds : List D} {e : α → D} {e' : β → D} (E : σ → Tr) {f : σ → α → Option (Option β × σ)} {xs : List α} {ys : List β} {s0 s1 : σ} (h : filS f xs s0 = some (ys, s1))
    (h1 : evOs cl none rt es t = some (.ok os t1)) (h0 : wipeT t1 (own.map (·.2)) = E s0) (h2 : opdDs t1 os = some ds) (h3 : it.f ds = some (xs.map e)) (hos : ∀ s, opdDs (E s) os = some ds)
    (hb : ∀ s x y s', f s x = some (y, s') → ∃ t2, oneLc cl rt elt tg (own.map (·.2)) ifs (e x) (E s) = some (.ok (y.map e') t2) ∧ wipeT t2 (own.map (·.2)) = E s') :
    evB cl rt (.lc elt tg own it es ifs) t = some (.ok (eL true e' ys) (E s1)) := by
  unfold filS at h
  split at h
  · rename_i hl
    have z := lc_go (ow := own.map (·.2)) (os := os) (ds := ds) hos hb xs [] s0 s1 ys (by simpa using hl) h
    simp only [evB, h1, h2, Option.bind_some, h3, h0]
    unfold oneLc at z
    rw [z]
    simp
  · cases h
theorem filS_of_mapS' {α β σ : Type} {f : σ → α → Option (β × σ)} : ∀ (xs : List α) (s : σ), filS' (fun s x => Option.bind (f s x) fun p => some (some p.1, p.2)) xs s = mapS' f xs s
  | [], s => rfl
  | x :: xs, s => by
    simp only [filS', mapS']
    cases f s x with
    | none => rfl
    | some p => simp only [Option.bind_some, filS_of_mapS' xs p.2]
theorem filS_of_filO' {α β : Type} {f : α → Option (Option β)} : ∀ (xs : List α), filS' (fun (_ : Unit) x => Option.bind (f x) fun p => some (p, ())) xs () = Option.bind (filO' f xs) fun ys => some (ys, ())
  | [] => rfl
  | x :: xs => by
    simp only [filS', filO']
    cases f x with
    | none => rfl
    | some p =>
      simp only [Option.bind_some, filS_of_filO' xs]
      cases filO' f xs with
      | none => rfl
      | some ys => rfl
theorem filO_of_mapO' {α β : Type} {f : α → Option β} : ∀ (xs : List α), filO' (fun x => Option.bind (f x) fun p => some (some p)) xs = mapO' f xs
  | [] => rfl
  | x :: xs => by
    simp only [filO', mapO']
    cases f x with
    | none => rfl
    | some p => simp only [Option.bind_some, filO_of_mapO' xs]
theorem one_m {b' : Bool} {elt : B P} {tg : Tg} {ow : List Nat} {x d : D} (ha : asg tg x t = some t1) (he : evB cl (wipeT rt ow) elt t1 = some (.ok d t2)) : oneLc cl rt elt tg ow [] x t = some (.ok (some d) t2) := by
  simp only [oneLc, ha, Option.bind_some, evIf, bindR, if_true, he]
theorem one_t {elt c : B P} {tg : Tg} {ow : List Nat} {x d : D} {t3 : Tr} (ha : asg tg x t = some t1) (hc : evB cl (wipeT rt ow) c t1 = some (.ok (.bl true) t2)) (he : evB cl (wipeT rt ow) elt t2 = some (.ok d t3)) : oneLc cl rt elt tg ow [c] x t = some (.ok (some d) t3) := by
  simp only [oneLc, ha, Option.bind_some, evIf, hc, bindR, if_true, he]
theorem one_f {elt c : B P} {tg : Tg} {ow : List Nat} {x : D} (ha : asg tg x t = some t1) (hc : evB cl (wipeT rt ow) c t1 = some (.ok (.bl false) t2)) : oneLc cl rt elt tg ow [c] x t = some (.ok none t2) := by
  simp only [oneLc, ha, Option.bind_some, evIf, hc, bindR, Bool.false_eq_true, if_false]
/-- pure comprehensions -/
theorem blcM {α β : Type} {elt : B P} {tg : Tg} {own : List (Str × Nat)} {it : Itr P} {es : List (B P)} {os : List Opd} {ds : List D} {e : α → D} {e' : β → D} {f : α → Option β} {xs : List α} {ys : List β} (h : mapO f xs = some ys)
    (h1 : evOs cl none rt es t = some (.ok os t1)) (h0 : wipeT t1 (own.map (·.2)) = t') (h2 : opdDs t1 os = some ds) (h3 : it.f ds = some (xs.map e)) (h4 : opdDs t' os = some ds)
    (hb : ∀ x y, f x = some y → ∃ t2 t3, asg tg (e x) t' = some t2 ∧ evB cl (wipeT rt (own.map (·.2))) elt t2 = some (.ok (e' y) t3) ∧ wipeT t3 (own.map (·.2)) = t') :
    evB cl rt (.lc elt tg own it es []) t = some (.ok (eL true e' ys) t') := by
  unfold mapO at h
  split at h
  · rename_i hl
    refine blcS (fun (_ : Unit) => t') (f := fun (_ : Unit) x => Option.bind (Option.bind (f x) fun p => some (some p)) fun p => some (p, ())) (xs := xs) (s0 := ()) (s1 := ()) ?_ h1 h0 h2 h3 (fun _ => h4) fun s x y s' hf => ?_
    · unfold filS
      rw [if_pos hl, filS_of_filO' (f := fun x => Option.bind (f x) fun p => some (some p)), filO_of_mapO', h]; rfl
    · obtain ⟨a, e1, e2⟩ := bd hf
      obtain ⟨b, e3, e4⟩ := bd e1
      cases e4
      cases e2
      obtain ⟨t2, t3, k1, k2, k3⟩ := hb x b e3
      exact ⟨t3, one_m (b' := true) k1 k2, k3⟩
  · cases h
theorem blcF {α β : Type} {elt c : B P} {tg : Tg} {own : List (Str × Nat)} {it : Itr P} {es : List (B P)} {os : List Opd} {ds : List D} {e : α → D} {e' : β → D} {g : α → Option Bool} {f : α → Option β} {xs : List α} {ys : List β}
    (h : filO (fun x => Option.bind (g x) fun b => if b = true then Option.bind (f x) fun y => some (some y) else some none) xs = some ys)
    (h1 : evOs cl none rt es t = some (.ok os t1)) (h0 : wipeT t1 (own.map (·.2)) = t') (h2 : opdDs t1 os = some ds) (h3 : it.f ds = some (xs.map e)) (h4 : opdDs t' os = some ds)
    (hb : ∀ x b, g x = some b → ∃ t2, asg tg (e x) t' = some t2 ∧ evB cl (wipeT rt (own.map (·.2))) c t2 = some (.ok (.bl b) t2) ∧ wipeT t2 (own.map (·.2)) = t' ∧ ∀ y, f x = some y → evB cl (wipeT rt (own.map (·.2))) elt t2 = some (.ok (e' y) t2)) :
    evB cl rt (.lc elt tg own it es [c]) t = some (.ok (eL true e' ys) t') := by
  unfold filO at h
  split at h
  · rename_i hl
    refine blcS (fun (_ : Unit) => t') (f := fun (_ : Unit) x => Option.bind (Option.bind (g x) fun b => if b = true then Option.bind (f x) fun y => some (some y) else some none) fun p => some (p, ())) (xs := xs) (s0 := ()) (s1 := ()) ?_ h1 h0 h2 h3 (fun _ => h4) fun s x y s' hf => ?_
    · unfold filS
      rw [if_pos hl, filS_of_filO' (f := fun x => Option.bind (g x) fun b => if b = true then Option.bind (f x) fun y => some (some y) else some none), h]; rfl
    · obtain ⟨a, e1, e2⟩ := bd hf
      obtain ⟨b, e3, e4⟩ := bd e1
      cases e2
      obtain ⟨t2, k1, k2, k3, k4⟩ := hb x b e3
      cases b with
      | false => simp only [Bool.false_eq_true, if_false] at e4; cases e4; exact ⟨t2, one_f k1 k2, k3⟩
      | true =>
        simp only [if_true] at e4
        obtain ⟨z, e5, e6⟩ := bd e4
        cases e6
        exact ⟨t2, one_t k1 k2 (k4 z e5), k3⟩
  · cases h
/-- a def -/
def fin (args : List (Bool × D)) : RsS → CR
  | .nx t => .ok .non (outs args t)
  | .rt d t => .ok d (outs args t)
  | .ex x t => .ex x (outs args t)
theorem k_def {tab : FKey → Option (Df P)} {fuel k : Nat} {key : FKey} {args : List (Bool × D)} {df : Df P} {t0 : Tr} {c : CR} (h1 : tab key = some df) (h2 : args.length = df.ps.length) (h3 : lentOk df.pr 0 args = true)
    (h0 : (args.map (·.2)).map some ++ List.replicate (df.N.length - args.length) none = t0) (h4 : Bk (callN tab fuel k) fuel df.body t0 fun z => fin args z = c) : callN tab fuel (k + 1) key args = some c := by
  subst h0
  obtain ⟨z, e1, e2⟩ := h4
  show (tab key).bind (fun d => runD (callN tab fuel k) fuel d args) = _
  rw [h1]
  simp only [Option.bind_some, runD]
  rw [if_pos ⟨h2, h3⟩, e1]
  cases z <;> exact congrArg some e2
end
end Ev
end
section
set_option maxRecDepth 100000
set_option maxHeartbeats 4000000
namespace Ev
open PySem PySem.Spec L2
/-! ### more operations on values -/
def boI (b : Bool) : Int := if b then 1 else 0
def imax (i j : Int) : Int := if j > i then j else i
def imin (i j : Int) : Int := if j < i then j else i
def divmodO (a b : Int) : Option (Int × Int) := if 0 < b ∧ b < 2 ^ 64 then some (a / b, a % b) else none
def cutSO (z : Str) (lo hi : Option Int) : Option Str := if z.length ≤ sizeLine then some (cutS z lo hi) else none
section
variable {κ ν : Type} [DecidableEq κ]
def dhas : List (κ × ν) → κ → Bool
  | [], _ => false
  | p :: r, k => decide (p.1 = k) || dhas r k
def dget : List (κ × ν) → κ → Option ν
  | [], _ => none
  | p :: r, k => if p.1 = k then some p.2 else dget r k
def dset : List (κ × ν) → κ → ν → List (κ × ν)
  | [], k, v => [(k, v)]
  | p :: r, k, v => if p.1 = k then (p.1, v) :: r else p :: dset r k v
def dput (kvs : List (κ × ν)) (k : κ) (v : ν) : Option (List (κ × ν)) := if kvs.length < sizeLine then some (dset kvs k v) else none
abbrev eDk (kf : κ → Key) (o : Bool) (e : ν → D) (kvs : List (κ × ν)) : D := .dic o (kvs.map fun p => kf p.1) (kvs.map fun p => e p.2)
def Kf (kf : κ → Key) : Prop := ∀ a b, kf a = kf b → a = b
end
abbrev kI : Int → Key := Sum.inl
abbrev kS : Str → Key := Sum.inr
theorem kfI : Kf kI := fun _ _ h => Sum.inl.inj h
theorem kfS : Kf kS := fun _ _ h => Sum.inr.inj h
section
variable {P : Pg} {α β γ : Type}
theorem t_list {o : Bool} {e : α → D} {xs : List α} (he : Fz e) : (opList : Opr P).f [eL o e xs] = some (eL true e xs) := by
  show listF [.lst o (xs.map e)] = _
  simp only [listF, isFs_map he, if_true]
theorem t_listS {xs : List Int} : (opList : Opr P).f [eScr xs] = some (eL true eI xs) := rfl
theorem t_listQ {q : Q} {xs : List Q} (h : asX q = some xs) : (opList : Opr P).f [eQ q] = some (eL true eQ xs) := by
  cases q <;> simp only [asX] at h <;> cases h
  · show listF [.tup (eQs _)] = _
    simp only [listF, eQs_map, isFs_map fzQ, if_true]
  · show listF [.lst false (eQs _)] = _
    simp only [listF, eQs_map, isFs_map fzQ, if_true]
theorem t_tupQ {o : Bool} {xs : List Q} : (opTuple : Opr P).f [eL o eQ xs] = some (eQ (.tup xs)) := by
  show tupleF [.lst o (xs.map eQ)] = _
  simp only [tupleF, isFs_map fzQ, if_true, eQ, eQs_map]
theorem t_tupI {o : Bool} {xs : List Int} : (opTuple : Opr P).f [eL o eI xs] = some (eQ (.tup (xs.map Q.int))) := by
  show tupleF [.lst o (xs.map eI)] = _
  simp only [tupleF, isFs_map fzI, if_true, eQ, eQs_map, List.map_map]
  rfl
theorem t_tupS {o : Bool} {xs : List Str} : (opTuple : Opr P).f [eL o eS xs] = some (eQ (.tup (xs.map Q.str))) := by
  show tupleF [.lst o (xs.map eS)] = _
  simp only [tupleF, isFs_map fzS, if_true, eQ, eQs_map, List.map_map]
  rfl
theorem t_tupX {q : Q} {xs : List Q} (h : asX q = some xs) : (opTuple : Opr P).f [eQ q] = some (eQ (.tup xs)) := by
  cases q <;> simp only [asX] at h <;> cases h
  · show tupleF [.tup (eQs _)] = _
    simp only [tupleF, eQs_map, isFs_map fzQ, if_true, eQ]
  · show tupleF [.lst false (eQs _)] = _
    simp only [tupleF, eQs_map, isFs_map fzQ, if_true, eQ]
theorem g_inD {a b : D} {c : Bool} (h : inDO a b = some c) : (opInD : Opr P).f [a, b] = some (.bl c) := by
  show (inDO a b).map _ = _
  rw [h]; rfl
theorem g_ninD {a b : D} {c : Bool} (h : inDO a b = some c) : (opNotInD : Opr P).f [a, b] = some (.bl (!c)) := by
  show (inDO a b).map _ = _
  rw [h]; rfl
theorem isNon_O {e : α → D} (h : ∀ a, isNonD (e a) = false) : ∀ x : Option α, isNonD (eO e x) = x.isNone
  | none => rfl
  | some a => h a
theorem g_is {e : α → D} {x : Option α} (h : ∀ a, isNonD (e a) = false) : (opIs : Opr P).f [eO e x, .non] = some (.bl x.isNone) := by
  show isF' false (eO e x) .non = _
  rw [← isNon_O h]
  cases x <;> rfl
theorem g_isn {e : α → D} {x : Option α} (h : ∀ a, isNonD (e a) = false) : (opIsNot : Opr P).f [eO e x, .non] = some (.bl (!x.isNone)) := by
  show isF' true (eO e x) .non = _
  rw [← isNon_O h]
  cases x <;> rfl
theorem t_max1 {o : Bool} {ns : List Int} {m : Int} (h : maxI ns = some m) : (opMax1 : Opr P).f [eL o eI ns] = some (.int m) := by
  show (intsD (ns.map D.int)).bind _ = _
  rw [intsD_map, Option.bind_some, h]; rfl
theorem t_min1 {o : Bool} {ns : List Int} {m : Int} (h : minI ns = some m) : (opMin1 : Opr P).f [eL o eI ns] = some (.int m) := by
  show (intsD (ns.map D.int)).bind _ = _
  rw [intsD_map, Option.bind_some, h]; rfl
theorem t_sum {o : Bool} {ns : List Int} : (opSum : Opr P).f [eL o eI ns] = some (.int ns.sum) := by
  show (intsD (ns.map D.int)).bind _ = _
  rw [intsD_map]; rfl
theorem t_sorted {o : Bool} {ns : List Int} : (opSorted : Opr P).f [eL o eI ns] = some (eL true eI (sortI ns)) := by
  show (intsD (ns.map D.int)).bind _ = _
  rw [intsD_map]; rfl
theorem t_all {o : Bool} {ns : List Bool} : (opAll : Opr P).f [eL o eB ns] = some (.bl (ns.all id)) := by
  show (blsD (ns.map D.bl)).bind _ = _
  rw [blsD_map]; rfl
theorem t_any {o : Bool} {ns : List Bool} : (opAny : Opr P).f [eL o eB ns] = some (.bl (ns.any id)) := by
  show (blsD (ns.map D.bl)).bind _ = _
  rw [blsD_map]; rfl
theorem t_divmod {a b : Int} {p : Int × Int} (h : divmodO a b = some p) : (opDivmod : Opr P).f [.int a, .int b] = some (eT2 eI eI p) := by
  unfold divmodO at h
  split at h
  · rename_i hc
    cases h
    show divmodF [.int a, .int b] = _
    simp only [divmodF, hc, and_self, if_true]
  · cases h
theorem slG_L {o : Bool} {e : α → D} {xs : List α} {lo hi : Option Int} (he : Fz e) : slG lo hi (eL o e xs) = some (eL true e (cutL xs lo hi)) := by
  simp only [slG, isFs_map he, if_true, cut_map]
theorem slG_S {z y : Str} {lo hi : Option Int} (h : cutSO z lo hi = some y) : slG lo hi (.str z) = some (.str y) := by
  unfold cutSO at h
  split at h
  · rename_i hc; cases h; simp only [slG, hc, if_true]
  · cases h
theorem t_lo {d z : D} {i : Int} (h : slG (some i) none d = some z) : (opSlLo : Opr P).f [d, .int i] = some z := h
theorem t_hi {d z : D} {i : Int} (h : slG none (some i) d = some z) : (opSlHi : Opr P).f [d, .int i] = some z := h
theorem t_rev {o : Bool} {e : α → D} {xs : List α} (he : Fz e) : (opRevS : Opr P).f [eL o e xs] = some (eL true e xs.reverse) := by
  show revF [.lst o (xs.map e)] = _
  simp only [revF, isFs_map he, if_true]
  rw [eL, List.map_reverse]
theorem enum_map (f : α → β) : ∀ (xs : List α) (n : Nat), enumFrom n (xs.map f) = (enumFrom n xs).map fun p => (p.1, f p.2)
  | [], _ => rfl
  | x :: r, n => by simp only [List.map_cons, enumFrom, enum_map f r]
theorem w_en {o : Bool} {e : α → D} {xs : List α} (he : Fz e) : (itEnum : Itr P).f [eL o e xs] = some ((enumFrom 0 xs).map (eT2 eI e)) := by
  show enF [.lst o (xs.map e)] = _
  simp only [enF, isFs_map he, if_true, enumD, enum_map, List.map_map]
  rfl
theorem m_ext {e : α → D} {xs ys zs : List α} (he : Fz e) (h : catO xs ys = some zs) : (mExtend : Mut P).f (eL true e xs) [eL true e ys] = some (.non, eL true e zs) := by
  unfold catO at h; split at h
  · rename_i h1
    cases h
    show extF (.lst true (xs.map e)) [.lst true (ys.map e)] = _
    simp only [extF, isFs_map he, List.length_map]
    rw [if_pos ⟨trivial, h1⟩, eL, List.map_append]
  · cases h
theorem m_rev {e : α → D} {xs : List α} (he : Fz e) : (mReverse : Mut P).f (eL true e xs) [] = some (.non, eL true e xs.reverse) := by
  show revMF (.lst true (xs.map e)) [] = _
  simp only [revMF, isFs_map he, if_true]
  rw [eL, List.map_reverse]
theorem m_clr {e : α → D} {xs : List α} : (mClear : Mut P).f (eL true e xs) [] = some (.non, eL true e ([] : List α)) := rfl
theorem ach {t rt : Tr} {o1 o2 : CmpOp} {a b c : A P} {x y z : Int} (ha : evA t rt a = some (.int x)) (hb : evA t rt b = some (.int y)) (hc : evA t rt c = some (.int z)) : evA t rt (.ch o1 o2 a b c) = some (.bl (cmpB o1 x y && cmpB o2 y z)) := by
  simp only [evA, ha, hb, hc]
  cases cmpB o1 x y <;> simp
theorem aslc {t rt : Tr} {a b c : A P} {d z : D} {i j : Int} (ha : evA t rt a = some d) (hb : evA t rt b = some (.int i)) (hc : evA t rt c = some (.int j)) (h : slG (some i) (some j) d = some z) : evA t rt (.slc a b c) = some z := by
  simp only [evA, ha, hb, hc, h]
/-! dicts -/
section
variable {κ ν : Type} [DecidableEq κ] {kf : κ → Key} {o : Bool} {e : ν → D}
theorem dhas_K (hk : Kf kf) (k : κ) : ∀ kvs : List (κ × ν), hasK (kvs.map fun p => kf p.1) (kf k) = dhas kvs k
  | [] => rfl
  | p :: r => by
    rw [List.map_cons, hasK_cons, dhas_K hk k r, dhas]
    by_cases h : p.1 = k
    · simp [h]
    · have : ¬ kf p.1 = kf k := fun z => h (hk _ _ z)
      simp [h, this]
theorem dget_K (hk : Kf kf) (k : κ) : ∀ kvs : List (κ × ν), valD (kvs.map fun p => kf p.1) (kvs.map fun p => e p.2) (kf k) = (dget kvs k).map e
  | [] => rfl
  | p :: r => by
    have ih := dget_K hk k r
    unfold valD at ih ⊢
    rw [List.map_cons, List.map_cons, List.zip_cons_cons, List.find?_cons, dget]
    by_cases h : p.1 = k
    · simp [h]
    · have : ¬ kf p.1 = kf k := fun z => h (hk _ _ z)
      simp only [this, decide_false, h, if_false, ih]
theorem i_D {t : D} {k : κ} {v : ν} {kvs : List (κ × ν)} (hk : Kf kf) (ht : keyD t = some (kf k)) (h : dget kvs k = some v) : getI (eDk kf o e kvs) t = some (e v) := by
  cases t <;> simp [keyD] at ht
  all_goals
    simp only [getI, keyD, ht, Option.bind_some, List.length_map, if_true, dget_K hk, h, Option.map_some]
theorem g_din {t : D} {k : κ} {kvs : List (κ × ν)} (hk : Kf kf) (ht : keyD t = some (kf k)) : (opDin false : Opr P).f [t, eDk kf o e kvs] = some (.bl (dhas kvs k)) := by
  show (keyD t).map _ = _
  rw [ht]
  simp [dhas_K hk]
theorem g_dnin {t : D} {k : κ} {kvs : List (κ × ν)} (hk : Kf kf) (ht : keyD t = some (kf k)) : (opDin true : Opr P).f [t, eDk kf o e kvs] = some (.bl (!dhas kvs k)) := by
  show (keyD t).map _ = _
  rw [ht]
  simp [dhas_K hk]
theorem l_D {kvs : List (κ × ν)} : (opLenD : Opr P).f [eDk kf o e kvs] = some (.int (kvs.length : Int)) := by
  show some (D.int ((kvs.map _).length : Int)) = _
  rw [List.length_map]
theorem dset_K (hk : Kf kf) (k : κ) (v : ν) : ∀ kvs : List (κ × ν), (dset kvs k v).map (fun p => kf p.1) = putDk (kvs.map fun p => kf p.1) (kf k) ∧ (dset kvs k v).map (fun p => e p.2) = putDv (kvs.map fun p => kf p.1) (kvs.map fun p => e p.2) (kf k) (e v)
  | [] => ⟨rfl, rfl⟩
  | p :: r => by
    obtain ⟨h1, h2⟩ := dset_K hk k v r
    unfold putDk putDv at *
    by_cases h : p.1 = k
    · have hh : hasK ((p :: r).map fun p => kf p.1) (kf k) = true := by rw [List.map_cons, hasK_cons, h]; simp
      rw [hh, dset, if_pos h]
      simp only [if_true, List.map_cons, true_and]
      have hi : idxK (kf p.1 :: r.map fun p => kf p.1) (kf k) = 0 := by simp [idxK, List.findIdx_cons, h]
      rw [hi]; rfl
    · have hn : ¬ kf p.1 = kf k := fun z => h (hk _ _ z)
      have hh : hasK ((p :: r).map fun p => kf p.1) (kf k) = hasK (r.map fun p => kf p.1) (kf k) := by rw [List.map_cons, hasK_cons]; simp [hn]
      have hi : idxK (kf p.1 :: r.map fun p => kf p.1) (kf k) = idxK (r.map fun p => kf p.1) (kf k) + 1 := by simp [idxK, List.findIdx_cons, hn]
      rw [hh, dset, if_neg h]
      simp only [List.map_cons, h1, h2, hi]
      cases hasK (r.map fun p => kf p.1) (kf k) <;> simp
theorem m_dput {t : D} {k : κ} {v : ν} {kvs kvs' : List (κ × ν)} (hk : Kf kf) (ht : keyD t = some (kf k)) (h : dput kvs k v = some kvs') : (putD : Put P).f (eDk kf true e kvs) [t] (e v) = some (eDk kf true e kvs') := by
  unfold dput at h
  split at h
  · rename_i hc
    cases h
    show putDF (.dic true (kvs.map fun p => kf p.1) (kvs.map fun p => e p.2)) [t] (e v) = _
    obtain ⟨h1, h2⟩ := dset_K (e := e) hk k v kvs
    simp only [putDF, ht, Option.bind_some, List.length_map, hc, if_true, eDk, h1, h2]
  · cases h
theorem fzD (he : Fz e) : Fz (eDk kf false e) := fun kvs => by
  show isF (.dic false (kvs.map fun p => kf p.1) (kvs.map fun p => e p.2)) = true
  simp only [isF]
  have : (kvs.map fun p => e p.2) = (kvs.map (·.2)).map e := by simp [Function.comp_def]
  rw [this, isFs_map he]; rfl
theorem frD {e' : ν → D} (he : Fr e e') : Fr (eDk kf o e) (eDk kf false e') := fun kvs => by
  show frz (.dic o (kvs.map fun p => kf p.1) (kvs.map fun p => e p.2)) = _
  simp only [frz]
  have h1 : (kvs.map fun p => e p.2) = (kvs.map (·.2)).map e := by simp [Function.comp_def]
  have h2 : (kvs.map fun p => e' p.2) = (kvs.map (·.2)).map e' := by simp [Function.comp_def]
  rw [h1, frzs_map he, eDk, h2]
end
/-! statements -/
section
variable {cl : Cl} {n : Nat} {t t1 t' : Tr} {r : List (S P)} {q : RsS → Prop}
theorem beqv {b : B P} {rt : Tr} {x y : D} (p : evB cl rt b t = some (.ok x t1)) (h : x = y) : evB cl rt b t = some (.ok y t1) := h ▸ p
theorem sunp {l : List Tg} {i : Nat} {xs : List D} (h : t[i]? = some (some (.lst true xs))) (hf : isFs xs = true) (e : asgs l xs t = some t') : exS cl n (.unp l i : S P) t = some (.nx t') := by
  simp only [exS, h, hf, if_true, e, Option.map_some]
end
end
end Ev
end
section
set_option maxRecDepth 100000
set_option maxHeartbeats 4000000
namespace Ev
open PySem PySem.Spec L2
/-! ### and, or whose later parts change the state -/
variable {P : Pg} {cl : Cl} {t t1 t2 t3 rt : Tr} {σ : Type}
theorem band2S {a b : B P} {r : List (B P)} {x : Bool} (E : σ → Tr) (s0 : σ) {m : Option (Bool × σ)} {c : Bool × σ} (h : evB cl rt a t = some (.ok (.bl x) (E s0))) (hr : ∀ y, m = some y → evAn cl rt (b :: r) (E s0) = some (.ok (.bl y.1) (E y.2))) (hc : (if x = true then m else some (false, s0)) = some c) : evAn cl rt (a :: b :: r) t = some (.ok (.bl c.1) (E c.2)) := by
  have e : evAn cl rt (a :: b :: r) t = bindR (evB cl rt a t) fun d t1 => match d with
    | .bl true => evAn cl rt (b :: r) t1
    | .bl false => some (.ok (.bl false) t1)
    | _ => none := by
      first
        | (rw [evAn]; rfl; exact fun h => by cases h)
        | (rw [evAn]; exact fun h => by cases h)
  rw [e, h]
  cases x
  · simp at hc; subst hc; simp [bindR]
  · simp at hc; simp [bindR, hr c hc]
theorem bor2S {a b : B P} {r : List (B P)} {x : Bool} (E : σ → Tr) (s0 : σ) {m : Option (Bool × σ)} {c : Bool × σ} (h : evB cl rt a t = some (.ok (.bl x) (E s0))) (hr : ∀ y, m = some y → evOn cl rt (b :: r) (E s0) = some (.ok (.bl y.1) (E y.2))) (hc : (if x = true then some (true, s0) else m) = some c) : evOn cl rt (a :: b :: r) t = some (.ok (.bl c.1) (E c.2)) := by
  have e : evOn cl rt (a :: b :: r) t = bindR (evB cl rt a t) fun d t1 => match d with
    | .bl false => evOn cl rt (b :: r) t1
    | .bl true => some (.ok (.bl true) t1)
    | _ => none := by
      first
        | (rw [evOn]; rfl; exact fun h => by cases h)
        | (rw [evOn]; exact fun h => by cases h)
  rw [e, h]
  cases x
  · simp at hc; simp [bindR, hr c hc]
  · simp at hc; subst hc; simp [bindR]
end Ev
end
section
set_option maxRecDepth 100000
set_option maxHeartbeats 4000000
namespace Ev
open PySem PySem.Spec L2
/-! ### instances: fields, methods, making -/
section
variable {P : Pg} {t rt : Tr}
theorem w_rev {α : Type} {o : Bool} {e : α → D} {xs : List α} (he : Fz e) : (itRev : Itr P).f [eL o e xs] = some (xs.reverse.map e) := by
  show rwF [.lst o (xs.map e)] = _
  simp only [rwF, isFs_map he, if_true, List.map_reverse]
theorem zip_look {f : Str} : ∀ {fs : List Str} {xs : List D} {q : Nat} {d : D}, idxOf f fs = some q → xs[q]? = some d → (fs.zip xs).lookup f = some d
  | [], xs, q, d, h, _ => by simp [idxOf] at h
  | g :: fs, [], q, d, h, hd => by simp at hd
  | g :: fs, x :: xs, q, d, h, hd => by
    rw [List.zip_cons_cons, List.lookup_cons]
    by_cases e : g = f
    · simp only [idxOf, if_pos e] at h
      cases h
      rw [e, beq_self_eq_true]; simpa using hd
    · simp only [idxOf, if_neg e] at h
      obtain ⟨q', h1, rfl⟩ := Option.map_eq_some_iff.mp h
      rw [show (f == g) = false from beq_eq_false_iff_ne.mpr fun z => e z.symm]
      exact zip_look h1 (by simpa using hd)
theorem aatt {a : A P} {f : Str} {o : Bool} {C : Str} {fs : List Str} {xs : List D} {q : Nat} {d : D} (h : evA t rt a = some (.ins o C fs xs)) (hat : P.att C f = true) (hq : idxOf f fs = some q) (hd : xs[q]? = some d) : evA t rt (.att a f) = some d := by
  simp only [evA, h, Option.bind_some, getA]
  rw [if_pos hat, zip_look hq hd]
theorem m_putA {f C : Str} {fs : List Str} {xs : List D} {q : Nat} {y : D} (hat : P.att C f = true) (hl : Nat.blt fs.length 900 = true) (hq : idxOf f fs = some q) : (putA f : Put P).f (.ins true C fs xs) [] y = some (.ins true C fs (xs.set q y)) := by
  simp only [putA, putAF]
  rw [if_pos ⟨hat, Nat.le_of_ble_eq_true hl⟩, hq]
theorem m_putN {f C : Str} {fs : List Str} {xs : List D} {y : D} (hat : P.att C f = true) (hl : Nat.blt fs.length 900 = true) (hq : idxOf f fs = none) : (putA f : Put P).f (.ins true C fs xs) [] y = some (.ins true C (fs ++ [f]) (xs ++ [y])) := by
  simp only [putA, putAF]
  rw [if_pos ⟨hat, Nat.le_of_ble_eq_true hl⟩, hq]
end
section
variable {P : Pg} {cl : Cl} {t t1 t2 t3 rt : Tr}
theorem isC_m {C m : Str} {fs : List Str} {o : Bool} {xs : List D} (h : fs.contains m = false) : isC C m (.ins o C fs xs) = true := by
  show decide (C = C ∧ m ∉ fs) = true
  refine decide_eq_true ⟨rfl, fun k => ?_⟩
  rw [List.contains_iff_mem.mpr k] at h; cases h
/-- a method's call -/
theorem bmeth {C m : Str} {es : List (B P)} {os : List Opd} {args : List (Bool × D)} {d d0 : D} {l : Bool} {o : List (Option D)} {d1 : D} (h00 : hdD cl rt es t = some d1) (h0 : isC C m d1 = true) (h1 : evOs cl none rt es t = some (.ok os t1)) (h2 : lend none os t1 = some ((l, d0) :: args, t2)) (hc : isC C m d0 = true) (h3 : cl (C, some m) ((l, d0) :: args) = some (.ok d o)) (h4 : giveB os o t2 none = some (t3, none)) :
    evB cl rt (.call (.meth C m) none es) t = some (.ok d t3) := by
  simp only [evB]
  rw [h00, if_pos (show rcvOk (.meth C m) (some d1) = true from h0)]
  simp only [resF, h1, bindR, callK, h2, Option.bind_some, fkey]
  rw [if_pos hc]
  simp only [Option.bind_some, backF, h3, backR, h4, noW, Option.map_some]
/-- an instance made -/
theorem bmkd {C : Str} {dv : D} {es : List (B P)} {os : List Opd} {args : List (Bool × D)} {d : D} {o : List (Option D)} (h1 : evOs cl none rt es t = some (.ok os t1)) (h2 : lend none os t1 = some (args, t2)) (h3 : cl (C, some "__init__") ((true, .ins true C [] []) :: (args ++ [(false, dv)])) = some (.ok .non (some d :: o))) (h4 : giveB os o.dropLast t2 none = some (t3, none)) (h5 : o ≠ []) :
    evB cl rt (.call (.mkd C dv) none es) t = some (.ok d t3) := by
  cases o with
  | nil => exact absurd rfl h5
  | cons x r =>
    have e : cutO (cl (C, some "__init__") (((true, .ins true C [] []) :: args) ++ [(false, dv)])) = some (.ok .non (some d :: (x :: r).dropLast)) := by
      rw [List.cons_append, h3]; rfl
    simp only [evB, rcvOk, if_true, resF, Option.bind_some, h1, bindR, callK, h2, Option.bind_some, fkey, backF, e, backM, h4, noW, Option.map_some]
theorem bmk {C : Str} {es : List (B P)} {os : List Opd} {args : List (Bool × D)} {d : D} {o : List (Option D)} (h1 : evOs cl none rt es t = some (.ok os t1)) (h2 : lend none os t1 = some (args, t2)) (h3 : cl (C, some "__init__") ((true, .ins true C [] []) :: args) = some (.ok .non (some d :: o))) (h4 : giveB os o t2 none = some (t3, none)) :
    evB cl rt (.call (.mk C) none es) t = some (.ok d t3) := by
  simp only [evB, rcvOk, if_true, resF, Option.bind_some, h1, bindR, callK, h2, Option.bind_some, fkey, backF, h3, backM, h4, noW, Option.map_some]
end
end Ev
end
section
set_option maxRecDepth 100000
set_option maxHeartbeats 4000000
namespace Ev
open PySem PySem.Spec L2
/-! ### a partial value that is there and is so -/
def Ok {α : Type} (m : Option α) (p : α → Prop) : Prop := ∃ a, m = some a ∧ p a
section
variable {α β σ ρ : Type}
theorem ok_some {a : α} {p : α → Prop} (h : p a) : Ok (some a) p := ⟨a, rfl, h⟩
theorem ok_bind {m : Option α} {f : α → Option β} {p : α → Prop} {q : β → Prop} (h : Ok m p) (k : ∀ a, p a → Ok (f a) q) : Ok (Option.bind m f) q := by
  obtain ⟨a, rfl, ha⟩ := h
  exact k a ha
theorem ok_eq {m : Option α} {a : α} {p : α → Prop} (h : m = some a) (k : p a) : Ok m p := ⟨a, h, k⟩
theorem ok_is {m : Option α} {a : α} (h : Ok m fun r => r = a) : m = some a := by obtain ⟨b, e, rfl⟩ := h; exact e
theorem ok_mono {m : Option α} {p q : α → Prop} (h : Ok m p) (k : ∀ a, p a → q a) : Ok m q := by
  obtain ⟨a, e, ha⟩ := h; exact ⟨a, e, k a ha⟩
theorem ok_iff {c : Prop} [Decidable c] {m n : Option α} {p : α → Prop} (h1 : c → Ok m p) (h2 : ¬ c → Ok n p) : Ok (if c then m else n) p := by
  split
  · exact h1 (by assumption)
  · exact h2 (by assumption)
theorem ok_mod {a b : Int} {p : Int → Prop} (hb : 0 < b) (h : 0 ≤ a % b → a % b < b → p (a % b)) : Ok (modO a b) p :=
  ⟨a % b, by unfold modO; rw [if_pos hb], h (Int.emod_nonneg _ (by omega)) (Int.emod_lt_of_pos _ hb)⟩
theorem modO_eq {a b : Int} (hb : 0 < b) : modO a b = some (a % b) := by unfold modO; rw [if_pos hb]
theorem divO_eq {a b : Int} (hb : 0 < b) (h : b < 2 ^ 64) : divO a b = some (a / b) := by unfold divO; rw [if_pos ⟨hb, h⟩]
theorem mulO_eq {a b : Int} (h : a.natAbs < 2 ^ 64 ∨ b.natAbs < 2 ^ 64) : mulO a b = some (a * b) := by unfold mulO; rw [if_pos h]
theorem powO_eq {a b : Int} (h : 0 ≤ b) (h2 : b ≤ 1000000) (h3 : a.natAbs < 2 ^ 64) : powO a b = some (a ^ b.toNat) := by unfold powO; rw [if_pos ⟨h, h2, h3⟩]
theorem shlO_eq {a b : Int} (h : 0 ≤ b) (h2 : b ≤ 1000000) (h3 : a.natAbs < 2 ^ 64) : shlO a b = some (a * 2 ^ b.toNat) := by unfold shlO; rw [if_pos ⟨h, h2, h3⟩]
theorem shrO_eq {a b : Int} (h : 0 ≤ b) : shrO a b = some (a / 2 ^ b.toNat) := by unfold shrO; rw [if_pos h]
theorem rngO_eq {a b : Int} (h1 : -(2 ^ 62) ≤ a) (h2 : a < 2 ^ 62) (h3 : -(2 ^ 62) ≤ b) (h4 : b < 2 ^ 62) : rngO a b = some (rng a b) := by unfold rngO; rw [if_pos ⟨h1, h2, h3, h4⟩]
theorem appO_eq {xs : List α} {x : α} (h : xs.length < sizeLine) : appO xs x = some (xs ++ [x]) := by unfold appO; rw [if_pos h]
theorem catO_eq {xs ys : List α} (h : xs.length + ys.length ≤ sizeLine) : catO xs ys = some (xs ++ ys) := by unfold catO; rw [if_pos h]
theorem sz : sizeLine = 16777216 := by decide
theorem ixO_at {xs : List α} {i : Int} (h : 0 ≤ i) (h2 : i < xs.length) : ixO xs i = some (xs[i.toNat]'(by omega)) := by
  unfold ixO atI ixN
  rw [if_pos h, if_pos h2, Option.bind_some]
  exact List.getElem?_eq_getElem (by omega)
theorem ixO_nat {xs : List α} {n : Nat} {x : α} (h : xs[n]? = some x) : ixO xs (n : Int) = some x := by
  have := (List.getElem?_eq_some_iff.mp h).1
  unfold ixO atI ixN
  rw [if_pos (by omega), if_pos (by omega), Option.bind_some]
  simpa using h
theorem ixO_last {xs : List α} {x : α} : ixO (xs ++ [x]) (-1) = some x := atI_last xs x
theorem popO_last {xs : List α} {x : α} : popO (xs ++ [x]) = some (x, xs) := by simp [popO]
theorem eqD_ints {o o' : Bool} (xs ys : List Int) : eqD (eL o eI xs) (eL o' eI ys) = some (decide (xs = ys)) := by
  have h1 := shaped_ints xs
  have h2 := shaped_ints ys
  have e : ∀ xs ys : List Int, PyData.eqvAll (xs.map PyData.int) (ys.map PyData.int) = decide (xs = ys) := by
    intro xs
    induction xs with
    | nil => intro ys; cases ys <;> simp [PyData.eqvAll]
    | cons x xs ih =>
      intro ys
      cases ys with
      | nil => simp [PyData.eqvAll]
      | cons y ys =>
        rw [List.map_cons, List.map_cons, PyData.eqvAll, ih ys]
        by_cases h : x = y <;> simp [PyData.eqv, h]
  show eqD (.lst o (xs.map D.int)) (.lst o' (ys.map D.int)) = _
  simp only [eqD, toPy, toPys_ints, Option.map_some, h1, h2, and_self, if_true, PyData.eqv]
  rw [e]
theorem rng_mem {a b x : Int} : x ∈ rng a b ↔ a ≤ x ∧ x < b := by
  simp only [rng, List.mem_map, List.mem_range]
  constructor
  · rintro ⟨i, h, rfl⟩; omega
  · intro h; exact ⟨(x - a).toNat, by omega, by omega⟩
theorem rng_length {a b : Int} : (rng a b).length = (b - a).toNat := by simp [rng]
theorem rng_get {a b : Int} {i : Nat} (h : i < (b - a).toNat) : (rng a b)[i]? = some (a + i) := by simp [rng, h]
end
/-! equality of data -/
mutual
def Q.py : Q → PyData
  | .non => .none
  | .bl b => .bool b
  | .int i => .int i
  | .str x => .str x
  | .tup xs => .tuple (Q.pys xs)
  | .lst xs => .list (Q.pys xs)
def Q.pys : List Q → List PyData
  | [] => []
  | x :: r => x.py :: Q.pys r
end
mutual
theorem toPy_eQ : ∀ q : Q, toPy (eQ q) = some q.py
  | .non => rfl
  | .bl _ => rfl
  | .int _ => rfl
  | .str _ => rfl
  | .tup xs => by simp only [eQ, toPy, toPys_eQs xs, Option.map_some, Q.py]
  | .lst xs => by simp only [eQ, toPy, toPys_eQs xs, Option.map_some, Q.py]
theorem toPys_eQs : ∀ q : List Q, toPys (eQs q) = some (Q.pys q)
  | [] => rfl
  | x :: xs => by simp only [eQs, toPys, toPy_eQ x, toPys_eQs xs, Q.pys]
end
mutual
/-- no truths in it -/
def Q.nb : Q → Bool
  | .bl _ => false
  | .tup xs => Q.nbs xs
  | .lst xs => Q.nbs xs
  | _ => true
def Q.nbs : List Q → Bool
  | [] => true
  | x :: r => x.nb && Q.nbs r
end
mutual
def Q.beq : Q → Q → Bool
  | .non, .non => true
  | .bl a, .bl b => a == b
  | .int a, .int b => a == b
  | .str a, .str b => a == b
  | .tup a, .tup b => Q.beqs a b
  | .lst a, .lst b => Q.beqs a b
  | _, _ => false
def Q.beqs : List Q → List Q → Bool
  | [], [] => true
  | x :: r, y :: t => x.beq y && Q.beqs r t
  | _, _ => false
end
mutual
theorem Q.beq_iff : ∀ a b : Q, a.beq b = true ↔ a = b
  | .non, b => by cases b <;> simp [Q.beq]
  | .bl x, b => by cases b <;> simp [Q.beq]
  | .int x, b => by cases b <;> simp [Q.beq]
  | .str x, b => by cases b <;> simp [Q.beq]
  | .tup x, b => by cases b <;> simp [Q.beq, Q.beqs_iff]
  | .lst x, b => by cases b <;> simp [Q.beq, Q.beqs_iff]
theorem Q.beqs_iff : ∀ a b : List Q, Q.beqs a b = true ↔ a = b
  | [], b => by cases b <;> simp [Q.beqs]
  | x :: r, b => by cases b <;> simp [Q.beqs, Q.beq_iff x, Q.beqs_iff r]
end
instance : DecidableEq Q := fun a b => decidable_of_iff _ (Q.beq_iff a b)
mutual
theorem Q.eqv : ∀ a b : Q, a.nb = true → b.nb = true → PyData.eqv a.py b.py = a.beq b
  | .non, b, _, h => by cases b <;> simp [Q.nb] at h <;> rfl
  | .bl x, b, h, _ => by simp [Q.nb] at h
  | .int x, b, _, h => by cases b <;> simp [Q.nb] at h <;> rfl
  | .str x, b, _, h => by cases b <;> simp [Q.nb] at h <;> rfl
  | .tup x, b, h, h2 => by
    cases b <;> first | (simp [Q.nb] at h2; done) | rfl | skip
    all_goals
      simp only [Q.nb] at h h2
      simp only [Q.py, PyData.eqv, Q.beq]
    exact Q.eqvs _ _ h h2
  | .lst x, b, h, h2 => by
    cases b <;> first | (simp [Q.nb] at h2; done) | rfl | skip
    all_goals
      simp only [Q.nb] at h h2
      simp only [Q.py, PyData.eqv, Q.beq]
    exact Q.eqvs _ _ h h2
theorem Q.eqvs : ∀ a b : List Q, Q.nbs a = true → Q.nbs b = true → PyData.eqvAll (Q.pys a) (Q.pys b) = Q.beqs a b
  | [], b, _, _ => by cases b <;> rfl
  | x :: r, b, h, h2 => by
    cases b with
    | nil => rfl
    | cons y t =>
      simp only [Q.nbs, Bool.and_eq_true] at h h2
      simp only [Q.pys, PyData.eqvAll, Q.beqs, Q.eqv x y h.1 h2.1, Q.eqvs r t h.2 h2.2]
end
/-- data that may be compared -/
def Q.gd (q : Q) : Bool := q.nb && SeqAt.shaped q.py
theorem eqD_gd {a b : Q} {d e : D} (h1 : toPy d = some a.py) (h2 : toPy e = some b.py) (ha : a.gd = true) (hb : b.gd = true) : eqD d e = some (decide (a = b)) := by
  unfold Q.gd at ha hb
  rw [Bool.and_eq_true] at ha hb
  simp only [eqD, h1, h2, ha.2, hb.2, and_self, if_true, Q.eqv a b ha.1 hb.1]
  congr 1
  rw [Bool.eq_iff_iff, Q.beq_iff, decide_eq_true_iff]
theorem eqQ_gd {a b : Q} (ha : a.gd = true) (hb : b.gd = true) : eqD (eQ a) (eQ b) = some (decide (a = b)) := eqD_gd (toPy_eQ a) (toPy_eQ b) ha hb
theorem toPys_map {α : Type} {e : α → D} {q : α → Q} (h : ∀ a, toPy (e a) = some (q a).py) : ∀ xs : List α, toPys (xs.map e) = some (Q.pys (xs.map q))
  | [] => rfl
  | x :: xs => by simp only [List.map_cons, toPys, h x, toPys_map h xs, Q.pys]
theorem toPy_L {α : Type} {e : α → D} {q : α → Q} {o : Bool} (h : ∀ a, toPy (e a) = some (q a).py) (xs : List α) : toPy (eL o e xs) = some (Q.lst (xs.map q)).py := by
  simp only [toPy, toPys_map h xs, Option.map_some, Q.py]
theorem toPy_T2 {α β : Type} {e1 : α → D} {e2 : β → D} {q1 : α → Q} {q2 : β → Q} (h1 : ∀ a, toPy (e1 a) = some (q1 a).py) (h2 : ∀ a, toPy (e2 a) = some (q2 a).py) (p : α × β) : toPy (eT2 e1 e2 p) = some (Q.tup [q1 p.1, q2 p.2]).py := by
  simp only [toPy, toPys, h1, h2, Option.map_some, Q.py, Q.pys]
theorem toPy_I (i : Int) : toPy (eI i) = some (Q.int i).py := rfl
theorem toPy_S (i : Str) : toPy (eS i) = some (Q.str i).py := rfl
mutual
def Q.dp : Nat → Q → Bool
  | _, .bl _ => false
  | _, .str x => PyData.strOk x
  | 0, .tup _ => false
  | 0, .lst _ => false
  | n + 1, .tup xs => Q.dps n xs
  | n + 1, .lst xs => Q.dps n xs
  | _, _ => true
def Q.dps : Nat → List Q → Bool
  | _, [] => true
  | n, x :: r => x.dp n && Q.dps n r
end
mutual
theorem Q.dp_ok : ∀ (n : Nat) (q : Q), q.dp n = true → q.nb = true ∧ q.py.canLay0 = true ∧ q.py.depth ≤ n
  | n, .non, _ => by simp [Q.nb, Q.py, PyData.canLay0, PyData.depth]
  | n, .bl b, h => by simp [Q.dp] at h
  | n, .int i, _ => by simp [Q.nb, Q.py, PyData.canLay0, PyData.depth]
  | n, .str i, h => by
    simp only [Q.dp] at h
    simp [Q.nb, Q.py, PyData.canLay0, PyData.depth, h]
  | 0, .tup xs, h => by simp [Q.dp] at h
  | 0, .lst xs, h => by simp [Q.dp] at h
  | n + 1, .tup xs, h => by
    simp only [Q.dp] at h
    obtain ⟨h1, h2, h3⟩ := Q.dps_ok n xs h
    simp only [Q.nb, Q.py, PyData.canLay0, PyData.depth]
    exact ⟨h1, h2, by omega⟩
  | n + 1, .lst xs, h => by
    simp only [Q.dp] at h
    obtain ⟨h1, h2, h3⟩ := Q.dps_ok n xs h
    simp only [Q.nb, Q.py, PyData.canLay0, PyData.depth]
    exact ⟨h1, h2, by omega⟩
theorem Q.dps_ok : ∀ (n : Nat) (q : List Q), Q.dps n q = true → Q.nbs q = true ∧ PyData.canLayAll0 (Q.pys q) = true ∧ PyData.depthAll (Q.pys q) ≤ n
  | n, [], _ => by simp [Q.nbs, Q.pys, PyData.canLayAll0, PyData.depthAll]
  | n, x :: r, h => by
    simp only [Q.dps, Bool.and_eq_true] at h
    obtain ⟨h1, h2, h3⟩ := Q.dp_ok n x h.1
    obtain ⟨k1, k2, k3⟩ := Q.dps_ok n r h.2
    simp only [Q.nbs, Q.pys, PyData.canLayAll0, PyData.depthAll, h1, h2, k1, k2, Bool.and_self, true_and]
    omega
end
theorem Q.gd_of {n : Nat} {q : Q} (h : q.dp n = true) (hn : n ≤ 64) : q.gd = true := by
  obtain ⟨h1, h2, h3⟩ := Q.dp_ok n q h
  unfold Q.gd SeqAt.shaped
  rw [h1, h2, decide_eq_true (by omega : q.py.depth ≤ 64)]; rfl
theorem Q.dps_all {n : Nat} : ∀ {xs : List Q}, (∀ x ∈ xs, x.dp n = true) → Q.dps n xs = true
  | [], _ => rfl
  | x :: xs, h => by
    rw [Q.dps, h x (by simp), Q.dps_all (xs := xs) fun y hy => h y (List.mem_cons_of_mem _ hy)]; rfl
theorem eqLQ {o o' : Bool} {xs ys : List Q} (h1 : ∀ x ∈ xs, x.dp 60 = true) (h2 : ∀ x ∈ ys, x.dp 60 = true) : eqD (eL o eQ xs) (eL o' eQ ys) = some (decide (xs = ys)) := by
  have e := eqD_gd (toPy_L (o := o) (q := fun x => x) toPy_eQ xs) (toPy_L (o := o') (q := fun x => x) toPy_eQ ys) (Q.gd_of (n := 61) (by simp only [List.map_id', Q.dp]; exact Q.dps_all h1) (by decide)) (Q.gd_of (n := 61) (by simp only [List.map_id', Q.dp]; exact Q.dps_all h2) (by decide))
  rw [e]
  simp
section
variable {α β σ ρ : Type}
/-! loops -/
theorem ok_forO' {f : σ → α → Option σ} {L : List α} {I : List α → σ → Prop} (step : ∀ pre x post s, L = pre ++ x :: post → I pre s → Ok (f s x) (I (pre ++ [x]))) : ∀ (l pre : List α) (s : σ), L = pre ++ l → I pre s → Ok (forO f l s) (I L)
  | [], pre, s, e, h => ⟨s, rfl, by rw [e, List.append_nil]; exact h⟩
  | x :: l, pre, s, e, h => by
    obtain ⟨s1, h1, h2⟩ := step pre x l s e h
    obtain ⟨s2, h3, h4⟩ := ok_forO' step l (pre ++ [x]) s1 (by rw [e]; simp) h2
    exact ⟨s2, by simp only [forO, h1, Option.bind_some]; exact h3, h4⟩
theorem ok_forO {f : σ → α → Option σ} {xs : List α} (I : List α → σ → Prop) {s0 : σ} (h0 : I [] s0) (step : ∀ pre x post s, xs = pre ++ x :: post → I pre s → Ok (f s x) (I (pre ++ [x]))) : Ok (forO f xs s0) (I xs) := ok_forO' step xs [] s0 rfl h0
/-- .. whose turns do not hang on what went before -/
theorem ok_for {f : σ → α → Option σ} {xs : List α} {J : σ → Prop} {s0 : σ} (h0 : J s0) (step : ∀ x ∈ xs, ∀ s, J s → Ok (f s x) J) : Ok (forO f xs s0) J :=
  ok_forO (fun _ s => J s) h0 fun pre x post s e h => step x (by rw [e]; simp) s h
theorem ok_forC' {f : σ → α → Option (Ctl σ ρ)} {L : List α} {I : List α → σ → Prop} {R : ρ → Prop} (step : ∀ pre x post s, L = pre ++ x :: post → I pre s → Ok (f s x) fun w => match w with
      | .nx s' => I (pre ++ [x]) s'
      | .rt v => R v) : ∀ (l pre : List α) (s : σ), L = pre ++ l → I pre s → Ok (forC f l s) fun w => match w with
      | .nx s' => I L s'
      | .rt v => R v
  | [], pre, s, e, h => ⟨_, rfl, by rw [e, List.append_nil]; exact h⟩
  | x :: l, pre, s, e, h => by
    obtain ⟨w, h1, h2⟩ := step pre x l s e h
    cases w with
    | nx s1 =>
      obtain ⟨s2, h3, h4⟩ := ok_forC' step l (pre ++ [x]) s1 (by rw [e]; simp) h2
      exact ⟨s2, by simp only [forC, h1, Option.bind_some]; exact h3, h4⟩
    | rt v => exact ⟨.rt v, by simp only [forC, h1, Option.bind_some], h2⟩
theorem ok_forC {f : σ → α → Option (Ctl σ ρ)} {xs : List α} (I : List α → σ → Prop) (R : ρ → Prop) {s0 : σ} (h0 : I [] s0) (step : ∀ pre x post s, xs = pre ++ x :: post → I pre s → Ok (f s x) fun w => match w with
      | .nx s' => I (pre ++ [x]) s'
      | .rt v => R v) : Ok (forC f xs s0) fun w => match w with
      | .nx s' => I xs s'
      | .rt v => R v := ok_forC' step xs [] s0 rfl h0
/-- a walk that never ends early -/
theorem ok_forN {f : σ → α → Option (Ctl σ ρ)} {xs : List α} (I : List α → σ → Prop) {s0 : σ} {p : Ctl σ ρ → Prop} (h0 : I [] s0) (step : ∀ pre x post s, xs = pre ++ x :: post → I pre s → Ok (f s x) fun w => ∃ s', w = .nx s' ∧ I (pre ++ [x]) s') (k : ∀ s, I xs s → p (.nx s)) : Ok (forC f xs s0) p := by
  refine ok_mono (ok_forC I (fun _ => False) h0 fun pre x post s e h => ok_mono (step pre x post s e h) ?_) ?_
  · rintro w ⟨s', rfl, h⟩; exact h
  · intro w h
    cases w with
    | nx s => exact k s h
    | rt v => exact h.elim
theorem mapO'_eq {f : α → Option β} {g : α → β} : ∀ (xs : List α), (∀ x ∈ xs, f x = some (g x)) → mapO' f xs = some (xs.map g)
  | [], _ => rfl
  | x :: xs, h => by
    rw [mapO', h x (by simp), Option.bind_some, mapO'_eq xs fun y hy => h y (by simp [hy])]; rfl
theorem mapO_eq {f : α → Option β} {g : α → β} {xs : List α} (hl : xs.length ≤ sizeLine) (h : ∀ x ∈ xs, f x = some (g x)) : mapO f xs = some (xs.map g) := by
  unfold mapO; rw [if_pos hl, mapO'_eq xs h]
theorem filO'_eq {f : α → Option (Option β)} {g : α → Option β} : ∀ (xs : List α), (∀ x ∈ xs, f x = some (g x)) → filO' f xs = some (xs.filterMap g)
  | [], _ => rfl
  | x :: xs, h => by
    rw [filO', h x (by simp), Option.bind_some, filO'_eq xs fun y hy => h y (by simp [hy]), Option.bind_some, List.filterMap_cons]
    cases g x <;> rfl
theorem filO_eq {f : α → Option (Option β)} {g : α → Option β} {xs : List α} (hl : xs.length ≤ sizeLine) (h : ∀ x ∈ xs, f x = some (g x)) : filO f xs = some (xs.filterMap g) := by
  unfold filO; rw [if_pos hl, filO'_eq xs h]
theorem ok_mapS' {f : σ → α → Option (β × σ)} {R : β → Prop} {J : σ → Prop} : ∀ (xs : List α) (s : σ), J s → (∀ x ∈ xs, ∀ s, J s → Ok (f s x) fun p => R p.1 ∧ J p.2) → Ok (mapS' f xs s) fun p => p.1.length = xs.length ∧ (∀ y ∈ p.1, R y) ∧ J p.2
  | [], s, h, _ => ⟨_, rfl, rfl, by simp, h⟩
  | x :: xs, s, h, k => by
    obtain ⟨p, h1, h2, h3⟩ := k x (by simp) s h
    obtain ⟨q, h4, h5, h6, h7⟩ := ok_mapS' xs p.2 h3 fun y hy => k y (by simp [hy])
    refine ⟨(p.1 :: q.1, q.2), by simp only [mapS', h1, Option.bind_some, h4], by simp [h5], ?_, h7⟩
    intro y hy
    rcases List.mem_cons.mp hy with rfl | hy
    · exact h2
    · exact h6 y hy
theorem forO_map {γ : Type} {f : σ → β → Option σ} {g : α → β} : ∀ (l : List α) (s : σ), forO f (l.map g) s = forO (fun s x => f s (g x)) l s
  | [], s => rfl
  | x :: l, s => by
    simp only [List.map_cons, forO]
    cases f s (g x) with
    | none => rfl
    | some s' => exact forO_map (γ := γ) l s'
theorem forC_map {f : σ → β → Option (Ctl σ ρ)} {g : α → β} : ∀ (l : List α) (s : σ), forC f (l.map g) s = forC (fun s x => f s (g x)) l s
  | [], s => rfl
  | x :: l, s => by
    simp only [List.map_cons, forC]
    cases f s (g x) with
    | none => rfl
    | some w =>
      cases w with
      | nx s' => exact forC_map l s'
      | rt v => rfl
/-- a walk over images: split by the items -/
theorem ok_forM {f : σ → β → Option σ} {g : α → β} {l : List α} (I : List α → σ → Prop) {s0 : σ} (h0 : I [] s0) (step : ∀ pre x post s, l = pre ++ x :: post → I pre s → Ok (f s (g x)) (I (pre ++ [x]))) : Ok (forO f (l.map g) s0) (I l) := by
  rw [forO_map (γ := Unit)]; exact ok_forO I h0 step
theorem ok_forMN {f : σ → β → Option (Ctl σ ρ)} {g : α → β} {l : List α} (I : List α → σ → Prop) {s0 : σ} {p : Ctl σ ρ → Prop} (h0 : I [] s0) (step : ∀ pre x post s, l = pre ++ x :: post → I pre s → Ok (f s (g x)) fun w => ∃ s', w = .nx s' ∧ I (pre ++ [x]) s') (k : ∀ s, I l s → p (.nx s)) : Ok (forC f (l.map g) s0) p := by
  rw [forC_map]; exact ok_forN I h0 step k
theorem ok_forE' {f : σ → Int × α → Option σ} {L : List α} {I : List α → σ → Prop} (step : ∀ pre x post s, L = pre ++ x :: post → I pre s → Ok (f s (((pre.length : Nat) : Int), x)) (I (pre ++ [x]))) : ∀ (l pre : List α) (s : σ), L = pre ++ l → I pre s → Ok (forO f (enumFrom pre.length l) s) (I L)
  | [], pre, s, e, h => ⟨s, rfl, by rw [e, List.append_nil]; exact h⟩
  | x :: l, pre, s, e, h => by
    obtain ⟨s1, h1, h2⟩ := step pre x l s e h
    obtain ⟨s2, h3, h4⟩ := ok_forE' step l (pre ++ [x]) s1 (by rw [e]; simp) h2
    refine ⟨s2, ?_, h4⟩
    simp only [enumFrom, forO, h1, Option.bind_some]
    rw [List.length_append] at h3
    exact h3
/-- a walk over the numbered items -/
theorem ok_forE {f : σ → Int × β → Option σ} {g : α → β} {l : List α} (I : List α → σ → Prop) {s0 : σ} (h0 : I [] s0) (step : ∀ pre x post s, l = pre ++ x :: post → I pre s → Ok (f s (((pre.length : Nat) : Int), g x)) (I (pre ++ [x]))) : Ok (forO f (enumFrom 0 (l.map g)) s0) (I l) := by
  rw [enum_map, forO_map (γ := Unit)]
  exact ok_forE' step l [] s0 rfl h0
theorem filO'_map {f : β → Option (Option ρ)} {g : α → β} : ∀ l : List α, filO' f (l.map g) = filO' (fun x => f (g x)) l
  | [] => rfl
  | x :: l => by simp only [List.map_cons, filO', filO'_map l]
theorem mapO'_map {f : β → Option ρ} {g : α → β} : ∀ l : List α, mapO' f (l.map g) = mapO' (fun x => f (g x)) l
  | [] => rfl
  | x :: l => by simp only [List.map_cons, mapO', mapO'_map l]
theorem filO_map {f : β → Option (Option ρ)} {g : α → β} {l : List α} : filO f (l.map g) = filO (fun x => f (g x)) l := by unfold filO; rw [List.length_map, filO'_map]
theorem mapO_map {f : β → Option ρ} {g : α → β} {l : List α} : mapO f (l.map g) = mapO (fun x => f (g x)) l := by unfold mapO; rw [List.length_map, mapO'_map]
/-- a while by a measure -/
theorem ok_wh {c : σ → Option Bool} {f : σ → Option σ} {p : σ → Prop} (I : σ → Prop) (μ : σ → Nat) (hc : ∀ s, I s → ∃ b, c s = some b ∧ (b = false → p s) ∧ (b = true → Ok (f s) fun s' => I s' ∧ μ s' < μ s)) : ∀ (n : Nat) (s : σ), I s → μ s < n → Ok (whO c f n s) p
  | 0, s, _, h => absurd h (Nat.not_lt_zero _)
  | n + 1, s, hI, hn => by
    obtain ⟨b, h1, h2, h3⟩ := hc s hI
    simp only [whO, h1, Option.bind_some]
    cases b with
    | false => exact ⟨s, rfl, h2 rfl⟩
    | true =>
      obtain ⟨s', h4, h5, h6⟩ := h3 rfl
      simp only [if_true, h4, Option.bind_some]
      exact ok_wh I μ hc n s' h5 (by omega)
theorem cut_lo {xs : List α} {a : Int} (h : 0 ≤ a) : cutL xs (some a) none = xs.drop a.toNat := by
  obtain ⟨n, rfl⟩ : ∃ n : Nat, a = n := ⟨a.toNat, by omega⟩
  unfold cutL
  rw [HT.sIx_nat, HT.sIx_none, Int.toNat_natCast]
  by_cases hn : n ≤ xs.length
  · rw [Nat.min_eq_left hn]
    exact List.take_of_length_le (by rw [List.length_drop]; omega)
  · rw [Nat.min_eq_right (by omega), List.drop_of_length_le (Nat.le_refl _), List.drop_of_length_le (by omega)]; simp
theorem cut_hi {xs : List α} {a : Int} (h : 0 ≤ a) : cutL xs none (some a) = xs.take a.toNat := by
  obtain ⟨n, rfl⟩ : ∃ n : Nat, a = n := ⟨a.toNat, by omega⟩
  unfold cutL
  rw [HT.sIx_nat, HT.sIx_none, Int.toNat_natCast, List.drop_zero, Nat.sub_zero]
  by_cases hn : n ≤ xs.length
  · rw [Nat.min_eq_left hn]
  · rw [Nat.min_eq_right (by omega), List.take_of_length_le (Nat.le_refl _), List.take_of_length_le (by omega)]
theorem cut_mid {xs : List α} {a b : Int} (h : 0 ≤ a) (h2 : 0 ≤ b) : cutL xs (some a) (some b) = (xs.drop a.toNat).take (b.toNat - a.toNat) := by
  obtain ⟨n, rfl⟩ : ∃ n : Nat, a = n := ⟨a.toNat, by omega⟩
  obtain ⟨m, rfl⟩ : ∃ m : Nat, b = m := ⟨b.toNat, by omega⟩
  unfold cutL
  rw [HT.sIx_nat, HT.sIx_nat, Int.toNat_natCast, Int.toNat_natCast]
  by_cases hn : n ≤ xs.length
  · rw [Nat.min_eq_left hn]
    by_cases hm : m ≤ xs.length
    · rw [Nat.min_eq_left hm]
    · rw [Nat.min_eq_right (by omega), List.take_of_length_le (by rw [List.length_drop]; omega), List.take_of_length_le (by rw [List.length_drop]; omega)]
  · rw [List.drop_of_length_le (by omega : xs.length ≤ min n xs.length), List.drop_of_length_le (by omega : xs.length ≤ n)]; simp
section
variable {κ ν : Type} [DecidableEq κ]
theorem dhas_dset (k k' : κ) (v : ν) : ∀ d : List (κ × ν), dhas (dset d k v) k' = (decide (k = k') || dhas d k')
  | [] => by simp [dset, dhas]
  | p :: r => by
    rw [dset]
    split
    · rename_i h
      subst h
      simp only [dhas]
      cases decide (p.1 = k') <;> simp
    · simp only [dhas, dhas_dset k k' v r]
      cases decide (k = k') <;> cases decide (p.1 = k') <;> simp
theorem dget_dset (k k' : κ) (v : ν) : ∀ d : List (κ × ν), dget (dset d k v) k' = if k = k' then some v else dget d k'
  | [] => by simp [dset, dget]
  | p :: r => by
    rw [dset]
    split
    · rename_i h
      subst h
      simp only [dget]
      split <;> rfl
    · rename_i h
      simp only [dget, dget_dset k k' v r]
      by_cases h1 : p.1 = k'
      · have : ¬ k = k' := fun e => h (h1.trans e.symm)
        simp [h1, this]
      · simp [h1]
theorem dset_len (k : κ) (v : ν) : ∀ d : List (κ × ν), (dset d k v).length ≤ d.length + 1
  | [] => by simp [dset]
  | p :: r => by
    rw [dset]
    split
    · simp
    · have := dset_len k v r; simp; omega
theorem dput_eq {d : List (κ × ν)} {k : κ} {v : ν} (h : d.length < sizeLine) : dput d k v = some (dset d k v) := by unfold dput; rw [if_pos h]
end
end
end Ev
end
section
set_option maxRecDepth 100000
set_option maxHeartbeats 4000000
namespace Ev
open PySem PySem.Spec L2
/-! ### bits -/
theorem and_pow (m j : Nat) : m &&& 2 ^ j = if m.testBit j = true then 2 ^ j else 0 := by
  apply Nat.eq_of_testBit_eq
  intro i
  rw [Nat.testBit_and, Nat.testBit_two_pow]
  split
  · rename_i h
    rw [Nat.testBit_two_pow]
    by_cases e : j = i
    · subst e; simp [h]
    · simp [e]
  · rename_i h
    rw [Nat.zero_testBit]
    by_cases e : j = i
    · subst e; simp [h]
    · simp [e]
theorem bx_nat (m n : Nat) : Builtin.bitXor (m : Int) (n : Int) = ((m ^^^ n : Nat) : Int) := by
  rw [Bits.bitXor_pp (by omega) (by omega)]; simp
theorem bo_nat (m n : Nat) : Builtin.bitOr (m : Int) (n : Int) = ((m ||| n : Nat) : Int) := by
  rw [Bits.bitOr_pp (by omega) (by omega)]; simp
theorem ba_nat (m n : Nat) : Builtin.bitAnd (m : Int) (n : Int) = ((m &&& n : Nat) : Int) := by
  rw [PyProof.Rows.bitAnd_pp (by omega) (by omega)]; simp
/-- a mark put in that is not there -/
theorem or_pow_of_not {m j : Nat} (h : m.testBit j = false) : Builtin.bitOr (m : Int) ((2 ^ j : Nat) : Int) = ((m ^^^ 2 ^ j : Nat) : Int) := by
  rw [← bx_nat]
  show _ = Builtin.bitOr _ _ - Builtin.bitAnd _ _
  rw [ba_nat, and_pow, h]; simp
/-- a mark taken out that is there -/
theorem sub_pow_of_bit {m j : Nat} (h : m.testBit j = true) : (m : Int) - ((2 ^ j : Nat) : Int) = ((m ^^^ 2 ^ j : Nat) : Int) := by
  rw [← bx_nat]
  show _ = Builtin.bitOr _ _ - Builtin.bitAnd _ _
  rw [PyProof.Rows.bitOr_and, ba_nat, and_pow, h]; simp
theorem bit_int (m j : Nat) : decide (Builtin.bitAnd ((m : Int) / 2 ^ j) 1 = 1) = m.testBit j := by
  have e : ((m : Int) / 2 ^ j) = ((m / 2 ^ j : Nat) : Int) := by
    rw [Int.natCast_ediv]; simp
  rw [e, show (1 : Int) = ((1 : Nat) : Int) from rfl, ba_nat, Nat.and_one_is_mod, Nat.testBit_eq_decide_div_mod_eq]
  rw [Bool.eq_iff_iff, decide_eq_true_iff, decide_eq_true_iff]
  omega
theorem div_pow_nat (m j : Nat) : (m : Int) / 2 ^ j = ((m / 2 ^ j : Nat) : Int) := by rw [Int.natCast_ediv]; simp
theorem shr_nat (m : Nat) {k : Int} (h : 0 ≤ k) : shrO (m : Int) k = some ((m / 2 ^ k.toNat : Nat) : Int) := by
  rw [shrO_eq h, div_pow_nat]
theorem shl1_nat {k : Int} (h : 0 ≤ k) (h2 : k ≤ 1000000) : shlO 1 k = some ((2 ^ k.toNat : Nat) : Int) := by
  rw [shlO_eq h h2 (by decide)]; simp
theorem div_pow_zero {m j : Nat} : m / 2 ^ j = 0 ↔ m < 2 ^ j := Nat.div_eq_zero_iff_lt (Nat.two_pow_pos j)
end Ev
end
section
set_option maxRecDepth 100000
set_option maxHeartbeats 4000000
namespace Ev
open PySem PySem.Spec L2
section
variable {α β σ ρ : Type}
/-- a walk with numbers that may end early -/
theorem ok_forCE' {f : σ → Int × α → Option (Ctl σ ρ)} {L : List α} {I : List α → σ → Prop} {R : ρ → Prop} (step : ∀ pre x post s, L = pre ++ x :: post → I pre s → Ok (f s (((pre.length : Nat) : Int), x)) fun w => match w with
      | .nx s' => I (pre ++ [x]) s'
      | .rt v => R v) : ∀ (l pre : List α) (s : σ), L = pre ++ l → I pre s → Ok (forC f (enumFrom pre.length l) s) fun w => match w with
      | .nx s' => I L s'
      | .rt v => R v
  | [], pre, s, e, h => ⟨.nx s, rfl, by rw [e, List.append_nil]; exact h⟩
  | x :: l, pre, s, e, h => by
    obtain ⟨w, h1, h2⟩ := step pre x l s e h
    show Ok (Option.bind (f s (((pre.length : Nat) : Int), x)) _) _
    rw [h1, Option.bind_some]
    cases w with
    | rt v => exact ok_some h2
    | nx s1 =>
      have := ok_forCE' step l (pre ++ [x]) s1 (by rw [e]; simp) h2
      rw [List.length_append] at this
      exact this
theorem ok_forCE {f : σ → Int × β → Option (Ctl σ ρ)} {g : α → β} {l : List α} (I : List α → σ → Prop) (R : ρ → Prop) {s0 : σ} (h0 : I [] s0) (step : ∀ pre x post s, l = pre ++ x :: post → I pre s → Ok (f s (((pre.length : Nat) : Int), g x)) fun w => match w with
      | .nx s' => I (pre ++ [x]) s'
      | .rt v => R v) : Ok (forC f (enumFrom 0 (l.map g)) s0) fun w => match w with
      | .nx s' => I l s'
      | .rt v => R v := by
  rw [enum_map, forC_map]
  exact ok_forCE' step l [] s0 rfl h0
theorem ok_forNE {f : σ → Int × β → Option (Ctl σ ρ)} {g : α → β} {l : List α} (I : List α → σ → Prop) {s0 : σ} {p : Ctl σ ρ → Prop} (h0 : I [] s0) (step : ∀ pre x post s, l = pre ++ x :: post → I pre s → Ok (f s (((pre.length : Nat) : Int), g x)) fun w => ∃ s', w = .nx s' ∧ I (pre ++ [x]) s') (k : ∀ s, I l s → p (.nx s)) : Ok (forC f (enumFrom 0 (l.map g)) s0) p := by
  refine ok_mono (ok_forCE I (fun _ => False) h0 fun pre x post s e h => ok_mono (step pre x post s e h) ?_) ?_
  · rintro w ⟨s', rfl, h⟩; exact h
  · intro w h
    cases w with
    | nx s => exact k s h
    | rt v => exact h.elim
end
end Ev
end
section
set_option maxRecDepth 100000
set_option maxHeartbeats 4000000
namespace Ev
open PySem PySem.Spec L2
/-! ### data whose outermost list may be owned -/
def eQo (o : Bool) : Q → D
  | .lst xs => .lst o (eQs xs)
  | .non => .non
  | .bl b => .bl b
  | .int i => .int i
  | .str x => .str x
  | .tup xs => .tup (eQs xs)
theorem qo_f (q : Q) : eQ q = eQo false q := by cases q <;> rfl
theorem qo_fr : ∀ {o : Bool} (q : Q), frz (eQo o q) = eQ q
  | o, .lst xs => by
    show frz (.lst o (eQs xs)) = .lst false (eQs xs)
    rw [eQs_map, frz, frzs_map (frOf fzQ)]
  | _, .non => rfl
  | _, .bl _ => rfl
  | _, .int _ => rfl
  | _, .str _ => rfl
  | _, .tup xs => (frOf fzQ) (.tup xs)
/-! ### one way of writing a value to another -/
section
variable {α β γ δ : Type} {e : α → D} {e' : β → D}
theorem cvL {o : Bool} {f : α → β} (h : ∀ a, e a = e' (f a)) (xs : List α) : eL o e xs = eL o e' (xs.map f) := by
  simp only [eL, List.map_map]
  congr 1
  exact List.map_congr_left fun a _ => h a
theorem cvO {f : α → β} (h : ∀ a, e a = e' (f a)) : ∀ x : Option α, eO e x = eO e' (x.map f)
  | none => rfl
  | some a => h a
theorem cvS (x : α) : e x = eO e (some x) := rfl
def oQ (f : α → Q) : Option α → Q
  | none => .non
  | some a => f a
theorem cvOQ {f : α → Q} (h : ∀ a, e a = eQ (f a)) : ∀ x : Option α, eO e x = eQ (oQ f x)
  | none => rfl
  | some a => h a
theorem cvLQ {f : α → Q} (h : ∀ a, e a = eQ (f a)) (xs : List α) : eL false e xs = eQ (.lst (xs.map f)) := by
  rw [cvL h]; show D.lst false ((xs.map f).map eQ) = .lst false (eQs (xs.map f)); rw [eQs_map]
theorem cvLo {o : Bool} {f : α → Q} (h : ∀ a, e a = eQ (f a)) (xs : List α) : eL o e xs = eQo o (.lst (xs.map f)) := by
  rw [cvL h]; show D.lst o ((xs.map f).map eQ) = .lst o (eQs (xs.map f)); rw [eQs_map]
theorem cvLQ0 (xs : List Q) : eL false eQ xs = eQ (.lst xs) := by show D.lst false (xs.map eQ) = .lst false (eQs xs); rw [eQs_map]
theorem cvLo0 {o : Bool} (xs : List Q) : eL o eQ xs = eQo o (.lst xs) := by show D.lst o (xs.map eQ) = .lst o (eQs xs); rw [eQs_map]
theorem cvT2 {e1 : α → D} {e2 : β → D} {f1 : α → Q} {f2 : β → Q} (h1 : ∀ a, e1 a = eQ (f1 a)) (h2 : ∀ a, e2 a = eQ (f2 a)) (p : α × β) : eT2 e1 e2 p = eQ (.tup [f1 p.1, f2 p.2]) := by
  show D.tup [_, _] = D.tup [_, _]
  rw [h1, h2]
theorem cvT3 {e1 : α → D} {e2 : β → D} {e3 : γ → D} {f1 : α → Q} {f2 : β → Q} {f3 : γ → Q} (h1 : ∀ a, e1 a = eQ (f1 a)) (h2 : ∀ a, e2 a = eQ (f2 a)) (h3 : ∀ a, e3 a = eQ (f3 a)) (p : α × β × γ) : eT3 e1 e2 e3 p = eQ (.tup [f1 p.1, f2 p.2.1, f3 p.2.2]) := by
  show D.tup [_, _, _] = D.tup [_, _, _]
  rw [h1, h2, h3]
end
/-! ### operations -/
def inFO (a b : D) : Option Bool := match inF false a b with
  | some (.bl r) => some r
  | _ => none
def isNonQ : Q → Bool
  | .non => true
  | _ => false
def ixSO (z : Str) (i : Int) : Option Str := if z.length ≤ sizeLine then (atI z.cps.toList i).map fun c => ⟨#[c]⟩ else none
def catS (a b : Str) : Option Str := if a.length + b.length ≤ sizeLine then some (a ++ b) else none
def catQ : Q → Q → Option Q
  | .tup xs, .tup ys => if xs.length + ys.length ≤ sizeLine then some (.tup (xs ++ ys)) else none
  | _, _ => none
section
variable {P : Pg} {α β : Type}
theorem inF_neg {a b : D} {r : Bool} (h : inF false a b = some (.bl r)) : inF true a b = some (.bl (!r)) := by
  unfold inF at h ⊢
  split at h
  · split at h
    · rename_i hc; rw [if_pos hc]; simp only [Bool.false_eq_true, if_false, Option.some.injEq, D.bl.injEq] at h; rw [h]; rfl
    · cases h
  · split at h
    · rename_i hc; rw [if_pos hc]; simp only [Bool.false_eq_true, if_false, Option.some.injEq, D.bl.injEq] at h; rw [h]; rfl
    · cases h
  · split at h
    · rename_i hc; rw [if_pos hc]; simp only [Bool.false_eq_true, if_false, Option.some.injEq, D.bl.injEq] at h; rw [h]; rfl
    · cases h
  · cases h
theorem inFO_e {a b : D} {c : Bool} (h : inFO a b = some c) : inF false a b = some (.bl c) := by
  unfold inFO at h
  split at h
  · rename_i e; cases h; exact e
  · cases h
theorem g_inF {a b : D} {c : Bool} (h : inFO a b = some c) : (opIn : Opr P).f [a, b] = some (.bl c) := inFO_e h
theorem g_ninF {a b : D} {c : Bool} (h : inFO a b = some c) : (opNotIn : Opr P).f [a, b] = some (.bl (!c)) := inF_neg (inFO_e h)
theorem isNon_Q (q : Q) : isNonD (eQ q) = isNonQ q := by cases q <;> rfl
theorem g_isQ (q : Q) : (opIs : Opr P).f [eQ q, .non] = some (.bl (isNonQ q)) := by
  rw [← isNon_Q]
  show isF' false (eQ q) .non = _
  cases q <;> rfl
theorem g_isnQ (q : Q) : (opIsNot : Opr P).f [eQ q, .non] = some (.bl (!isNonQ q)) := by
  rw [← isNon_Q]
  show isF' true (eQ q) .non = _
  cases q <;> rfl
theorem g_isN {d : D} (h : isNonD d = false) : (opIs : Opr P).f [d, .non] = some (.bl false) := by
  show isF' false d .non = _
  cases d <;> first | rfl | cases h
theorem g_isnN {d : D} (h : isNonD d = false) : (opIsNot : Opr P).f [d, .non] = some (.bl true) := by
  show isF' true d .non = _
  cases d <;> first | rfl | cases h
theorem g_isB (a b : Bool) : (opIs : Opr P).f [.bl a, .bl b] = some (.bl (decide (a = b))) := rfl
theorem g_isnB (a b : Bool) : (opIsNot : Opr P).f [.bl a, .bl b] = some (.bl (!decide (a = b))) := rfl
theorem t_tupG {o : Bool} {e : α → D} {f : α → Q} (h : ∀ a, e a = eQ (f a)) {xs : List α} : (opTuple : Opr P).f [eL o e xs] = some (eQ (.tup (xs.map f))) := by
  rw [cvL h]; exact t_tupQ
theorem j_S {z : Str} {i : Int} {x : Str} (h : ixSO z i = some x) : (opIx : Opr P).f [.str z, .int i] = some (.str x) := by
  show ixF [.str z, .int i] = _
  unfold ixSO at h
  simp only [ixF]
  split at h
  · rename_i hz
    rw [if_pos hz]
    obtain ⟨c, e, rfl⟩ := Option.map_eq_some_iff.mp h
    rw [e]; rfl
  · cases h
theorem g_catS {a b c : Str} (h : catS a b = some c) : (opAdd : Opr P).f [.str a, .str b] = some (.str c) := by
  unfold catS at h
  split at h
  · rename_i hz; cases h
    show addF (.str a) (.str b) = _
    simp only [addF]; rw [if_pos hz]
  · cases h
theorem g_catQ : ∀ {a b c : Q}, catQ a b = some c → (opAdd : Opr P).f [eQ a, eQ b] = some (eQ c)
  | .tup xs, .tup ys, c, h => by
    simp only [catQ] at h
    split at h
    · rename_i hz; cases h
      show addF (.tup (eQs xs)) (.tup (eQs ys)) = some (.tup (eQs (xs ++ ys)))
      simp only [addF, eQs_map, isFs_map fzQ, List.length_map, true_and, List.map_append]
      rw [if_pos hz]
    · cases h
theorem i_Qo {o : Bool} {q : Q} {i : Int} {x : Q} (h : ixQ q i = some x) : getI (eQo o q) (.int i) = some (eQ x) := by
  cases q <;> simp only [ixQ] at h <;> try cases h
  · exact i_Q (q := .tup _) h
  · rename_i xs
    show getI (.lst o (eQs xs)) (.int i) = _
    rw [eQs_map]; exact i_L h
theorem j_Qo {o : Bool} {q : Q} {i : Int} {x : Q} (h : ixQ q i = some x) : (opIx : Opr P).f [eQo o q, .int i] = some (eQ x) := by
  cases q <;> simp only [ixQ] at h <;> try cases h
  · exact j_Q (q := .tup _) h
  · rename_i xs
    show (opIx : Opr P).f [.lst o (eQs xs), .int i] = _
    rw [eQs_map]; exact j_L fzQ h
theorem l_Qo {o : Bool} {q : Q} {i : Int} (h : lenQ q = some i) : (opLen : Opr P).f [eQo o q] = some (.int i) := by
  cases q <;> simp only [lenQ] at h <;> try cases h
  · exact l_Q (q := .tup _) rfl
  · rename_i xs
    show (opLen : Opr P).f [.lst o (eQs xs)] = _
    rw [eQs_map]; exact l_L
theorem w_Xo {o : Bool} {q : Q} {xs : List Q} (h : asX q = some xs) : (itList : Itr P).f [eQo o q] = some (xs.map eQ) := by
  cases q <;> simp only [asX] at h <;> try cases h
  · exact w_X (q := .tup _) rfl
  · show (itList : Itr P).f [.lst o (eQs _)] = _
    rw [eQs_map]; exact w_L fzQ
theorem isNon_Qo {o : Bool} (q : Q) : isNonD (eQo o q) = isNonQ q := by cases q <;> rfl
theorem isi_Qo {o : Bool} {q : Q} {n : String} {b : Bool} (h : isiQ q n = some b) : (opIsi : Opr P).f [eQo o q, .ty n] = some (.bl b) := by
  cases q with
  | lst xs =>
    have := g_isiQ (P := P) h
    exact this
  | _ => exact g_isiQ (P := P) h
theorem toPy_Qo {o : Bool} (q : Q) : toPy (eQo o q) = some q.py := by
  cases q with
  | lst xs =>
    show toPy (.lst o (eQs xs)) = _
    have := toPy_eQ (.lst xs)
    exact this
  | non => exact toPy_eQ .non
  | bl b => exact toPy_eQ (.bl b)
  | int b => exact toPy_eQ (.int b)
  | str b => exact toPy_eQ (.str b)
  | tup b => exact toPy_eQ (.tup b)
end
/-! ### comprehensions with tests and targets of several -/
section
variable {P : Pg} {cl : Cl} {n : Nat} {rt t t1 t' : Tr}
theorem blcG {α β : Type} {elt : B P} {tg : Tg} {own : List (Str × Nat)} {it : Itr P} {es ifs : List (B P)} {os : List Opd} {ds : List D} {e : α → D} {e' : β → D} {f : α → Option (Option β)} {xs : List α} {ys : List β}
    (h : filO f xs = some ys)
    (h1 : evOs cl none rt es t = some (.ok os t1)) (h0 : wipeT t1 (own.map (·.2)) = t') (h2 : opdDs t1 os = some ds) (h3 : it.f ds = some (xs.map e)) (h4 : opdDs t' os = some ds)
    (hb : ∀ x o, f x = some o → ∃ t2, oneLc cl rt elt tg (own.map (·.2)) ifs (e x) t' = some (.ok (o.map e') t2) ∧ wipeT t2 (own.map (·.2)) = t') :
    evB cl rt (.lc elt tg own it es ifs) t = some (.ok (eL true e' ys) t') := by
  unfold filO at h
  split at h
  · rename_i hl
    refine blcS (fun (_ : Unit) => t') (f := fun (_ : Unit) x => Option.bind (f x) fun p => some (p, ())) (xs := xs) (s0 := ()) (s1 := ()) ?_ h1 h0 h2 h3 (fun _ => h4) fun s x y s' hf => ?_
    · unfold filS
      rw [if_pos hl, filS_of_filO', h]; rfl
    · obtain ⟨a, e1, e2⟩ := bd hf
      cases e2
      exact hb x _ e1
  · cases h
end
end Ev
namespace Ev
open PySem PySem.Spec L2
section
variable {P : Pg} {cl : Cl} {n : Nat} {rt t t1 t2 t3 t' : Tr}
theorem bfz {b : B P} {d d' : D} (p : evB cl rt b t = some (.ok d t1)) (h : frz d = d') : evB cl rt (.fz b) t = some (.ok d' t1) := by
  subst h
  simp only [evB, p, bindR]
/-- a call with an operand that is lent by a path -/
theorem bcallP {f : Str} {i : Nat} {es : List (B P)} {os : List Opd} {args : List (Bool × D)} {st : List Stp} {d0 d1 d d' d0' : D} {o : List (Option D)} (h0 : t[i]? = some (some d0))
    (h1 : evOs cl (some i) (rt.set i (some d0)) es (t.set i none) = some (.ok os t1)) (h2 : dpOf i os = some st) (h3 : getP d0 st = some d1) (h4 : lend (some d1) os t1 = some (args, t2)) (h5 : cl (f, none) args = some (.ok d o))
    (h6 : giveB os o t2 none = some (t3, some d')) (h7 : putP d0 st d' = some d0') (h8 : t3.set i (some d0') = t') : evB cl rt (.call (.glob f) (some i) es) t = some (.ok d t') := by
  subst h8
  simp only [evB, h0, rcvOk, if_true, h1, bindR, h2, Option.bind_some, h3, callK, h4, fkey, backF, h5, backR, h6, backW, h7, Option.map_some]
theorem gd_t {b : Bool} {u : Unit} (h : gdO b = some u) : b = true := by
  unfold gdO at h
  split at h
  · assumption
  · cases h
theorem bo_n : ([] : List (Bool × D)).map (fun p => ((false, frz p.2) : Bool × D)) = [] := rfl
theorem bo_c {b : Bool} {d d' : D} {l l' : List (Bool × D)} (h : frz d = d') (hl : l.map (fun p => ((false, frz p.2) : Bool × D)) = l') : ((b, d) :: l).map (fun p => ((false, frz p.2) : Bool × D)) = (false, d') :: l' := by rw [List.map_cons, h, hl]
/-- a call whose operands are lent to be read -/
theorem bcallB {f : Str} {es : List (B P)} {os : List Opd} {args args' : List (Bool × D)} {d : D} {o : List (Option D)} (h1 : evOs cl none rt es t = some (.ok os t1)) (h2 : lend none os t1 = some (args, t2)) (ha : args.map (fun p => ((false, frz p.2) : Bool × D)) = args') (h3 : cl (f, none) args' = some (.ok d o)) (hf : nsD d = true) (h4 : giveB os (args.map fun p => if p.1 = true then some p.2 else none) t2 none = some (t3, none)) : evB cl rt (.call (.globB f) none es) t = some (.ok d t3) := by
  have e : borC (cl (f, none)) args = some (.ok d (args.map fun p => if p.1 = true then some p.2 else none)) := by
    unfold borC
    rw [ha, h3]
    show (if nsD d = true then _ else _) = _
    rw [if_pos hf]
  simp only [evB, rcvOk, if_true, resF, Option.bind_some, h1, bindR, callK, h2, Option.bind_some, fkey, backF, e, backR, h4, noW, Option.map_some]
/-- a method's call on an instance on a path -/
theorem bmethP {C m : Str} {i : Nat} {es : List (B P)} {os : List Opd} {args : List (Bool × D)} {st : List Stp} {d0 d1 dh d z d' d0' : D} {l : Bool} {o : List (Option D)} (h0 : t[i]? = some (some d0))
    (hh : hdD cl (rt.set i (some d0)) es (t.set i none) = some dh) (hi : isC C m dh = true)
    (h1 : evOs cl (some i) (rt.set i (some d0)) es (t.set i none) = some (.ok os t1)) (h2 : dpOf i os = some st) (h3 : getP d0 st = some d1) (h4 : lend (some d1) os t1 = some ((l, z) :: args, t2)) (hc : isC C m z = true) (h5 : cl (C, some m) ((l, z) :: args) = some (.ok d o))
    (h6 : giveB os o t2 none = some (t3, some d')) (h7 : putP d0 st d' = some d0') (h8 : t3.set i (some d0') = t') : evB cl rt (.call (.meth C m) (some i) es) t = some (.ok d t') := by
  subst h8
  simp only [evB, h0, hh]
  rw [if_pos (show rcvOk (.meth C m) (some dh) = true from hi)]
  simp only [h1, bindR, h2, Option.bind_some, h3, callK, h4, fkey]
  rw [if_pos hc]
  simp only [Option.bind_some, backF, h5, backR, h6, backW, h7, Option.map_some]
theorem k_eq {fuel : Nat} {body : List (S P)} {Q : RsS → Prop} (h : t = t') (k : Bk cl fuel body t' Q) : Bk cl fuel body t Q := h ▸ k
end
section
variable {P : Pg}
theorem t_listQo {o : Bool} {q : Q} {xs : List Q} (h : asX q = some xs) : (opList : Opr P).f [eQo o q] = some (eL true eQ xs) := by
  cases q <;> simp only [asX] at h <;> try cases h
  · exact t_listQ (q := .tup _) rfl
  · show (opList : Opr P).f [.lst o (eQs _)] = _
    rw [eQs_map]; exact t_list fzQ
theorem t_tupQo {o : Bool} {q : Q} {xs : List Q} (h : asX q = some xs) : (opTuple : Opr P).f [eQo o q] = some (eQ (.tup xs)) := by
  cases q <;> simp only [asX] at h <;> try cases h
  · exact t_tupX (q := .tup _) rfl
  · show (opTuple : Opr P).f [.lst o (eQs _)] = _
    rw [eQs_map]; exact t_tupQ
theorem g_isQo {o : Bool} (q : Q) : (opIs : Opr P).f [eQo o q, .non] = some (.bl (isNonQ q)) := by
  rw [← isNon_Qo (o := o)]
  show isF' false (eQo o q) .non = _
  cases q <;> rfl
theorem g_isnQo {o : Bool} (q : Q) : (opIsNot : Opr P).f [eQo o q, .non] = some (.bl (!isNonQ q)) := by
  rw [← isNon_Qo (o := o)]
  show isF' true (eQo o q) .non = _
  cases q <;> rfl
def lenSO (z : Str) : Option Int := if z.length ≤ sizeLine then some (z.length : Int) else none
theorem l_S {z : Str} {i : Int} (h : lenSO z = some i) : (opLen : Opr P).f [.str z] = some (.int i) := by
  show lenF [.str z] = _
  unfold lenSO at h
  simp only [lenF]
  split at h
  · rename_i hz; rw [if_pos hz]; cases h; rfl
  · cases h
end
end Ev
namespace Ev
open PySem PySem.Spec L2
def cutQ : Q → Option Int → Option Int → Option Q
  | .tup xs, lo, hi => some (.tup (cutL xs lo hi))
  | _, _, _ => none
theorem slG_Q : ∀ {q r : Q} {lo hi : Option Int}, cutQ q lo hi = some r → slG lo hi (eQ q) = some (eQ r)
  | .tup xs, r, lo, hi, h => by
    cases h
    show slG lo hi (.tup (eQs xs)) = some (.tup (eQs (cutL xs lo hi)))
    simp only [slG, eQs_map, isFs_map fzQ, if_true, cut_map]
end Ev
namespace Ev
open PySem PySem.Spec L2
/-! ### constants of the top -/
def glF (ci : List (Str × Int)) (cs : List (Str × Str)) (x : Str) : Option D := match ci.find? fun p => decide (p.1 = x) with
  | some p => some (.int p.2)
  | none => (cs.find? fun p => decide (p.1 = x)).map fun p => .str p.2
theorem glF_i {ci : List (Str × Int)} {cs : List (Str × Str)} {x : Str} {i : Int} (h : (ci.find? fun p => decide (p.1 = x)) = some (x, i)) : glF ci cs x = some (.int i) := by unfold glF; rw [h]
theorem glF_s {ci : List (Str × Int)} {cs : List (Str × Str)} {x z : Str} (h : (ci.find? fun p => decide (p.1 = x)) = none) (h2 : (cs.find? fun p => decide (p.1 = x)) = some (x, z)) : glF ci cs x = some (.str z) := by unfold glF; rw [h, h2]; rfl
theorem glF_ok {ci : List (Str × Int)} {cs : List (Str × Str)} {x : Str} {d : D} (h : glF ci cs x = some d) : (∃ i, d = .int i ∧ (x, i) ∈ ci) ∨ ∃ z, d = .str z ∧ (x, z) ∈ cs := by
  unfold glF at h
  split at h
  · rename_i p e
    cases h
    have e1 : p.1 = x := by simpa using List.find?_some e
    exact .inl ⟨p.2, rfl, by rw [← e1]; exact List.mem_of_find?_eq_some e⟩
  · obtain ⟨p, e, rfl⟩ := Option.map_eq_some_iff.mp h
    have e1 : p.1 = x := by simpa using List.find?_some e
    exact .inr ⟨p.2, rfl, by rw [← e1]; exact List.mem_of_find?_eq_some e⟩
end Ev
namespace Ev
open PySem PySem.Spec L2
section
variable {P : Pg} {t t' : Tr}
theorem tx_0 : txs ([] : List (Tx P)) [] t = some t := rfl
theorem tx_n {i : Nat} {r : List (Tx P)} {d : D} {ds : List D} (h : Nat.blt i t.length = true) (h3 : txs r ds (t.set i (some d)) = some t') : txs (.n i :: r) (d :: ds) t = some t' := by
  have h : i < t.length := Nat.le_of_ble_eq_true h
  simp only [txs]; rw [if_pos h]; exact h3
theorem tx_s {α : Type} {i : Nat} {a : A P} {r : List (Tx P)} {e : α → D} {xs ys : List α} {x : α} {k : Int} {ds : List D} (h0 : t[i]? = some (some (eL true e xs))) (h1 : evA t (noRt t) a = some (.int k)) (h2 : putO xs k x = some ys) (h3 : txs r ds (t.set i (some (eL true e ys))) = some t') : txs (.s i a :: r) (e x :: ds) t = some t' := by
  obtain ⟨j, e1, rfl⟩ := Option.map_eq_some_iff.mp h2
  simp only [txs, h0, h1, List.length_map, e1]
  rw [eL, List.map_set] at h3
  exact h3
end
end Ev
namespace Ev
open PySem PySem.Spec L2
theorem slG_T {xs ys : List D} {lo hi : Option Int} (h : isFs xs = true) (h2 : cutL xs lo hi = ys) : slG lo hi (.tup xs) = some (.tup ys) := by
  simp only [slG, h, if_true, h2]
theorem frT4 {α β γ δ : Type} {e1 e1' : α → D} {e2 e2' : β → D} {e3 e3' : γ → D} {e4 e4' : δ → D} (h1 : Fr e1 e1') (h2 : Fr e2 e2') (h3 : Fr e3 e3') (h4 : Fr e4 e4') : Fr (eT4 e1 e2 e3 e4) (eT4 e1' e2' e3' e4') := fun p => by simp only [frz, frzs, h1 _, h2 _, h3 _, h4 _]
/-! ### a while whose test changes the state -/
def whS {σ : Type} (c : σ → Option (Bool × σ)) (f : σ → Option σ) : Nat → σ → Option σ
  | 0, _ => none
  | n + 1, s => Option.bind (c s) fun p => if p.1 = true then Option.bind (f p.2) fun s' => whS c f n s' else some p.2
section
variable {P : Pg} {cl : Cl} {n : Nat} {t t1 t2 t3 t' rt : Tr} {r : List (S P)} {q : RsS → Prop}
theorem whS_ok {σ : Type} {c : B P} {body : List (S P)} {E : σ → Tr} {g : σ → Option (Bool × σ)} {f : σ → Option σ} (hc : ∀ s p, g s = some p → evB cl (noRt (E s)) c (E s) = some (.ok (.bl p.1) (E p.2)))
    (hb : ∀ s s', f s = some s' → Bk cl n body (E s) fun z => z = .nx (E s')) : ∀ (m : Nat) (s s' : σ), whS g f m s = some s' → whGo (fun t => evB cl (noRt t) c t) (exSs cl n body) m (E s) = some (.nx (E s'))
  | 0, s, s', h => by cases h
  | m + 1, s, s', h => by
    obtain ⟨⟨b, s2⟩, h1, h2⟩ := bd h
    have e := hc s _ h1
    cases b with
    | false =>
      simp only [Bool.false_eq_true, if_false] at h2
      cases h2
      simp only [whGo, e]
    | true =>
      simp only [if_true] at h2
      obtain ⟨s1, h3, h4⟩ := bd h2
      obtain ⟨z, h5, rfl⟩ := hb s2 s1 h3
      simp only [whGo, e, h5]
      exact whS_ok hc hb m s1 s' h4
theorem k_whS {σ : Type} {c : B P} {body : List (S P)} (E : σ → Tr) {g : σ → Option (Bool × σ)} {f : σ → Option σ} {s0 s1 : σ} (h : whS g f n s0 = some s1) (h0 : t = E s0) (hc : ∀ s p, g s = some p → evB cl (noRt (E s)) c (E s) = some (.ok (.bl p.1) (E p.2)))
    (hb : ∀ s s', f s = some s' → Bk cl n body (E s) fun z => z = .nx (E s')) (k : Bk cl n r (E s1) q) : Bk cl n (.whl c body :: r) t q := by
  subst h0
  refine k_nx (t' := E s1) ?_ k
  simp only [exS]
  exact whS_ok hc hb n s0 s1 h
/-! ### defs as values -/
abbrev eFn : Str → D := D.fn
theorem fzFn : Fz eFn := fun _ => rfl
def glX (ci : List (Str × Int)) (cs : List (Str × Str)) (fv : List Str) (x : Str) : Option D := match glF ci cs x with
  | some d => some d
  | none => if fv.contains x = true then some (.fn x) else none
theorem glX_o {ci : List (Str × Int)} {cs : List (Str × Str)} {fv : List Str} {x : Str} {d : D} (h : glF ci cs x = some d) : glX ci cs fv x = some d := by unfold glX; rw [h]
theorem glX_f {ci : List (Str × Int)} {cs : List (Str × Str)} {fv : List Str} {x : Str} (h : (glF ci cs x).isNone = true) (h2 : fv.contains x = true) : glX ci cs fv x = some (.fn x) := by
  unfold glX
  rw [Option.isNone_iff_eq_none.mp h]
  show (if fv.contains x = true then _ else _) = _
  rw [if_pos h2]
theorem glX_ok {ci : List (Str × Int)} {cs : List (Str × Str)} {fv : List Str} {x : Str} {d : D} (h : glX ci cs fv x = some d) : (∃ i, d = .int i ∧ (x, i) ∈ ci) ∨ (∃ z, d = .str z ∧ (x, z) ∈ cs) ∨ (d = .fn x ∧ x ∈ fv) := by
  unfold glX at h
  split at h
  · rename_i d' e
    cases h
    rcases glF_ok e with h | h
    · exact .inl h
    · exact .inr (.inl h)
  · split at h
    · rename_i hc
      cases h
      exact .inr (.inr ⟨rfl, List.contains_iff_mem.mp hc⟩)
    · cases h
/-- a call of what a slot holds -/
theorem bfv {i : Nat} {g : Str} {es : List (B P)} {os : List Opd} {args : List (Bool × D)} {d : D} {o : List (Option D)} (h0 : t[i]? = some (some (.fn g))) (h1 : evOs cl none rt es t = some (.ok os t1)) (h2 : lend none os t1 = some (args, t2)) (h3 : P.fn g = true ∧ cl (g, none) args = some (.ok d o)) (h4 : giveB os o t2 none = some (t3, none)) : evB cl rt (.call (.fv i) none es) t = some (.ok d t3) := by
  obtain ⟨hf, h3⟩ := h3
  simp only [evB, rcvOk, if_true, resF, h0, hf, Option.bind_some, h1, bindR, callK, h2, fkey, backF, h3, backR, h4, noW, Option.map_some]
end
end Ev
end
section
set_option maxRecDepth 100000
set_option maxHeartbeats 4000000
namespace Ev
open PySem PySem.Spec L2
variable {P : Pg}
/-! ### a text so many times -/
def repS (a : Str) (n : Int) : Str := ⟨(List.replicate n.toNat a.cps).foldl (· ++ ·) #[]⟩
theorem size_fold (b : Array Nat) : ∀ (k : Nat) (acc : Array Nat), ((List.replicate k b).foldl (· ++ ·) acc).size = acc.size + k * b.size
  | 0, acc => by simp
  | k + 1, acc => by
    rw [List.replicate_succ, List.foldl_cons, size_fold b k, Array.size_append, Nat.succ_mul]
    omega
theorem op_repS {X : Cx} : OpR X (binaryOp .Mult) (fun x y H Q => ∃ a n, x = .str a ∧ y = .int n ∧ -1000 ≤ n ∧ n ≤ 1000 ∧ a.length ≤ 1000 ∧ Q (.str (repS a n)) H) := by
  intro pins s σ H x y v u Q I rx ry h
  obtain ⟨a, n, rfl, rfl, h1, h2, h3, q⟩ := h
  obtain ⟨t, rfl⟩ := rx
  obtain ⟨t', rfl⟩ := ry
  have hm : a.length * n.toNat ≤ 1000 * 1000 := Nat.mul_le_mul h3 (by omega)
  refine PySem.P.mul_str (by rw [decide_eq_false (by omega), decide_eq_false (by omega)]; rfl) (fun k1 k2 k3 => ?_) (fun _ _ => ?_) ?_
  · have hn : n ≠ 1 := fun e => by rw [e] at k2; simp at k2
    have e1 : (2 ^ 63 - 1) / 1000 ≤ (2 ^ 63 - 1) / n := by
      apply Int.le_ediv_of_mul_le (by omega)
      omega
    omega
  · unfold Builtin.Str.tooLong
    have := sizeLine_eq
    simp only [decide_eq_false_iff_not]
    omega
  · by_cases h0 : n < 1
    · rw [if_pos h0]
      refine ⟨by decide, ?_⟩
      have e : repS a n = Str.empty := by
        unfold repS
        have : n.toNat = 0 := by omega
        rw [this]; rfl
      rw [e] at q
      exact ⟨.str Str.empty, H, I.tok _, ⟨_, rfl⟩, q⟩
    · rw [if_neg h0]
      by_cases h4 : (n == 1 || a.length == 0) = true
      · rw [if_pos h4]
        have e : repS a n = a := by
          rw [Bool.or_eq_true] at h4
          unfold repS
          rcases h4 with h4 | h4
          · have : n.toNat = 1 := by simp at h4; omega
            rw [this]; simp
          · have z : a.cps = #[] := by
              have : a.cps.size = 0 := by simpa [Str.length] using h4
              exact Array.eq_empty_of_size_eq_zero this
            have : ∀ k : Nat, (List.replicate k (#[] : Array Nat)).foldl (· ++ ·) #[] = #[] := by
              intro k
              induction k with
              | zero => rfl
              | succ k ih => rw [List.replicate_succ, List.foldl_cons]; exact ih
            cases a
            simp only at z
            subst z
            rw [this]
        rw [e] at q
        exact ⟨.str a, H, I, ⟨_, rfl⟩, q⟩
      · rw [if_neg h4]
        refine ⟨?_, ⟨.str (repS a n), H, I.tok _, ⟨_, rfl⟩, q⟩⟩
        show ((List.replicate n.toNat a.cps).foldl (· ++ ·) #[]).size ≤ sizeLine
        rw [size_fold, sizeLine_eq]
        have e : n.toNat * a.cps.size = a.length * n.toNat := Nat.mul_comm _ _
        rw [e]
        simp only [Array.size_empty]
        omega
/-! ### a tuple so many times -/
theorem tuple_mulSame (l : Addr) (items : Array Value) (n : Nat) (dd : Option Addr) (sl : Array (Option Value)) (x : Int) (u : Tok) (c0 : (decide (x < -(2 ^ 63)) || decide (x ≥ 2 ^ 63)) = false) (c1 : (items.isEmpty || x == 1) = true) :
    Meets (Builtin.«tuple.__mul__» ⟨[.ref l, .int x u], []⟩) (fun _ R s => s.heap.get? l = some { cls := .type "tuple", dict := dd, data := .seq items n, slots := sl } ∧ R (.ok (.ret (Value.ref l))) s) :=
  .of_wp fun prog w A R s h => by
    obtain ⟨hp, g, d, tk, os⟩ := s
    obtain ⟨hl, h⟩ := h
    have f1 := AutoSeq1.idx_int
    wp_walk using wpAny_loadPart' hl
    repeat (first
      | (refine wpAny_ite_false (decide_eq_false (by rw [c0]; exact Bool.false_ne_true)) ?_; wp_walk using wpAny_loadPart' hl)
      | (refine wpAny_ite_true (decide_eq_true c1) ?_; wp_walk using wpAny_loadPart' hl))
    exact ⟨_, rfl, h⟩
theorem tuple_mulNone (l : Addr) (items : Array Value) (n : Nat) (dd : Option Addr) (sl : Array (Option Value)) (x : Int) (u : Tok) (c0 : (decide (x < -(2 ^ 63)) || decide (x ≥ 2 ^ 63)) = false) (c1 : (items.isEmpty || x == 1) = false) (c2 : (decide (x ≤ 0) || items.isEmpty) = true) :
    Meets (Builtin.«tuple.__mul__» ⟨[.ref l, .int x u], []⟩) (fun _ R s => s.heap.get? l = some { cls := .type "tuple", dict := dd, data := .seq items n, slots := sl } ∧
      R (.ok (.ret (Value.ref s.heap.objs.size))) { s with heap := s.heap.push { cls := Value.type "tuple", data := Data.seq #[] }, toks := s.toks }) :=
  .of_wp fun prog w A R s h => by
    obtain ⟨hp, g, d, tk, os⟩ := s
    obtain ⟨hl, h⟩ := h
    have f1 := AutoSeq1.idx_int
    wp_walk using wpAny_loadPart' hl
    repeat (first
      | (refine wpAny_ite_false (decide_eq_false (by rw [c0]; exact Bool.false_ne_true)) ?_; wp_walk using wpAny_loadPart' hl)
      | (refine wpAny_ite_false (decide_eq_false (by rw [c1]; exact Bool.false_ne_true)) ?_; wp_walk using wpAny_loadPart' hl)
      | (refine wpAny_ite_true (decide_eq_true c2) ?_; wp_walk using wpAny_loadPart' hl))
    exact ⟨_, rfl, h⟩

theorem op_repT1 {X : Cx} : OpR X (binaryOp .Mult) (fun x y H Q => ∃ l k xs, x = .ref l ∧ y = .int k ∧ SqT X.K H l xs ∧ -1000 ≤ k ∧ k ≤ 1000 ∧ (xs = [] ∨ k = 1) ∧ Q x H) := by
  intro pins s σ H x y v u Q I rx ry h
  obtain ⟨l, k, xs, rfl, rfl, hT, h1, h2, h3, q⟩ := h
  cases rx
  obtain ⟨t, rfl⟩ := ry
  obtain ⟨its, r, ⟨⟨cls, dd, data, sl⟩, ho, hc, n, hd⟩, hs⟩ := I.tuple hT
  simp only at hc hd
  subst hc hd
  have hle : its.length = xs.length := r.length.symm
  have c0 : (decide (k < -(2 ^ 63)) || decide (k ≥ 2 ^ 63)) = false := by
    rw [decide_eq_false (by omega), decide_eq_false (by omega)] <;> rfl
  have c1 : (its.toArray.isEmpty || k == 1) = true := by
    rcases h3 with h3 | h3
    · subst h3
      have : its = [] := List.eq_nil_of_length_eq_zero (by simpa using hle)
      subst this; rfl
    · subst h3; simp
  exact wpAny_binaryOp_repeat_ref (T := "tuple") (U := "int") (by decide) ⟨_, ho, rfl⟩ (fun s' => typeIs_int s' k t) noFill_tuple_mul F.fills_int_mul F.slot_int_rmul repeat_tuple F.slot_int_index.lookup
    (call_meets F.slot_int_rmul (typeIs_int s k t) F.entry_int_rmul (F.args_int_rmul_2 _ _) (int_rmul_tuple k t l its.toArray n dd sl)
      ⟨ho, rfl, ⟨_, ho, rfl⟩, call_meets F.slot_tuple_mul ⟨_, ho, rfl⟩ F.entry_tuple_mul (F.args_tuple_mul_2 _ _) (tuple_mulSame l its.toArray n dd sl k t c0 c1) ⟨ho, ⟨.ref l, H, I, rfl, q⟩⟩⟩)
theorem op_repT0 {X : Cx} : OpR X (binaryOp .Mult) (fun x y H Q => ∃ l k xs, x = .ref l ∧ y = .int k ∧ SqT X.K H l xs ∧ -1000 ≤ k ∧ k ≤ 0 ∧ xs ≠ [] ∧ ∀ p, H p = none → Q (.ref p) (upd H p (.tup []))) := by
  intro pins s σ H x y v u Q I rx ry h
  obtain ⟨l, k, xs, rfl, rfl, hT, h1, h2, h3, q⟩ := h
  cases rx
  obtain ⟨t, rfl⟩ := ry
  obtain ⟨its, r, ⟨⟨cls, dd, data, sl⟩, ho, hc, n, hd⟩, hs⟩ := I.tuple hT
  simp only at hc hd
  subst hc hd
  have hle : its.length = xs.length := r.length.symm
  have c0 : (decide (k < -(2 ^ 63)) || decide (k ≥ 2 ^ 63)) = false := by
    rw [decide_eq_false (by omega), decide_eq_false (by omega)] <;> rfl
  have hi : its.toArray.isEmpty = false := by
    cases its with
    | nil => exact absurd (List.eq_nil_of_length_eq_zero (by simpa using hle.symm)) h3
    | cons a b => rfl
  have c1 : (its.toArray.isEmpty || k == 1) = false := by
    rw [hi, Bool.false_or]
    exact beq_eq_false_iff_ne.mpr (by omega)
  have c2 : (decide (k ≤ 0) || its.toArray.isEmpty) = true := by rw [decide_eq_true h2, Bool.true_or]
  refine wpAny_binaryOp_repeat_ref (T := "tuple") (U := "int") (by decide) ⟨_, ho, rfl⟩ (fun s' => typeIs_int s' k t) noFill_tuple_mul F.fills_int_mul F.slot_int_rmul repeat_tuple F.slot_int_index.lookup
    (call_meets F.slot_int_rmul (typeIs_int s k t) F.entry_int_rmul (F.args_int_rmul_2 _ _) (int_rmul_tuple k t l its.toArray n dd sl)
      ⟨ho, rfl, ⟨_, ho, rfl⟩, call_meets F.slot_tuple_mul ⟨_, ho, rfl⟩ F.entry_tuple_mul (F.args_tuple_mul_2 _ _) (tuple_mulNone l its.toArray n dd sl k t c0 c1 c2) ⟨ho, ?_⟩⟩)
  refine ⟨.ref s.heap.objs.size, _, I.laid (t' := s.toks) (o := .tup []) (fun b ob q => Heap.get?_push_of_some _ q) (Nat.le_refl _) ?_, rfl, q _ (I.hok.fresh (Nat.le_refl _))⟩
  exact ⟨Nat.zero_le _, [], .nil, PyProof.Rows.IsTup.new _ _⟩
theorem op_repTW {X : Cx} : OpR X (binaryOp .Mult) (fun x y H Q => ∃ l k xs, x = .ref l ∧ y = .int k ∧ SqT X.K H l xs ∧ xs ≠ [] ∧ 2 ≤ k ∧ k ≤ 1000 ∧ xs.length * k.toNat ≤ sizeLine ∧ ∀ p, H p = none → Q (.ref p) (upd H p (.tup (List.replicate k.toNat xs).flatten))) := by
  intro pins s σ H x y v u Q I rx ry h
  obtain ⟨l, k, xs, rfl, rfl, hT, hne, h1, h2, hz, q⟩ := h
  cases rx
  obtain ⟨t, rfl⟩ := ry
  obtain ⟨its, r, ⟨⟨cls, dd, data, sl⟩, ho, hc, n, hd⟩, hs⟩ := I.tuple hT
  simp only at hc hd
  subst hc hd
  have hle : its.length = xs.length := r.length.symm
  have hn : its ≠ [] := fun e => hne (by
    rw [e] at hle
    exact List.eq_nil_of_length_eq_zero hle.symm)
  have hi : its.toArray.isEmpty = false := by
    cases its with
    | nil => exact absurd rfl hn
    | cons a b => rfl
  have hsz0 : its.toArray.size = xs.length := by rw [List.size_toArray, hle]
  have hm : ((its.toArray.size : Nat) : Int) * k = ((xs.length * k.toNat : Nat) : Int) := by
    rw [hsz0, Int.natCast_mul]
    have : ((k.toNat : Nat) : Int) = k := by omega
    rw [this]
  have hsl := sizeLine_eq
  have flen : (List.replicate k.toNat its).flatten.length ≤ sizeLine := by
    rw [PyProof.Rows.lm_len_rep_flat, hle, Nat.mul_comm]
    exact hz
  have c0 : (decide (k < -(2 ^ 63)) || decide (k ≥ 2 ^ 63)) = false := by
    rw [decide_eq_false (by omega), decide_eq_false (by omega)] <;> rfl
  have c1 : (its.toArray.isEmpty || k == 1) = false := by
    rw [hi, Bool.false_or]
    exact beq_eq_false_iff_ne.mpr (by omega)
  have c2 : (decide (k ≤ 0) || its.toArray.isEmpty) = false := by
    rw [hi, Bool.or_false]
    exact decide_eq_false (by omega)
  have c4 : Builtin.Tuple.tupleTooMany (((its.toArray.size : Nat) : Int) * k) = false := by
    unfold Builtin.Tuple.tupleTooMany
    rw [hm]
    exact decide_eq_false (by omega)
  refine wpAny_binaryOp_repeat_ref (T := "tuple") (U := "int") (by decide) ⟨_, ho, rfl⟩ (fun s' => typeIs_int s' k t) noFill_tuple_mul F.fills_int_mul F.slot_int_rmul repeat_tuple F.slot_int_index.lookup
    (call_meets F.slot_int_rmul (typeIs_int s k t) F.entry_int_rmul (F.args_int_rmul_2 _ _) (int_rmul_tuple k t l its.toArray n dd sl)
      ⟨ho, rfl, ⟨_, ho, rfl⟩, call_meets F.slot_tuple_mul ⟨_, ho, rfl⟩ F.entry_tuple_mul (F.args_tuple_mul_2 _ _) (tuple_mulW l its.toArray n dd sl k t c0 c1 c2 (by rw [hm]; omega) c4 (by rw [size_rep, List.size_toArray]; exact flen)) ⟨ho, ?_⟩⟩)
  rw [size_rep]
  refine ⟨.ref s.heap.objs.size, _, I.laid (t' := s.toks) (o := .tup (List.replicate k.toNat xs).flatten) (fun b ob q => Heap.get?_push_of_some _ q) (Nat.le_refl _) ?_, rfl, q _ (I.hok.fresh (Nat.le_refl _))⟩
  exact ⟨by rw [PyProof.Rows.lm_len_rep_flat, Nat.mul_comm]; exact hz, _, r.rep k.toNat, PyProof.Rows.IsTup.new _ _⟩
def mulTF : D → D → Option D
  | .str a, .int n => if -1000 ≤ n ∧ n ≤ 1000 ∧ a.length ≤ 1000 then some (.str (repS a n)) else none
  | .tup xs, .int n => if isFs xs = true ∧ -1000 ≤ n ∧ n ≤ 1000 ∧ xs.length * n.toNat ≤ sizeLine then some (.tup (List.replicate n.toNat xs).flatten) else none
  | _, _ => none
theorem two_mulT : Two P (fun X r => OpR X (binaryOp .Mult) r) mulTF := by
  intro X N sc ok a b d h
  match a, b, h with
  | .str a, .int n, h =>
    simp only [mulTF] at h
    split at h
    · rename_i hc
      cases h
      exact ⟨_, op_repS, fun x y H F c ca cb Q ra _ rb _ g k => ⟨a, n, ra.strE, rb.intE, hc.1, hc.2.1, hc.2.2, k.str g⟩⟩
    · cases h
  | .tup xs, .int n, h =>
    simp only [mulTF] at h
    split at h
    · rename_i hc
      obtain ⟨f1, h1, h2, h3⟩ := hc
      cases h
      by_cases e1 : xs = [] ∨ n = 1
      · refine ⟨_, op_repT1, fun x y H F c ca cb Q ra _ rb _ g k => ?_⟩
        have ra0 : Rp X.K X.mg H F (.tup xs) x [] := ra.flat (by simpa only [isF] using f1)
        obtain ⟨p1, vs, e2, q1, r1⟩ := ra0.tupE g.sub
        refine ⟨p1, n, vs, e2, rb.intE, q1, h1, h2, ?_, k.flat g ?_⟩
        · rcases e1 with e1 | e1
          · subst e1
            exact .inl (List.eq_nil_of_length_eq_zero (by simpa using r1.length.symm))
          · exact .inr e1
        · have e3 : (List.replicate n.toNat xs).flatten = xs := by
            rcases e1 with e1 | e1
            · subst e1
              have : ∀ m : Nat, (List.replicate m ([] : List D)).flatten = [] := by
                intro m
                induction m with
                | zero => rfl
                | succ m ih => rw [List.replicate_succ, List.flatten_cons, ih]; rfl
              exact this _
            · subst e1; simp
          rw [e3]; exact ra0
      · by_cases e2 : n ≤ 0
        · refine ⟨_, op_repT0, fun x y H F c ca cb Q ra _ rb _ g k => ?_⟩
          have ra0 : Rp X.K X.mg H F (.tup xs) x [] := ra.flat (by simpa only [isF] using f1)
          obtain ⟨p1, vs, e3, q1, r1⟩ := ra0.tupE g.sub
          refine ⟨p1, n, vs, e3, rb.intE, q1, h1, e2, fun en => e1 (.inl ?_), fun p hp => ?_⟩
          · subst en
            exact List.eq_nil_of_length_eq_zero (by simpa using r1.length)
          · have e4 : n.toNat = 0 := by omega
            rw [e4] at k
            exact k.tup g hp (by simp only [List.replicate_zero, List.flatten_nil, Rps]; exact ⟨trivial, trivial⟩)
        · refine ⟨_, op_repTW, fun x y H F c ca cb Q ra _ rb _ g k => ?_⟩
          have ra0 : Rp X.K X.mg H F (.tup xs) x [] := ra.flat (by simpa only [isF] using f1)
          obtain ⟨p1, vs, e3, q1, r1⟩ := ra0.tupE g.sub
          have n1 : n ≠ 1 := fun e => e1 (.inr e)
          refine ⟨p1, n, vs, e3, rb.intE, q1, fun en => e1 (.inl ?_), by omega, h2, by rw [← r1.length]; exact h3, fun p hp => k.tup g hp (r1.rep _)⟩
          subst en
          exact List.eq_nil_of_length_eq_zero (by simpa using r1.length)
    · cases h
def opMulT : Opr P := opBin .Mult mulTF two_mulT
/-! ### methods of texts -/
def strB : D → Bool
  | .str _ => true
  | _ => false
theorem str_mid (K : PySem.W.Frag) (mg : Str → Option Value) (d : D) (h : strB d = true) (x : V) (H F : Hp) (c : List Addr) (r : Rp K mg H F d x c) (l : Le F H) : tyV K "str" x H := by
  cases d with
  | str z => rw [r.strE]; rfl
  | _ => simp [strB] at h
def strsD : List D → Option (List Str)
  | [] => some []
  | .str i :: r => (strsD r).map fun z => i :: z
  | _ => none
theorem strsD_some : ∀ {xs : List D} {ns : List Str}, strsD xs = some ns → xs = ns.map D.str
  | [], ns, h => by cases h; rfl
  | .str i :: r, ns, h => by
    obtain ⟨z, h1, rfl⟩ := Option.map_eq_some_iff.mp h
    rw [strsD_some h1]; rfl
  | .non :: _, _, h => by simp [strsD] at h
  | .bl _ :: _, _, h => by simp [strsD] at h
  | .int _ :: _, _, h => by simp [strsD] at h
  | .tup _ :: _, _, h => by simp [strsD] at h
  | .lst _ _ :: _, _, h => by simp [strsD] at h
  | .dic _ _ _ :: _, _, h => by simp [strsD] at h
  | .ins _ _ _ _ :: _, _, h => by simp [strsD] at h
  | .fn _ :: _, _, h => by simp [strsD] at h
  | .ty _ :: _, _, h => by simp [strsD] at h
  | .scr _ :: _, _, h => by simp [strsD] at h
def oprS (id : String) (name : Str) (n : Nat) (r : Cx → V → List V → Hp → VK → Prop) (f : List D → Option D) (slot : Slot "str" name id) (hty : typeOf (.builtin id) = pure (.type "method_descriptor")) (hm : ∀ X : Cx, MtR X id (r X)) (hn : n < 29)
    (fh : ∀ d l y, f (d :: l) = some y → strB d = true) (h : ∀ (X : Cx) (ds : List D) (d : D), f ds = some d → ∀ (vs : List V) (H F : Hp) (c : List Addr) (Q : VK), RpE X.K X.mg H F c ds vs → Good H F c → PostN X.K X.mg H F c d Q → match vs with
      | [] => False
      | v :: ws => r X v ws H Q) : OprM P where
  f := f
  hd := strB
  Mid := fun K => tyV K "str"
  sh := shM name n
  fh := fh
  mid := str_mid
  pl := by
    intro sc e x ys he
    obtain ⟨_, _, rfl, _⟩ := shM_some he
    rfl
  sound := by
    intro X N sc ok e x ys he
    obtain ⟨apos, pos, rfl, h1, h2, h3, h4⟩ := shM_some he
    exact ⟨_, hasM_bm PySem.F.plainAttrs_str slot hty (hm X) h2 h3 h4 (by omega)⟩
  ok := by
    intro X N sc ok e x ys he ds d hf
    obtain ⟨apos, pos, rfl, h1, h2, h3, h4⟩ := shM_some he
    exact ⟨_, hasM_bm PySem.F.plainAttrs_str slot hty (hm X) h2 h3 h4 (by omega), fun vs H F c Q r1 g k => h X ds d hf vs H F c Q r1 g k⟩
/-- s.join(l) -/
def joinF : List D → Option D
  | [.str a, .lst _ xs] => (strsD xs).bind fun ys => if (ys.map (·.length)).sum + ys.length * a.length ≤ 16777216 then some (.str (Txt.join a ys)) else none
  | [.str a, .tup xs] => (strsD xs).bind fun ys => if (ys.map (·.length)).sum + ys.length * a.length ≤ 16777216 then some (.str (Txt.join a ys)) else none
  | _ => none
theorem joinF_hd {d y : D} {l : List D} (h : joinF (d :: l) = some y) : strB d = true := by
  match d, l, h with
  | .str _, _, _ => rfl
def opJoin : OprM P := oprS "str.join" "join" 1 _ joinF PySem.F.slot_str_join PySem.F.type_str_join (fun X => mt_join) (by decide) (fun _ _ _ => joinF_hd) (by
  intro X ds d hf vs H F c Q r g k
  match ds, hf with
  | [.str a, .lst o xs], hf =>
    obtain ⟨ys, e1, e2⟩ := Option.bind_eq_some_iff.mp hf
    split at e2
    case isFalse => cases e2
    case isTrue hl =>
    cases e2
    obtain ⟨v, w, ca, cb, rfl, r1, _, r2, _⟩ := r.two
    obtain ⟨p, ws, cs, rfl, q, rs, _⟩ := r2.lstE g.sub
    rw [strsD_some e1] at rs
    have e3 := rs.strs
    subst e3
    exact ⟨a, p, ys, r1.strE, rfl, .inl (.inl q), hl, k.str g⟩
  | [.str a, .tup xs], hf =>
    obtain ⟨ys, e1, e2⟩ := Option.bind_eq_some_iff.mp hf
    split at e2
    case isFalse => cases e2
    case isTrue hl =>
    cases e2
    obtain ⟨v, w, ca, cb, rfl, r1, _, r2, _⟩ := r.two
    obtain ⟨p, ws, rfl, q, rs⟩ := r2.tupE g.sub
    rw [strsD_some e1] at rs
    have e3 := rs.strs
    subst e3
    exact ⟨a, p, ys, r1.strE, rfl, .inr q, hl, k.str g⟩)
theorem Rps.strsOf {K : PySem.W.Frag} {mg : Str → Option Value} {H F : Hp} : ∀ xs : List Str, Rps K mg H F (xs.map D.str) (xs.map V.str) []
  | [] => by simp only [List.map_nil, Rps]; exact ⟨trivial, trivial⟩
  | x :: xs => by
    simp only [List.map_cons, Rps]
    exact ⟨_, _, [], [], rfl, rfl, by simp only [Rp]; exact ⟨trivial, trivial⟩, Rps.strsOf xs⟩
/-- s.split(t) -/
def splitF : List D → Option D
  | [.str a, .str b] => if (b.length == 0) = false ∧ a.length + 2 ≤ sizeLine then some (.lst true ((Txt.split a b).map D.str)) else none
  | _ => none
theorem splitF_hd {d y : D} {l : List D} (h : splitF (d :: l) = some y) : strB d = true := by
  match d, l, h with
  | .str _, _, _ => rfl
def opSplit : OprM P := oprS "str.split" "split" 1 _ splitF PySem.F.slot_str_split PySem.F.type_str_split (fun X => mt_split) (by decide) (fun _ _ _ => splitF_hd) (by
  intro X ds d hf vs H F c Q r g k
  match ds, hf with
  | [.str a, .str b], hf =>
    simp only [splitF] at hf
    split at hf
    case isFalse => cases hf
    case isTrue hl =>
    cases hf
    obtain ⟨v, w, ca, cb, rfl, r1, _, r2, _⟩ := r.two
    refine ⟨a, b, r1.strE, by rw [r2.strE], hl.1, hl.2, fun p hp => k.lst g hp ?_⟩
    exact Rps.strsOf _)
/-! ### str of a number, int of a text -/
def strF : List D → Option D
  | [.int i] => if i.natAbs.log2 < 1920 then some (.str (toString i)) else none
  | _ => none
def opStr : Opr P := opTy "str" "str" 1 strF (by decide) (by kernel_rfl) (by decide) (by decide) (by
  intro X N sc ok ds d h
  refine ⟨_, call_str_int, fun vs H F c Q r g k => ?_⟩
  match ds, h with
  | [.int i], h =>
    simp only [strF] at h
    split at h
    case isFalse => cases h
    case isTrue hl =>
    cases h
    obtain ⟨v, cd, rfl, r, _⟩ := r.one
    rw [r.intE]
    exact ⟨i, rfl, hl, k.str g⟩)
def intTF : List D → Option D
  | [.str a] => if a.length ≤ 640 then (PySem.intText? a).map .int else none
  | _ => none
def opIntT : Opr P := opTy "int" "int" 1 intTF (by decide) (by kernel_rfl) (by decide) (by decide) (by
  intro X N sc ok ds d h
  refine ⟨_, call_int_str, fun vs H F c Q r g k => ?_⟩
  match ds, h with
  | [.str a], h =>
    simp only [intTF] at h
    split at h
    case isFalse => cases h
    case isTrue hl =>
    obtain ⟨n, h1, rfl⟩ := Option.map_eq_some_iff.mp h
    obtain ⟨v, cd, rfl, r, _⟩ := r.one
    rw [r.strE]
    exact ⟨a, n, rfl, h1, hl, k.int g⟩)
/-! ### a walk of a text -/
def shSt (_ : Scope) (_ : Expr) (e : Expr) : Option (List Expr) := if plainX e = true then some [e] else none
def stF : List D → Option (List D)
  | [.str x] => some (x.cps.toList.map fun c => D.str ⟨#[c]⟩)
  | _ => none
def sSt : List V → Hp → (It → Hp → Prop) → Prop := fun vs H1 R => match vs with
  | [v] => ∃ x, v = .str x ∧ R (Its x) H1
  | _ => False
def jSt : List V → It
  | [.str x] => Its x
  | _ => Its Str.empty
theorem pi_st {X : Cx} {tg e : Expr} {ts : List TE} (ht : AllPE X [e] ts) : PI X tg e (fun σ H R => tL ts σ H fun vs H1 => sSt vs H1 R) := by
  cases ht with
  | cons p1 ht =>
    cases ht
    exact pi_str p1
def itStr : Itr P where
  f := stF
  sh := shSt
  pl := by
    intro sc tg e es he
    unfold shSt at he
    split at he
    · assumption
    · cases he
  sound := by
    intro X N sc ok tg e es he
    unfold shSt at he
    split at he
    · cases he
      exact ⟨sSt, fun ts ht => pi_st ht⟩
    · cases he
  ok := by
    intro X N sc ok tg e es he ds l hf
    unfold shSt at he
    split at he
    case isFalse => cases he
    case isTrue =>
    cases he
    match ds, hf with
    | [.str x], hf =>
      cases hf
      refine ⟨sSt, fun ts ht => pi_st ht, fun vs => ⟨jSt vs, fun H F c R r g hR => ?_, fun H F c r g i => ⟨fun d hd => ?_, fun hi => ?_⟩⟩⟩
      · obtain ⟨v, cd, rfl, r1, _⟩ := r.one
        have e1 := r1.strE
        subst e1
        exact ⟨x, rfl, hR⟩
      · obtain ⟨v, cd, rfl, r1, _⟩ := r.one
        have e1 := r1.strE
        subst e1
        rw [List.getElem?_map] at hd
        obtain ⟨k, z1, rfl⟩ := Option.map_eq_some_iff.mp hd
        have hi : i < x.cps.size := by
          have := (List.getElem?_eq_some_iff.mp z1).1
          simpa using this
        refine ⟨hi, fun y H' hy => ⟨F, Le.refl F, ?_⟩⟩
        obtain ⟨rfl, q, hq, rfl⟩ := hy
        rw [Array.getElem?_toList] at z1
        rw [z1] at hq
        cases hq
        exact ⟨g, fun _ _ => rfl, by simp only [Rp]; exact ⟨trivial, trivial⟩⟩
      · obtain ⟨v, cd, rfl, r1, _⟩ := r.one
        have e1 := r1.strE
        subst e1
        show x.cps.size ≤ i
        simpa using hi
/-! ### isinstance of one of some built-in types -/
def tysD : List D → Option (List String)
  | [] => some []
  | .ty n :: r => (tysD r).map fun z => n :: z
  | _ => none
def kitBs (t : String) : List String → Option Bool
  | [] => some false
  | n :: r => match kitB t n with
    | some true => some true
    | some false => kitBs t r
    | none => none
theorem tysD_rel {K : PySem.W.Frag} {mg : Str → Option Value} {H F : Hp} : ∀ {xs : List D} {ns : List String} {vs : List V} {c : List Addr} {us : List Value}, tysD xs = some ns → Rps K mg H F xs vs c → Vals vs us → us = ns.map Value.type
  | [], ns, vs, c, us, h, r, v => by
    cases h
    simp only [Rps] at r
    rw [r.1] at v
    cases v
    rfl
  | .ty n :: l, ns, vs, c, us, h, r, v => by
    obtain ⟨z, h1, rfl⟩ := Option.map_eq_some_iff.mp h
    simp only [Rps] at r
    obtain ⟨x, w, c1, c2, rfl, rfl, r1, r2⟩ := r
    simp only [Rp] at r1
    obtain ⟨rfl, _⟩ := r1
    cases v with
    | cons e v =>
      have e : _ = Value.type n := e
      subst e
      rw [tysD_rel h1 r2 v]; rfl
  | .non :: _, _, _, _, _, h, _, _ => by simp [tysD] at h
  | .bl _ :: _, _, _, _, _, h, _, _ => by simp [tysD] at h
  | .int _ :: _, _, _, _, _, h, _, _ => by simp [tysD] at h
  | .str _ :: _, _, _, _, _, h, _, _ => by simp [tysD] at h
  | .tup _ :: _, _, _, _, _, h, _, _ => by simp [tysD] at h
  | .lst _ _ :: _, _, _, _, _, h, _, _ => by simp [tysD] at h
  | .dic _ _ _ :: _, _, _, _, _, h, _, _ => by simp [tysD] at h
  | .ins _ _ _ _ :: _, _, _, _, _, h, _, _ => by simp [tysD] at h
  | .fn _ :: _, _, _, _, _, h, _, _ => by simp [tysD] at h
  | .scr _ :: _, _, _, _, _, h, _, _ => by simp [tysD] at h
theorem kitBs_ok {K : PySem.W.Frag} {t : String} : ∀ {ns : List String} {b : Bool}, kitBs t ns = some b → PySem.W.kitAny K (.type t) (ns.map Value.type) = some b
  | [], b, h => h
  | n :: r, b, h => by
    simp only [kitBs] at h
    simp only [List.map_cons, PySem.W.kitAny]
    split at h
    · rename_i e
      rw [kit_ty e]; exact h
    · rename_i e
      rw [kit_ty e]; exact kitBs_ok h
    · cases h
theorem call_isiS {X : Cx} : CallR X (.builtin "isinstance") (fun xs H Q => ∃ (x : V) (tp : Addr) (cs : List V) (t : Value) (us : List Value) (b : Bool), xs = [x, .ref tp] ∧ SqT X.K H tp cs ∧ (∀ ws, Vals cs ws → ws = us) ∧ TyX X.K H x t ∧ PySem.W.kitAny X.K t us = some b ∧ Q (.bl b) H) := by
  intro pins s σ H xs us Q I r h
  obtain ⟨x, tp, cs, t, ws, b, rfl, hT, k, ty, e, q⟩ := h
  obtain ⟨u1, u2, rfl, r1, r2⟩ := vals2 r
  cases (show u2 = Value.ref tp from r2)
  obtain ⟨P, Z, p, hx⟩ := kit_of I r1 ty
  obtain ⟨its, rv, ⟨⟨oc, od, dt, sl⟩, ho, h2, n, h3⟩, hs⟩ := I.tuple hT
  have e3 := k _ rv
  subst e3
  simp only at h2 h3
  subst h2 h3
  exact PySem.W.kia_tup Z I.kIn p ho e hx fun tk => ⟨.bl b, H, I.tok tk, rfl, q⟩
def isiTF : List D → Option D
  | [d, .tup xs] => (tyD d).bind fun t => (tysD xs).bind fun ns => (kitBs t ns).map .bl
  | _ => none
def opIsiT : Opr P := opB "isinstance" "isinstance" 2 isiTF (by decide) (by kernel_rfl) (by decide) (by decide) (by
  intro X N sc ok ds d h
  refine ⟨_, call_isiS, fun vs H F c Q r g k => ?_⟩
  match ds, h with
  | [d0, .tup xs], h =>
    obtain ⟨t, h1, h2⟩ := Option.bind_eq_some_iff.mp h
    obtain ⟨ns, h3, h4⟩ := Option.bind_eq_some_iff.mp h2
    obtain ⟨b, h5, rfl⟩ := Option.map_eq_some_iff.mp h4
    obtain ⟨v, w, ca, cb, rfl, r1, _, r2, _⟩ := r.two
    obtain ⟨p, ws, rfl, q, rs⟩ := r2.tupE g.sub
    exact ⟨v, p, ws, _, ns.map Value.type, b, rfl, q, fun us hu => tysD_rel h3 rs hu, tyX_of h1 r1 g.sub, kitBs_ok h5, k.bl g⟩)
/-! ### extend by a list that may be shared -/
theorem mt_extR {X : Cx} : MtM X "list.extend" (fun x vs H Q => ∃ l b xs zs, x = .ref l ∧ vs = [.ref b] ∧ H l = some (.lst xs) ∧ Rd H b (.lst zs) ∧ xs.length + zs.length ≤ sizeLine ∧ Q .non (upd H l (.lst (xs ++ zs)))) := by
  intro pins s σ H x vs v us Q I rx rv h
  obtain ⟨l, b, xs, zs, rfl, rfl, hH, hB, hz, q⟩ := h
  cases rx
  obtain ⟨u, rfl, ru⟩ := rv.one
  cases ru
  obtain ⟨z, its, n, r, hl, e⟩ := I.lstM hH
  obtain ⟨z2, its2, n2, r2, hl2, e2⟩ := lstR I hB
  have hsz : its.toArray.size + its2.toArray.size ≤ sizeLine := by rw [List.size_toArray, List.size_toArray]; omega
  have hlong : ¬ (!its.toArray.isEmpty && Builtin.List.listTooLong (its.toArray.size + its2.toArray.size)) = true := by
    rw [notLongL hsz, Bool.and_false]
    exact Bool.false_ne_true
  refine call_meets F.slot_list_extend ⟨_, e, rfl⟩ F.entry_list_extend (F.args_list_extend_2 _ _)
    (PySem.AutoSeq1.list_extend_list_list_0 l its.toArray n b its2.toArray n2 hlong (by rw [List.size_toArray]; omega) (by omega)) ⟨e, e2, ?_⟩
  refine ⟨.non, _, I.lset (its' := its ++ its2) hH e (by simp) (r.append r2) ?_, rfl, q⟩
  rw [List.length_append]
  omega
def extRF : D → List D → Option (D × D)
  | .lst true xs, [.lst _ ys] => if isFs ys = true ∧ xs.length + ys.length ≤ sizeLine then some (.non, .lst true (xs ++ ys)) else none
  | _, _ => none
def mExtR : Mut P := mutM "list.extend" "extend" 1 _ extRF PySem.F.slot_list_extend PySem.F.type_list_extend (fun _ => mt_extR) (by decide) (by
  intro X d ds a d' hf x ws H F c cd cw Q r1 r2 g k
  match d, ds, hf with
  | .lst true xs, [.lst o ys], hf =>
    simp only [extRF] at hf
    split at hf
    · rename_i hl
      cases hf
      simp only [Rp] at r1
      obtain ⟨p, vs, c', rfl, hH, rs, rfl⟩ := r1
      rw [Rps] at r2
      obtain ⟨w, w2, c1, c2, rfl, rfl, ry, r3⟩ := r2
      simp only [Rps] at r3
      obtain ⟨rfl, rfl⟩ := r3
      obtain ⟨b, zs, cs, rfl, hb, rz, _⟩ := ry.lstE g.sub
      refine ⟨p, b, vs, zs, rfl, rfl, hH, hb, by rw [← rs.length, ← rz.length]; exact hl.2, ?_⟩
      have g2 : Good H F (p :: ((c' ++ []) ++ c)) := by
        refine g.sublist ?_
        simp only [List.append_nil, List.cons_append, List.append_assoc]
        exact ((List.sublist_append_right c1 c).append_left c').cons_cons p
      obtain ⟨g3, k3, r3⟩ := lst_write g2 (rs.append (rz.flat hl.1))
      exact k .non _ F [] (p :: (c' ++ [])) (Le.refl F) k3 (by simpa using g3) (by simp only [Rp]; exact ⟨trivial, trivial⟩) r3
    · cases hf)
/-! ### range with a step -/
def rng3F : List D → Option (List D)
  | [.int i, .int j, .int c] => if c ≠ 0 ∧ c.natAbs < 1073741824 ∧ Builtin.Range.small i j c = true ∧ 0 ≤ Builtin.Range.rangeSize i j c then some ((List.range (Builtin.Range.rangeSize i j c).toNat).map fun k : Nat => .int (i + (k : Nat) * c)) else none
  | _ => none
def sR3 : List V → Hp → (It → Hp → Prop) → Prop := fun vs H1 R => ∃ (i j c : Int) (n : Nat), vs = [.int i, .int j, .int c] ∧ RgC i j c n ∧ R (Itc i c n) H1
def jR3 : List V → It
  | [.int i, .int j, .int c] => Itc i c (Builtin.Range.rangeSize i j c).toNat
  | _ => Itc 0 0 0
theorem RpE.three {K : PySem.W.Frag} {mg : Str → Option Value} {H F : Hp} {c : List Addr} {d d' d2 : D} {vs : List V} (h : RpE K mg H F c [d, d', d2] vs) : ∃ v v' v2 cd cd' c2, vs = [v, v', v2] ∧ Rp K mg H F d v cd ∧ Rp K mg H F d' v' cd' ∧ Rp K mg H F d2 v2 c2 := by
  simp only [RpE] at h
  obtain ⟨v, w, cd, e, r, k, v', w', cd', e', r', k', v2, w2, c2, e2, r2, k2, e3⟩ := h
  exact ⟨v, v', v2, cd, cd', c2, by rw [e, e', e2, e3], r, r', r2⟩
theorem pi_r3 {X : Cx} {N : List Str} {sc : Scope} (ok : XOk P X N sc) {tg : Expr} {p pos : Pos} {es : List Expr} (hl : es.length = 3) (h1 : glB sc "range" = true) (h2 : es.all plainX = true) {ts : List TE} (ht : AllPE X es ts) : PI X tg (.Call (.Name "range" p) es [] pos) (fun σ H R => tL ts σ H fun vs H1 => sR3 vs H1 R) := by
  match es, hl, ht with
  | [a, b, c], _, ht =>
    have h2' := h2
    rw [List.all_cons, Bool.and_eq_true] at h2'
    exact pi_range3 (ok.gl h1) (ok.blt _ (by decide)) (pa_all ht h2) (star_cons h2'.1) (noStar h2'.2)
def itRng3 : Itr P where
  f := rng3F
  sh := shFn "range" 3
  pl := by
    intro sc tg e es he
    obtain ⟨p, pos, rfl, hl, h1, h2, h3⟩ := shFn_some he
    exact call_plain1 (by omega)
  sound := by
    intro X N sc ok tg e es he
    obtain ⟨p, pos, rfl, hl, h1, h2, h3⟩ := shFn_some he
    exact ⟨sR3, fun ts ht => pi_r3 ok hl h1 h2 ht⟩
  ok := by
    intro X N sc ok tg e es he ds l hf
    obtain ⟨p, pos, rfl, hl, h1, h2, h3⟩ := shFn_some he
    match ds, hf with
    | [.int i0, .int j, .int c0], hf =>
      simp only [rng3F] at hf
      split at hf
      case isFalse => cases hf
      case isTrue hb =>
      cases hf
      refine ⟨sR3, fun ts ht => pi_r3 ok hl h1 h2 ht, fun vs => ⟨jR3 vs, fun H F c R r g hR => ?_, fun H F c r g i => ⟨fun d hd => ?_, fun hi => ?_⟩⟩⟩
      · obtain ⟨v, w, u, ca, cb, cc, rfl, r1, r2, r3⟩ := r.three
        have r1 := r1.intE
        have r2 := r2.intE
        have r3 := r3.intE
        subst r1 r2 r3
        exact ⟨i0, j, c0, _, rfl, ⟨hb.1, hb.2.1, hb.2.2.1, (Int.toNat_of_nonneg hb.2.2.2).symm⟩, hR⟩
      · obtain ⟨v, w, u, ca, cb, cc, rfl, r1, r2, r3⟩ := r.three
        have r1 := r1.intE
        have r2 := r2.intE
        have r3 := r3.intE
        subst r1 r2 r3
        rw [List.getElem?_map] at hd
        obtain ⟨k, e1, rfl⟩ := Option.map_eq_some_iff.mp hd
        obtain ⟨h4, e2⟩ := List.getElem?_eq_some_iff.mp e1
        rw [List.getElem_range] at e2
        subst e2
        rw [List.length_range] at h4
        refine ⟨h4, fun x H' hy => ⟨F, Le.refl F, ?_⟩⟩
        obtain ⟨rfl, rfl⟩ := hy
        exact ⟨g, fun _ _ => rfl, by simp only [Rp]; exact ⟨trivial, trivial⟩⟩
      · obtain ⟨v, w, u, ca, cb, cc, rfl, r1, r2, r3⟩ := r.three
        have r1 := r1.intE
        have r2 := r2.intE
        have r3 := r3.intE
        subst r1 r2 r3
        show (Builtin.Range.rangeSize i0 j c0).toNat ≤ i
        simpa using hi
/-! ### in a tuple of data -/
theorem op_inDT {X : Cx} (hu : X.A.units + 65 < cLine) : OpR X (compareOp .In) (fun x y H Q => ∃ d ds, Dp X.K H x d ∧ Dp X.K H y (.tuple ds) ∧ SeqAt.shaped d = true ∧ SeqAt.shaped (.tuple ds) = true ∧ Q (.bl (ds.any fun z => PyData.eqv z d)) H) := by
  intro pins s σ H x y v u Q I rx ry h
  obtain ⟨d, ds, hd, he, sd, se, q⟩ := h
  obtain ⟨as, r1⟩ := Dp.reads I d x v hd rx
  obtain ⟨bs, r2⟩ := Dp.reads I (.tuple ds) y u he ry
  exact SeqAt.in_tuple_reads r2 r1 (SeqAt.canLay_of_shaped se) (SeqAt.canLay_of_shaped sd) (PyProof.Rows.room_in_shaped sd hu) ⟨.bl _, H, I, rfl, q⟩
def inTO : D → D → Option Bool := fun a b => match toPy a, toPy b with
  | some p, some (.tuple ps) => if SeqAt.shaped p = true ∧ SeqAt.shaped (.tuple ps) = true then some (ps.any fun z => PyData.eqv z p) else none
  | _, _ => none
theorem inTO_some {a b : D} {r : Bool} (h : inTO a b = some r) : ∃ p ps, toPy a = some p ∧ toPy b = some (.tuple ps) ∧ SeqAt.shaped p = true ∧ SeqAt.shaped (.tuple ps) = true ∧ r = ps.any fun z => PyData.eqv z p := by
  unfold inTO at h
  split at h
  · rename_i p ps e1 e2
    split at h
    · rename_i hc
      cases h
      exact ⟨p, ps, e1, e2, hc.1, hc.2, rfl⟩
    · cases h
  · cases h
theorem two_inT : Two P (fun X r => OpR X (compareOp .In) r) (fun a b => (inTO a b).map D.bl) := by
  intro X N sc ok a b d h
  obtain ⟨r, e, rfl⟩ := Option.map_eq_some_iff.mp h
  obtain ⟨p, ps, e1, e2, s1, s2, rfl⟩ := inTO_some e
  have := ok.units
  exact ⟨_, op_inDT (by omega), fun x y H F c ca cb Q ra _ rb _ g k => ⟨p, ps, dp_of g.sub _ _ _ _ ra e1, dp_of g.sub _ _ _ _ rb e2, s1, s2, k.bl g⟩⟩
def opInT : Opr P := opCmp .In (fun a b => (inTO a b).map D.bl) two_inT
end Ev
end
section
set_option maxRecDepth 100000
set_option maxHeartbeats 4000000
namespace Ev
open PySem PySem.Spec L2
section
variable {P : Pg} {cl : Cl} {rt t t1 t2 : Tr} {α β : Type}
theorem bqm {o : OprM P} {b : B P} {es : List (B P)} {os : List Opd} {ds : List D} {d d0 : D} {t0 : Tr} (h0 : evB cl rt b t = some (.ok d0 t0)) (hh : o.hd d0 = true) (h : evOs cl none rt (b :: es) t = some (.ok os t1)) (h2 : opdDs t1 os = some ds) (h3 : o.f ds = some d) :
    evB cl rt (.qm o (b :: es)) t = some (.ok d t1) := by
  have e : hdD cl rt (b :: es) t = some d0 := by
    cases b <;> first | (simp only [hdD, h0]; done) | (simp [evB] at h0; done)
  simp only [evB, e, hdOk]
  rw [if_pos hh]
  simp only [h, bindR, h2, Option.bind_some, h3, Option.map_some]
/-! texts -/
def joinS (a : Str) (ys : List Str) : Option Str := if (ys.map (·.length)).sum + ys.length * a.length ≤ 16777216 then some (Txt.join a ys) else none
theorem strsD_map : ∀ ys : List Str, strsD (ys.map eS) = some ys
  | [] => rfl
  | y :: ys => by
    show (strsD (ys.map eS)).map _ = _
    rw [strsD_map ys]; rfl
theorem t_join {o : Bool} {a r : Str} {ys : List Str} (h : joinS a ys = some r) : (opJoin : OprM P).f [.str a, eL o eS ys] = some (.str r) := by
  show (strsD (ys.map eS)).bind _ = _
  rw [strsD_map, Option.bind_some]
  unfold joinS at h
  split at h
  · rename_i hc; rw [if_pos hc]; cases h; rfl
  · cases h
def splitO (a b : Str) : Option (List Str) := if (b.length == 0) = false ∧ a.length + 2 ≤ sizeLine then some (Txt.split a b) else none
theorem t_split {a b : Str} {r : List Str} (h : splitO a b = some r) : (opSplit : OprM P).f [.str a, .str b] = some (eL true eS r) := by
  show splitF [.str a, .str b] = _
  simp only [splitF]
  unfold splitO at h
  split at h
  · rename_i hc; rw [if_pos hc]; cases h; rfl
  · cases h
def strO (i : Int) : Option Str := if i.natAbs.log2 < 1920 then some (toString i) else none
theorem t_str {i : Int} {r : Str} (h : strO i = some r) : (opStr : Opr P).f [.int i] = some (.str r) := by
  show strF [.int i] = _
  simp only [strF]
  unfold strO at h
  split at h
  · rename_i hc; rw [if_pos hc]; cases h; rfl
  · cases h
def intTO (a : Str) : Option Int := if a.length ≤ 640 then PySem.intText? a else none
theorem t_intT {a : Str} {r : Int} (h : intTO a = some r) : (opIntT : Opr P).f [.str a] = some (.int r) := by
  show intTF [.str a] = _
  simp only [intTF]
  unfold intTO at h
  split at h
  · rename_i hc; rw [if_pos hc, h]; rfl
  · cases h
def repSO (a : Str) (n : Int) : Option Str := if -1000 ≤ n ∧ n ≤ 1000 ∧ a.length ≤ 1000 then some (repS a n) else none
theorem g_repS {a r : Str} {n : Int} (h : repSO a n = some r) : (opMulT : Opr P).f [.str a, .int n] = some (.str r) := by
  show mulTF (.str a) (.int n) = _
  simp only [mulTF]
  unfold repSO at h
  split at h
  · rename_i hc; rw [if_pos hc]; cases h; rfl
  · cases h
def repQ : Q → Int → Option Q
  | .tup xs, n => if -1000 ≤ n ∧ n ≤ 1000 ∧ xs.length * n.toNat ≤ sizeLine then some (.tup (List.replicate n.toNat xs).flatten) else none
  | _, _ => none
theorem g_repQ : ∀ {q r : Q} {n : Int}, repQ q n = some r → (opMulT : Opr P).f [eQ q, .int n] = some (eQ r)
  | .tup xs, r, n, h => by
    show mulTF (.tup (eQs xs)) (.int n) = _
    simp only [mulTF, eQs_map, isFs_map fzQ, true_and, List.length_map]
    simp only [repQ] at h
    split at h
    · rename_i hc; rw [if_pos hc]; cases h
      simp only [eQ, eQs_map, List.map_flatten, List.map_replicate]
    · cases h
/-- a text's signs -/
def sgns (x : Str) : List Str := x.cps.toList.map fun c => ⟨#[c]⟩
theorem w_St {x : Str} : (itStr : Itr P).f [.str x] = some ((sgns x).map eS) := by
  show some (x.cps.toList.map fun c => D.str ⟨#[c]⟩) = _
  unfold sgns
  rw [List.map_map]; rfl
def zipQ : Q → Q → Option (List (Q × Q))
  | .tup xs, .tup ys => some (xs.zip ys)
  | .lst xs, .lst ys => some (xs.zip ys)
  | _, _ => none
theorem w_zipQ : ∀ {a b : Q} {o o' : Bool} {l : List (Q × Q)}, zipQ a b = some l → (itZip : Itr P).f [eQo o a, eQo o' b] = some (l.map (eT2 eQ eQ))
  | .tup xs, .tup ys, o, o', l, h => by
    cases h
    show zipF [.tup (eQs xs), .tup (eQs ys)] = _
    simp only [zipF, eQs_map, isFs_map fzQ]
    rw [if_pos ⟨trivial, trivial⟩, zipD, List.zip_map, List.map_map]
    rfl
  | .lst xs, .lst ys, o, o', l, h => by
    cases h
    show zipF [.lst o (eQs xs), .lst o' (eQs ys)] = _
    simp only [zipF, eQs_map, isFs_map fzQ]
    rw [if_pos ⟨trivial, trivial⟩, zipD, List.zip_map, List.map_map]
    rfl
theorem w_zipQ1 {a b : Q} {o' : Bool} {l : List (Q × Q)} (h : zipQ a b = some l) : (itZip : Itr P).f [eQ a, eQo o' b] = some (l.map (eT2 eQ eQ)) := by rw [qo_f]; exact w_zipQ h
theorem w_zipQ2 {a b : Q} {o : Bool} {l : List (Q × Q)} (h : zipQ a b = some l) : (itZip : Itr P).f [eQo o a, eQ b] = some (l.map (eT2 eQ eQ)) := by rw [qo_f b]; exact w_zipQ h
theorem w_zipQ0 {a b : Q} {l : List (Q × Q)} (h : zipQ a b = some l) : (itZip : Itr P).f [eQ a, eQ b] = some (l.map (eT2 eQ eQ)) := by rw [qo_f a, qo_f b]; exact w_zipQ h
/-- isinstance of one of some types -/
def isiTQ (q : Q) (ns : List String) : Option Bool := kitBs (tyQ q) ns
theorem tysD_map : ∀ ns : List String, tysD (ns.map D.ty) = some ns
  | [] => rfl
  | n :: ns => by
    show (tysD (ns.map D.ty)).map _ = _
    rw [tysD_map ns]; rfl
theorem g_isiT {o : Bool} {q : Q} {ns : List String} {b : Bool} (h : isiTQ q ns = some b) : (opIsiT : Opr P).f [eQo o q, .tup (ns.map D.ty)] = some (.bl b) := by
  have e : tyD (eQo o q) = some (tyQ q) := by cases q <;> rfl
  show (tyD (eQo o q)).bind _ = _
  rw [e, Option.bind_some]
  rw [tysD_map, Option.bind_some, show kitBs (tyQ q) ns = some b from h]; rfl
theorem g_isiTQ {q : Q} {ns : List String} {b : Bool} (h : isiTQ q ns = some b) : (opIsiT : Opr P).f [eQ q, .tup (ns.map D.ty)] = some (.bl b) := by rw [qo_f]; exact g_isiT h
theorem m_extR {o : Bool} {e : α → D} {xs ys zs : List α} (he : Fz e) (h : catO xs ys = some zs) : (mExtR : Mut P).f (eL true e xs) [eL o e ys] = some (.non, eL true e zs) := by
  unfold catO at h; split at h
  · rename_i h1
    cases h
    show extRF (.lst true (xs.map e)) [.lst o (ys.map e)] = _
    simp only [extRF, isFs_map he, List.length_map]
    rw [if_pos ⟨trivial, h1⟩, eL, List.map_append]
  · cases h
theorem eqD_Qo1 {o : Bool} (q : Q) (d : D) : eqD (eQo o q) d = eqD (eQo true q) d := by
  cases q <;> cases d <;> rfl
theorem eqD_Qo2 {o : Bool} (q : Q) (d : D) : eqD d (eQo o q) = eqD d (eQo true q) := by
  cases q <;> cases d <;> rfl
def rngO3 (i j c : Int) : Option (List Int) := if c ≠ 0 ∧ c.natAbs < 1073741824 ∧ Builtin.Range.small i j c = true ∧ 0 ≤ Builtin.Range.rangeSize i j c then some ((List.range (Builtin.Range.rangeSize i j c).toNat).map fun k : Nat => i + (k : Nat) * c) else none
theorem w_rng3 {a b c : Int} {xs : List Int} (h : rngO3 a b c = some xs) : (itRng3 : Itr P).f [.int a, .int b, .int c] = some (xs.map eI) := by
  unfold rngO3 at h; split at h
  · rename_i h1
    cases h
    show rng3F [.int a, .int b, .int c] = _
    simp only [rng3F]
    rw [if_pos h1, List.map_map]
    rfl
  · cases h
theorem g_inT {a b : D} {c : Bool} (h : inTO a b = some c) : (opInT : Opr P).f [a, b] = some (.bl c) := by
  show (inTO a b).map _ = _
  rw [h]; rfl
end
end Ev
end
section
set_option maxRecDepth 100000
set_option maxHeartbeats 4000000
namespace LawP
open PySem PySem.Spec PyProof.Rows L2 Ev
/-! printed by gen2.py from the law's own text -/
abbrev fu : Nat := 2 ^ 64
def top (i : Nat) : Stmt := PySem.Challenge.pw_nolitter_k08_rounds_written_out.main.body.getD i (.Pass ⟨0, 0, 0, 0⟩)
def fnN : List Str := ["rows_within", "rows_in", "written_out", "pieces", "weight", "_law_purse", "_law_next", "_law_names", "_law_number", "_law_atom", "_law_set", "_law_shut", "_law_rows", "_law_program", "_law_alike", "_law_out", "_law_count", "law"]
def conI : List (Str × Int) := []
def conS : List (Str × Str) := []
def fvN : List Str := []
def attN : List (Str × Str) := []
def mtN : List (Str × Str) := []
def ckN : List Str := []
def dkL : List (Str × Int) := []
def dtN : List (Str × List (Str × Str)) := []
def P : Pg := ⟨glX conI conS fvN, fun C f => attN.contains (C, f), fun f => fnN.contains f, fun C m => mtN.contains (C, m), fun C => ckN.contains C, glF dkL [], fun _ => none, fun x => dtN.lookup x⟩
def b_rows_within : List (S P) :=
  [.iff (.pu (.p opEq [.ix (.v 0) (.c (.int 0)), .c (.str "choose")])) [.ret (.pu (.p opAdd [.ix (.v 0) (.c (.int 2)), .ix (.v 0) (.c (.int 3))]))] [], .iff (.pu (.p opEq [.ix (.v 0) (.c (.int 0)), .c (.str "times")])) [.ret (.pu (.ix (.v 0) (.c (.int 2))))] [], .ret (.pu (.tup []))]
def d_rows_within : Df P := ⟨⟨("rows_within", none), "rows_within", "rows_within", defArgs (top 1), defBody (top 1), defScope (top 1), [], []⟩, ["row"], ["row"], [0], b_rows_within, []⟩
theorem dok_rows_within : DfOk d_rows_within := ⟨⟨rfl, rfl, rfl, by decide +kernel, rfl, by decide +kernel, by decide +kernel⟩, by decide +kernel, rfl, fun F => FunD.bindsN F (fun _ _ _ _ _ _ us hl => match us, hl with | [_], _ => rfl), fun _ h => absurd h (List.not_mem_nil), fun _ _ _ _ _ _ _ us hl => match us, hl with | [_], _ => rfl⟩
def b_rows_in : List (S P) :=
  [.set 1 (.pu (.c (.int 0))), .for (.n 2) itList [.rf 0] [.aug augAdd 1 (.q opAdd [.pu (.c (.int 1)), .call (.glob ("rows_in" : Str)) none [.call (.glob ("rows_within" : Str)) none [.pu (.v 2)]]]), .fg [2]], .ret (.pu (.v 1))]
def d_rows_in : Df P := ⟨⟨("rows_in", none), "rows_in", "rows_in", defArgs (top 2), defBody (top 2), defScope (top 2), [], []⟩, ["rows", "many", "row"], ["rows"], [0], b_rows_in, []⟩
theorem dok_rows_in : DfOk d_rows_in := ⟨⟨rfl, rfl, rfl, by decide +kernel, rfl, by decide +kernel, by decide +kernel⟩, by decide +kernel, rfl, fun F => FunD.bindsN F (fun _ _ _ _ _ _ us hl => match us, hl with | [_], _ => rfl), fun _ h => absurd h (List.not_mem_nil), fun _ _ _ _ _ _ _ us hl => match us, hl with | [_], _ => rfl⟩
def b_written_out : List (S P) :=
  [.set 1 (.pu (.lst [])), .for (.n 2) itList [.pu (.v 0)] [.iff (.pu (.p opEq [.ix (.v 2) (.c (.int 0)), .c (.str "times")])) [.set 3 (.call (.glob ("written_out" : Str)) none [.pu (.ix (.v 2) (.c (.int 2)))]), .shr 3, .for (.n 4) itRng1 [.pu (.ix (.v 2) (.c (.int 1)))] [.ex (.mut mExtR none [.rf 1, .nm 3]), .fg [4]], .fg [3]] [.iff (.pu (.p opEq [.ix (.v 2) (.c (.int 0)), .c (.str "choose")])) [.ex (.mut mAppend none [.rf 1, .q opAdd [.pu (.p opSlHi [.v 2, .c (.int 2)]), .tup [.q opTuple [.call (.glob ("written_out" : Str)) none [.pu (.ix (.v 2) (.c (.int 2)))]], .q opTuple [.call (.glob ("written_out" : Str)) none [.pu (.ix (.v 2) (.c (.int 3)))]]]]])] [.ex (.mut mAppend none [.rf 1, .pu (.v 2)])]], .fg [2]], .ret (.mv 1)]
def d_written_out : Df P := ⟨⟨("written_out", none), "written_out", "written_out", defArgs (top 4), defBody (top 4), defScope (top 4), [], []⟩, ["rows", "found", "row", "inner", "turn"], ["rows"], [0], b_written_out, []⟩
theorem dok_written_out : DfOk d_written_out := ⟨⟨rfl, rfl, rfl, by decide +kernel, rfl, by decide +kernel, by decide +kernel⟩, by decide +kernel, rfl, fun F => FunD.bindsN F (fun _ _ _ _ _ _ us hl => match us, hl with | [_], _ => rfl), fun _ h => absurd h (List.not_mem_nil), fun _ _ _ _ _ _ _ us hl => match us, hl with | [_], _ => rfl⟩
def b_pieces : List (S P) :=
  [.ret (.call (.glob ("written_out" : Str)) none [.pu (.ix (.v 0) (.c (.int 2)))])]
def d_pieces : Df P := ⟨⟨("pieces", none), "pieces", "pieces", defArgs (top 5), defBody (top 5), defScope (top 5), [], []⟩, ["program"], ["program"], [0], b_pieces, []⟩
theorem dok_pieces : DfOk d_pieces := ⟨⟨rfl, rfl, rfl, by decide +kernel, rfl, by decide +kernel, by decide +kernel⟩, by decide +kernel, rfl, fun F => FunD.bindsN F (fun _ _ _ _ _ _ us hl => match us, hl with | [_], _ => rfl), fun _ h => absurd h (List.not_mem_nil), fun _ _ _ _ _ _ _ us hl => match us, hl with | [_], _ => rfl⟩
def b_weight : List (S P) :=
  [.ret (.call (.glob ("rows_in" : Str)) none [.rf 0])]
def d_weight : Df P := ⟨⟨("weight", none), "weight", "weight", defArgs (top 6), defBody (top 6), defScope (top 6), [], []⟩, ["some"], ["some"], [0], b_weight, []⟩
theorem dok_weight : DfOk d_weight := ⟨⟨rfl, rfl, rfl, by decide +kernel, rfl, by decide +kernel, by decide +kernel⟩, by decide +kernel, rfl, fun F => FunD.bindsN F (fun _ _ _ _ _ _ us hl => match us, hl with | [_], _ => rfl), fun _ h => absurd h (List.not_mem_nil), fun _ _ _ _ _ _ _ us hl => match us, hl with | [_], _ => rfl⟩
def b__law_purse : List (S P) :=
  [.set 2 (.pu (.p opAdd [.p opMul [.p opAbs [.p opSum [.p opSlHi [.v 0, .c (.int 63)]]], .c (.int 31)], .p opMul [.c (.int 7919), .v 1]])), .iff (.pu (.p opLt [.v 1, .p opLen [.v 0]])) [.set 2 (.pu (.p opAbs [.p opIx [.v 0, .v 1]]))] [], .set 3 (.pu (.p opMod [.p opAdd [.p opAdd [.p opMul [.p opMod [.v 2, .c (.int 2147483629)], .c (.int 48271)], .p opMul [.c (.int 7919), .v 1]], .c (.int 13)], .c (.int 2147483629)])), .set 3 (.pu (.p opMod [.p opMul [.v 3, .p opAdd [.p opAdd [.p opDiv [.v 3, .c (.int 7)], .v 1], .c (.int 1)]], .c (.int 2147483587)])), .ret (.pu (.lst [.p opMul [.v 2, .p opInt [.p opGe [.v 2, .p opPow [.c (.int 10), .c (.int 18)]]]], .v 3]))]
def d__law_purse : Df P := ⟨⟨("_law_purse", none), "_law_purse", "_law_purse", defArgs (top 8), defBody (top 8), defScope (top 8), [], []⟩, ["_law_script", "_law_k", "_law_cell", "_law_seed"], ["_law_script", "_law_k"], [0, 1], b__law_purse, []⟩
theorem dok__law_purse : DfOk d__law_purse := ⟨⟨rfl, rfl, rfl, by decide +kernel, rfl, by decide +kernel, by decide +kernel⟩, by decide +kernel, rfl, fun F => FunD.bindsN F (fun _ _ _ _ _ _ us hl => match us, hl with | [_, _], _ => rfl), fun _ h => absurd h (List.not_mem_nil), fun _ _ _ _ _ _ _ us hl => match us, hl with | [_, _], _ => rfl⟩
def b__law_next : List (S P) :=
  [.iff (.pu (.p opGt [.ix (.v 0) (.c (.int 0)), .c (.int 0)])) [.set 2 (.pu (.p opMod [.ix (.v 0) (.c (.int 0)), .v 1])), .put putI none (.pu (.p opDiv [.ix (.v 0) (.c (.int 0)), .v 1])) [.rf 0, .pu (.c (.int 0))], .ret (.pu (.v 2))] [], .put putI none (.pu (.p opMod [.p opAdd [.p opMul [.ix (.v 0) (.c (.int 1)), .c (.int 69621)], .c (.int 104729)], .c (.int 2147483587)])) [.rf 0, .pu (.c (.int 1))], .ret (.pu (.p opMod [.p opMod [.p opMul [.ix (.v 0) (.c (.int 1)), .p opAdd [.p opMod [.ix (.v 0) (.c (.int 1)), .c (.int 16807)], .c (.int 1)]], .c (.int 2147483579)], .v 1]))]
def d__law_next : Df P := ⟨⟨("_law_next", none), "_law_next", "_law_next", defArgs (top 9), defBody (top 9), defScope (top 9), [], []⟩, ["_law_purse_here", "_law_many", "_law_digit"], ["_law_purse_here", "_law_many"], [0, 1], b__law_next, []⟩
theorem dok__law_next : DfOk d__law_next := ⟨⟨rfl, rfl, rfl, by decide +kernel, rfl, by decide +kernel, by decide +kernel⟩, by decide +kernel, rfl, fun F => FunD.bindsN F (fun _ _ _ _ _ _ us hl => match us, hl with | [_, _], _ => rfl), fun _ h => absurd h (List.not_mem_nil), fun _ _ _ _ _ _ _ us hl => match us, hl with | [_, _], _ => rfl⟩
def b__law_names : List (S P) :=
  [.set 1 (.pu (.c (.str "abcdefghijklmnopqrstuvwxyz"))), .set 2 (.call (.glob ("_law_next" : Str)) none [.rf 0, .pu (.c (.int 2))]), .set 3 (.q opAdd [.pu (.c (.int 1)), .call (.glob ("_law_next" : Str)) none [.rf 0, .pu (.p opSub [.c (.int 8), .v 2])]]), .set 4 (.lc (.q opIx [.pu (.v 1), .call (.glob ("_law_next" : Str)) none [.rf 0, .pu (.c (.int 26))]]) (.n 8) [(("_law_k" : Str), 8)] itRng1 [.pu (.v 3)] []), .set 5 (.call (.glob ("_law_next" : Str)) none [.rf 0, .pu (.v 3)]), .set 6 (.call (.glob ("_law_next" : Str)) none [.rf 0, .pu (.c (.int 26))]), .set 7 (.pu (.lst [])), .for (.n 8) itRng1 [.q opAdd [.pu (.c (.int 1)), .call (.glob ("_law_next" : Str)) none [.rf 0, .pu (.c (.int 6))]]] [.put putI none (.pu (.p opIx [.v 1, .p opMod [.p opAdd [.v 6, .p opMul [.c (.int 5), .v 8]], .c (.int 26)]])) [.rf 4, .pu (.v 5)], .set 10 (.q opAdd [.qm opJoin [.pu (.c (.str "")), .rf 4], .pu (.p opMulT [.c (.str "a"), .p opMul [.v 2, .p opMod [.v 8, .c (.int 2)]]])]), .iff (.pu (.p opIn [.v 10, .tup [.c (.str "wide"), .c (.str "boxes"), .c (.str "choose"), .c (.str "else"), .c (.str "end"), .c (.str "times")]])) [.set 10 (.pu (.p opAdd [.v 10, .c (.str "q")]))] [], .ex (.mut mAppend none [.rf 7, .pu (.v 10)]), .fg [8, 10]], .set 9 (.q opIx [.pu (.lst [.c (.str "ends"), .c (.str "elseif"), .c (.str "wider"), .c (.str "boxesa"), .c (.str "timesx"), .c (.str "chooser"), .c (.str "is"), .c (.str "op"), .c (.str "en"), .c (.str "tim")]), .call (.glob ("_law_next" : Str)) none [.rf 0, .pu (.c (.int 10))]]), .iff (.and [.q opEq [.call (.glob ("_law_next" : Str)) none [.rf 0, .pu (.c (.int 6))], .pu (.c (.int 1))], .pu (.p opNotInD [.v 9, .v 7])]) [.put putI none (.pu (.v 9)) [.rf 7, .pu (.p opNeg [.c (.int 1)])]] [], .ret (.pu (.p opTuple [.v 7]))]
def d__law_names : Df P := ⟨⟨("_law_names", none), "_law_names", "_law_names", defArgs (top 10), defBody (top 10), defScope (top 10), [], []⟩, ["_law_purse_here", "_law_abc", "_law_longer", "_law_size", "_law_letters", "_law_spot", "_law_first", "_law_names_here", "_law_k", "_law_word", "_law_name"], ["_law_purse_here"], [0], b__law_names, []⟩
theorem dok__law_names : DfOk d__law_names := ⟨⟨rfl, rfl, rfl, by decide +kernel, rfl, by decide +kernel, by decide +kernel⟩, by decide +kernel, rfl, fun F => FunD.bindsN F (fun _ _ _ _ _ _ us hl => match us, hl with | [_], _ => rfl), fun _ h => absurd h (List.not_mem_nil), fun _ _ _ _ _ _ _ us hl => match us, hl with | [_], _ => rfl⟩
def b__law_number : List (S P) :=
  [.ret (.q opMod [.q opIx [.lst [.pu (.c (.int 0)), .pu (.c (.int 1)), .pu (.p opSub [.p opShl [.c (.int 1), .v 1], .c (.int 1)]), .call (.glob ("_law_next" : Str)) none [.rf 0, .pu (.p opShl [.c (.int 1), .v 1])]], .call (.glob ("_law_next" : Str)) none [.rf 0, .pu (.c (.int 4))]], .pu (.p opShl [.c (.int 1), .v 1])])]
def d__law_number : Df P := ⟨⟨("_law_number", none), "_law_number", "_law_number", defArgs (top 11), defBody (top 11), defScope (top 11), [], []⟩, ["_law_purse_here", "_law_wide"], ["_law_purse_here", "_law_wide"], [0, 1], b__law_number, []⟩
theorem dok__law_number : DfOk d__law_number := ⟨⟨rfl, rfl, rfl, by decide +kernel, rfl, by decide +kernel, by decide +kernel⟩, by decide +kernel, rfl, fun F => FunD.bindsN F (fun _ _ _ _ _ _ us hl => match us, hl with | [_, _], _ => rfl), fun _ h => absurd h (List.not_mem_nil), fun _ _ _ _ _ _ _ us hl => match us, hl with | [_, _], _ => rfl⟩
def b__law_atom : List (S P) :=
  [.iff (.q opEq [.call (.glob ("_law_next" : Str)) none [.rf 0, .pu (.c (.int 3))], .pu (.c (.int 0))]) [.ret (.call (.glob ("_law_number" : Str)) none [.rf 0, .pu (.v 1)])] [], .ret (.q opIx [.pu (.v 2), .call (.glob ("_law_next" : Str)) none [.rf 0, .pu (.p opLen [.v 2])]])]
def d__law_atom : Df P := ⟨⟨("_law_atom", none), "_law_atom", "_law_atom", defArgs (top 12), defBody (top 12), defScope (top 12), [], []⟩, ["_law_purse_here", "_law_wide", "_law_boxes"], ["_law_purse_here", "_law_wide", "_law_boxes"], [0, 1, 2], b__law_atom, []⟩
theorem dok__law_atom : DfOk d__law_atom := ⟨⟨rfl, rfl, rfl, by decide +kernel, rfl, by decide +kernel, by decide +kernel⟩, by decide +kernel, rfl, fun F => FunD.bindsN F (fun _ _ _ _ _ _ us hl => match us, hl with | [_, _, _], _ => rfl), fun _ h => absurd h (List.not_mem_nil), fun _ _ _ _ _ _ _ us hl => match us, hl with | [_, _, _], _ => rfl⟩
def b__law_set : List (S P) :=
  [.set 3 (.q opIx [.pu (.v 2), .call (.glob ("_law_next" : Str)) none [.rf 0, .pu (.p opLen [.v 2])]]), .set 4 (.call (.glob ("_law_atom" : Str)) none [.rf 0, .pu (.v 1), .pu (.v 2)]), .iff (.q opEq [.call (.glob ("_law_next" : Str)) none [.rf 0, .pu (.c (.int 4))], .pu (.c (.int 0))]) [.ret (.pu (.tup [.c (.str "is"), .v 3, .v 4]))] [], .ret (.tup [.pu (.c (.str "op")), .pu (.v 3), .q opIx [.pu (.c (.str "+-&|^<=")), .call (.glob ("_law_next" : Str)) none [.rf 0, .pu (.c (.int 7))]], .pu (.v 4), .call (.glob ("_law_atom" : Str)) none [.rf 0, .pu (.v 1), .pu (.v 2)]])]
def d__law_set : Df P := ⟨⟨("_law_set", none), "_law_set", "_law_set", defArgs (top 13), defBody (top 13), defScope (top 13), [], []⟩, ["_law_purse_here", "_law_wide", "_law_boxes", "_law_x", "_law_one"], ["_law_purse_here", "_law_wide", "_law_boxes"], [0, 1, 2], b__law_set, []⟩
theorem dok__law_set : DfOk d__law_set := ⟨⟨rfl, rfl, rfl, by decide +kernel, rfl, by decide +kernel, by decide +kernel⟩, by decide +kernel, rfl, fun F => FunD.bindsN F (fun _ _ _ _ _ _ us hl => match us, hl with | [_, _, _], _ => rfl), fun _ h => absurd h (List.not_mem_nil), fun _ _ _ _ _ _ _ us hl => match us, hl with | [_, _, _], _ => rfl⟩
def b__law_shut : List (S P) :=
  [.asg (.t [.n 2, .n 3, .n 4]) (.mut mPop none [.rf 0]), .iff (.pu (.and [.p opEq [.ix (.v 3) (.c (.int 0)), .c (.str "choose")], .p opEq [.p opLen [.v 3], .c (.int 2)]])) [.ex (.mut mAppend none [.rf 0, .tup [.nm 2, .pu (.p opAdd [.v 3, .tup [.p opTuple [.v 1]]]), .pu (.v 4)]]), .ret (.pu (.lst []))] [], .ret (.pu (.p opAdd [.v 2, .lst [.p opAdd [.v 3, .tup [.p opTuple [.v 1]]]]]))]
def d__law_shut : Df P := ⟨⟨("_law_shut", none), "_law_shut", "_law_shut", defArgs (top 14), defBody (top 14), defScope (top 14), [], []⟩, ["_law_opened", "_law_rows_here", "_law_ahead", "_law_head", "_law_often"], ["_law_opened", "_law_rows_here"], [0, 1], b__law_shut, []⟩
theorem dok__law_shut : DfOk d__law_shut := ⟨⟨rfl, rfl, rfl, by decide +kernel, rfl, by decide +kernel, by decide +kernel⟩, by decide +kernel, rfl, fun F => FunD.bindsN F (fun _ _ _ _ _ _ us hl => match us, hl with | [_, _], _ => rfl), fun _ h => absurd h (List.not_mem_nil), fun _ _ _ _ _ _ _ us hl => match us, hl with | [_, _], _ => rfl⟩
def b__law_rows : List (S P) :=
  [.set 4 (.pu (.lst [])), .set 5 (.pu (.lst [])), .set 6 (.pu (.c (.int 1))), .set 7 (.pu (.c (.int 120))), .for (.n 8) itRng1 [.pu (.v 3)] [.set 9 (.call (.glob ("_law_purse" : Str)) none [.pu (.v 0), .pu (.p opAdd [.c (.int 6), .v 8])]), .set 10 (.call (.glob ("_law_next" : Str)) none [.rf 9, .pu (.c (.int 10))]), .iff (.pu (.and [.p opGt [.v 10, .c (.int 7)], .p opLt [.p opLen [.v 4], .c (.int 5)], .p opGe [.v 7, .v 6]])) [.set 11 (.tup [.pu (.c (.str "choose")), .call (.glob ("_law_atom" : Str)) none [.rf 9, .pu (.v 1), .pu (.v 2)]]), .set 7 (.pu (.p opSub [.v 7, .v 6])), .iff (.pu (.p opEq [.v 10, .c (.int 9)])) [.set 12 (.q opIx [.lst [.pu (.c (.int 0)), .pu (.c (.int 1)), .pu (.c (.int 2)), .pu (.c (.int 3)), .pu (.c (.int 4)), .call (.glob ("_law_next" : Str)) none [.rf 9, .pu (.c (.int 21))]], .call (.glob ("_law_next" : Str)) none [.rf 9, .pu (.c (.int 6))]]), .set 11 (.pu (.tup [.c (.str "times"), .ix (.lst [.c (.int 1), .v 12]) (.p opInt [.p opLe [.p opMul [.v 6, .v 12], .v 7]])])), .fg [12]] [], .ex (.mut mAppend none [.rf 4, .tup [.nm 5, .pu (.v 11), .pu (.v 6)]]), .set 6 (.pu (.p opMul [.v 6, .ix (.lst [.c (.int 1), .ix (.v 11) (.c (.int 1))]) (.p opInt [.p opEq [.v 10, .c (.int 9)]])])), .set 5 (.pu (.lst [])), .fg [11]] [.iff (.pu (.and [.p opEq [.v 10, .c (.int 7)], .p opNe [.v 4, .lst []]])) [.set 6 (.pu (.ix (.ix (.v 4) (.p opNeg [.c (.int 1)])) (.c (.int 2)))), .set 5 (.call (.glob ("_law_shut" : Str)) none [.rf 4, .rf 5])] [.iff (.pu (.p opGe [.v 7, .v 6])) [.ex (.mut mAppend none [.rf 5, .call (.glob ("_law_set" : Str)) none [.rf 9, .pu (.v 1), .pu (.v 2)]]), .set 7 (.pu (.p opSub [.v 7, .v 6]))] []]], .fg [8, 9, 10]], .whl (.pu (.p opNe [.v 4, .lst []])) [.set 5 (.call (.glob ("_law_shut" : Str)) none [.rf 4, .rf 5])], .ret (.pu (.p opTuple [.v 5]))]
def d__law_rows : Df P := ⟨⟨("_law_rows", none), "_law_rows", "_law_rows", defArgs (top 15), defBody (top 15), defScope (top 15), [], []⟩, ["_law_script", "_law_wide", "_law_boxes", "_law_most", "_law_opened", "_law_rows_here", "_law_often", "_law_left", "_law_j", "_law_purse_here", "_law_way", "_law_head", "_law_k"], ["_law_script", "_law_wide", "_law_boxes", "_law_most"], [0, 1, 2, 3], b__law_rows, []⟩
theorem dok__law_rows : DfOk d__law_rows := ⟨⟨rfl, rfl, rfl, by decide +kernel, rfl, by decide +kernel, by decide +kernel⟩, by decide +kernel, rfl, fun F => FunD.bindsN F (fun _ _ _ _ _ _ us hl => match us, hl with | [_, _, _, _], _ => rfl), fun _ h => absurd h (List.not_mem_nil), fun _ _ _ _ _ _ _ us hl => match us, hl with | [_, _, _, _], _ => rfl⟩
def b__law_program : List (S P) :=
  [.set 1 (.call (.glob ("_law_purse" : Str)) none [.pu (.v 0), .pu (.c (.int 0))]), .set 2 (.q opAdd [.pu (.c (.int 1)), .call (.glob ("_law_next" : Str)) none [.rf 1, .pu (.c (.int 16))]]), .set 3 (.call (.glob ("_law_names" : Str)) none [.call (.glob ("_law_purse" : Str)) none [.pu (.v 0), .pu (.c (.int 1))]]), .set 4 (.q opMax2 [.pu (.p opLen [.slc (.v 0) (.c (.int 6)) (.c (.int 57))]), .q opAdd [.pu (.c (.int 3)), .call (.glob ("_law_next" : Str)) none [.rf 1, .pu (.c (.int 6))]]]), .iff (.q opEq [.call (.glob ("_law_next" : Str)) none [.rf 1, .pu (.c (.int 8))], .pu (.c (.int 1))]) [.set 4 (.call (.glob ("_law_next" : Str)) none [.rf 1, .pu (.c (.int 2))])] [], .ret (.tup [.pu (.v 2), .pu (.v 3), .call (.glob ("_law_rows" : Str)) none [.pu (.v 0), .pu (.v 2), .pu (.v 3), .pu (.v 4)]])]
def d__law_program : Df P := ⟨⟨("_law_program", none), "_law_program", "_law_program", defArgs (top 16), defBody (top 16), defScope (top 16), [], []⟩, ["_law_script", "_law_purse_here", "_law_wide", "_law_boxes", "_law_many"], ["_law_script"], [0], b__law_program, []⟩
theorem dok__law_program : DfOk d__law_program := ⟨⟨rfl, rfl, rfl, by decide +kernel, rfl, by decide +kernel, by decide +kernel⟩, by decide +kernel, rfl, fun F => FunD.bindsN F (fun _ _ _ _ _ _ us hl => match us, hl with | [_], _ => rfl), fun _ h => absurd h (List.not_mem_nil), fun _ _ _ _ _ _ _ us hl => match us, hl with | [_], _ => rfl⟩
def b__law_alike : List (S P) :=
  [.iff (.pu (.or [.p opIsi [.v 0, .c (.ty "tuple")], .p opIsi [.v 1, .c (.ty "tuple")]])) [.iff (.pu (.or [.not (.p opIsi [.v 0, .c (.ty "tuple")]), .not (.p opIsi [.v 1, .c (.ty "tuple")]), .p opNe [.p opLen [.v 0], .p opLen [.v 1]]])) [.ret (.pu (.c (.bl false)))] [], .ret (.q opAll [.lc (.call (.glob ("_law_alike" : Str)) none [.pu (.v 2), .pu (.v 3)]) (.t [.n 2, .n 3]) [(("_law_mine" : Str), 2), (("_law_yours" : Str), 3)] itZip [.pu (.v 0), .pu (.v 1)] []])] [], .iff (.pu (.or [.p opIsi [.v 0, .c (.ty "bool")], .p opIsi [.v 1, .c (.ty "bool")], .p opNe [.p opIsi [.v 0, .c (.ty "str")], .p opIsi [.v 1, .c (.ty "str")]]])) [.ret (.pu (.c (.bl false)))] [], .ret (.pu (.p opEq [.v 0, .v 1]))]
def d__law_alike : Df P := ⟨⟨("_law_alike", none), "_law_alike", "_law_alike", defArgs (top 17), defBody (top 17), defScope (top 17), [], []⟩, ["_law_one", "_law_other", "_law_mine", "_law_yours"], ["_law_one", "_law_other"], [0, 1], b__law_alike, []⟩
theorem dok__law_alike : DfOk d__law_alike := ⟨⟨rfl, rfl, rfl, by decide +kernel, rfl, by decide +kernel, by decide +kernel⟩, by decide +kernel, rfl, fun F => FunD.bindsN F (fun _ _ _ _ _ _ us hl => match us, hl with | [_, _], _ => rfl), fun _ h => absurd h (List.not_mem_nil), fun _ _ _ _ _ _ _ us hl => match us, hl with | [_, _], _ => rfl⟩
def b__law_out : List (S P) :=
  [.set 1 (.pu (.tup [])), .for (.n 2) itList [.pu (.v 0)] [.iff (.pu (.p opEq [.ix (.v 2) (.c (.int 0)), .c (.str "times")])) [.set 1 (.q opAdd [.pu (.v 1), .q opMulT [.call (.glob ("_law_out" : Str)) none [.pu (.ix (.v 2) (.c (.int 2)))], .pu (.ix (.v 2) (.c (.int 1)))]])] [.iff (.pu (.p opEq [.ix (.v 2) (.c (.int 0)), .c (.str "choose")])) [.set 1 (.q opAdd [.pu (.v 1), .tup [.tup [.pu (.c (.str "choose")), .pu (.ix (.v 2) (.c (.int 1))), .call (.glob ("_law_out" : Str)) none [.pu (.ix (.v 2) (.c (.int 2)))], .call (.glob ("_law_out" : Str)) none [.pu (.ix (.v 2) (.c (.int 3)))]]]])] [.set 1 (.pu (.p opAdd [.v 1, .tup [.v 2]]))]], .fg [2]], .ret (.pu (.v 1))]
def d__law_out : Df P := ⟨⟨("_law_out", none), "_law_out", "_law_out", defArgs (top 18), defBody (top 18), defScope (top 18), [], []⟩, ["_law_rows_here", "_law_found", "_law_row"], ["_law_rows_here"], [0], b__law_out, []⟩
theorem dok__law_out : DfOk d__law_out := ⟨⟨rfl, rfl, rfl, by decide +kernel, rfl, by decide +kernel, by decide +kernel⟩, by decide +kernel, rfl, fun F => FunD.bindsN F (fun _ _ _ _ _ _ us hl => match us, hl with | [_], _ => rfl), fun _ h => absurd h (List.not_mem_nil), fun _ _ _ _ _ _ _ us hl => match us, hl with | [_], _ => rfl⟩
def b__law_count : List (S P) :=
  [.ret (.q opAdd [.pu (.p opLen [.v 0]), .q opSum [.lc (.q opAdd [.call (.glob ("_law_count" : Str)) none [.pu (.ix (.v 1) (.c (.int 2)))], .call (.glob ("_law_count" : Str)) none [.pu (.ix (.v 1) (.c (.int 3)))]]) (.n 1) [(("_law_row" : Str), 1)] itList [.pu (.v 0)] [.pu (.p opEq [.ix (.v 1) (.c (.int 0)), .c (.str "choose")])]]])]
def d__law_count : Df P := ⟨⟨("_law_count", none), "_law_count", "_law_count", defArgs (top 19), defBody (top 19), defScope (top 19), [], []⟩, ["_law_rows_here", "_law_row"], ["_law_rows_here"], [0], b__law_count, []⟩
theorem dok__law_count : DfOk d__law_count := ⟨⟨rfl, rfl, rfl, by decide +kernel, rfl, by decide +kernel, by decide +kernel⟩, by decide +kernel, rfl, fun F => FunD.bindsN F (fun _ _ _ _ _ _ us hl => match us, hl with | [_], _ => rfl), fun _ h => absurd h (List.not_mem_nil), fun _ _ _ _ _ _ _ us hl => match us, hl with | [_], _ => rfl⟩
def b_law : List (S P) :=
  [.set 1 (.call (.glob ("_law_program" : Str)) none [.pu (.v 0)]), .set 2 (.call (.glob ("_law_out" : Str)) none [.pu (.ix (.v 1) (.c (.int 2)))]), .set 3 (.call (.glob ("pieces" : Str)) none [.pu (.v 1)]), .iff (.or [.pu (.not (.p opIsi [.v 3, .c (.ty "list")])), .not (.call (.glob ("_law_alike" : Str)) none [.pu (.p opTuple [.v 3]), .pu (.v 2)])]) [.ret (.pu (.c (.bl false)))] [], .set 4 (.call (.glob ("weight" : Str)) none [.rf 3]), .iff (.or [.pu (.not (.p opIsi [.v 4, .c (.ty "int")])), .pu (.p opIsi [.v 4, .c (.ty "bool")]), .q opNe [.pu (.v 4), .call (.glob ("_law_count" : Str)) none [.pu (.v 2)]]]) [.ret (.pu (.c (.bl false)))] [], .for (.n 5) itRng1 [.pu (.p opLen [.v 2])] [.iff (.q opNe [.call (.glob ("weight" : Str)) none [.pu (.p opSlLo [.v 3, .v 5])], .call (.glob ("_law_count" : Str)) none [.pu (.p opSlLo [.v 2, .v 5])]]) [.ret (.pu (.c (.bl false)))] [], .fg [5]], .ex (.mut mAppend none [.rf 3, .pu (.tup [.c (.str "is"), .c (.str "a"), .c (.int 0)])]), .ex (.mut mReverse none [.rf 3]), .set 6 (.call (.glob ("_law_purse" : Str)) none [.pu (.v 0), .pu (.c (.int 2))]), .set 7 (.tup [.call (.glob ("_law_set" : Str)) none [.rf 6, .pu (.ix (.v 1) (.c (.int 0))), .pu (.ix (.v 1) (.c (.int 1)))], .call (.glob ("_law_set" : Str)) none [.rf 6, .pu (.ix (.v 1) (.c (.int 0))), .pu (.ix (.v 1) (.c (.int 1)))]]), .set 8 (.call (.glob ("pieces" : Str)) none [.pu (.tup [.ix (.v 1) (.c (.int 0)), .ix (.v 1) (.c (.int 1)), .tup [.tup [.c (.str "times"), .c (.int 20), .tup [.tup [.c (.str "times"), .c (.int 5), .v 7]]]]])]), .iff (.or [.pu (.p opNe [.p opTuple [.v 8], .p opMulT [.v 7, .c (.int 100)]]), .q opNe [.call (.glob ("weight" : Str)) none [.rf 8], .pu (.c (.int 200))]]) [.ret (.pu (.c (.bl false)))] [], .ret (.and [.q opEq [.q opTuple [.call (.glob ("pieces" : Str)) none [.pu (.v 1)]], .pu (.v 2)], .q opEq [.call (.glob ("weight" : Str)) none [.pu (.lst [])], .pu (.c (.int 0))]])]
def d_law : Df P := ⟨⟨("law", none), "law", "law", defArgs (top 20), defBody (top 20), defScope (top 20), [], []⟩, ["_law_script", "_law_program_here", "_law_due", "_law_found", "_law_many", "_law_k", "_law_purse_here", "_law_two", "_law_long"], ["_law_script"], [0], b_law, []⟩
theorem dok_law : DfOk d_law := ⟨⟨rfl, rfl, rfl, by decide +kernel, rfl, by decide +kernel, by decide +kernel⟩, by decide +kernel, rfl, fun F => FunD.bindsN F (fun _ _ _ _ _ _ us hl => match us, hl with | [_], _ => rfl), fun _ h => absurd h (List.not_mem_nil), fun _ _ _ _ _ _ _ us hl => match us, hl with | [_], _ => rfl⟩
def ds : List (Df P) := [d_rows_within, d_rows_in, d_written_out, d_pieces, d_weight, d__law_purse, d__law_next, d__law_names, d__law_number, d__law_atom, d__law_set, d__law_shut, d__law_rows, d__law_program, d__law_alike, d__law_out, d__law_count, d_law]
theorem dok_all : ∀ d ∈ ds, DfOk d := by
  intro d hd
  simp only [ds, List.mem_cons, List.not_mem_nil, or_false] at hd
  rcases hd with rfl | rfl | rfl | rfl | rfl | rfl | rfl | rfl | rfl | rfl | rfl | rfl | rfl | rfl | rfl | rfl | rfl | rfl
  · exact dok_rows_within
  · exact dok_rows_in
  · exact dok_written_out
  · exact dok_pieces
  · exact dok_weight
  · exact dok__law_purse
  · exact dok__law_next
  · exact dok__law_names
  · exact dok__law_number
  · exact dok__law_atom
  · exact dok__law_set
  · exact dok__law_shut
  · exact dok__law_rows
  · exact dok__law_program
  · exact dok__law_alike
  · exact dok__law_out
  · exact dok__law_count
  · exact dok_law
def f_rows_within (row : Q) : Option Q :=
  Option.bind (ixQ row 0) fun x =>
  Option.bind (eqD (eQ x) (eS ("choose" : Str))) fun c =>
  if c = true then
    Option.bind (ixQ row 2) fun x1 =>
    Option.bind (ixQ row 3) fun x2 =>
    Option.bind (catQ x1 x2) fun q =>
    some q
  else
    Option.bind (ixQ row 0) fun x3 =>
    Option.bind (eqD (eQ x3) (eS ("times" : Str))) fun c1 =>
    if c1 = true then
      Option.bind (ixQ row 2) fun x4 =>
      some x4
    else
      some (Q.tup [])
def f_rows_in : Nat → Q → Option Int
  | 0, _ => none
  | n_ + 1, rows =>
    Option.bind (asX rows) fun l =>
    Option.bind (forO (fun (s : Int) (x : Q) =>
      Option.bind (f_rows_within x) fun r =>
      Option.bind (f_rows_in n_ r) fun r1 =>
      Option.bind (some (s + (1 + r1))) fun many =>
      some many
    ) l 0) fun many1 =>
    some many1
def f_written_out : Nat → Q → Option (List (Q))
  | 0, _ => none
  | n_ + 1, rows =>
    Option.bind (some ([] : List (Q))) fun found =>
    Option.bind (asX rows) fun l =>
    Option.bind (forO (fun (s : List (Q)) (x : Q) =>
      Option.bind (ixQ x 0) fun x1 =>
      Option.bind (eqD (eQ x1) (eS ("times" : Str))) fun c =>
      Option.bind (if c = true then
        Option.bind (ixQ x 2) fun x2 =>
        Option.bind (f_written_out n_ x2) fun r =>
        Option.bind (ixQ x 1) fun x3 =>
        Option.bind (asI x3) fun i =>
        Option.bind (rngO 0 i) fun r1 =>
        Option.bind (forO (fun (s1 : List (Q)) (x4 : Int) =>
          Option.bind (catO s1 r) fun found1 =>
          some found1
        ) r1 s) fun found2 =>
        some found2
      else
        Option.bind (ixQ x 0) fun x5 =>
        Option.bind (eqD (eQ x5) (eS ("choose" : Str))) fun c1 =>
        Option.bind (if c1 = true then
          Option.bind (cutQ x none (some 2)) fun t =>
          Option.bind (ixQ x 2) fun x6 =>
          Option.bind (f_written_out n_ x6) fun r2 =>
          Option.bind (ixQ x 3) fun x7 =>
          Option.bind (f_written_out n_ x7) fun r3 =>
          Option.bind (catQ t (Q.tup [(Q.tup r2), (Q.tup r3)])) fun q =>
          Option.bind (appO s q) fun found3 =>
          some found3
        else
          Option.bind (appO s x) fun found4 =>
          some found4
        ) fun found5 =>
        some found5
      ) fun found6 =>
      some found6
    ) l found) fun found7 =>
    some found7
def f_pieces (program : (Int × Q × Q)) : Option (List (Q)) :=
  Option.bind (f_written_out 12 program.2.2) fun r =>
  some r
def f_weight (some_ : List (Q)) : Option Int :=
  Option.bind (f_rows_in 12 (Q.lst some_)) fun r =>
  some r
def f_purse (script : List Int) (k : Int) : Option (List (Int)) :=
  Option.bind (mulO (absI (cutL script none (some 63)).sum) 31) fun i =>
  Option.bind (mulO 7919 k) fun i1 =>
  Option.bind (some (i + i1)) fun cell =>
  Option.bind (if (decide (k < (script.length : Int))) = true then
    Option.bind (ixO script k) fun x =>
    Option.bind (some (absI x)) fun cell1 =>
    some cell1
  else
    some cell
  ) fun cell2 =>
  Option.bind (modO cell2 2147483629) fun i2 =>
  Option.bind (mulO i2 48271) fun i3 =>
  Option.bind (mulO 7919 k) fun i4 =>
  Option.bind (modO ((i3 + i4) + 13) 2147483629) fun i5 =>
  Option.bind (divO i5 7) fun i6 =>
  Option.bind (mulO i5 ((i6 + k) + 1)) fun i7 =>
  Option.bind (modO i7 2147483587) fun i8 =>
  Option.bind (powO 10 18) fun i9 =>
  Option.bind (mulO cell2 (boI (decide (i9 ≤ cell2)))) fun i10 =>
  some [i10, i8]
def f_next (purse_here : List (Int)) (many : Int) : Option (Int × List (Int)) :=
  Option.bind (ixO purse_here 0) fun x =>
  if (decide (0 < x)) = true then
    Option.bind (ixO purse_here 0) fun x1 =>
    Option.bind (modO x1 many) fun i =>
    Option.bind (ixO purse_here 0) fun x2 =>
    Option.bind (divO x2 many) fun i1 =>
    Option.bind (putO purse_here 0 i1) fun purse_here1 =>
    some (i, purse_here1)
  else
    Option.bind (ixO purse_here 1) fun x3 =>
    Option.bind (mulO x3 69621) fun i2 =>
    Option.bind (modO (i2 + 104729) 2147483587) fun i3 =>
    Option.bind (putO purse_here 1 i3) fun purse_here2 =>
    Option.bind (ixO purse_here2 1) fun x4 =>
    Option.bind (ixO purse_here2 1) fun x5 =>
    Option.bind (modO x5 16807) fun i4 =>
    Option.bind (mulO x4 (i4 + 1)) fun i5 =>
    Option.bind (modO i5 2147483579) fun i6 =>
    Option.bind (modO i6 many) fun i7 =>
    some (i7, purse_here2)
def f_names (purse_here : List (Int)) : Option (Q × List (Int)) :=
  Option.bind (some ("abcdefghijklmnopqrstuvwxyz" : Str)) fun abc =>
  Option.bind (f_next purse_here 2) fun (r, purse_here1) =>
  Option.bind (f_next purse_here1 (8 - r)) fun (r1, purse_here2) =>
  Option.bind (some (1 + r1)) fun size =>
  Option.bind (rngO 0 size) fun r2 =>
  Option.bind (filS (fun s x2 => Option.bind (f_next s 26) fun (r4, purse_here4) => Option.bind (ixSO abc r4) fun x3 => some (some x3, purse_here4)) r2 purse_here2) fun (l, s1) =>
  Option.bind (f_next s1 size) fun (r5, purse_here5) =>
  Option.bind (f_next purse_here5 26) fun (r6, purse_here6) =>
  Option.bind (some ([] : List (Str))) fun names_here =>
  Option.bind (f_next purse_here6 6) fun (r7, purse_here7) =>
  Option.bind (rngO 0 (1 + r7)) fun r8 =>
  Option.bind (forO (fun (s2 : (List (Str) × List (Str))) (x4 : Int) =>
    Option.bind (mulO 5 x4) fun i =>
    Option.bind (modO (r6 + i) 26) fun i1 =>
    Option.bind (ixSO abc i1) fun x5 =>
    Option.bind (putO s2.1 r5 x5) fun letters =>
    Option.bind (joinS ("" : Str) letters) fun t =>
    Option.bind (modO x4 2) fun i2 =>
    Option.bind (mulO r i2) fun i3 =>
    Option.bind (repSO ("a" : Str) i3) fun t1 =>
    Option.bind (catS t t1) fun t2 =>
    Option.bind (inFO (eS t2) (eQ (Q.tup [(Q.str ("wide" : Str)), (Q.str ("boxes" : Str)), (Q.str ("choose" : Str)), (Q.str ("else" : Str)), (Q.str ("end" : Str)), (Q.str ("times" : Str))]))) fun c =>
    Option.bind (if c = true then
      Option.bind (catS t2 ("q" : Str)) fun t3 =>
      some t3
    else
      some t2
    ) fun name =>
    Option.bind (appO s2.2 name) fun names_here1 =>
    some (letters, names_here1)
  ) r8 (l, names_here)) fun s3 =>
  Option.bind (f_next purse_here7 10) fun (r9, purse_here8) =>
  Option.bind (ixO [("ends" : Str), ("elseif" : Str), ("wider" : Str), ("boxesa" : Str), ("timesx" : Str), ("chooser" : Str), ("is" : Str), ("op" : Str), ("en" : Str), ("tim" : Str)] r9) fun x6 =>
  Option.bind (f_next purse_here8 6) fun (r10, purse_here9) =>
  Option.bind (if (decide (r10 = 1)) = true then (Option.bind (inDO (eS x6) ((eL true eS) s3.2)) fun c1 => some (!c1)) else some false) fun c2 =>
  Option.bind (if c2 = true then
    Option.bind (putO s3.2 (-1) x6) fun names_here2 =>
    some names_here2
  else
    some s3.2
  ) fun names_here3 =>
  some ((Q.tup (names_here3.map Q.str)), purse_here9)
def f_number (purse_here : List (Int)) (wide : Int) : Option (Int × List (Int)) :=
  Option.bind (shlO 1 wide) fun i =>
  Option.bind (shlO 1 wide) fun i1 =>
  Option.bind (f_next purse_here i1) fun (r, purse_here1) =>
  Option.bind (f_next purse_here1 4) fun (r1, purse_here2) =>
  Option.bind (ixO [0, 1, (i - 1), r] r1) fun x =>
  Option.bind (shlO 1 wide) fun i2 =>
  Option.bind (modO x i2) fun i3 =>
  some (i3, purse_here2)
def f_atom (purse_here : List (Int)) (wide : Int) (boxes : Q) : Option (Q × List (Int)) :=
  Option.bind (f_next purse_here 3) fun (r, purse_here1) =>
  if (decide (r = 0)) = true then
    Option.bind (f_number purse_here1 wide) fun (r1, purse_here2) =>
    some ((Q.int r1), purse_here2)
  else
    Option.bind (lenQ boxes) fun n =>
    Option.bind (f_next purse_here1 n) fun (r2, purse_here3) =>
    Option.bind (ixQ boxes r2) fun x =>
    some (x, purse_here3)
def f_set_ (purse_here : List (Int)) (wide : Int) (boxes : Q) : Option (Q × List (Int)) :=
  Option.bind (lenQ boxes) fun n =>
  Option.bind (f_next purse_here n) fun (r, purse_here1) =>
  Option.bind (ixQ boxes r) fun x =>
  Option.bind (f_atom purse_here1 wide boxes) fun (r1, purse_here2) =>
  Option.bind (f_next purse_here2 4) fun (r2, purse_here3) =>
  if (decide (r2 = 0)) = true then
    some ((Q.tup [(Q.str ("is" : Str)), x, r1]), purse_here3)
  else
    Option.bind (f_next purse_here3 7) fun (r3, purse_here4) =>
    Option.bind (ixSO ("+-&|^<=" : Str) r3) fun x1 =>
    Option.bind (f_atom purse_here4 wide boxes) fun (r4, purse_here5) =>
    some ((Q.tup [(Q.str ("op" : Str)), x, (Q.str x1), r1, r4]), purse_here5)
def f_shut (opened : List ((List (Q) × Q × Int))) (rows_here : List (Q)) : Option (List (Q) × (List ((List (Q) × Q × Int)))) :=
  Option.bind (popO opened) fun (x, opened1) =>
  Option.bind (ixQ x.2.1 0) fun x1 =>
  Option.bind (eqD (eQ x1) (eS ("choose" : Str))) fun c =>
  Option.bind (if c = true then (Option.bind (lenQ x.2.1) fun n => some (decide (n = 2))) else some false) fun c1 =>
  if c1 = true then
    Option.bind (catQ x.2.1 (Q.tup [(Q.tup rows_here)])) fun q =>
    Option.bind (appO opened1 (x.1, q, x.2.2)) fun opened2 =>
    some (([] : List (Q)), opened2)
  else
    Option.bind (catQ x.2.1 (Q.tup [(Q.tup rows_here)])) fun q1 =>
    Option.bind (catO x.1 [q1]) fun l =>
    some (l, opened1)
def f_rows (script : List Int) (wide : Int) (boxes : Q) (most : Int) : Option Q :=
  Option.bind (some ([] : List ((List (Q) × Q × Int)))) fun opened =>
  Option.bind (some ([] : List (Q))) fun rows_here =>
  Option.bind (rngO 0 most) fun r =>
  Option.bind (forO (fun (s : ((List ((List (Q) × Q × Int))) × List (Q) × Int × Int)) (x : Int) =>
    Option.bind (f_purse script (6 + x)) fun r1 =>
    Option.bind (f_next r1 10) fun (r2, purse_here) =>
    Option.bind (if ((decide (7 < r2)) && ((decide ((s.1.length : Int) < 5)) && (decide (s.2.2.1 ≤ s.2.2.2)))) = true then
      Option.bind (f_atom purse_here wide boxes) fun (r3, purse_here1) =>
      Option.bind (some (Q.tup [(Q.str ("choose" : Str)), r3])) fun head =>
      Option.bind (some (s.2.2.2 - s.2.2.1)) fun left =>
      Option.bind (if (decide (r2 = 9)) = true then
        Option.bind (f_next purse_here1 21) fun (r4, purse_here2) =>
        Option.bind (f_next purse_here2 6) fun (r5, purse_here3) =>
        Option.bind (ixO [0, 1, 2, 3, 4, r4] r5) fun x1 =>
        Option.bind (mulO s.2.2.1 x1) fun i =>
        Option.bind (ixO [1, x1] (boI (decide (i ≤ left)))) fun x2 =>
        Option.bind (some (Q.tup [(Q.str ("times" : Str)), (Q.int x2)])) fun head1 =>
        some (purse_here3, head1)
      else
        some (purse_here1, head)
      ) fun s1 =>
      Option.bind (appO s.1 (s.2.1, s1.2, s.2.2.1)) fun opened1 =>
      Option.bind (ixQ s1.2 1) fun x3 =>
      Option.bind (ixO [(Q.int 1), x3] (boI (decide (r2 = 9)))) fun x4 =>
      Option.bind (asI x4) fun i1 =>
      Option.bind (mulO s.2.2.1 i1) fun i2 =>
      Option.bind (some ([] : List (Q))) fun rows_here1 =>
      some (opened1, rows_here1, i2, left, s1.1)
    else
      Option.bind (if (decide (r2 = 7)) = true then (Option.bind (eqD ((eL true (eT3 (eL false eQ) eQ eI)) s.1) ((eL true (eT3 (eL false eQ) eQ eI)) ([] : List ((List (Q) × Q × Int))))) fun c => some (!c)) else some false) fun c1 =>
      Option.bind (if c1 = true then
        Option.bind (ixO s.1 (-1)) fun x5 =>
        Option.bind (f_shut s.1 s.2.1) fun (r6, opened2) =>
        some (opened2, r6, x5.2.2, s.2.2.2, purse_here)
      else
        Option.bind (if (decide (s.2.2.1 ≤ s.2.2.2)) = true then
          Option.bind (f_set_ purse_here wide boxes) fun (r7, purse_here4) =>
          Option.bind (appO s.2.1 r7) fun rows_here2 =>
          Option.bind (some (s.2.2.2 - s.2.2.1)) fun left1 =>
          some (rows_here2, left1, purse_here4)
        else
          some (s.2.1, s.2.2.2, purse_here)
        ) fun s2 =>
        some (s.1, s2.1, s.2.2.1, s2.2.1, s2.2.2)
      ) fun s3 =>
      some (s3.1, s3.2.1, s3.2.2.1, s3.2.2.2.1, s3.2.2.2.2)
    ) fun s4 =>
    some (s4.1, s4.2.1, s4.2.2.1, s4.2.2.2.1)
  ) r (opened, rows_here, 1, 120)) fun s5 =>
  Option.bind (whO (fun (s7 : ((List ((List (Q) × Q × Int))) × List (Q))) => Option.bind (eqD ((eL true (eT3 (eL false eQ) eQ eI)) s7.1) ((eL true (eT3 (eL false eQ) eQ eI)) ([] : List ((List (Q) × Q × Int))))) fun c2 => some (!c2)) (fun (s7 : ((List ((List (Q) × Q × Int))) × List (Q))) =>
    Option.bind (f_shut s7.1 s7.2) fun (r8, opened3) =>
    some (opened3, r8)
  ) fu (s5.1, s5.2.1)) fun s8 =>
  some (Q.tup s8.2)
def f_program (script : List Int) : Option (Int × Q × Q) :=
  Option.bind (f_purse script 0) fun r =>
  Option.bind (f_next r 16) fun (r1, purse_here) =>
  Option.bind (some (1 + r1)) fun wide =>
  Option.bind (f_purse script 1) fun r2 =>
  Option.bind (f_names r2) fun (r3, z) =>
  Option.bind (f_next purse_here 6) fun (r4, purse_here1) =>
  Option.bind (some (imax ((cutL script (some 6) (some 57)).length : Int) (3 + r4))) fun many =>
  Option.bind (f_next purse_here1 8) fun (r5, purse_here2) =>
  Option.bind (if (decide (r5 = 1)) = true then
    Option.bind (f_next purse_here2 2) fun (r6, purse_here3) =>
    some (purse_here3, r6)
  else
    some (purse_here2, many)
  ) fun s =>
  Option.bind (f_rows script wide r3 s.2) fun r7 =>
  some (wide, r3, r7)
def f_alike : Nat → Q → Q → Option Bool
  | 0, _, _ => none
  | n_ + 1, one, other_ =>
    Option.bind (isiQ one "tuple") fun c =>
    Option.bind (if c = true then some true else (Option.bind (isiQ other_ "tuple") fun c1 => some c1)) fun c2 =>
    if c2 = true then
      Option.bind (isiQ one "tuple") fun c3 =>
      Option.bind (if (!c3) = true then some true else (Option.bind (isiQ other_ "tuple") fun c4 => Option.bind (if (!c4) = true then some true else (Option.bind (lenQ one) fun n => Option.bind (lenQ other_) fun n1 => some (!(decide (n = n1))))) fun c5 => some c5)) fun c6 =>
      if c6 = true then
        some false
      else
        Option.bind (zipQ one other_) fun l =>
        Option.bind (mapO (fun x => Option.bind (f_alike n_ x.1 x.2) fun r => some r) l) fun l1 =>
        some (l1.all id)
    else
      Option.bind (isiQ one "bool") fun c7 =>
      Option.bind (if c7 = true then some true else (Option.bind (isiQ other_ "bool") fun c8 => Option.bind (if c8 = true then some true else (Option.bind (isiQ one "str") fun c9 => Option.bind (isiQ other_ "str") fun c10 => Option.bind (eqD (eB c9) (eB c10)) fun c11 => some (!c11))) fun c12 => some c12)) fun c13 =>
      if c13 = true then
        some false
      else
        Option.bind (eqD (eQ one) (eQ other_)) fun c14 =>
        some c14
def f_out : Nat → Q → Option Q
  | 0, _ => none
  | n_ + 1, rows_here =>
    Option.bind (some (Q.tup [])) fun found =>
    Option.bind (asX rows_here) fun l =>
    Option.bind (forO (fun (s : Q) (x : Q) =>
      Option.bind (ixQ x 0) fun x1 =>
      Option.bind (eqD (eQ x1) (eS ("times" : Str))) fun c =>
      Option.bind (if c = true then
        Option.bind (ixQ x 2) fun x2 =>
        Option.bind (f_out n_ x2) fun r =>
        Option.bind (ixQ x 1) fun x3 =>
        Option.bind (asI x3) fun i =>
        Option.bind (repQ r i) fun q =>
        Option.bind (catQ s q) fun q1 =>
        some q1
      else
        Option.bind (ixQ x 0) fun x4 =>
        Option.bind (eqD (eQ x4) (eS ("choose" : Str))) fun c1 =>
        Option.bind (if c1 = true then
          Option.bind (ixQ x 1) fun x5 =>
          Option.bind (ixQ x 2) fun x6 =>
          Option.bind (f_out n_ x6) fun r1 =>
          Option.bind (ixQ x 3) fun x7 =>
          Option.bind (f_out n_ x7) fun r2 =>
          Option.bind (catQ s (Q.tup [(Q.tup [(Q.str ("choose" : Str)), x5, r1, r2])])) fun q2 =>
          some q2
        else
          Option.bind (catQ s (Q.tup [x])) fun q3 =>
          some q3
        ) fun found1 =>
        some found1
      ) fun found2 =>
      some found2
    ) l found) fun found3 =>
    some found3
def f_count : Nat → Q → Option Int
  | 0, _ => none
  | n_ + 1, rows_here =>
    Option.bind (lenQ rows_here) fun n =>
    Option.bind (asX rows_here) fun l =>
    Option.bind (filO (fun x => Option.bind (ixQ x 0) fun x1 => Option.bind (eqD (eQ x1) (eS ("choose" : Str))) fun c => if c = true then Option.bind (ixQ x 2) fun x2 => Option.bind (f_count n_ x2) fun r => Option.bind (ixQ x 3) fun x3 => Option.bind (f_count n_ x3) fun r1 => some (some (r + r1)) else some none) l) fun l1 =>
    some (n + l1.sum)
def f_law (script : List Int) : Option Bool :=
  Option.bind (f_program script) fun r =>
  Option.bind (f_out 12 r.2.2) fun r1 =>
  Option.bind (f_pieces r) fun r2 =>
  Option.bind (if (!true) = true then some true else (Option.bind (f_alike 16 (Q.tup r2) r1) fun r3 => some (!r3))) fun c =>
  if c = true then
    some false
  else
    Option.bind (f_weight r2) fun r4 =>
    Option.bind (if (!true) = true then some true else (Option.bind (if false = true then some true else (Option.bind (f_count 12 r1) fun r5 => some (!(decide (r4 = r5))))) fun c1 => some c1)) fun c2 =>
    if c2 = true then
      some false
    else
      Option.bind (lenQ r1) fun n =>
      Option.bind (rngO 0 n) fun r6 =>
      Option.bind (forC (fun (s : Unit) (x : Int) =>
        Option.bind (f_weight (cutL r2 (some x) none)) fun r7 =>
        Option.bind (cutQ r1 (some x) none) fun t =>
        Option.bind (f_count 12 t) fun r8 =>
        if (!(decide (r7 = r8))) = true then
          some (.rt false)
        else
          some (.nx ())
      ) r6 ()) fun w => match w with
      | .rt v => some v
      | .nx s1 =>
      Option.bind (appO r2 (Q.tup [(Q.str ("is" : Str)), (Q.str ("a" : Str)), (Q.int 0)])) fun found =>
      Option.bind (f_purse script 2) fun r9 =>
      Option.bind (f_set_ r9 r.1 r.2.1) fun (r10, purse_here) =>
      Option.bind (f_set_ purse_here r.1 r.2.1) fun (r11, purse_here1) =>
      Option.bind (some (r10, r11)) fun two =>
      Option.bind (f_pieces (r.1, r.2.1, (Q.tup [(Q.tup [(Q.str ("times" : Str)), (Q.int 20), (Q.tup [(Q.tup [(Q.str ("times" : Str)), (Q.int 5), (Q.tup [two.1, two.2])])])])]))) fun r12 =>
      Option.bind (repQ (Q.tup [two.1, two.2]) 100) fun q =>
      Option.bind (eqD (eQ (Q.tup r12)) (eQ q)) fun c3 =>
      Option.bind (if (!c3) = true then some true else (Option.bind (f_weight r12) fun r13 => some (!(decide (r13 = 200))))) fun c4 =>
      if c4 = true then
        some false
      else
        Option.bind (f_pieces r) fun r14 =>
        Option.bind (eqD (eQ (Q.tup r14)) (eQ r1)) fun c5 =>
        Option.bind (if c5 = true then (Option.bind (f_weight ([] : List (Q))) fun r15 => some (decide (r15 = 0))) else some false) fun c6 =>
        some c6
theorem ok_rows_within (j : Nat)  (row : Q) (r : Q) (h : f_rows_within row = some r) : callN (tabOf ds) fu (j + 1) ("rows_within", none) [(false, eQ row)] = some (.ok (eQ (r)) [none]) := by
  refine k_def (df := d_rows_within) rfl rfl (by rfl) (t0 := [some (eQ row)]) rfl ?_
  unfold f_rows_within at h
  obtain ⟨x, h1, h⟩ := bd h
  obtain ⟨c, h2, h⟩ := bd h
  by_cases h3 : c = true
  · rw [if_pos h3] at h
    refine k_ifT (x := c) (t1 := [some (eQ row)]) (b_pu (a2 (aix rfl rfl (i_Q h1)) rfl (g_eq h2)) (.inr rfl)) h3 ?_
    obtain ⟨x1, h4, h⟩ := bd h
    obtain ⟨x2, h5, h⟩ := bd h
    obtain ⟨q, h6, h⟩ := bd h
    have e := Option.some.inj h; subst e
    exact k_rt (sret (b_pu (a2 (aix rfl rfl (i_Q h4)) (aix rfl rfl (i_Q h5)) (g_catQ h6)) (.inr rfl))) rfl
  · rw [if_neg h3] at h
    refine k_ifF (x := c) (t1 := [some (eQ row)]) (b_pu (a2 (aix rfl rfl (i_Q h1)) rfl (g_eq h2)) (.inr rfl)) (Bool.eq_false_iff.mpr h3) ?_
    obtain ⟨x3, h7, h⟩ := bd h
    obtain ⟨c1, h8, h⟩ := bd h
    by_cases h9 : c1 = true
    · rw [if_pos h9] at h
      refine k_ifT (x := c1) (t1 := [some (eQ row)]) (b_pu (a2 (aix rfl rfl (i_Q h7)) rfl (g_eq h8)) (.inr rfl)) h9 ?_
      obtain ⟨x4, h10, h⟩ := bd h
      have e := Option.some.inj h; subst e
      exact k_rt (sret (b_pu (aix rfl rfl (i_Q h10)) (.inl (fzQ _)))) rfl
    · rw [if_neg h9] at h
      refine k_ifF (x := c1) (t1 := [some (eQ row)]) (b_pu (a2 (aix rfl rfl (i_Q h7)) rfl (g_eq h8)) (.inr rfl)) (Bool.eq_false_iff.mpr h9) ?_
      have e := Option.some.inj h; subst e
      exact k_rt (sret (b_pu rfl (.inr rfl))) rfl
theorem le_rows_within {L : Nat} (hL : 1 ≤ L)  (row : Q) (r : Q) (h : f_rows_within row = some r) : callN (tabOf ds) fu (L) ("rows_within", none) [(false, eQ row)] = some (.ok (eQ (r)) [none]) := by
  obtain ⟨j, rfl⟩ := Nat.exists_eq_add_of_le' hL
  exact ok_rows_within j  row r h
theorem rec_rows_in (j : Nat) : ∀ n_ : Nat, (∀ (l0 : Bool) (o0 : Bool) (rows : Q) (r : Int), f_rows_in n_ rows = some r → callN (tabOf ds) fu (j + 1 + n_) ("rows_in", none) [(l0, (eQo o0) rows)] = some (.ok (eI (r)) [if l0 = true then some ((eQo o0) rows) else none]))
  | 0 => by
    refine ?_ <;> (intros; rename_i h; first | (rw [f_rows_in] at h; cases h))
  | n_ + 1 => by
    have ih := rec_rows_in j n_
    have ih_rows_in := ih
    · intro l0 o0 rows r h
      refine k_def (k := j + 1 + n_) (df := d_rows_in) rfl rfl (by cases l0 <;> rfl) (t0 := [some ((eQo o0) rows), none, none]) rfl ?_
      rw [f_rows_in] at h
      refine k_nx (t' := [some ((eQo o0) rows), some (eI 0), none]) (sset (b_pu rfl (.inr rfl)) rfl rfl) ?_
      obtain ⟨l, h1, h⟩ := bd h
      obtain ⟨many1, h5, h⟩ := bd h
      refine k_for (e := eQ) (fun (s : Int) => [some ((eQo o0) rows), some (eI s), none]) h5 (eor rfl eo0) rfl (w_Xo (o := o0) h1) (fun _ => rfl) ?_ ?_
      · intro s x s1 h
        refine ⟨_, rfl, ?_⟩
        obtain ⟨r, h2, h⟩ := bd h
        obtain ⟨r1, h3, h⟩ := bd h
        obtain ⟨many, h4, h⟩ := bd h
        refine k_nx (t' := [some ((eQo o0) rows), some (eI many), some (eQ x)]) (saug rfl (bq (eov (b_pu rfl (.inr rfl)) (eov (bcall (t3 := [some ((eQo o0) rows), some (eI s), some (eQ x)]) (eov (beqv (bcall (t3 := [some ((eQo o0) rows), some (eI s), some (eQ x)]) (eov (b_pu rfl (.inl (fzQ _))) eo0) rfl (le_rows_within (by omega)  x r h2) rfl) ((fun x => ((fun _ => rfl) x).trans (qo_f _)) r)) eo0) rfl (ih_rows_in false false r r1 h3) rfl) eo0)) rfl rfl) rfl (congrArg (Option.map eI) h4) rfl) ?_
        refine k_fg (t' := [some ((eQo o0) rows), some (eI many), none]) rfl ?_
        have e := Option.some.inj h; subst e
        exact k_nil rfl
      have e := Option.some.inj h; subst e
      exact k_rt (sret (b_pu rfl (.inl (fzI _)))) rfl
theorem ok_rows_in (j : Nat) (l0 : Bool) (o0 : Bool) (rows : Q) (r : Int) (h : f_rows_in 12 rows = some r) : callN (tabOf ds) fu (j + 13) ("rows_in", none) [(l0, (eQo o0) rows)] = some (.ok (eI (r)) [if l0 = true then some ((eQo o0) rows) else none]) := by
  have z := (rec_rows_in j 12)
  exact z l0 o0 rows r h
theorem le_rows_in {L : Nat} (hL : 13 ≤ L) (l0 : Bool) (o0 : Bool) (rows : Q) (r : Int) (h : f_rows_in 12 rows = some r) : callN (tabOf ds) fu (L) ("rows_in", none) [(l0, (eQo o0) rows)] = some (.ok (eI (r)) [if l0 = true then some ((eQo o0) rows) else none]) := by
  obtain ⟨j, rfl⟩ := Nat.exists_eq_add_of_le' hL
  exact ok_rows_in j l0 o0 rows r h

theorem rec_written_out (j : Nat) : ∀ n_ : Nat, (∀  (rows : Q) (r : List (Q)), f_written_out n_ rows = some r → callN (tabOf ds) fu (j + 0 + n_) ("written_out", none) [(false, eQ rows)] = some (.ok ((eL true eQ) (r)) [none]))
  | 0 => by
    refine ?_ <;> (intros; rename_i h; first | (rw [f_written_out] at h; cases h))
  | n_ + 1 => by
    have ih := rec_written_out j n_
    have ih_written_out := ih
    · intro rows r h
      refine k_def (k := j + 0 + n_) (df := d_written_out) rfl rfl (by rfl) (t0 := [some (eQ rows), none, none, none, none]) rfl ?_
      rw [f_written_out] at h
      obtain ⟨found, h1, h⟩ := bd h
      refine k_nx (t' := [some (eQ rows), some ((eL true eQ) found), none, none, none]) (sset (blift (e := (eL true eQ)) h1 (b_pu rfl (.inr rfl))) rfl rfl) ?_
      obtain ⟨l, h2, h⟩ := bd h
      obtain ⟨found7, h26, h⟩ := bd h
      refine k_for (e := eQ) (fun (s : List (Q)) => [some (eQ rows), some ((eL true eQ) s), none, none, none]) h26 (eov (b_pu rfl (.inl (fzQ _))) eo0) rfl (w_X h2) (fun _ => rfl) ?_ ?_
      · intro s x s3 h
        refine ⟨_, rfl, ?_⟩
        obtain ⟨x1, h3, h⟩ := bd h
        obtain ⟨c, h4, h⟩ := bd h
        obtain ⟨found6, h25, h⟩ := bd h
        refine k_if (x := c) (t1 := [some (eQ rows), some ((eL true eQ) s), some (eQ x), none, none]) (t2 := [some (eQ rows), some ((eL true eQ) found6), some (eQ x), none, none]) (b_pu (a2 (aix rfl rfl (i_Q h3)) rfl (g_eq h4)) (.inr rfl)) (fun h5 => ?_) (fun h5 => ?_) ?_
        · rw [if_pos h5] at h25
          have h := h25
          obtain ⟨x2, h6, h⟩ := bd h
          obtain ⟨r, h7, h⟩ := bd h
          refine k_nx (t' := [some (eQ rows), some ((eL true eQ) s), some (eQ x), some ((eL true eQ) r), none]) (sset (bcall (t3 := [some (eQ rows), some ((eL true eQ) s), some (eQ x), none, none]) (eov (b_pu (aix rfl rfl (i_Q h6)) (.inl (fzQ _))) eo0) rfl (ih_written_out  x2 r h7) rfl) rfl rfl) ?_
          refine k_shr (t' := [some (eQ rows), some ((eL true eQ) s), some (eQ x), some ((eL false eQ) r), none]) rfl ((frL (frOf fzQ)) r) rfl ?_
          obtain ⟨x3, h8, h⟩ := bd h
          obtain ⟨i, h9, h⟩ := bd h
          obtain ⟨r1, h10, h⟩ := bd h
          obtain ⟨found2, h12, h⟩ := bd h
          refine k_for (e := eI) (fun (s1 : List (Q)) => [some (eQ rows), some ((eL true eQ) s1), some (eQ x), some ((eL false eQ) r), none]) h12 (eov (beqv (b_pu (aix rfl rfl (i_Q h8)) (.inl (fzQ _))) (c_I h9)) eo0) rfl (w_rng1 h10) (fun _ => rfl) ?_ ?_
          · intro s1 x4 s2 h
            refine ⟨_, rfl, ?_⟩
            obtain ⟨found1, h11, h⟩ := bd h
            refine k_nx (t' := [some (eQ rows), some ((eL true eQ) found1), some (eQ x), some ((eL false eQ) r), some (eI x4)]) (sex (bmut (eov (bnm rfl (frOf (fzL fzQ) r)) eo0) ⟨_, rfl, rfl⟩ rfl rfl (m_extR (o := false) (e := eQ) (xs := s1) (ys := r) fzQ h11))) ?_
            refine k_fg (t' := [some (eQ rows), some ((eL true eQ) found1), some (eQ x), some ((eL false eQ) r), none]) rfl ?_
            have e := Option.some.inj h; subst e
            exact k_nil rfl
          refine k_fg (t' := [some (eQ rows), some ((eL true eQ) found2), some (eQ x), none, none]) rfl ?_
          have e := Option.some.inj h; subst e
          exact k_nil rfl
        · rw [if_neg (nt h5)] at h25
          have h := h25
          obtain ⟨x5, h13, h⟩ := bd h
          obtain ⟨c1, h14, h⟩ := bd h
          obtain ⟨found5, h24, h⟩ := bd h
          refine k_if (x := c1) (t1 := [some (eQ rows), some ((eL true eQ) s), some (eQ x), none, none]) (t2 := [some (eQ rows), some ((eL true eQ) found5), some (eQ x), none, none]) (b_pu (a2 (aix rfl rfl (i_Q h13)) rfl (g_eq h14)) (.inr rfl)) (fun h15 => ?_) (fun h15 => ?_) ?_
          · rw [if_pos h15] at h24
            have h := h24
            obtain ⟨t, h16, h⟩ := bd h
            obtain ⟨x6, h17, h⟩ := bd h
            obtain ⟨r2, h18, h⟩ := bd h
            obtain ⟨x7, h19, h⟩ := bd h
            obtain ⟨r3, h20, h⟩ := bd h
            obtain ⟨q, h21, h⟩ := bd h
            obtain ⟨found3, h22, h⟩ := bd h
            refine k_nx (t' := [some (eQ rows), some ((eL true eQ) found3), some (eQ x), none, none]) (sex (bmut (eov (bq (eov (b_pu (a2 rfl rfl (t_hi (slG_Q h16))) (.inr rfl)) (eov (btup (eov (bq (eov (bcall (t3 := [some (eQ rows), some ((eL true eQ) s), some (eQ x), none, none]) (eov (b_pu (aix rfl rfl (i_Q h17)) (.inl (fzQ _))) eo0) rfl (ih_written_out  x6 r2 h18) rfl) eo0) rfl (t_tupQ (o := true) (xs := r2))) (eov (bq (eov (bcall (t3 := [some (eQ rows), some ((eL true eQ) s), some (eQ x), none, none]) (eov (b_pu (aix rfl rfl (i_Q h19)) (.inl (fzQ _))) eo0) rfl (ih_written_out  x7 r3 h20) rfl) eo0) rfl (t_tupQ (o := true) (xs := r3))) eo0)) rfl rfl) eo0)) rfl (g_catQ h21)) eo0) ⟨_, rfl, rfl⟩ rfl rfl (m_app (e := eQ) (xs := s) (x := q) h22))) ?_
            have e := Option.some.inj h; subst e
            exact k_nil rfl
          · rw [if_neg (nt h15)] at h24
            have h := h24
            obtain ⟨found4, h23, h⟩ := bd h
            refine k_nx (t' := [some (eQ rows), some ((eL true eQ) found4), some (eQ x), none, none]) (sex (bmut (eov (b_pu rfl (.inl (fzQ _))) eo0) ⟨_, rfl, rfl⟩ rfl rfl (m_app (e := eQ) (xs := s) (x := x) h23))) ?_
            have e := Option.some.inj h; subst e
            exact k_nil rfl
          have e := Option.some.inj h; subst e
          exact k_nil rfl
        refine k_fg (t' := [some (eQ rows), some ((eL true eQ) found6), none, none, none]) rfl ?_
        have e := Option.some.inj h; subst e
        exact k_nil rfl
      have e := Option.some.inj h; subst e
      exact k_rt (sret (bmv rfl)) rfl
theorem ok_written_out (j : Nat)  (rows : Q) (r : List (Q)) (h : f_written_out 12 rows = some r) : callN (tabOf ds) fu (j + 12) ("written_out", none) [(false, eQ rows)] = some (.ok ((eL true eQ) (r)) [none]) := by
  have z := (rec_written_out j 12)
  exact z  rows r h
theorem le_written_out {L : Nat} (hL : 12 ≤ L)  (rows : Q) (r : List (Q)) (h : f_written_out 12 rows = some r) : callN (tabOf ds) fu (L) ("written_out", none) [(false, eQ rows)] = some (.ok ((eL true eQ) (r)) [none]) := by
  obtain ⟨j, rfl⟩ := Nat.exists_eq_add_of_le' hL
  exact ok_written_out j  rows r h

theorem ok_pieces (j : Nat)  (program : (Int × Q × Q)) (r : List (Q)) (h : f_pieces program = some r) : callN (tabOf ds) fu (j + 13) ("pieces", none) [(false, (eT3 eI eQ eQ) program)] = some (.ok ((eL true eQ) (r)) [none]) := by
  refine k_def (df := d_pieces) rfl rfl (by rfl) (t0 := [some ((eT3 eI eQ eQ) program)]) rfl ?_
  unfold f_pieces at h
  obtain ⟨r, h1, h⟩ := bd h
  have e := Option.some.inj h; subst e
  exact k_rt (sret (bcall (t3 := [some ((eT3 eI eQ eQ) program)]) (eov (b_pu (aix rfl rfl rfl) (.inl (fzQ _))) eo0) rfl (ok_written_out j  program.2.2 r h1) rfl)) rfl
theorem le_pieces {L : Nat} (hL : 13 ≤ L)  (program : (Int × Q × Q)) (r : List (Q)) (h : f_pieces program = some r) : callN (tabOf ds) fu (L) ("pieces", none) [(false, (eT3 eI eQ eQ) program)] = some (.ok ((eL true eQ) (r)) [none]) := by
  obtain ⟨j, rfl⟩ := Nat.exists_eq_add_of_le' hL
  exact ok_pieces j  program r h
theorem ok_weight (j : Nat) (l0 : Bool) (o0 : Bool) (some_ : List (Q)) (r : Int) (h : f_weight some_ = some r) : callN (tabOf ds) fu (j + 14) ("weight", none) [(l0, (eL o0 eQ) some_)] = some (.ok (eI (r)) [if l0 = true then some ((eL o0 eQ) some_) else none]) := by
  refine k_def (df := d_weight) rfl rfl (by cases l0 <;> rfl) (t0 := [some ((eL o0 eQ) some_)]) rfl ?_
  unfold f_weight at h
  obtain ⟨r, h1, h⟩ := bd h
  have e := Option.some.inj h; subst e
  exact k_rt (sret (bcall (t3 := [some ((eL o0 eQ) some_)]) (eor rfl eo0) rfl (by have z := ok_rows_in j true o0 (Q.lst some_) r h1; rw [← cvLo0 some_] at z; exact z) rfl)) rfl
theorem le_weight {L : Nat} (hL : 14 ≤ L) (l0 : Bool) (o0 : Bool) (some_ : List (Q)) (r : Int) (h : f_weight some_ = some r) : callN (tabOf ds) fu (L) ("weight", none) [(l0, (eL o0 eQ) some_)] = some (.ok (eI (r)) [if l0 = true then some ((eL o0 eQ) some_) else none]) := by
  obtain ⟨j, rfl⟩ := Nat.exists_eq_add_of_le' hL
  exact ok_weight j l0 o0 some_ r h
theorem ok_purse (j : Nat)  (script : List Int) (k : Int) (r : List (Int)) (h : f_purse script k = some r) : callN (tabOf ds) fu (j + 1) ("_law_purse", none) [(false, eScr script), (false, eI k)] = some (.ok ((eL true eI) (r)) [none, none]) := by
  refine k_def (df := d__law_purse) rfl rfl (by rfl) (t0 := [some (eScr script), some (eI k), none, none]) rfl ?_
  unfold f_purse at h
  obtain ⟨i, h1, h⟩ := bd h
  obtain ⟨i1, h2, h⟩ := bd h
  obtain ⟨cell, h3, h⟩ := bd h
  refine k_nx (t' := [some (eScr script), some (eI k), some (eI cell), none]) (sset (blift (e := eI) h3 (b_pu (a2 (a2 (a1 (a1 (a2 rfl rfl (t_hi (rfl))) (t_sum (o := true) (ns := (cutL script none (some 63))))) rfl) rfl (g_mul h1)) (a2 rfl rfl (g_mul h2)) rfl) (.inr rfl))) rfl rfl) ?_
  obtain ⟨cell2, h7, h⟩ := bd h
  refine k_if (x := (decide (k < (script.length : Int)))) (t1 := [some (eScr script), some (eI k), some (eI cell), none]) (t2 := [some (eScr script), some (eI k), some (eI cell2), none]) (b_pu rfl (.inr rfl)) (fun h4 => ?_) (fun h4 => ?_) ?_
  · rw [if_pos h4] at h7
    have h := h7
    obtain ⟨x, h5, h⟩ := bd h
    obtain ⟨cell1, h6, h⟩ := bd h
    refine k_nx (t' := [some (eScr script), some (eI k), some (eI cell1), none]) (sset (blift (e := eI) h6 (b_pu (a1 (a2 rfl rfl (i_Scr h5)) rfl) (.inr rfl))) rfl rfl) ?_
    have e := Option.some.inj h; subst e
    exact k_nil rfl
  · rw [if_neg (nt h4)] at h7
    have h := h7
    have e := Option.some.inj h; subst e
    exact k_nil rfl
  obtain ⟨i2, h8, h⟩ := bd h
  obtain ⟨i3, h9, h⟩ := bd h
  obtain ⟨i4, h10, h⟩ := bd h
  obtain ⟨i5, h11, h⟩ := bd h
  refine k_nx (t' := [some (eScr script), some (eI k), some (eI cell2), some (eI i5)]) (sset (b_pu (a2 (a2 (a2 (a2 (a2 rfl rfl (g_mod h8)) rfl (g_mul h9)) (a2 rfl rfl (g_mul h10)) rfl) rfl rfl) rfl (g_mod h11)) (.inr rfl)) rfl rfl) ?_
  obtain ⟨i6, h12, h⟩ := bd h
  obtain ⟨i7, h13, h⟩ := bd h
  obtain ⟨i8, h14, h⟩ := bd h
  refine k_nx (t' := [some (eScr script), some (eI k), some (eI cell2), some (eI i8)]) (sset (b_pu (a2 (a2 rfl (a2 (a2 (a2 rfl rfl (g_div h12)) rfl rfl) rfl rfl) (g_mul h13)) rfl (g_mod h14)) (.inr rfl)) rfl rfl) ?_
  obtain ⟨i9, h15, h⟩ := bd h
  obtain ⟨i10, h16, h⟩ := bd h
  have e := Option.some.inj h; subst e
  exact k_rt (sret (b_pu (alst (as1 (a2 rfl (a1 (a2 rfl (a2 rfl rfl (g_pow h15)) rfl) rfl) (g_mul h16)) (as1 rfl as0)) (is1 (fzI _) (is1 (fzI _) rfl)) rfl) (.inr rfl))) rfl
theorem le_purse {L : Nat} (hL : 1 ≤ L)  (script : List Int) (k : Int) (r : List (Int)) (h : f_purse script k = some r) : callN (tabOf ds) fu (L) ("_law_purse", none) [(false, eScr script), (false, eI k)] = some (.ok ((eL true eI) (r)) [none, none]) := by
  obtain ⟨j, rfl⟩ := Nat.exists_eq_add_of_le' hL
  exact ok_purse j  script k r h
theorem ok_next (j : Nat) (l0 : Bool) (purse_here : List (Int)) (many : Int) (r : (Int × List (Int))) (h : f_next purse_here many = some r) : callN (tabOf ds) fu (j + 1) ("_law_next", none) [(l0, (eL true eI) purse_here), (false, eI many)] = some (.ok (eI (r.1)) [if l0 = true then some ((eL true eI) (r.2)) else none, none]) := by
  refine k_def (df := d__law_next) rfl rfl (by cases l0 <;> rfl) (t0 := [some ((eL true eI) purse_here), some (eI many), none]) rfl ?_
  unfold f_next at h
  obtain ⟨x, h1, h⟩ := bd h
  by_cases h2 : (decide (0 < x)) = true
  · rw [if_pos h2] at h
    refine k_ifT (x := (decide (0 < x))) (t1 := [some ((eL true eI) purse_here), some (eI many), none]) (b_pu (a2 (aix rfl rfl (i_L (o := true) (e := eI) (xs := purse_here) h1)) rfl rfl) (.inr rfl)) h2 ?_
    obtain ⟨x1, h3, h⟩ := bd h
    obtain ⟨i, h4, h⟩ := bd h
    refine k_nx (t' := [some ((eL true eI) purse_here), some (eI many), some (eI i)]) (sset (b_pu (a2 (aix rfl rfl (i_L (o := true) (e := eI) (xs := purse_here) h3)) rfl (g_mod h4)) (.inr rfl)) rfl rfl) ?_
    obtain ⟨x2, h5, h⟩ := bd h
    obtain ⟨i1, h6, h⟩ := bd h
    obtain ⟨purse_here1, h7, h⟩ := bd h
    refine k_nx (t' := [some ((eL true eI) purse_here1), some (eI many), some (eI i)]) (sput (b_pu (a2 (aix rfl rfl (i_L (o := true) (e := eI) (xs := purse_here) h5)) rfl (g_div h6)) (.inr rfl)) (eor rfl (eov (b_pu rfl (.inr rfl)) eo0)) rfl rfl (m_put (e := eI) (xs := purse_here) (x := i1) h7) rfl) ?_
    have e := Option.some.inj h; subst e
    exact k_rt (sret (b_pu rfl (.inl (fzI _)))) rfl
  · rw [if_neg h2] at h
    refine k_ifF (x := (decide (0 < x))) (t1 := [some ((eL true eI) purse_here), some (eI many), none]) (b_pu (a2 (aix rfl rfl (i_L (o := true) (e := eI) (xs := purse_here) h1)) rfl rfl) (.inr rfl)) (Bool.eq_false_iff.mpr h2) ?_
    obtain ⟨x3, h8, h⟩ := bd h
    obtain ⟨i2, h9, h⟩ := bd h
    obtain ⟨i3, h10, h⟩ := bd h
    obtain ⟨purse_here2, h11, h⟩ := bd h
    refine k_nx (t' := [some ((eL true eI) purse_here2), some (eI many), none]) (sput (b_pu (a2 (a2 (a2 (aix rfl rfl (i_L (o := true) (e := eI) (xs := purse_here) h8)) rfl (g_mul h9)) rfl rfl) rfl (g_mod h10)) (.inr rfl)) (eor rfl (eov (b_pu rfl (.inr rfl)) eo0)) rfl rfl (m_put (e := eI) (xs := purse_here) (x := i3) h11) rfl) ?_
    obtain ⟨x4, h12, h⟩ := bd h
    obtain ⟨x5, h13, h⟩ := bd h
    obtain ⟨i4, h14, h⟩ := bd h
    obtain ⟨i5, h15, h⟩ := bd h
    obtain ⟨i6, h16, h⟩ := bd h
    obtain ⟨i7, h17, h⟩ := bd h
    have e := Option.some.inj h; subst e
    exact k_rt (sret (b_pu (a2 (a2 (a2 (aix rfl rfl (i_L (o := true) (e := eI) (xs := purse_here2) h12)) (a2 (a2 (aix rfl rfl (i_L (o := true) (e := eI) (xs := purse_here2) h13)) rfl (g_mod h14)) rfl rfl) (g_mul h15)) rfl (g_mod h16)) rfl (g_mod h17)) (.inr rfl))) rfl
theorem le_next {L : Nat} (hL : 1 ≤ L) (l0 : Bool) (purse_here : List (Int)) (many : Int) (r : (Int × List (Int))) (h : f_next purse_here many = some r) : callN (tabOf ds) fu (L) ("_law_next", none) [(l0, (eL true eI) purse_here), (false, eI many)] = some (.ok (eI (r.1)) [if l0 = true then some ((eL true eI) (r.2)) else none, none]) := by
  obtain ⟨j, rfl⟩ := Nat.exists_eq_add_of_le' hL
  exact ok_next j l0 purse_here many r h
theorem ok_names (j : Nat) (l0 : Bool) (purse_here : List (Int)) (r : (Q × List (Int))) (h : f_names purse_here = some r) : callN (tabOf ds) fu (j + 2) ("_law_names", none) [(l0, (eL true eI) purse_here)] = some (.ok (eQ (r.1)) [if l0 = true then some ((eL true eI) (r.2)) else none]) := by
  refine k_def (df := d__law_names) rfl rfl (by cases l0 <;> rfl) (t0 := [some ((eL true eI) purse_here), none, none, none, none, none, none, none, none, none, none]) rfl ?_
  unfold f_names at h
  obtain ⟨abc, h1, h⟩ := bd h
  refine k_nx (t' := [some ((eL true eI) purse_here), some (eS abc), none, none, none, none, none, none, none, none, none]) (sset (blift (e := eS) h1 (b_pu rfl (.inr rfl))) rfl rfl) ?_
  obtain ⟨⟨r, purse_here1⟩, h2, h⟩ := bd h
  dsimp only at h
  refine k_nx (t' := [some ((eL true eI) purse_here1), some (eS abc), some (eI r), none, none, none, none, none, none, none, none]) (sset (bcall (t3 := [some ((eL true eI) purse_here1), some (eS abc), none, none, none, none, none, none, none, none, none]) (eor rfl (eov (b_pu rfl (.inr rfl)) eo0)) rfl (ok_next j true purse_here 2 (r, purse_here1) h2) rfl) rfl rfl) ?_
  obtain ⟨⟨r1, purse_here2⟩, h3, h⟩ := bd h
  dsimp only at h
  obtain ⟨size, h4, h⟩ := bd h
  refine k_nx (t' := [some ((eL true eI) purse_here2), some (eS abc), some (eI r), some (eI size), none, none, none, none, none, none, none]) (sset (blift (e := eI) h4 (bq (eov (b_pu rfl (.inr rfl)) (eov (bcall (t3 := [some ((eL true eI) purse_here2), some (eS abc), some (eI r), none, none, none, none, none, none, none, none]) (eor rfl (eov (b_pu rfl (.inr rfl)) eo0)) rfl (ok_next j true purse_here1 (8 - r) (r1, purse_here2) h3) rfl) eo0)) rfl rfl)) rfl rfl) ?_
  obtain ⟨r2, h5, h⟩ := bd h
  obtain ⟨⟨l, s1⟩, h10, h⟩ := bd h
  dsimp only at h
  refine k_nx (t' := [some ((eL true eI) s1), some (eS abc), some (eI r), some (eI size), some ((eL true eS) l), none, none, none, none, none, none]) (sset (blcS (own := [(("_law_k" : Str), 8)]) (e := eI) (e' := eS) (fun s => [some ((eL true eI) s), some (eS abc), some (eI r), some (eI size), none, none, none, none, none, none, none]) h10 (eov (b_pu rfl (.inl (fzI _))) eo0) rfl rfl (w_rng1 h5) (fun _ => rfl) (fun s x2 y s9 h => by obtain ⟨⟨r4, purse_here4⟩, h8, h⟩ := bd h; dsimp only at h; obtain ⟨x3, h9, h⟩ := bd h; have e := Prod.mk.inj (Option.some.inj h); have e1 := e.1; have e2 := e.2; subst e1; subst e2; exact ⟨_, one_m (b' := true) (t1 := [some ((eL true eI) s), some (eS abc), some (eI r), some (eI size), none, none, none, none, some (eI x2), none, none]) (rfl) (bq (eov (b_pu rfl (.inl (fzS _))) (eov (bcall (t3 := [some ((eL true eI) purse_here4), some (eS abc), some (eI r), some (eI size), none, none, none, none, some (eI x2), none, none]) (eor rfl (eov (b_pu rfl (.inr rfl)) eo0)) rfl (ok_next j true s 26 (r4, purse_here4) h8) rfl) eo0)) rfl (j_S h9)), rfl⟩)) rfl rfl) ?_
  obtain ⟨⟨r5, purse_here5⟩, h11, h⟩ := bd h
  dsimp only at h
  refine k_nx (t' := [some ((eL true eI) purse_here5), some (eS abc), some (eI r), some (eI size), some ((eL true eS) l), some (eI r5), none, none, none, none, none]) (sset (bcall (t3 := [some ((eL true eI) purse_here5), some (eS abc), some (eI r), some (eI size), some ((eL true eS) l), none, none, none, none, none, none]) (eor rfl (eov (b_pu rfl (.inl (fzI _))) eo0)) rfl (ok_next j true s1 size (r5, purse_here5) h11) rfl) rfl rfl) ?_
  obtain ⟨⟨r6, purse_here6⟩, h12, h⟩ := bd h
  dsimp only at h
  refine k_nx (t' := [some ((eL true eI) purse_here6), some (eS abc), some (eI r), some (eI size), some ((eL true eS) l), some (eI r5), some (eI r6), none, none, none, none]) (sset (bcall (t3 := [some ((eL true eI) purse_here6), some (eS abc), some (eI r), some (eI size), some ((eL true eS) l), some (eI r5), none, none, none, none, none]) (eor rfl (eov (b_pu rfl (.inr rfl)) eo0)) rfl (ok_next j true purse_here5 26 (r6, purse_here6) h12) rfl) rfl rfl) ?_
  obtain ⟨names_here, h13, h⟩ := bd h
  refine k_nx (t' := [some ((eL true eI) purse_here6), some (eS abc), some (eI r), some (eI size), some ((eL true eS) l), some (eI r5), some (eI r6), some ((eL true eS) names_here), none, none, none]) (sset (blift (e := (eL true eS)) h13 (b_pu rfl (.inr rfl))) rfl rfl) ?_
  obtain ⟨⟨r7, purse_here7⟩, h14, h⟩ := bd h
  dsimp only at h
  obtain ⟨r8, h15, h⟩ := bd h
  obtain ⟨s3, h30, h⟩ := bd h
  refine k_for (e := eI) (fun (s2 : (List (Str) × List (Str))) => [some ((eL true eI) purse_here7), some (eS abc), some (eI r), some (eI size), some ((eL true eS) s2.1), some (eI r5), some (eI r6), some ((eL true eS) s2.2), none, none, none]) h30 (eov (bq (eov (b_pu rfl (.inr rfl)) (eov (bcall (t3 := [some ((eL true eI) purse_here7), some (eS abc), some (eI r), some (eI size), some ((eL true eS) l), some (eI r5), some (eI r6), some ((eL true eS) names_here), none, none, none]) (eor rfl (eov (b_pu rfl (.inr rfl)) eo0)) rfl (ok_next j true purse_here6 6 (r7, purse_here7) h14) rfl) eo0)) rfl rfl) eo0) rfl (w_rng1 h15) (fun _ => rfl) ?_ ?_
  · intro s2 x4 s4 h
    refine ⟨_, rfl, ?_⟩
    obtain ⟨i, h16, h⟩ := bd h
    obtain ⟨i1, h17, h⟩ := bd h
    obtain ⟨x5, h18, h⟩ := bd h
    obtain ⟨letters, h19, h⟩ := bd h
    refine k_nx (t' := [some ((eL true eI) purse_here7), some (eS abc), some (eI r), some (eI size), some ((eL true eS) letters), some (eI r5), some (eI r6), some ((eL true eS) s2.2), some (eI x4), none, none]) (sput (b_pu (a2 rfl (a2 (a2 rfl (a2 rfl rfl (g_mul h16)) rfl) rfl (g_mod h17)) (j_S h18)) (.inr rfl)) (eor rfl (eov (b_pu rfl (.inl (fzI _))) eo0)) rfl rfl (m_put (e := eS) (xs := s2.1) (x := x5) h19) rfl) ?_
    obtain ⟨t, h20, h⟩ := bd h
    obtain ⟨i2, h21, h⟩ := bd h
    obtain ⟨i3, h22, h⟩ := bd h
    obtain ⟨t1, h23, h⟩ := bd h
    obtain ⟨t2, h24, h⟩ := bd h
    refine k_nx (t' := [some ((eL true eI) purse_here7), some (eS abc), some (eI r), some (eI size), some ((eL true eS) letters), some (eI r5), some (eI r6), some ((eL true eS) s2.2), some (eI x4), none, some (eS t2)]) (sset (bq (eov (bqm (b_pu rfl (.inr rfl)) rfl (eov (b_pu rfl (.inr rfl)) (eor rfl eo0)) rfl (t_join (o := true) h20)) (eov (b_pu (a2 rfl (a2 rfl (a2 rfl rfl (g_mod h21)) (g_mul h22)) (g_repS h23)) (.inr rfl)) eo0)) rfl (g_catS h24)) rfl rfl) ?_
    obtain ⟨c, h25, h⟩ := bd h
    obtain ⟨name, h28, h⟩ := bd h
    refine k_if (x := c) (t1 := [some ((eL true eI) purse_here7), some (eS abc), some (eI r), some (eI size), some ((eL true eS) letters), some (eI r5), some (eI r6), some ((eL true eS) s2.2), some (eI x4), none, some (eS t2)]) (t2 := [some ((eL true eI) purse_here7), some (eS abc), some (eI r), some (eI size), some ((eL true eS) letters), some (eI r5), some (eI r6), some ((eL true eS) s2.2), some (eI x4), none, some (eS name)]) (b_pu (a2 rfl rfl (g_inF h25)) (.inr rfl)) (fun h26 => ?_) (fun h26 => ?_) ?_
    · rw [if_pos h26] at h28
      have h := h28
      obtain ⟨t3, h27, h⟩ := bd h
      refine k_nx (t' := [some ((eL true eI) purse_here7), some (eS abc), some (eI r), some (eI size), some ((eL true eS) letters), some (eI r5), some (eI r6), some ((eL true eS) s2.2), some (eI x4), none, some (eS t3)]) (sset (b_pu (a2 rfl rfl (g_catS h27)) (.inr rfl)) rfl rfl) ?_
      have e := Option.some.inj h; subst e
      exact k_nil rfl
    · rw [if_neg (nt h26)] at h28
      have h := h28
      have e := Option.some.inj h; subst e
      exact k_nil rfl
    obtain ⟨names_here1, h29, h⟩ := bd h
    refine k_nx (t' := [some ((eL true eI) purse_here7), some (eS abc), some (eI r), some (eI size), some ((eL true eS) letters), some (eI r5), some (eI r6), some ((eL true eS) names_here1), some (eI x4), none, some (eS name)]) (sex (bmut (eov (b_pu rfl (.inl (fzS _))) eo0) ⟨_, rfl, rfl⟩ rfl rfl (m_app (e := eS) (xs := s2.2) (x := name) h29))) ?_
    refine k_fg (t' := [some ((eL true eI) purse_here7), some (eS abc), some (eI r), some (eI size), some ((eL true eS) letters), some (eI r5), some (eI r6), some ((eL true eS) names_here1), none, none, none]) rfl ?_
    have e := Option.some.inj h; subst e
    exact k_nil rfl
  obtain ⟨⟨r9, purse_here8⟩, h31, h⟩ := bd h
  dsimp only at h
  obtain ⟨x6, h32, h⟩ := bd h
  refine k_nx (t' := [some ((eL true eI) purse_here8), some (eS abc), some (eI r), some (eI size), some ((eL true eS) s3.1), some (eI r5), some (eI r6), some ((eL true eS) s3.2), none, some (eS x6), none]) (sset (bq (eov (b_pu rfl (.inr rfl)) (eov (bcall (t3 := [some ((eL true eI) purse_here8), some (eS abc), some (eI r), some (eI size), some ((eL true eS) s3.1), some (eI r5), some (eI r6), some ((eL true eS) s3.2), none, none, none]) (eor rfl (eov (b_pu rfl (.inr rfl)) eo0)) rfl (ok_next j true purse_here7 10 (r9, purse_here8) h31) rfl) eo0)) rfl (j_L (o := true) (e := eS) (xs := [("ends" : Str), ("elseif" : Str), ("wider" : Str), ("boxesa" : Str), ("timesx" : Str), ("chooser" : Str), ("is" : Str), ("op" : Str), ("en" : Str), ("tim" : Str)]) fzS h32)) rfl rfl) ?_
  obtain ⟨⟨r10, purse_here9⟩, h33, h⟩ := bd h
  dsimp only at h
  obtain ⟨c2, h35, h⟩ := bd h
  obtain ⟨names_here3, h38, h⟩ := bd h
  refine k_if (x := c2) (t1 := [some ((eL true eI) purse_here9), some (eS abc), some (eI r), some (eI size), some ((eL true eS) s3.1), some (eI r5), some (eI r6), some ((eL true eS) s3.2), none, some (eS x6), none]) (t2 := [some ((eL true eI) purse_here9), some (eS abc), some (eI r), some (eI size), some ((eL true eS) s3.1), some (eI r5), some (eI r6), some ((eL true eS) names_here3), none, some (eS x6), none]) (band (band2 (bq (eov (bcall (t3 := [some ((eL true eI) purse_here9), some (eS abc), some (eI r), some (eI size), some ((eL true eS) s3.1), some (eI r5), some (eI r6), some ((eL true eS) s3.2), none, some (eS x6), none]) (eor rfl (eov (b_pu rfl (.inr rfl)) eo0)) rfl (ok_next j true purse_here8 6 (r10, purse_here9) h33) rfl) (eov (b_pu rfl (.inr rfl)) eo0)) rfl (g_eqI _ _)) (fun y h => by obtain ⟨c1, h34, h⟩ := bd h; have e := Option.some.inj h; subst e; exact band1 (b_pu (a2 rfl rfl (g_ninD h34)) (.inr rfl))) h35)) (fun h36 => ?_) (fun h36 => ?_) ?_
  · rw [if_pos h36] at h38
    have h := h38
    obtain ⟨names_here2, h37, h⟩ := bd h
    refine k_nx (t' := [some ((eL true eI) purse_here9), some (eS abc), some (eI r), some (eI size), some ((eL true eS) s3.1), some (eI r5), some (eI r6), some ((eL true eS) names_here2), none, some (eS x6), none]) (sput (b_pu rfl (.inl (fzS _))) (eor rfl (eov (b_pu rfl (.inr rfl)) eo0)) rfl rfl (m_put (e := eS) (xs := s3.2) (x := x6) h37) rfl) ?_
    have e := Option.some.inj h; subst e
    exact k_nil rfl
  · rw [if_neg (nt h36)] at h38
    have h := h38
    have e := Option.some.inj h; subst e
    exact k_nil rfl
  have e := Option.some.inj h; subst e
  exact k_rt (sret (b_pu (a1 rfl (t_tupS (o := true) (xs := names_here3))) (.inr rfl))) rfl
theorem le_names {L : Nat} (hL : 2 ≤ L) (l0 : Bool) (purse_here : List (Int)) (r : (Q × List (Int))) (h : f_names purse_here = some r) : callN (tabOf ds) fu (L) ("_law_names", none) [(l0, (eL true eI) purse_here)] = some (.ok (eQ (r.1)) [if l0 = true then some ((eL true eI) (r.2)) else none]) := by
  obtain ⟨j, rfl⟩ := Nat.exists_eq_add_of_le' hL
  exact ok_names j l0 purse_here r h
theorem ok_number (j : Nat) (l0 : Bool) (purse_here : List (Int)) (wide : Int) (r : (Int × List (Int))) (h : f_number purse_here wide = some r) : callN (tabOf ds) fu (j + 2) ("_law_number", none) [(l0, (eL true eI) purse_here), (false, eI wide)] = some (.ok (eI (r.1)) [if l0 = true then some ((eL true eI) (r.2)) else none, none]) := by
  refine k_def (df := d__law_number) rfl rfl (by cases l0 <;> rfl) (t0 := [some ((eL true eI) purse_here), some (eI wide)]) rfl ?_
  unfold f_number at h
  obtain ⟨i, h1, h⟩ := bd h
  obtain ⟨i1, h2, h⟩ := bd h
  obtain ⟨⟨r, purse_here1⟩, h3, h⟩ := bd h
  dsimp only at h
  obtain ⟨⟨r1, purse_here2⟩, h4, h⟩ := bd h
  dsimp only at h
  obtain ⟨x, h5, h⟩ := bd h
  obtain ⟨i2, h6, h⟩ := bd h
  obtain ⟨i3, h7, h⟩ := bd h
  have e := Option.some.inj h; subst e
  exact k_rt (sret (bq (eov (bq (eov (blst (eov (b_pu rfl (.inr rfl)) (eov (b_pu rfl (.inr rfl)) (eov (b_pu (a2 (a2 rfl rfl (g_shl h1)) rfl rfl) (.inr rfl)) (eov (bcall (t3 := [some ((eL true eI) purse_here1), some (eI wide)]) (eor rfl (eov (b_pu (a2 rfl rfl (g_shl h2)) (.inr rfl)) eo0)) rfl (ok_next j true purse_here i1 (r, purse_here1) h3) rfl) eo0)))) rfl rfl) (eov (bcall (t3 := [some ((eL true eI) purse_here2), some (eI wide)]) (eor rfl (eov (b_pu rfl (.inr rfl)) eo0)) rfl (ok_next j true purse_here1 4 (r1, purse_here2) h4) rfl) eo0)) rfl (j_L (o := true) (e := eI) (xs := [0, 1, (i - 1), r]) fzI h5)) (eov (b_pu (a2 rfl rfl (g_shl h6)) (.inr rfl)) eo0)) rfl (g_mod h7))) rfl
theorem le_number {L : Nat} (hL : 2 ≤ L) (l0 : Bool) (purse_here : List (Int)) (wide : Int) (r : (Int × List (Int))) (h : f_number purse_here wide = some r) : callN (tabOf ds) fu (L) ("_law_number", none) [(l0, (eL true eI) purse_here), (false, eI wide)] = some (.ok (eI (r.1)) [if l0 = true then some ((eL true eI) (r.2)) else none, none]) := by
  obtain ⟨j, rfl⟩ := Nat.exists_eq_add_of_le' hL
  exact ok_number j l0 purse_here wide r h
theorem ok_atom (j : Nat) (l0 : Bool) (purse_here : List (Int)) (wide : Int) (boxes : Q) (r : (Q × List (Int))) (h : f_atom purse_here wide boxes = some r) : callN (tabOf ds) fu (j + 3) ("_law_atom", none) [(l0, (eL true eI) purse_here), (false, eI wide), (false, eQ boxes)] = some (.ok (eQ (r.1)) [if l0 = true then some ((eL true eI) (r.2)) else none, none, none]) := by
  refine k_def (df := d__law_atom) rfl rfl (by cases l0 <;> rfl) (t0 := [some ((eL true eI) purse_here), some (eI wide), some (eQ boxes)]) rfl ?_
  unfold f_atom at h
  obtain ⟨⟨r, purse_here1⟩, h1, h⟩ := bd h
  dsimp only at h
  by_cases h2 : (decide (r = 0)) = true
  · rw [if_pos h2] at h
    refine k_ifT (x := (decide (r = 0))) (t1 := [some ((eL true eI) purse_here1), some (eI wide), some (eQ boxes)]) (bq (eov (bcall (t3 := [some ((eL true eI) purse_here1), some (eI wide), some (eQ boxes)]) (eor rfl (eov (b_pu rfl (.inr rfl)) eo0)) rfl (ok_next (j + 1) true purse_here 3 (r, purse_here1) h1) rfl) (eov (b_pu rfl (.inr rfl)) eo0)) rfl (g_eqI _ _)) h2 ?_
    obtain ⟨⟨r1, purse_here2⟩, h3, h⟩ := bd h
    dsimp only at h
    have e := Option.some.inj h; subst e
    exact k_rt (sret (bcall (t3 := [some ((eL true eI) purse_here2), some (eI wide), some (eQ boxes)]) (eor rfl (eov (b_pu rfl (.inl (fzI _))) eo0)) rfl (ok_number j true purse_here1 wide (r1, purse_here2) h3) rfl)) rfl
  · rw [if_neg h2] at h
    refine k_ifF (x := (decide (r = 0))) (t1 := [some ((eL true eI) purse_here1), some (eI wide), some (eQ boxes)]) (bq (eov (bcall (t3 := [some ((eL true eI) purse_here1), some (eI wide), some (eQ boxes)]) (eor rfl (eov (b_pu rfl (.inr rfl)) eo0)) rfl (ok_next (j + 1) true purse_here 3 (r, purse_here1) h1) rfl) (eov (b_pu rfl (.inr rfl)) eo0)) rfl (g_eqI _ _)) (Bool.eq_false_iff.mpr h2) ?_
    obtain ⟨n, h4, h⟩ := bd h
    obtain ⟨⟨r2, purse_here3⟩, h5, h⟩ := bd h
    dsimp only at h
    obtain ⟨x, h6, h⟩ := bd h
    have e := Option.some.inj h; subst e
    exact k_rt (sret (bq (eov (b_pu rfl (.inl (fzQ _))) (eov (bcall (t3 := [some ((eL true eI) purse_here3), some (eI wide), some (eQ boxes)]) (eor rfl (eov (b_pu (a1 rfl (l_Q h4)) (.inr rfl)) eo0)) rfl (ok_next (j + 1) true purse_here1 n (r2, purse_here3) h5) rfl) eo0)) rfl (j_Q h6))) rfl
theorem le_atom {L : Nat} (hL : 3 ≤ L) (l0 : Bool) (purse_here : List (Int)) (wide : Int) (boxes : Q) (r : (Q × List (Int))) (h : f_atom purse_here wide boxes = some r) : callN (tabOf ds) fu (L) ("_law_atom", none) [(l0, (eL true eI) purse_here), (false, eI wide), (false, eQ boxes)] = some (.ok (eQ (r.1)) [if l0 = true then some ((eL true eI) (r.2)) else none, none, none]) := by
  obtain ⟨j, rfl⟩ := Nat.exists_eq_add_of_le' hL
  exact ok_atom j l0 purse_here wide boxes r h
theorem ok_set_ (j : Nat) (l0 : Bool) (purse_here : List (Int)) (wide : Int) (boxes : Q) (r : (Q × List (Int))) (h : f_set_ purse_here wide boxes = some r) : callN (tabOf ds) fu (j + 4) ("_law_set", none) [(l0, (eL true eI) purse_here), (false, eI wide), (false, eQ boxes)] = some (.ok (eQ (r.1)) [if l0 = true then some ((eL true eI) (r.2)) else none, none, none]) := by
  refine k_def (df := d__law_set) rfl rfl (by cases l0 <;> rfl) (t0 := [some ((eL true eI) purse_here), some (eI wide), some (eQ boxes), none, none]) rfl ?_
  unfold f_set_ at h
  obtain ⟨n, h1, h⟩ := bd h
  obtain ⟨⟨r, purse_here1⟩, h2, h⟩ := bd h
  dsimp only at h
  obtain ⟨x, h3, h⟩ := bd h
  refine k_nx (t' := [some ((eL true eI) purse_here1), some (eI wide), some (eQ boxes), some (eQ x), none]) (sset (bq (eov (b_pu rfl (.inl (fzQ _))) (eov (bcall (t3 := [some ((eL true eI) purse_here1), some (eI wide), some (eQ boxes), none, none]) (eor rfl (eov (b_pu (a1 rfl (l_Q h1)) (.inr rfl)) eo0)) rfl (ok_next (j + 2) true purse_here n (r, purse_here1) h2) rfl) eo0)) rfl (j_Q h3)) rfl rfl) ?_
  obtain ⟨⟨r1, purse_here2⟩, h4, h⟩ := bd h
  dsimp only at h
  refine k_nx (t' := [some ((eL true eI) purse_here2), some (eI wide), some (eQ boxes), some (eQ x), some (eQ r1)]) (sset (bcall (t3 := [some ((eL true eI) purse_here2), some (eI wide), some (eQ boxes), some (eQ x), none]) (eor rfl (eov (b_pu rfl (.inl (fzI _))) (eov (b_pu rfl (.inl (fzQ _))) eo0))) rfl (ok_atom j true purse_here1 wide boxes (r1, purse_here2) h4) rfl) rfl rfl) ?_
  obtain ⟨⟨r2, purse_here3⟩, h5, h⟩ := bd h
  dsimp only at h
  by_cases h6 : (decide (r2 = 0)) = true
  · rw [if_pos h6] at h
    refine k_ifT (x := (decide (r2 = 0))) (t1 := [some ((eL true eI) purse_here3), some (eI wide), some (eQ boxes), some (eQ x), some (eQ r1)]) (bq (eov (bcall (t3 := [some ((eL true eI) purse_here3), some (eI wide), some (eQ boxes), some (eQ x), some (eQ r1)]) (eor rfl (eov (b_pu rfl (.inr rfl)) eo0)) rfl (ok_next (j + 2) true purse_here2 4 (r2, purse_here3) h5) rfl) (eov (b_pu rfl (.inr rfl)) eo0)) rfl (g_eqI _ _)) h6 ?_
    have e := Option.some.inj h; subst e
    exact k_rt (sret (b_pu (atup (as1 rfl (as1 rfl (as1 rfl as0))) (is1 (fzS _) (is1 (fzQ x) (is1 (fzQ r1) rfl))) rfl) (.inr rfl))) rfl
  · rw [if_neg h6] at h
    refine k_ifF (x := (decide (r2 = 0))) (t1 := [some ((eL true eI) purse_here3), some (eI wide), some (eQ boxes), some (eQ x), some (eQ r1)]) (bq (eov (bcall (t3 := [some ((eL true eI) purse_here3), some (eI wide), some (eQ boxes), some (eQ x), some (eQ r1)]) (eor rfl (eov (b_pu rfl (.inr rfl)) eo0)) rfl (ok_next (j + 2) true purse_here2 4 (r2, purse_here3) h5) rfl) (eov (b_pu rfl (.inr rfl)) eo0)) rfl (g_eqI _ _)) (Bool.eq_false_iff.mpr h6) ?_
    obtain ⟨⟨r3, purse_here4⟩, h7, h⟩ := bd h
    dsimp only at h
    obtain ⟨x1, h8, h⟩ := bd h
    obtain ⟨⟨r4, purse_here5⟩, h9, h⟩ := bd h
    dsimp only at h
    have e := Option.some.inj h; subst e
    exact k_rt (sret (btup (eov (b_pu rfl (.inr rfl)) (eov (b_pu rfl (.inl (fzQ _))) (eov (bq (eov (b_pu rfl (.inr rfl)) (eov (bcall (t3 := [some ((eL true eI) purse_here4), some (eI wide), some (eQ boxes), some (eQ x), some (eQ r1)]) (eor rfl (eov (b_pu rfl (.inr rfl)) eo0)) rfl (ok_next (j + 2) true purse_here3 7 (r3, purse_here4) h7) rfl) eo0)) rfl (j_S h8)) (eov (b_pu rfl (.inl (fzQ _))) (eov (bcall (t3 := [some ((eL true eI) purse_here5), some (eI wide), some (eQ boxes), some (eQ x), some (eQ r1)]) (eor rfl (eov (b_pu rfl (.inl (fzI _))) (eov (b_pu rfl (.inl (fzQ _))) eo0))) rfl (ok_atom j true purse_here4 wide boxes (r4, purse_here5) h9) rfl) eo0))))) rfl rfl)) rfl
theorem le_set_ {L : Nat} (hL : 4 ≤ L) (l0 : Bool) (purse_here : List (Int)) (wide : Int) (boxes : Q) (r : (Q × List (Int))) (h : f_set_ purse_here wide boxes = some r) : callN (tabOf ds) fu (L) ("_law_set", none) [(l0, (eL true eI) purse_here), (false, eI wide), (false, eQ boxes)] = some (.ok (eQ (r.1)) [if l0 = true then some ((eL true eI) (r.2)) else none, none, none]) := by
  obtain ⟨j, rfl⟩ := Nat.exists_eq_add_of_le' hL
  exact ok_set_ j l0 purse_here wide boxes r h
theorem ok_shut (j : Nat) (l0 : Bool) (l1 : Bool) (o0 : Bool) (opened : List ((List (Q) × Q × Int))) (rows_here : List (Q)) (r : (List (Q) × (List ((List (Q) × Q × Int))))) (h : f_shut opened rows_here = some r) : callN (tabOf ds) fu (j + 1) ("_law_shut", none) [(l0, (eL true (eT3 (eL false eQ) eQ eI)) opened), (l1, (eL o0 eQ) rows_here)] = some (.ok ((eL true eQ) (r.1)) [if l0 = true then some ((eL true (eT3 (eL false eQ) eQ eI)) (r.2)) else none, if l1 = true then some ((eL o0 eQ) rows_here) else none]) := by
  refine k_def (df := d__law_shut) rfl rfl (by cases l0 <;> cases l1 <;> rfl) (t0 := [some ((eL true (eT3 (eL false eQ) eQ eI)) opened), some ((eL o0 eQ) rows_here), none, none, none]) rfl ?_
  unfold f_shut at h
  obtain ⟨⟨x, opened1⟩, h1, h⟩ := bd h
  dsimp only at h
  refine k_nx (t' := [some ((eL true (eT3 (eL false eQ) eQ eI)) opened1), some ((eL o0 eQ) rows_here), some ((eL false eQ) x.1), some (eQ x.2.1), some (eI x.2.2)]) (sasg (bmut eo0 ⟨_, rfl, rfl⟩ rfl rfl (m_pop (e := (eT3 (eL false eQ) eQ eI)) (xs := opened) h1)) (rfl)) ?_
  obtain ⟨x1, h2, h⟩ := bd h
  obtain ⟨c, h3, h⟩ := bd h
  obtain ⟨c1, h5, h⟩ := bd h
  by_cases h6 : c1 = true
  · rw [if_pos h6] at h
    refine k_ifT (x := c1) (t1 := [some ((eL true (eT3 (eL false eQ) eQ eI)) opened1), some ((eL o0 eQ) rows_here), some ((eL false eQ) x.1), some (eQ x.2.1), some (eI x.2.2)]) (b_pu (aand (andp (a2 (aix rfl rfl (i_Q h2)) rfl (g_eq h3)) (fun y h => by obtain ⟨n, h4, h⟩ := bd h; have e := Option.some.inj h; subst e; exact and1 (a2 (a1 rfl (l_Q h4)) rfl (g_eqI _ _))) h5)) (.inr rfl)) h6 ?_
    obtain ⟨q, h7, h⟩ := bd h
    obtain ⟨opened2, h8, h⟩ := bd h
    refine k_nx (t' := [some ((eL true (eT3 (eL false eQ) eQ eI)) opened2), some ((eL o0 eQ) rows_here), some ((eL false eQ) x.1), some (eQ x.2.1), some (eI x.2.2)]) (sex (bmut (eov (btup (eov (bnm rfl (frOf (fzL fzQ) x.1)) (eov (b_pu (a2 rfl (atup (as1 (a1 rfl (t_tupQ (o := o0) (xs := rows_here))) as0) (is1 (fzQ (Q.tup rows_here)) rfl) rfl) (g_catQ h7)) (.inr rfl)) (eov (b_pu rfl (.inl (fzI _))) eo0))) rfl rfl) eo0) ⟨_, rfl, rfl⟩ rfl rfl (m_app (e := (eT3 (eL false eQ) eQ eI)) (xs := opened1) (x := (x.1, q, x.2.2)) h8))) ?_
    have e := Option.some.inj h; subst e
    exact k_rt (sret (b_pu rfl (.inr rfl))) rfl
  · rw [if_neg h6] at h
    refine k_ifF (x := c1) (t1 := [some ((eL true (eT3 (eL false eQ) eQ eI)) opened1), some ((eL o0 eQ) rows_here), some ((eL false eQ) x.1), some (eQ x.2.1), some (eI x.2.2)]) (b_pu (aand (andp (a2 (aix rfl rfl (i_Q h2)) rfl (g_eq h3)) (fun y h => by obtain ⟨n, h4, h⟩ := bd h; have e := Option.some.inj h; subst e; exact and1 (a2 (a1 rfl (l_Q h4)) rfl (g_eqI _ _))) h5)) (.inr rfl)) (Bool.eq_false_iff.mpr h6) ?_
    obtain ⟨q1, h9, h⟩ := bd h
    obtain ⟨l, h10, h⟩ := bd h
    have e := Option.some.inj h; subst e
    exact k_rt (sret (b_pu (a2 rfl (alst (as1 (a2 rfl (atup (as1 (a1 rfl (t_tupQ (o := o0) (xs := rows_here))) as0) (is1 (fzQ (Q.tup rows_here)) rfl) rfl) (g_catQ h9)) as0) (is1 (fzQ q1) rfl) rfl) (g_cat (o := false) (o' := true) (e := eQ) (xs := x.1) (ys := [q1]) fzQ h10)) (.inr rfl))) rfl
theorem le_shut {L : Nat} (hL : 1 ≤ L) (l0 : Bool) (l1 : Bool) (o0 : Bool) (opened : List ((List (Q) × Q × Int))) (rows_here : List (Q)) (r : (List (Q) × (List ((List (Q) × Q × Int))))) (h : f_shut opened rows_here = some r) : callN (tabOf ds) fu (L) ("_law_shut", none) [(l0, (eL true (eT3 (eL false eQ) eQ eI)) opened), (l1, (eL o0 eQ) rows_here)] = some (.ok ((eL true eQ) (r.1)) [if l0 = true then some ((eL true (eT3 (eL false eQ) eQ eI)) (r.2)) else none, if l1 = true then some ((eL o0 eQ) rows_here) else none]) := by
  obtain ⟨j, rfl⟩ := Nat.exists_eq_add_of_le' hL
  exact ok_shut j l0 l1 o0 opened rows_here r h
theorem ok_rows (j : Nat)  (script : List Int) (wide : Int) (boxes : Q) (most : Int) (r : Q) (h : f_rows script wide boxes most = some r) : callN (tabOf ds) fu (j + 5) ("_law_rows", none) [(false, eScr script), (false, eI wide), (false, eQ boxes), (false, eI most)] = some (.ok (eQ (r)) [none, none, none, none]) := by
  refine k_def (df := d__law_rows) rfl rfl (by rfl) (t0 := [some (eScr script), some (eI wide), some (eQ boxes), some (eI most), none, none, none, none, none, none, none, none, none]) rfl ?_
  unfold f_rows at h
  obtain ⟨opened, h1, h⟩ := bd h
  refine k_nx (t' := [some (eScr script), some (eI wide), some (eQ boxes), some (eI most), some ((eL true (eT3 (eL false eQ) eQ eI)) opened), none, none, none, none, none, none, none, none]) (sset (blift (e := (eL true (eT3 (eL false eQ) eQ eI))) h1 (b_pu rfl (.inr rfl))) rfl rfl) ?_
  obtain ⟨rows_here, h2, h⟩ := bd h
  refine k_nx (t' := [some (eScr script), some (eI wide), some (eQ boxes), some (eI most), some ((eL true (eT3 (eL false eQ) eQ eI)) opened), some ((eL true eQ) rows_here), none, none, none, none, none, none, none]) (sset (blift (e := (eL true eQ)) h2 (b_pu rfl (.inr rfl))) rfl rfl) ?_
  refine k_nx (t' := [some (eScr script), some (eI wide), some (eQ boxes), some (eI most), some ((eL true (eT3 (eL false eQ) eQ eI)) opened), some ((eL true eQ) rows_here), some (eI 1), none, none, none, none, none, none]) (sset (b_pu rfl (.inr rfl)) rfl rfl) ?_
  refine k_nx (t' := [some (eScr script), some (eI wide), some (eQ boxes), some (eI most), some ((eL true (eT3 (eL false eQ) eQ eI)) opened), some ((eL true eQ) rows_here), some (eI 1), some (eI 120), none, none, none, none, none]) (sset (b_pu rfl (.inr rfl)) rfl rfl) ?_
  obtain ⟨r, h3, h⟩ := bd h
  obtain ⟨s5, h36, h⟩ := bd h
  refine k_for (e := eI) (fun (s : ((List ((List (Q) × Q × Int))) × List (Q) × Int × Int)) => [some (eScr script), some (eI wide), some (eQ boxes), some (eI most), some ((eL true (eT3 (eL false eQ) eQ eI)) s.1), some ((eL true eQ) s.2.1), some (eI s.2.2.1), some (eI s.2.2.2), none, none, none, none, none]) h36 (eov (b_pu rfl (.inl (fzI _))) eo0) rfl (w_rng1 h3) (fun _ => rfl) ?_ ?_
  · intro s x s6 h
    refine ⟨_, rfl, ?_⟩
    obtain ⟨r1, h4, h⟩ := bd h
    refine k_nx (t' := [some (eScr script), some (eI wide), some (eQ boxes), some (eI most), some ((eL true (eT3 (eL false eQ) eQ eI)) s.1), some ((eL true eQ) s.2.1), some (eI s.2.2.1), some (eI s.2.2.2), some (eI x), some ((eL true eI) r1), none, none, none]) (sset (bcall (t3 := [some (eScr script), some (eI wide), some (eQ boxes), some (eI most), some ((eL true (eT3 (eL false eQ) eQ eI)) s.1), some ((eL true eQ) s.2.1), some (eI s.2.2.1), some (eI s.2.2.2), some (eI x), none, none, none, none]) (eov (b_pu rfl (.inl (fzScr _))) (eov (b_pu rfl (.inr rfl)) eo0)) rfl (ok_purse (j + 3)  script (6 + x) r1 h4) rfl) rfl rfl) ?_
    obtain ⟨⟨r2, purse_here⟩, h5, h⟩ := bd h
    dsimp only at h
    refine k_nx (t' := [some (eScr script), some (eI wide), some (eQ boxes), some (eI most), some ((eL true (eT3 (eL false eQ) eQ eI)) s.1), some ((eL true eQ) s.2.1), some (eI s.2.2.1), some (eI s.2.2.2), some (eI x), some ((eL true eI) purse_here), some (eI r2), none, none]) (sset (bcall (t3 := [some (eScr script), some (eI wide), some (eQ boxes), some (eI most), some ((eL true (eT3 (eL false eQ) eQ eI)) s.1), some ((eL true eQ) s.2.1), some (eI s.2.2.1), some (eI s.2.2.2), some (eI x), some ((eL true eI) purse_here), none, none, none]) (eor rfl (eov (b_pu rfl (.inr rfl)) eo0)) rfl (ok_next (j + 3) true r1 10 (r2, purse_here) h5) rfl) rfl rfl) ?_
    obtain ⟨s4, h35, h⟩ := bd h
    refine k_if (x := ((decide (7 < r2)) && ((decide ((s.1.length : Int) < 5)) && (decide (s.2.2.1 ≤ s.2.2.2))))) (t1 := [some (eScr script), some (eI wide), some (eQ boxes), some (eI most), some ((eL true (eT3 (eL false eQ) eQ eI)) s.1), some ((eL true eQ) s.2.1), some (eI s.2.2.1), some (eI s.2.2.2), some (eI x), some ((eL true eI) purse_here), some (eI r2), none, none]) (t2 := [some (eScr script), some (eI wide), some (eQ boxes), some (eI most), some ((eL true (eT3 (eL false eQ) eQ eI)) s4.1), some ((eL true eQ) s4.2.1), some (eI s4.2.2.1), some (eI s4.2.2.2.1), some (eI x), some ((eL true eI) s4.2.2.2.2), some (eI r2), none, none]) (b_pu (aand (and2 rfl (and2 (a2 (a1 rfl (l_L (o := true) (e := (eT3 (eL false eQ) eQ eI)) (xs := s.1))) rfl rfl) (and1 rfl)))) (.inr rfl)) (fun h6 => ?_) (fun h6 => ?_) ?_
    · rw [if_pos h6] at h35
      have h := h35
      obtain ⟨⟨r3, purse_here1⟩, h7, h⟩ := bd h
      dsimp only at h
      obtain ⟨head, h8, h⟩ := bd h
      refine k_nx (t' := [some (eScr script), some (eI wide), some (eQ boxes), some (eI most), some ((eL true (eT3 (eL false eQ) eQ eI)) s.1), some ((eL true eQ) s.2.1), some (eI s.2.2.1), some (eI s.2.2.2), some (eI x), some ((eL true eI) purse_here1), some (eI r2), some (eQ head), none]) (sset (blift (e := eQ) h8 (btup (eov (b_pu rfl (.inr rfl)) (eov (bcall (t3 := [some (eScr script), some (eI wide), some (eQ boxes), some (eI most), some ((eL true (eT3 (eL false eQ) eQ eI)) s.1), some ((eL true eQ) s.2.1), some (eI s.2.2.1), some (eI s.2.2.2), some (eI x), some ((eL true eI) purse_here1), some (eI r2), none, none]) (eor rfl (eov (b_pu rfl (.inl (fzI _))) (eov (b_pu rfl (.inl (fzQ _))) eo0))) rfl (ok_atom (j + 1) true purse_here wide boxes (r3, purse_here1) h7) rfl) eo0)) rfl rfl)) rfl rfl) ?_
      obtain ⟨left, h9, h⟩ := bd h
      refine k_nx (t' := [some (eScr script), some (eI wide), some (eQ boxes), some (eI most), some ((eL true (eT3 (eL false eQ) eQ eI)) s.1), some ((eL true eQ) s.2.1), some (eI s.2.2.1), some (eI left), some (eI x), some ((eL true eI) purse_here1), some (eI r2), some (eQ head), none]) (sset (blift (e := eI) h9 (b_pu rfl (.inr rfl))) rfl rfl) ?_
      obtain ⟨s1, h17, h⟩ := bd h
      refine k_if (x := (decide (r2 = 9))) (t1 := [some (eScr script), some (eI wide), some (eQ boxes), some (eI most), some ((eL true (eT3 (eL false eQ) eQ eI)) s.1), some ((eL true eQ) s.2.1), some (eI s.2.2.1), some (eI left), some (eI x), some ((eL true eI) purse_here1), some (eI r2), some (eQ head), none]) (t2 := [some (eScr script), some (eI wide), some (eQ boxes), some (eI most), some ((eL true (eT3 (eL false eQ) eQ eI)) s.1), some ((eL true eQ) s.2.1), some (eI s.2.2.1), some (eI left), some (eI x), some ((eL true eI) s1.1), some (eI r2), some (eQ s1.2), none]) (b_pu (a2 rfl rfl (g_eqI _ _)) (.inr rfl)) (fun h10 => ?_) (fun h10 => ?_) ?_
      · rw [if_pos h10] at h17
        have h := h17
        obtain ⟨⟨r4, purse_here2⟩, h11, h⟩ := bd h
        dsimp only at h
        obtain ⟨⟨r5, purse_here3⟩, h12, h⟩ := bd h
        dsimp only at h
        obtain ⟨x1, h13, h⟩ := bd h
        refine k_nx (t' := [some (eScr script), some (eI wide), some (eQ boxes), some (eI most), some ((eL true (eT3 (eL false eQ) eQ eI)) s.1), some ((eL true eQ) s.2.1), some (eI s.2.2.1), some (eI left), some (eI x), some ((eL true eI) purse_here3), some (eI r2), some (eQ head), some (eI x1)]) (sset (bq (eov (blst (eov (b_pu rfl (.inr rfl)) (eov (b_pu rfl (.inr rfl)) (eov (b_pu rfl (.inr rfl)) (eov (b_pu rfl (.inr rfl)) (eov (b_pu rfl (.inr rfl)) (eov (bcall (t3 := [some (eScr script), some (eI wide), some (eQ boxes), some (eI most), some ((eL true (eT3 (eL false eQ) eQ eI)) s.1), some ((eL true eQ) s.2.1), some (eI s.2.2.1), some (eI left), some (eI x), some ((eL true eI) purse_here2), some (eI r2), some (eQ head), none]) (eor rfl (eov (b_pu rfl (.inr rfl)) eo0)) rfl (ok_next (j + 3) true purse_here1 21 (r4, purse_here2) h11) rfl) eo0)))))) rfl rfl) (eov (bcall (t3 := [some (eScr script), some (eI wide), some (eQ boxes), some (eI most), some ((eL true (eT3 (eL false eQ) eQ eI)) s.1), some ((eL true eQ) s.2.1), some (eI s.2.2.1), some (eI left), some (eI x), some ((eL true eI) purse_here3), some (eI r2), some (eQ head), none]) (eor rfl (eov (b_pu rfl (.inr rfl)) eo0)) rfl (ok_next (j + 3) true purse_here2 6 (r5, purse_here3) h12) rfl) eo0)) rfl (j_L (o := true) (e := eI) (xs := [0, 1, 2, 3, 4, r4]) fzI h13)) rfl rfl) ?_
        obtain ⟨i, h14, h⟩ := bd h
        obtain ⟨x2, h15, h⟩ := bd h
        obtain ⟨head1, h16, h⟩ := bd h
        refine k_nx (t' := [some (eScr script), some (eI wide), some (eQ boxes), some (eI most), some ((eL true (eT3 (eL false eQ) eQ eI)) s.1), some ((eL true eQ) s.2.1), some (eI s.2.2.1), some (eI left), some (eI x), some ((eL true eI) purse_here3), some (eI r2), some (eQ head1), some (eI x1)]) (sset (blift (e := eQ) h16 (b_pu (atup (as1 rfl (as1 (aix rfl (a1 (a2 (a2 rfl rfl (g_mul h14)) rfl rfl) rfl) (i_L (o := true) (e := eI) (xs := [1, x1]) h15)) as0)) (is1 (fzS _) (is1 (fzI _) rfl)) rfl) (.inr rfl))) rfl rfl) ?_
        refine k_fg (t' := [some (eScr script), some (eI wide), some (eQ boxes), some (eI most), some ((eL true (eT3 (eL false eQ) eQ eI)) s.1), some ((eL true eQ) s.2.1), some (eI s.2.2.1), some (eI left), some (eI x), some ((eL true eI) purse_here3), some (eI r2), some (eQ head1), none]) rfl ?_
        have e := Option.some.inj h; subst e
        exact k_nil rfl
      · rw [if_neg (nt h10)] at h17
        have h := h17
        have e := Option.some.inj h; subst e
        exact k_nil rfl
      obtain ⟨opened1, h18, h⟩ := bd h
      refine k_nx (t' := [some (eScr script), some (eI wide), some (eQ boxes), some (eI most), some ((eL true (eT3 (eL false eQ) eQ eI)) opened1), some ((eL false eQ) s.2.1), some (eI s.2.2.1), some (eI left), some (eI x), some ((eL true eI) s1.1), some (eI r2), some (eQ s1.2), none]) (sex (bmut (eov (btup (eov (bnm rfl ((frL (frOf fzQ)) s.2.1)) (eov (b_pu rfl (.inl (fzQ _))) (eov (b_pu rfl (.inl (fzI _))) eo0))) rfl rfl) eo0) ⟨_, rfl, rfl⟩ rfl rfl (m_app (e := (eT3 (eL false eQ) eQ eI)) (xs := s.1) (x := (s.2.1, s1.2, s.2.2.1)) h18))) ?_
      obtain ⟨x3, h19, h⟩ := bd h
      obtain ⟨x4, h20, h⟩ := bd h
      obtain ⟨i1, h21, h⟩ := bd h
      obtain ⟨i2, h22, h⟩ := bd h
      refine k_nx (t' := [some (eScr script), some (eI wide), some (eQ boxes), some (eI most), some ((eL true (eT3 (eL false eQ) eQ eI)) opened1), some ((eL false eQ) s.2.1), some (eI i2), some (eI left), some (eI x), some ((eL true eI) s1.1), some (eI r2), some (eQ s1.2), none]) (sset (b_pu (a2 rfl (aeq (aix (alst (as1 rfl (as1 (aix rfl rfl (i_Q h19)) as0)) (is1 (fzQ (Q.int 1)) (is1 (fzQ x3) rfl)) rfl) (a1 (a2 rfl rfl (g_eqI _ _)) rfl) (i_L (o := true) (e := eQ) (xs := [(Q.int 1), x3]) h20)) (c_I h21)) (g_mul h22)) (.inr rfl)) rfl rfl) ?_
      obtain ⟨rows_here1, h23, h⟩ := bd h
      refine k_nx (t' := [some (eScr script), some (eI wide), some (eQ boxes), some (eI most), some ((eL true (eT3 (eL false eQ) eQ eI)) opened1), some ((eL true eQ) rows_here1), some (eI i2), some (eI left), some (eI x), some ((eL true eI) s1.1), some (eI r2), some (eQ s1.2), none]) (sset (blift (e := (eL true eQ)) h23 (b_pu rfl (.inr rfl))) rfl rfl) ?_
      refine k_fg (t' := [some (eScr script), some (eI wide), some (eQ boxes), some (eI most), some ((eL true (eT3 (eL false eQ) eQ eI)) opened1), some ((eL true eQ) rows_here1), some (eI i2), some (eI left), some (eI x), some ((eL true eI) s1.1), some (eI r2), none, none]) rfl ?_
      have e := Option.some.inj h; subst e
      exact k_nil rfl
    · rw [if_neg (nt h6)] at h35
      have h := h35
      obtain ⟨c1, h25, h⟩ := bd h
      obtain ⟨s3, h34, h⟩ := bd h
      refine k_if (x := c1) (t1 := [some (eScr script), some (eI wide), some (eQ boxes), some (eI most), some ((eL true (eT3 (eL false eQ) eQ eI)) s.1), some ((eL true eQ) s.2.1), some (eI s.2.2.1), some (eI s.2.2.2), some (eI x), some ((eL true eI) purse_here), some (eI r2), none, none]) (t2 := [some (eScr script), some (eI wide), some (eQ boxes), some (eI most), some ((eL true (eT3 (eL false eQ) eQ eI)) s3.1), some ((eL true eQ) s3.2.1), some (eI s3.2.2.1), some (eI s3.2.2.2.1), some (eI x), some ((eL true eI) s3.2.2.2.2), some (eI r2), none, none]) (b_pu (aand (andp (a2 rfl rfl (g_eqI _ _)) (fun y h => by obtain ⟨c, h24, h⟩ := bd h; have e := Option.some.inj h; subst e; exact and1 (a2 rfl rfl (g_ne h24))) h25)) (.inr rfl)) (fun h26 => ?_) (fun h26 => ?_) ?_
      · rw [if_pos h26] at h34
        have h := h34
        obtain ⟨x5, h27, h⟩ := bd h
        refine k_nx (t' := [some (eScr script), some (eI wide), some (eQ boxes), some (eI most), some ((eL true (eT3 (eL false eQ) eQ eI)) s.1), some ((eL true eQ) s.2.1), some (eI x5.2.2), some (eI s.2.2.2), some (eI x), some ((eL true eI) purse_here), some (eI r2), none, none]) (sset (b_pu (aix (aix rfl rfl (i_L (o := true) (e := (eT3 (eL false eQ) eQ eI)) (xs := s.1) h27)) rfl rfl) (.inl (fzI _))) rfl rfl) ?_
        obtain ⟨⟨r6, opened2⟩, h28, h⟩ := bd h
        dsimp only at h
        refine k_nx (t' := [some (eScr script), some (eI wide), some (eQ boxes), some (eI most), some ((eL true (eT3 (eL false eQ) eQ eI)) opened2), some ((eL true eQ) r6), some (eI x5.2.2), some (eI s.2.2.2), some (eI x), some ((eL true eI) purse_here), some (eI r2), none, none]) (sset (bcall (t3 := [some (eScr script), some (eI wide), some (eQ boxes), some (eI most), some ((eL true (eT3 (eL false eQ) eQ eI)) opened2), some ((eL true eQ) s.2.1), some (eI x5.2.2), some (eI s.2.2.2), some (eI x), some ((eL true eI) purse_here), some (eI r2), none, none]) (eor rfl (eor rfl eo0)) rfl (ok_shut (j + 3) true true true s.1 s.2.1 (r6, opened2) h28) rfl) rfl rfl) ?_
        have e := Option.some.inj h; subst e
        exact k_nil rfl
      · rw [if_neg (nt h26)] at h34
        have h := h34
        obtain ⟨s2, h33, h⟩ := bd h
        refine k_if (x := (decide (s.2.2.1 ≤ s.2.2.2))) (t1 := [some (eScr script), some (eI wide), some (eQ boxes), some (eI most), some ((eL true (eT3 (eL false eQ) eQ eI)) s.1), some ((eL true eQ) s.2.1), some (eI s.2.2.1), some (eI s.2.2.2), some (eI x), some ((eL true eI) purse_here), some (eI r2), none, none]) (t2 := [some (eScr script), some (eI wide), some (eQ boxes), some (eI most), some ((eL true (eT3 (eL false eQ) eQ eI)) s.1), some ((eL true eQ) s2.1), some (eI s.2.2.1), some (eI s2.2.1), some (eI x), some ((eL true eI) s2.2.2), some (eI r2), none, none]) (b_pu rfl (.inr rfl)) (fun h29 => ?_) (fun h29 => ?_) ?_
        · rw [if_pos h29] at h33
          have h := h33
          obtain ⟨⟨r7, purse_here4⟩, h30, h⟩ := bd h
          dsimp only at h
          obtain ⟨rows_here2, h31, h⟩ := bd h
          refine k_nx (t' := [some (eScr script), some (eI wide), some (eQ boxes), some (eI most), some ((eL true (eT3 (eL false eQ) eQ eI)) s.1), some ((eL true eQ) rows_here2), some (eI s.2.2.1), some (eI s.2.2.2), some (eI x), some ((eL true eI) purse_here4), some (eI r2), none, none]) (sex (bmut (eov (bcall (t3 := [some (eScr script), some (eI wide), some (eQ boxes), some (eI most), some ((eL true (eT3 (eL false eQ) eQ eI)) s.1), some ((eL true eQ) s.2.1), some (eI s.2.2.1), some (eI s.2.2.2), some (eI x), some ((eL true eI) purse_here4), some (eI r2), none, none]) (eor rfl (eov (b_pu rfl (.inl (fzI _))) (eov (b_pu rfl (.inl (fzQ _))) eo0))) rfl (ok_set_ j true purse_here wide boxes (r7, purse_here4) h30) rfl) eo0) ⟨_, rfl, rfl⟩ rfl rfl (m_app (e := eQ) (xs := s.2.1) (x := r7) h31))) ?_
          obtain ⟨left1, h32, h⟩ := bd h
          refine k_nx (t' := [some (eScr script), some (eI wide), some (eQ boxes), some (eI most), some ((eL true (eT3 (eL false eQ) eQ eI)) s.1), some ((eL true eQ) rows_here2), some (eI s.2.2.1), some (eI left1), some (eI x), some ((eL true eI) purse_here4), some (eI r2), none, none]) (sset (blift (e := eI) h32 (b_pu rfl (.inr rfl))) rfl rfl) ?_
          have e := Option.some.inj h; subst e
          exact k_nil rfl
        · rw [if_neg (nt h29)] at h33
          have h := h33
          have e := Option.some.inj h; subst e
          exact k_nil rfl
        have e := Option.some.inj h; subst e
        exact k_nil rfl
      have e := Option.some.inj h; subst e
      exact k_nil rfl
    refine k_fg (t' := [some (eScr script), some (eI wide), some (eQ boxes), some (eI most), some ((eL true (eT3 (eL false eQ) eQ eI)) s4.1), some ((eL true eQ) s4.2.1), some (eI s4.2.2.1), some (eI s4.2.2.2.1), none, none, none, none, none]) rfl ?_
    have e := Option.some.inj h; subst e
    exact k_nil rfl
  obtain ⟨s8, h39, h⟩ := bd h
  refine k_wh (fun (s7 : ((List ((List (Q) × Q × Int))) × List (Q))) => [some (eScr script), some (eI wide), some (eQ boxes), some (eI most), some ((eL true (eT3 (eL false eQ) eQ eI)) s7.1), some ((eL true eQ) s7.2), some (eI s5.2.2.1), some (eI s5.2.2.2), none, none, none, none, none]) h39 rfl ?_ ?_ ?_
  · intro s7 b h
    obtain ⟨c2, h37, h⟩ := bd h
    have e := Option.some.inj h; subst e
    exact b_pu (a2 rfl rfl (g_ne h37)) (.inr rfl)
  · intro s7 s9 h
    obtain ⟨⟨r8, opened3⟩, h38, h⟩ := bd h
    dsimp only at h
    refine k_nx (t' := [some (eScr script), some (eI wide), some (eQ boxes), some (eI most), some ((eL true (eT3 (eL false eQ) eQ eI)) opened3), some ((eL true eQ) r8), some (eI s5.2.2.1), some (eI s5.2.2.2), none, none, none, none, none]) (sset (bcall (t3 := [some (eScr script), some (eI wide), some (eQ boxes), some (eI most), some ((eL true (eT3 (eL false eQ) eQ eI)) opened3), some ((eL true eQ) s7.2), some (eI s5.2.2.1), some (eI s5.2.2.2), none, none, none, none, none]) (eor rfl (eor rfl eo0)) rfl (ok_shut (j + 3) true true true s7.1 s7.2 (r8, opened3) h38) rfl) rfl rfl) ?_
    have e := Option.some.inj h; subst e
    exact k_nil rfl
  have e := Option.some.inj h; subst e
  exact k_rt (sret (b_pu (a1 rfl (t_tupQ (o := true) (xs := s8.2))) (.inr rfl))) rfl
theorem le_rows {L : Nat} (hL : 5 ≤ L)  (script : List Int) (wide : Int) (boxes : Q) (most : Int) (r : Q) (h : f_rows script wide boxes most = some r) : callN (tabOf ds) fu (L) ("_law_rows", none) [(false, eScr script), (false, eI wide), (false, eQ boxes), (false, eI most)] = some (.ok (eQ (r)) [none, none, none, none]) := by
  obtain ⟨j, rfl⟩ := Nat.exists_eq_add_of_le' hL
  exact ok_rows j  script wide boxes most r h
theorem ok_program (j : Nat)  (script : List Int) (r : (Int × Q × Q)) (h : f_program script = some r) : callN (tabOf ds) fu (j + 6) ("_law_program", none) [(false, eScr script)] = some (.ok ((eT3 eI eQ eQ) (r)) [none]) := by
  refine k_def (df := d__law_program) rfl rfl (by rfl) (t0 := [some (eScr script), none, none, none, none]) rfl ?_
  unfold f_program at h
  obtain ⟨r, h1, h⟩ := bd h
  refine k_nx (t' := [some (eScr script), some ((eL true eI) r), none, none, none]) (sset (bcall (t3 := [some (eScr script), none, none, none, none]) (eov (b_pu rfl (.inl (fzScr _))) (eov (b_pu rfl (.inr rfl)) eo0)) rfl (ok_purse (j + 4)  script 0 r h1) rfl) rfl rfl) ?_
  obtain ⟨⟨r1, purse_here⟩, h2, h⟩ := bd h
  dsimp only at h
  obtain ⟨wide, h3, h⟩ := bd h
  refine k_nx (t' := [some (eScr script), some ((eL true eI) purse_here), some (eI wide), none, none]) (sset (blift (e := eI) h3 (bq (eov (b_pu rfl (.inr rfl)) (eov (bcall (t3 := [some (eScr script), some ((eL true eI) purse_here), none, none, none]) (eor rfl (eov (b_pu rfl (.inr rfl)) eo0)) rfl (ok_next (j + 4) true r 16 (r1, purse_here) h2) rfl) eo0)) rfl rfl)) rfl rfl) ?_
  obtain ⟨r2, h4, h⟩ := bd h
  obtain ⟨⟨r3, z⟩, h5, h⟩ := bd h
  dsimp only at h
  refine k_nx (t' := [some (eScr script), some ((eL true eI) purse_here), some (eI wide), some (eQ r3), none]) (sset (bcall (t3 := [some (eScr script), some ((eL true eI) purse_here), some (eI wide), none, none]) (eov (bcall (t3 := [some (eScr script), some ((eL true eI) purse_here), some (eI wide), none, none]) (eov (b_pu rfl (.inl (fzScr _))) (eov (b_pu rfl (.inr rfl)) eo0)) rfl (ok_purse (j + 4)  script 1 r2 h4) rfl) eo0) rfl (ok_names (j + 3) false r2 (r3, z) h5) rfl) rfl rfl) ?_
  obtain ⟨⟨r4, purse_here1⟩, h6, h⟩ := bd h
  dsimp only at h
  obtain ⟨many, h7, h⟩ := bd h
  refine k_nx (t' := [some (eScr script), some ((eL true eI) purse_here1), some (eI wide), some (eQ r3), some (eI many)]) (sset (blift (e := eI) h7 (bq (eov (b_pu (a1 (aslc rfl rfl rfl (rfl)) (l_L (o := true) (e := eI) (xs := (cutL script (some 6) (some 57))))) (.inr rfl)) (eov (bq (eov (b_pu rfl (.inr rfl)) (eov (bcall (t3 := [some (eScr script), some ((eL true eI) purse_here1), some (eI wide), some (eQ r3), none]) (eor rfl (eov (b_pu rfl (.inr rfl)) eo0)) rfl (ok_next (j + 4) true purse_here 6 (r4, purse_here1) h6) rfl) eo0)) rfl rfl) eo0)) rfl rfl)) rfl rfl) ?_
  obtain ⟨⟨r5, purse_here2⟩, h8, h⟩ := bd h
  dsimp only at h
  obtain ⟨s, h11, h⟩ := bd h
  refine k_if (x := (decide (r5 = 1))) (t1 := [some (eScr script), some ((eL true eI) purse_here2), some (eI wide), some (eQ r3), some (eI many)]) (t2 := [some (eScr script), some ((eL true eI) s.1), some (eI wide), some (eQ r3), some (eI s.2)]) (bq (eov (bcall (t3 := [some (eScr script), some ((eL true eI) purse_here2), some (eI wide), some (eQ r3), some (eI many)]) (eor rfl (eov (b_pu rfl (.inr rfl)) eo0)) rfl (ok_next (j + 4) true purse_here1 8 (r5, purse_here2) h8) rfl) (eov (b_pu rfl (.inr rfl)) eo0)) rfl (g_eqI _ _)) (fun h9 => ?_) (fun h9 => ?_) ?_
  · rw [if_pos h9] at h11
    have h := h11
    obtain ⟨⟨r6, purse_here3⟩, h10, h⟩ := bd h
    dsimp only at h
    refine k_nx (t' := [some (eScr script), some ((eL true eI) purse_here3), some (eI wide), some (eQ r3), some (eI r6)]) (sset (bcall (t3 := [some (eScr script), some ((eL true eI) purse_here3), some (eI wide), some (eQ r3), some (eI many)]) (eor rfl (eov (b_pu rfl (.inr rfl)) eo0)) rfl (ok_next (j + 4) true purse_here2 2 (r6, purse_here3) h10) rfl) rfl rfl) ?_
    have e := Option.some.inj h; subst e
    exact k_nil rfl
  · rw [if_neg (nt h9)] at h11
    have h := h11
    have e := Option.some.inj h; subst e
    exact k_nil rfl
  obtain ⟨r7, h12, h⟩ := bd h
  have e := Option.some.inj h; subst e
  exact k_rt (sret (btup (eov (b_pu rfl (.inl (fzI _))) (eov (b_pu rfl (.inl (fzQ _))) (eov (bcall (t3 := [some (eScr script), some ((eL true eI) s.1), some (eI wide), some (eQ r3), some (eI s.2)]) (eov (b_pu rfl (.inl (fzScr _))) (eov (b_pu rfl (.inl (fzI _))) (eov (b_pu rfl (.inl (fzQ _))) (eov (b_pu rfl (.inl (fzI _))) eo0)))) rfl (ok_rows j  script wide r3 s.2 r7 h12) rfl) eo0))) rfl rfl)) rfl
theorem le_program {L : Nat} (hL : 6 ≤ L)  (script : List Int) (r : (Int × Q × Q)) (h : f_program script = some r) : callN (tabOf ds) fu (L) ("_law_program", none) [(false, eScr script)] = some (.ok ((eT3 eI eQ eQ) (r)) [none]) := by
  obtain ⟨j, rfl⟩ := Nat.exists_eq_add_of_le' hL
  exact ok_program j  script r h
theorem rec_alike (j : Nat) : ∀ n_ : Nat, (∀  (one : Q) (other_ : Q) (r : Bool), f_alike n_ one other_ = some r → callN (tabOf ds) fu (j + 0 + n_) ("_law_alike", none) [(false, eQ one), (false, eQ other_)] = some (.ok (eB (r)) [none, none]))
  | 0 => by
    refine ?_ <;> (intros; rename_i h; first | (rw [f_alike] at h; cases h))
  | n_ + 1 => by
    have ih := rec_alike j n_
    have ih_alike := ih
    · intro one other_ r h
      refine k_def (k := j + 0 + n_) (df := d__law_alike) rfl rfl (by rfl) (t0 := [some (eQ one), some (eQ other_), none, none]) rfl ?_
      rw [f_alike] at h
      obtain ⟨c, h1, h⟩ := bd h
      obtain ⟨c2, h3, h⟩ := bd h
      by_cases h4 : c2 = true
      · rw [if_pos h4] at h
        refine k_ifT (x := c2) (t1 := [some (eQ one), some (eQ other_), none, none]) (b_pu (aor (orp (a2 rfl rfl (g_isiQ h1)) (fun y h => by obtain ⟨c1, h2, h⟩ := bd h; have e := Option.some.inj h; subst e; exact or1 (a2 rfl rfl (g_isiQ h2))) h3)) (.inr rfl)) h4 ?_
        obtain ⟨c3, h5, h⟩ := bd h
        obtain ⟨c6, h10, h⟩ := bd h
        by_cases h11 : c6 = true
        · rw [if_pos h11] at h
          refine k_ifT (x := c6) (t1 := [some (eQ one), some (eQ other_), none, none]) (b_pu (aor (orp (anot (a2 rfl rfl (g_isiQ h5))) (fun y h => by obtain ⟨c4, h6, h⟩ := bd h; obtain ⟨c5, h9, h⟩ := bd h; have e := Option.some.inj h; subst e; exact orp (anot (a2 rfl rfl (g_isiQ h6))) (fun y h => by obtain ⟨n, h7, h⟩ := bd h; obtain ⟨n1, h8, h⟩ := bd h; have e := Option.some.inj h; subst e; exact or1 (a2 (a1 rfl (l_Q h7)) (a1 rfl (l_Q h8)) (g_neI _ _))) h9) h10)) (.inr rfl)) h11 ?_
          have e := Option.some.inj h; subst e
          exact k_rt (sret (b_pu rfl (.inr rfl))) rfl
        · rw [if_neg h11] at h
          refine k_ifF (x := c6) (t1 := [some (eQ one), some (eQ other_), none, none]) (b_pu (aor (orp (anot (a2 rfl rfl (g_isiQ h5))) (fun y h => by obtain ⟨c4, h6, h⟩ := bd h; obtain ⟨c5, h9, h⟩ := bd h; have e := Option.some.inj h; subst e; exact orp (anot (a2 rfl rfl (g_isiQ h6))) (fun y h => by obtain ⟨n, h7, h⟩ := bd h; obtain ⟨n1, h8, h⟩ := bd h; have e := Option.some.inj h; subst e; exact or1 (a2 (a1 rfl (l_Q h7)) (a1 rfl (l_Q h8)) (g_neI _ _))) h9) h10)) (.inr rfl)) (Bool.eq_false_iff.mpr h11) ?_
          obtain ⟨l, h12, h⟩ := bd h
          obtain ⟨l1, h14, h⟩ := bd h
          have e := Option.some.inj h; subst e
          exact k_rt (sret (bq (eov (blcM (own := [(("_law_mine" : Str), 2), (("_law_yours" : Str), 3)]) (e := (eT2 eQ eQ)) (e' := eB) h14 (eov (b_pu rfl (.inl (fzQ _))) (eov (b_pu rfl (.inl (fzQ _))) eo0)) rfl rfl (w_zipQ0 h12) rfl (fun x y h => by obtain ⟨r, h13, h⟩ := bd h; have e := Option.some.inj h; subst e; exact ⟨[some (eQ one), some (eQ other_), some (eQ x.1), some (eQ x.2)], _, rfl, bcall (t3 := [some (eQ one), some (eQ other_), some (eQ x.1), some (eQ x.2)]) (eov (b_pu rfl (.inl (fzQ _))) (eov (b_pu rfl (.inl (fzQ _))) eo0)) rfl (ih_alike  x.1 x.2 r h13) rfl, rfl⟩)) eo0) rfl (t_all (o := true) (ns := l1)))) rfl
      · rw [if_neg h4] at h
        refine k_ifF (x := c2) (t1 := [some (eQ one), some (eQ other_), none, none]) (b_pu (aor (orp (a2 rfl rfl (g_isiQ h1)) (fun y h => by obtain ⟨c1, h2, h⟩ := bd h; have e := Option.some.inj h; subst e; exact or1 (a2 rfl rfl (g_isiQ h2))) h3)) (.inr rfl)) (Bool.eq_false_iff.mpr h4) ?_
        obtain ⟨c7, h15, h⟩ := bd h
        obtain ⟨c13, h21, h⟩ := bd h
        by_cases h22 : c13 = true
        · rw [if_pos h22] at h
          refine k_ifT (x := c13) (t1 := [some (eQ one), some (eQ other_), none, none]) (b_pu (aor (orp (a2 rfl rfl (g_isiQ h15)) (fun y h => by obtain ⟨c8, h16, h⟩ := bd h; obtain ⟨c12, h20, h⟩ := bd h; have e := Option.some.inj h; subst e; exact orp (a2 rfl rfl (g_isiQ h16)) (fun y h => by obtain ⟨c9, h17, h⟩ := bd h; obtain ⟨c10, h18, h⟩ := bd h; obtain ⟨c11, h19, h⟩ := bd h; have e := Option.some.inj h; subst e; exact or1 (a2 (a2 rfl rfl (g_isiQ h17)) (a2 rfl rfl (g_isiQ h18)) (g_ne h19))) h20) h21)) (.inr rfl)) h22 ?_
          have e := Option.some.inj h; subst e
          exact k_rt (sret (b_pu rfl (.inr rfl))) rfl
        · rw [if_neg h22] at h
          refine k_ifF (x := c13) (t1 := [some (eQ one), some (eQ other_), none, none]) (b_pu (aor (orp (a2 rfl rfl (g_isiQ h15)) (fun y h => by obtain ⟨c8, h16, h⟩ := bd h; obtain ⟨c12, h20, h⟩ := bd h; have e := Option.some.inj h; subst e; exact orp (a2 rfl rfl (g_isiQ h16)) (fun y h => by obtain ⟨c9, h17, h⟩ := bd h; obtain ⟨c10, h18, h⟩ := bd h; obtain ⟨c11, h19, h⟩ := bd h; have e := Option.some.inj h; subst e; exact or1 (a2 (a2 rfl rfl (g_isiQ h17)) (a2 rfl rfl (g_isiQ h18)) (g_ne h19))) h20) h21)) (.inr rfl)) (Bool.eq_false_iff.mpr h22) ?_
          obtain ⟨c14, h23, h⟩ := bd h
          have e := Option.some.inj h; subst e
          exact k_rt (sret (b_pu (a2 rfl rfl (g_eq h23)) (.inr rfl))) rfl
theorem ok_alike (j : Nat)  (one : Q) (other_ : Q) (r : Bool) (h : f_alike 16 one other_ = some r) : callN (tabOf ds) fu (j + 16) ("_law_alike", none) [(false, eQ one), (false, eQ other_)] = some (.ok (eB (r)) [none, none]) := by
  have z := (rec_alike j 16)
  exact z  one other_ r h
theorem le_alike {L : Nat} (hL : 16 ≤ L)  (one : Q) (other_ : Q) (r : Bool) (h : f_alike 16 one other_ = some r) : callN (tabOf ds) fu (L) ("_law_alike", none) [(false, eQ one), (false, eQ other_)] = some (.ok (eB (r)) [none, none]) := by
  obtain ⟨j, rfl⟩ := Nat.exists_eq_add_of_le' hL
  exact ok_alike j  one other_ r h

theorem rec_out (j : Nat) : ∀ n_ : Nat, (∀  (rows_here : Q) (r : Q), f_out n_ rows_here = some r → callN (tabOf ds) fu (j + 0 + n_) ("_law_out", none) [(false, eQ rows_here)] = some (.ok (eQ (r)) [none]))
  | 0 => by
    refine ?_ <;> (intros; rename_i h; first | (rw [f_out] at h; cases h))
  | n_ + 1 => by
    have ih := rec_out j n_
    have ih_out := ih
    · intro rows_here r h
      refine k_def (k := j + 0 + n_) (df := d__law_out) rfl rfl (by rfl) (t0 := [some (eQ rows_here), none, none]) rfl ?_
      rw [f_out] at h
      obtain ⟨found, h1, h⟩ := bd h
      refine k_nx (t' := [some (eQ rows_here), some (eQ found), none]) (sset (blift (e := eQ) h1 (b_pu rfl (.inr rfl))) rfl rfl) ?_
      obtain ⟨l, h2, h⟩ := bd h
      obtain ⟨found3, h24, h⟩ := bd h
      refine k_for (e := eQ) (fun (s : Q) => [some (eQ rows_here), some (eQ s), none]) h24 (eov (b_pu rfl (.inl (fzQ _))) eo0) rfl (w_X h2) (fun _ => rfl) ?_ ?_
      · intro s x s1 h
        refine ⟨_, rfl, ?_⟩
        obtain ⟨x1, h3, h⟩ := bd h
        obtain ⟨c, h4, h⟩ := bd h
        obtain ⟨found2, h23, h⟩ := bd h
        refine k_if (x := c) (t1 := [some (eQ rows_here), some (eQ s), some (eQ x)]) (t2 := [some (eQ rows_here), some (eQ found2), some (eQ x)]) (b_pu (a2 (aix rfl rfl (i_Q h3)) rfl (g_eq h4)) (.inr rfl)) (fun h5 => ?_) (fun h5 => ?_) ?_
        · rw [if_pos h5] at h23
          have h := h23
          obtain ⟨x2, h6, h⟩ := bd h
          obtain ⟨r, h7, h⟩ := bd h
          obtain ⟨x3, h8, h⟩ := bd h
          obtain ⟨i, h9, h⟩ := bd h
          obtain ⟨q, h10, h⟩ := bd h
          obtain ⟨q1, h11, h⟩ := bd h
          refine k_nx (t' := [some (eQ rows_here), some (eQ q1), some (eQ x)]) (sset (bq (eov (b_pu rfl (.inl (fzQ _))) (eov (bq (eov (bcall (t3 := [some (eQ rows_here), some (eQ s), some (eQ x)]) (eov (b_pu (aix rfl rfl (i_Q h6)) (.inl (fzQ _))) eo0) rfl (ih_out  x2 r h7) rfl) (eov (beqv (b_pu (aix rfl rfl (i_Q h8)) (.inl (fzQ _))) (c_I h9)) eo0)) rfl (g_repQ h10)) eo0)) rfl (g_catQ h11)) rfl rfl) ?_
          have e := Option.some.inj h; subst e
          exact k_nil rfl
        · rw [if_neg (nt h5)] at h23
          have h := h23
          obtain ⟨x4, h12, h⟩ := bd h
          obtain ⟨c1, h13, h⟩ := bd h
          obtain ⟨found1, h22, h⟩ := bd h
          refine k_if (x := c1) (t1 := [some (eQ rows_here), some (eQ s), some (eQ x)]) (t2 := [some (eQ rows_here), some (eQ found1), some (eQ x)]) (b_pu (a2 (aix rfl rfl (i_Q h12)) rfl (g_eq h13)) (.inr rfl)) (fun h14 => ?_) (fun h14 => ?_) ?_
          · rw [if_pos h14] at h22
            have h := h22
            obtain ⟨x5, h15, h⟩ := bd h
            obtain ⟨x6, h16, h⟩ := bd h
            obtain ⟨r1, h17, h⟩ := bd h
            obtain ⟨x7, h18, h⟩ := bd h
            obtain ⟨r2, h19, h⟩ := bd h
            obtain ⟨q2, h20, h⟩ := bd h
            refine k_nx (t' := [some (eQ rows_here), some (eQ q2), some (eQ x)]) (sset (bq (eov (b_pu rfl (.inl (fzQ _))) (eov (btup (eov (btup (eov (b_pu rfl (.inr rfl)) (eov (b_pu (aix rfl rfl (i_Q h15)) (.inl (fzQ _))) (eov (bcall (t3 := [some (eQ rows_here), some (eQ s), some (eQ x)]) (eov (b_pu (aix rfl rfl (i_Q h16)) (.inl (fzQ _))) eo0) rfl (ih_out  x6 r1 h17) rfl) (eov (bcall (t3 := [some (eQ rows_here), some (eQ s), some (eQ x)]) (eov (b_pu (aix rfl rfl (i_Q h18)) (.inl (fzQ _))) eo0) rfl (ih_out  x7 r2 h19) rfl) eo0)))) rfl rfl) eo0) rfl rfl) eo0)) rfl (g_catQ h20)) rfl rfl) ?_
            have e := Option.some.inj h; subst e
            exact k_nil rfl
          · rw [if_neg (nt h14)] at h22
            have h := h22
            obtain ⟨q3, h21, h⟩ := bd h
            refine k_nx (t' := [some (eQ rows_here), some (eQ q3), some (eQ x)]) (sset (b_pu (a2 rfl (atup (as1 rfl as0) (is1 (fzQ x) rfl) rfl) (g_catQ h21)) (.inr rfl)) rfl rfl) ?_
            have e := Option.some.inj h; subst e
            exact k_nil rfl
          have e := Option.some.inj h; subst e
          exact k_nil rfl
        refine k_fg (t' := [some (eQ rows_here), some (eQ found2), none]) rfl ?_
        have e := Option.some.inj h; subst e
        exact k_nil rfl
      have e := Option.some.inj h; subst e
      exact k_rt (sret (b_pu rfl (.inl (fzQ _)))) rfl
theorem ok_out (j : Nat)  (rows_here : Q) (r : Q) (h : f_out 12 rows_here = some r) : callN (tabOf ds) fu (j + 12) ("_law_out", none) [(false, eQ rows_here)] = some (.ok (eQ (r)) [none]) := by
  have z := (rec_out j 12)
  exact z  rows_here r h
theorem le_out {L : Nat} (hL : 12 ≤ L)  (rows_here : Q) (r : Q) (h : f_out 12 rows_here = some r) : callN (tabOf ds) fu (L) ("_law_out", none) [(false, eQ rows_here)] = some (.ok (eQ (r)) [none]) := by
  obtain ⟨j, rfl⟩ := Nat.exists_eq_add_of_le' hL
  exact ok_out j  rows_here r h

theorem rec_count (j : Nat) : ∀ n_ : Nat, (∀  (rows_here : Q) (r : Int), f_count n_ rows_here = some r → callN (tabOf ds) fu (j + 0 + n_) ("_law_count", none) [(false, eQ rows_here)] = some (.ok (eI (r)) [none]))
  | 0 => by
    refine ?_ <;> (intros; rename_i h; first | (rw [f_count] at h; cases h))
  | n_ + 1 => by
    have ih := rec_count j n_
    have ih_count := ih
    · intro rows_here r h
      refine k_def (k := j + 0 + n_) (df := d__law_count) rfl rfl (by rfl) (t0 := [some (eQ rows_here), none]) rfl ?_
      rw [f_count] at h
      obtain ⟨n, h1, h⟩ := bd h
      obtain ⟨l, h2, h⟩ := bd h
      obtain ⟨l1, h9, h⟩ := bd h
      have e := Option.some.inj h; subst e
      exact k_rt (sret (bq (eov (b_pu (a1 rfl (l_Q h1)) (.inr rfl)) (eov (bq (eov (blcG (own := [(("_law_row" : Str), 1)]) (e := eQ) (e' := eI) h9 (eov (b_pu rfl (.inl (fzQ _))) eo0) rfl rfl (w_X h2) rfl (fun x o h => by obtain ⟨x1, h3, h⟩ := bd h; obtain ⟨c, h4, h⟩ := bd h; by_cases h10 : c = true; (rw [if_pos h10] at h; obtain ⟨x2, h5, h⟩ := bd h; obtain ⟨r, h6, h⟩ := bd h; obtain ⟨x3, h7, h⟩ := bd h; obtain ⟨r1, h8, h⟩ := bd h; have e := Option.some.inj h; subst e; exact ⟨_, one_t (t1 := [some (eQ rows_here), some (eQ x)]) rfl (beqv (b_pu (a2 (aix rfl rfl (i_Q h3)) rfl (g_eq h4)) (.inr rfl)) (congrArg D.bl h10)) (bq (eov (bcall (t3 := [some (eQ rows_here), some (eQ x)]) (eov (b_pu (aix rfl rfl (i_Q h5)) (.inl (fzQ _))) eo0) rfl (ih_count  x2 r h6) rfl) (eov (bcall (t3 := [some (eQ rows_here), some (eQ x)]) (eov (b_pu (aix rfl rfl (i_Q h7)) (.inl (fzQ _))) eo0) rfl (ih_count  x3 r1 h8) rfl) eo0)) rfl rfl), rfl⟩); (rw [if_neg h10] at h; have e := Option.some.inj h; subst e; exact ⟨_, one_f (t1 := [some (eQ rows_here), some (eQ x)]) rfl (beqv (b_pu (a2 (aix rfl rfl (i_Q h3)) rfl (g_eq h4)) (.inr rfl)) (congrArg D.bl (Bool.eq_false_iff.mpr h10))), rfl⟩))) eo0) rfl (t_sum (o := true) (ns := l1))) eo0)) rfl rfl)) rfl
theorem ok_count (j : Nat)  (rows_here : Q) (r : Int) (h : f_count 12 rows_here = some r) : callN (tabOf ds) fu (j + 12) ("_law_count", none) [(false, eQ rows_here)] = some (.ok (eI (r)) [none]) := by
  have z := (rec_count j 12)
  exact z  rows_here r h
theorem le_count {L : Nat} (hL : 12 ≤ L)  (rows_here : Q) (r : Int) (h : f_count 12 rows_here = some r) : callN (tabOf ds) fu (L) ("_law_count", none) [(false, eQ rows_here)] = some (.ok (eI (r)) [none]) := by
  obtain ⟨j, rfl⟩ := Nat.exists_eq_add_of_le' hL
  exact ok_count j  rows_here r h

theorem ok_law (j : Nat)  (script : List Int) (r : Bool) (h : f_law script = some r) : callN (tabOf ds) fu (j + 17) ("law", none) [(false, eScr script)] = some (.ok (eB (r)) [none]) := by
  refine k_def (df := d_law) rfl rfl (by rfl) (t0 := [some (eScr script), none, none, none, none, none, none, none, none]) rfl ?_
  unfold f_law at h
  obtain ⟨r, h1, h⟩ := bd h
  refine k_nx (t' := [some (eScr script), some ((eT3 eI eQ eQ) r), none, none, none, none, none, none, none]) (sset (bcall (t3 := [some (eScr script), none, none, none, none, none, none, none, none]) (eov (b_pu rfl (.inl (fzScr _))) eo0) rfl (ok_program (j + 10)  script r h1) rfl) rfl rfl) ?_
  obtain ⟨r1, h2, h⟩ := bd h
  refine k_nx (t' := [some (eScr script), some ((eT3 eI eQ eQ) r), some (eQ r1), none, none, none, none, none, none]) (sset (bcall (t3 := [some (eScr script), some ((eT3 eI eQ eQ) r), none, none, none, none, none, none, none]) (eov (b_pu (aix rfl rfl rfl) (.inl (fzQ _))) eo0) rfl (ok_out (j + 4)  r.2.2 r1 h2) rfl) rfl rfl) ?_
  obtain ⟨r2, h3, h⟩ := bd h
  refine k_nx (t' := [some (eScr script), some ((eT3 eI eQ eQ) r), some (eQ r1), some ((eL true eQ) r2), none, none, none, none, none]) (sset (bcall (t3 := [some (eScr script), some ((eT3 eI eQ eQ) r), some (eQ r1), none, none, none, none, none, none]) (eov (b_pu rfl (.inl ((fzT3 fzI fzQ fzQ) _))) eo0) rfl (ok_pieces (j + 3)  r r2 h3) rfl) rfl rfl) ?_
  obtain ⟨c, h5, h⟩ := bd h
  by_cases h6 : c = true
  · rw [if_pos h6] at h
    refine k_ifT (x := c) (t1 := [some (eScr script), some ((eT3 eI eQ eQ) r), some (eQ r1), some ((eL true eQ) r2), none, none, none, none, none]) (bor (bor2 (b_pu rfl (.inr rfl)) (fun y h => by obtain ⟨r3, h4, h⟩ := bd h; have e := Option.some.inj h; subst e; exact bor1 (bnot (bcall (t3 := [some (eScr script), some ((eT3 eI eQ eQ) r), some (eQ r1), some ((eL true eQ) r2), none, none, none, none, none]) (eov (b_pu (a1 rfl (t_tupQ (o := true) (xs := r2))) (.inr rfl)) (eov (b_pu rfl (.inl (fzQ _))) eo0)) rfl (ok_alike j  (Q.tup r2) r1 r3 h4) rfl))) h5)) h6 ?_
    have e := Option.some.inj h; subst e
    exact k_rt (sret (b_pu rfl (.inr rfl))) rfl
  · rw [if_neg h6] at h
    refine k_ifF (x := c) (t1 := [some (eScr script), some ((eT3 eI eQ eQ) r), some (eQ r1), some ((eL true eQ) r2), none, none, none, none, none]) (bor (bor2 (b_pu rfl (.inr rfl)) (fun y h => by obtain ⟨r3, h4, h⟩ := bd h; have e := Option.some.inj h; subst e; exact bor1 (bnot (bcall (t3 := [some (eScr script), some ((eT3 eI eQ eQ) r), some (eQ r1), some ((eL true eQ) r2), none, none, none, none, none]) (eov (b_pu (a1 rfl (t_tupQ (o := true) (xs := r2))) (.inr rfl)) (eov (b_pu rfl (.inl (fzQ _))) eo0)) rfl (ok_alike j  (Q.tup r2) r1 r3 h4) rfl))) h5)) (Bool.eq_false_iff.mpr h6) ?_
    obtain ⟨r4, h7, h⟩ := bd h
    refine k_nx (t' := [some (eScr script), some ((eT3 eI eQ eQ) r), some (eQ r1), some ((eL true eQ) r2), some (eI r4), none, none, none, none]) (sset (bcall (t3 := [some (eScr script), some ((eT3 eI eQ eQ) r), some (eQ r1), some ((eL true eQ) r2), none, none, none, none, none]) (eor rfl eo0) rfl (ok_weight (j + 2) true true r2 r4 h7) rfl) rfl rfl) ?_
    obtain ⟨c2, h10, h⟩ := bd h
    by_cases h11 : c2 = true
    · rw [if_pos h11] at h
      refine k_ifT (x := c2) (t1 := [some (eScr script), some ((eT3 eI eQ eQ) r), some (eQ r1), some ((eL true eQ) r2), some (eI r4), none, none, none, none]) (bor (bor2 (b_pu rfl (.inr rfl)) (fun y h => by obtain ⟨c1, h9, h⟩ := bd h; have e := Option.some.inj h; subst e; exact bor2 (b_pu rfl (.inr rfl)) (fun y h => by obtain ⟨r5, h8, h⟩ := bd h; have e := Option.some.inj h; subst e; exact bor1 (bq (eov (b_pu rfl (.inl (fzI _))) (eov (bcall (t3 := [some (eScr script), some ((eT3 eI eQ eQ) r), some (eQ r1), some ((eL true eQ) r2), some (eI r4), none, none, none, none]) (eov (b_pu rfl (.inl (fzQ _))) eo0) rfl (ok_count (j + 4)  r1 r5 h8) rfl) eo0)) rfl (g_neI _ _))) h9) h10)) h11 ?_
      have e := Option.some.inj h; subst e
      exact k_rt (sret (b_pu rfl (.inr rfl))) rfl
    · rw [if_neg h11] at h
      refine k_ifF (x := c2) (t1 := [some (eScr script), some ((eT3 eI eQ eQ) r), some (eQ r1), some ((eL true eQ) r2), some (eI r4), none, none, none, none]) (bor (bor2 (b_pu rfl (.inr rfl)) (fun y h => by obtain ⟨c1, h9, h⟩ := bd h; have e := Option.some.inj h; subst e; exact bor2 (b_pu rfl (.inr rfl)) (fun y h => by obtain ⟨r5, h8, h⟩ := bd h; have e := Option.some.inj h; subst e; exact bor1 (bq (eov (b_pu rfl (.inl (fzI _))) (eov (bcall (t3 := [some (eScr script), some ((eT3 eI eQ eQ) r), some (eQ r1), some ((eL true eQ) r2), some (eI r4), none, none, none, none]) (eov (b_pu rfl (.inl (fzQ _))) eo0) rfl (ok_count (j + 4)  r1 r5 h8) rfl) eo0)) rfl (g_neI _ _))) h9) h10)) (Bool.eq_false_iff.mpr h11) ?_
      obtain ⟨n, h12, h⟩ := bd h
      obtain ⟨r6, h13, h⟩ := bd h
      obtain ⟨w, h18, h⟩ := bd h
      refine k_forC (w := w) (e := eI) (qr := fun (v : Bool) z => fin [(false, eScr script)] z = .ok (eB (v)) [none]) (fun (s : Unit) => [some (eScr script), some ((eT3 eI eQ eQ) r), some (eQ r1), some ((eL true eQ) r2), some (eI r4), none, none, none, none]) h18 (eov (b_pu (a1 rfl (l_Q h12)) (.inr rfl)) eo0) rfl (w_rng1 h13) (fun _ => rfl) ?_ ?_ ?_
      · intro s x s2 h
        refine ⟨_, rfl, ?_⟩
        obtain ⟨r7, h14, h⟩ := bd h
        obtain ⟨t, h15, h⟩ := bd h
        obtain ⟨r8, h16, h⟩ := bd h
        by_cases h17 : (!(decide (r7 = r8))) = true
        · rw [if_pos h17] at h
          refine k_ifT (x := (!(decide (r7 = r8)))) (t1 := [some (eScr script), some ((eT3 eI eQ eQ) r), some (eQ r1), some ((eL true eQ) r2), some (eI r4), some (eI x), none, none, none]) (bq (eov (bcall (t3 := [some (eScr script), some ((eT3 eI eQ eQ) r), some (eQ r1), some ((eL true eQ) r2), some (eI r4), some (eI x), none, none, none]) (eov (b_pu (a2 rfl rfl (t_lo (slG_L (o := true) (e := eQ) (xs := r2) fzQ))) (.inr rfl)) eo0) rfl (ok_weight (j + 2) false true (cutL r2 (some x) none) r7 h14) rfl) (eov (bcall (t3 := [some (eScr script), some ((eT3 eI eQ eQ) r), some (eQ r1), some ((eL true eQ) r2), some (eI r4), some (eI x), none, none, none]) (eov (b_pu (a2 rfl rfl (t_lo (slG_Q h15))) (.inr rfl)) eo0) rfl (ok_count (j + 4)  t r8 h16) rfl) eo0)) rfl (g_neI _ _)) h17 ?_
          have e := Option.some.inj h; subst e
          exact k_rt (sret (b_pu rfl (.inr rfl))) ⟨fun _ e => (by cases e), rfl⟩
        · rw [if_neg h17] at h
          refine k_ifF (x := (!(decide (r7 = r8)))) (t1 := [some (eScr script), some ((eT3 eI eQ eQ) r), some (eQ r1), some ((eL true eQ) r2), some (eI r4), some (eI x), none, none, none]) (bq (eov (bcall (t3 := [some (eScr script), some ((eT3 eI eQ eQ) r), some (eQ r1), some ((eL true eQ) r2), some (eI r4), some (eI x), none, none, none]) (eov (b_pu (a2 rfl rfl (t_lo (slG_L (o := true) (e := eQ) (xs := r2) fzQ))) (.inr rfl)) eo0) rfl (ok_weight (j + 2) false true (cutL r2 (some x) none) r7 h14) rfl) (eov (bcall (t3 := [some (eScr script), some ((eT3 eI eQ eQ) r), some (eQ r1), some ((eL true eQ) r2), some (eI r4), some (eI x), none, none, none]) (eov (b_pu (a2 rfl rfl (t_lo (slG_Q h15))) (.inr rfl)) eo0) rfl (ok_count (j + 4)  t r8 h16) rfl) eo0)) rfl (g_neI _ _)) (Bool.eq_false_iff.mpr h17) ?_
          refine k_fg (t' := [some (eScr script), some ((eT3 eI eQ eQ) r), some (eQ r1), some ((eL true eQ) r2), some (eI r4), none, none, none, none]) rfl ?_
          have e := Option.some.inj h; subst e
          exact k_nil rfl
      rotate_left
      · intro v e z hn hz
        subst e
        have e := Option.some.inj h; subst e
        exact hz
      intro s1 e
      subst e
      dsimp only at h
      obtain ⟨found, h19, h⟩ := bd h
      refine k_nx (t' := [some (eScr script), some ((eT3 eI eQ eQ) r), some (eQ r1), some ((eL true eQ) found), some (eI r4), none, none, none, none]) (sex (bmut (eov (b_pu rfl (.inr rfl)) eo0) ⟨_, rfl, rfl⟩ rfl rfl (m_app (e := eQ) (xs := r2) (x := (Q.tup [(Q.str ("is" : Str)), (Q.str ("a" : Str)), (Q.int 0)])) h19))) ?_
      refine k_nx (t' := [some (eScr script), some ((eT3 eI eQ eQ) r), some (eQ r1), some ((eL true eQ) found.reverse), some (eI r4), none, none, none, none]) (sex (bmut eo0 ⟨_, rfl, rfl⟩ rfl rfl (m_rev (e := eQ) (xs := found) fzQ))) ?_
      obtain ⟨r9, h20, h⟩ := bd h
      refine k_nx (t' := [some (eScr script), some ((eT3 eI eQ eQ) r), some (eQ r1), some ((eL true eQ) found.reverse), some (eI r4), none, some ((eL true eI) r9), none, none]) (sset (bcall (t3 := [some (eScr script), some ((eT3 eI eQ eQ) r), some (eQ r1), some ((eL true eQ) found.reverse), some (eI r4), none, none, none, none]) (eov (b_pu rfl (.inl (fzScr _))) (eov (b_pu rfl (.inr rfl)) eo0)) rfl (ok_purse (j + 15)  script 2 r9 h20) rfl) rfl rfl) ?_
      obtain ⟨⟨r10, purse_here⟩, h21, h⟩ := bd h
      dsimp only at h
      obtain ⟨⟨r11, purse_here1⟩, h22, h⟩ := bd h
      dsimp only at h
      obtain ⟨two, h23, h⟩ := bd h
      refine k_nx (t' := [some (eScr script), some ((eT3 eI eQ eQ) r), some (eQ r1), some ((eL true eQ) found.reverse), some (eI r4), none, some ((eL true eI) purse_here1), some ((eT2 eQ eQ) two), none]) (sset (blift (e := (eT2 eQ eQ)) h23 (btup (eov (bcall (t3 := [some (eScr script), some ((eT3 eI eQ eQ) r), some (eQ r1), some ((eL true eQ) found.reverse), some (eI r4), none, some ((eL true eI) purse_here), none, none]) (eor rfl (eov (b_pu (aix rfl rfl rfl) (.inl (fzI _))) (eov (b_pu (aix rfl rfl rfl) (.inl (fzQ _))) eo0))) rfl (ok_set_ (j + 12) true r9 r.1 r.2.1 (r10, purse_here) h21) rfl) (eov (bcall (t3 := [some (eScr script), some ((eT3 eI eQ eQ) r), some (eQ r1), some ((eL true eQ) found.reverse), some (eI r4), none, some ((eL true eI) purse_here1), none, none]) (eor rfl (eov (b_pu (aix rfl rfl rfl) (.inl (fzI _))) (eov (b_pu (aix rfl rfl rfl) (.inl (fzQ _))) eo0))) rfl (ok_set_ (j + 12) true purse_here r.1 r.2.1 (r11, purse_here1) h22) rfl) eo0)) rfl rfl)) rfl rfl) ?_
      obtain ⟨r12, h24, h⟩ := bd h
      refine k_nx (t' := [some (eScr script), some ((eT3 eI eQ eQ) r), some (eQ r1), some ((eL true eQ) found.reverse), some (eI r4), none, some ((eL true eI) purse_here1), some ((eT2 eQ eQ) two), some ((eL true eQ) r12)]) (sset (bcall (t3 := [some (eScr script), some ((eT3 eI eQ eQ) r), some (eQ r1), some ((eL true eQ) found.reverse), some (eI r4), none, some ((eL true eI) purse_here1), some ((eT2 eQ eQ) two), none]) (eov (b_pu (atup (as1 (aix rfl rfl rfl) (as1 (aix rfl rfl rfl) (as1 (atup (as1 (atup (as1 rfl (as1 rfl (as1 (atup (as1 (atup (as1 rfl (as1 rfl (as1 rfl as0))) (is1 (fzS _) (is1 (fzI _) (is1 ((fzT2 fzQ fzQ) two) rfl))) rfl) as0) (is1 (fzQ (Q.tup [(Q.str ("times" : Str)), (Q.int 5), (Q.tup [two.1, two.2])])) rfl) rfl) as0))) (is1 (fzS _) (is1 (fzI _) (is1 ((fzT1 fzQ) (Q.tup [(Q.str ("times" : Str)), (Q.int 5), (Q.tup [two.1, two.2])])) rfl))) rfl) as0) (is1 (fzQ (Q.tup [(Q.str ("times" : Str)), (Q.int 20), (Q.tup [(Q.tup [(Q.str ("times" : Str)), (Q.int 5), (Q.tup [two.1, two.2])])])])) rfl) rfl) as0))) (is1 (fzI _) (is1 (fzQ r.2.1) (is1 ((fzT1 fzQ) (Q.tup [(Q.str ("times" : Str)), (Q.int 20), (Q.tup [(Q.tup [(Q.str ("times" : Str)), (Q.int 5), (Q.tup [two.1, two.2])])])])) rfl))) rfl) (.inr rfl)) eo0) rfl (ok_pieces (j + 3)  (r.1, r.2.1, (Q.tup [(Q.tup [(Q.str ("times" : Str)), (Q.int 20), (Q.tup [(Q.tup [(Q.str ("times" : Str)), (Q.int 5), (Q.tup [two.1, two.2])])])])])) r12 h24) rfl) rfl rfl) ?_
      obtain ⟨q, h25, h⟩ := bd h
      obtain ⟨c3, h26, h⟩ := bd h
      obtain ⟨c4, h28, h⟩ := bd h
      by_cases h29 : c4 = true
      · rw [if_pos h29] at h
        refine k_ifT (x := c4) (t1 := [some (eScr script), some ((eT3 eI eQ eQ) r), some (eQ r1), some ((eL true eQ) found.reverse), some (eI r4), none, some ((eL true eI) purse_here1), some ((eT2 eQ eQ) two), some ((eL true eQ) r12)]) (bor (bor2 (b_pu (a2 (a1 rfl (t_tupQ (o := true) (xs := r12))) (a2 rfl rfl (g_repQ h25)) (g_ne h26)) (.inr rfl)) (fun y h => by obtain ⟨r13, h27, h⟩ := bd h; have e := Option.some.inj h; subst e; exact bor1 (bq (eov (bcall (t3 := [some (eScr script), some ((eT3 eI eQ eQ) r), some (eQ r1), some ((eL true eQ) found.reverse), some (eI r4), none, some ((eL true eI) purse_here1), some ((eT2 eQ eQ) two), some ((eL true eQ) r12)]) (eor rfl eo0) rfl (ok_weight (j + 2) true true r12 r13 h27) rfl) (eov (b_pu rfl (.inr rfl)) eo0)) rfl (g_neI _ _))) h28)) h29 ?_
        have e := Option.some.inj h; subst e
        exact k_rt (sret (b_pu rfl (.inr rfl))) rfl
      · rw [if_neg h29] at h
        refine k_ifF (x := c4) (t1 := [some (eScr script), some ((eT3 eI eQ eQ) r), some (eQ r1), some ((eL true eQ) found.reverse), some (eI r4), none, some ((eL true eI) purse_here1), some ((eT2 eQ eQ) two), some ((eL true eQ) r12)]) (bor (bor2 (b_pu (a2 (a1 rfl (t_tupQ (o := true) (xs := r12))) (a2 rfl rfl (g_repQ h25)) (g_ne h26)) (.inr rfl)) (fun y h => by obtain ⟨r13, h27, h⟩ := bd h; have e := Option.some.inj h; subst e; exact bor1 (bq (eov (bcall (t3 := [some (eScr script), some ((eT3 eI eQ eQ) r), some (eQ r1), some ((eL true eQ) found.reverse), some (eI r4), none, some ((eL true eI) purse_here1), some ((eT2 eQ eQ) two), some ((eL true eQ) r12)]) (eor rfl eo0) rfl (ok_weight (j + 2) true true r12 r13 h27) rfl) (eov (b_pu rfl (.inr rfl)) eo0)) rfl (g_neI _ _))) h28)) (Bool.eq_false_iff.mpr h29) ?_
        obtain ⟨r14, h30, h⟩ := bd h
        obtain ⟨c5, h31, h⟩ := bd h
        obtain ⟨c6, h33, h⟩ := bd h
        have e := Option.some.inj h; subst e
        exact k_rt (sret (band (band2 (bq (eov (bq (eov (bcall (t3 := [some (eScr script), some ((eT3 eI eQ eQ) r), some (eQ r1), some ((eL true eQ) found.reverse), some (eI r4), none, some ((eL true eI) purse_here1), some ((eT2 eQ eQ) two), some ((eL true eQ) r12)]) (eov (b_pu rfl (.inl ((fzT3 fzI fzQ fzQ) _))) eo0) rfl (ok_pieces (j + 3)  r r14 h30) rfl) eo0) rfl (t_tupQ (o := true) (xs := r14))) (eov (b_pu rfl (.inl (fzQ _))) eo0)) rfl (g_eq h31)) (fun y h => by obtain ⟨r15, h32, h⟩ := bd h; have e := Option.some.inj h; subst e; exact band1 (bq (eov (bcall (t3 := [some (eScr script), some ((eT3 eI eQ eQ) r), some (eQ r1), some ((eL true eQ) found.reverse), some (eI r4), none, some ((eL true eI) purse_here1), some ((eT2 eQ eQ) two), some ((eL true eQ) r12)]) (eov (b_pu rfl (.inr rfl)) eo0) rfl (ok_weight (j + 2) false true ([] : List (Q)) r15 h32) rfl) (eov (b_pu rfl (.inr rfl)) eo0)) rfl (g_eqI _ _))) h33))) rfl
theorem le_law {L : Nat} (hL : 17 ≤ L)  (script : List Int) (r : Bool) (h : f_law script = some r) : callN (tabOf ds) fu (L) ("law", none) [(false, eScr script)] = some (.ok (eB (r)) [none]) := by
  obtain ⟨j, rfl⟩ := Nat.exists_eq_add_of_le' hL
  exact ok_law j  script r h
/-! ### a purse: a cell and a seed -/
def Pu (l : List Int) : Prop := ∃ c s : Int, l = [c, s] ∧ 0 ≤ c ∧ 0 ≤ s
theorem absI_nn (i : Int) : 0 ≤ absI i := by unfold absI; split <;> omega
theorem boI_small (b : Bool) : (boI b).natAbs < 2 ^ 64 := by cases b <;> decide
theorem boI_nn (b : Bool) : 0 ≤ boI b := by cases b <;> decide
theorem purse_ok {xs : List Int} {k : Int} (h0 : 0 ≤ k) (h1 : k < 1000) : Ok (f_purse xs k) Pu := by
  unfold f_purse
  rw [mulO_eq (.inr (by decide)), Option.bind_some, mulO_eq (.inl (by decide)), Option.bind_some, Option.bind_some]
  refine ok_bind (p := fun c : Int => 0 ≤ c) ?_ fun cell hc => ?_
  · refine ok_iff (fun hk => ?_) fun _ => ok_some ?_
    · have hk := of_decide_eq_true hk
      rw [ixO_at h0 hk, Option.bind_some]
      exact ok_some (absI_nn _)
    · have := absI_nn (cutL xs none (some 63)).sum
      omega
  rw [modO_eq (by decide), Option.bind_some]
  have b1 := Int.emod_nonneg cell (b := 2147483629) (by decide)
  have b2 := Int.emod_lt_of_pos cell (b := 2147483629) (by decide)
  rw [mulO_eq (.inl (by omega)), Option.bind_some, Option.bind_some]
  refine ok_bind (p := fun o => 0 ≤ o ∧ o < 2147483629) (ok_mod (by decide) fun a b => ⟨a, b⟩) fun o ho => ?_
  rw [divO_eq (by decide) (by decide), Option.bind_some, mulO_eq (.inl (by omega)), Option.bind_some]
  refine ok_bind (p := fun o => 0 ≤ o ∧ o < 2147483587) (ok_mod (by decide) fun a b => ⟨a, b⟩) fun q hq => ?_
  rw [powO_eq (by decide) (by decide) (by decide), Option.bind_some, mulO_eq (.inr (boI_small _)), Option.bind_some]
  exact ok_some ⟨_, q, rfl, Int.mul_nonneg hc (boI_nn _), hq.1⟩
theorem next_ok {l : List Int} {m : Int} (h : Pu l) (hm : 0 < m) (h2 : m < 2 ^ 64) : Ok (f_next l m) fun p => 0 ≤ p.1 ∧ p.1 < m ∧ Pu p.2 := by
  obtain ⟨c, s, rfl, hc, hs⟩ := h
  have i0 : ixO [c, s] 0 = some c := rfl
  have i1 : ixO [c, s] 1 = some s := rfl
  unfold f_next
  rw [i0, Option.bind_some]
  refine ok_iff (fun _ => ?_) fun _ => ?_
  · rw [Option.bind_some, modO_eq hm, Option.bind_some, Option.bind_some, divO_eq hm h2, Option.bind_some]
    have p0 : putO [c, s] 0 (c / m) = some [c / m, s] := rfl
    rw [p0, Option.bind_some]
    exact ok_some ⟨Int.emod_nonneg _ (by omega), Int.emod_lt_of_pos _ hm, _, _, rfl, Int.ediv_nonneg hc (by omega), hs⟩
  · rw [i1, Option.bind_some, mulO_eq (.inr (by decide)), Option.bind_some, modO_eq (by decide), Option.bind_some]
    have q1 := Int.emod_nonneg (s * 69621 + 104729) (b := 2147483587) (by decide)
    generalize (s * 69621 + 104729) % 2147483587 = t at q1
    have p1 : putO [c, s] 1 t = some [c, t] := rfl
    have j1 : ixO [c, t] 1 = some t := rfl
    rw [p1, Option.bind_some, j1, Option.bind_some, Option.bind_some, modO_eq (by decide), Option.bind_some]
    have q2 := Int.emod_nonneg t (b := 16807) (by decide)
    have q3 := Int.emod_lt_of_pos t (b := 16807) (by decide)
    rw [mulO_eq (.inr (by omega)), Option.bind_some, modO_eq (by decide), Option.bind_some, modO_eq hm, Option.bind_some]
    exact ok_some ⟨Int.emod_nonneg _ (by omega), Int.emod_lt_of_pos _ hm, _, _, rfl, hc, q1⟩
theorem nx {l : List Int} {m : Int} {β : Type} {f : Int × List Int → Option β} {p : β → Prop} (h : Pu l) (hm : 0 < m) (h2 : m < 2 ^ 64) (k : ∀ r l', 0 ≤ r → r < m → Pu l' → Ok (f (r, l')) p) : Ok (Option.bind (f_next l m) f) p :=
  ok_bind (next_ok h hm h2) fun q hq => k q.1 q.2 hq.1 hq.2.1 hq.2.2
/-! ### rows of a program -/
theorem eqW' {a b : Str} (ha : PyData.strOk a = true) (hb : PyData.strOk b = true) : eqD (eQ (Q.str a)) (eS b) = some (decide (a = b)) := by
  have h := eqQ_gd (Q.gd_of (n := 60) (q := .str a) ha (by decide)) (Q.gd_of (n := 60) (q := .str b) hb (by decide))
  have e : decide (Q.str a = Q.str b) = decide (a = b) := by rw [decide_eq_decide]; exact ⟨fun h => by cases h; rfl, fun h => by rw [h]⟩
  rw [e] at h
  exact h
theorem sk_is : PyData.strOk ("is" : Str) = true := by decide +kernel
theorem sk_op : PyData.strOk ("op" : Str) = true := by decide +kernel
theorem sk_cho : PyData.strOk ("choose" : Str) = true := by decide +kernel
theorem sk_tim : PyData.strOk ("times" : Str) = true := by decide +kernel
inductive At where
  | num (n : Nat) | box (b : Str)
def At.q : At → Q
  | .num n => .int (n : Int)
  | .box b => .str b
inductive Rw where
  | is (x : Str) (a : At) | op (x s : Str) (a b : At)
  | cho (a : At) (xs ys : List Rw) | tim (k : Nat) (xs : List Rw)
mutual
def Rw.q : Rw → Q
  | .is x a => .tup [.str "is", .str x, a.q]
  | .op x s a b => .tup [.str "op", .str x, .str s, a.q, b.q]
  | .cho a xs ys => .tup [.str "choose", a.q, .tup (qRs xs), .tup (qRs ys)]
  | .tim k xs => .tup [.str "times", .int (k : Int), .tup (qRs xs)]
def qRs : List Rw → List Q
  | [] => []
  | r :: rs => r.q :: qRs rs
end
theorem qRs_map : ∀ rs : List Rw, qRs rs = rs.map Rw.q
  | [] => rfl
  | r :: rs => by rw [qRs, qRs_map rs, List.map_cons]
theorem qRs_app (a b : List Rw) : qRs (a ++ b) = qRs a ++ qRs b := by rw [qRs_map, qRs_map, qRs_map, List.map_append]
theorem qRs_len (a : List Rw) : (qRs a).length = a.length := by rw [qRs_map, List.length_map]
mutual
def Rw.dep : Rw → Nat
  | .is _ _ => 0
  | .op _ _ _ _ => 0
  | .cho _ xs ys => max (depRs xs) (depRs ys) + 1
  | .tim _ xs => depRs xs + 1
def depRs : List Rw → Nat
  | [] => 0
  | r :: rs => max r.dep (depRs rs)
end
theorem dep_mem : ∀ {rs : List Rw} {r : Rw}, r ∈ rs → r.dep ≤ depRs rs
  | x :: rs, r, h => by
    rw [depRs]
    rcases List.mem_cons.mp h with rfl | h
    · exact Nat.le_max_left _ _
    · exact Nat.le_trans (dep_mem h) (Nat.le_max_right _ _)
theorem dep_le {n : Nat} : ∀ {rs : List Rw}, (∀ r ∈ rs, r.dep ≤ n) → depRs rs ≤ n
  | [], _ => Nat.zero_le _
  | x :: rs, h => by
    rw [depRs]
    exact Nat.max_le.mpr ⟨h x List.mem_cons_self, dep_le fun r hr => h r (List.mem_cons_of_mem _ hr)⟩
theorem dep_app {n : Nat} {a b : List Rw} (ha : depRs a ≤ n) (hb : depRs b ≤ n) : depRs (a ++ b) ≤ n := dep_le fun r hr => by
  rcases List.mem_append.mp hr with h | h
  · exact Nat.le_trans (dep_mem h) ha
  · exact Nat.le_trans (dep_mem h) hb
/-- names, signs, numbers -/
def At.ok (B : Str → Prop) (M : Nat) : At → Prop
  | .num n => n < M
  | .box b => B b
def signs : List Str := ["+", "-", "&", "|", "^", "<", "="]
mutual
def Rw.ok (B : Str → Prop) (M : Nat) : Rw → Prop
  | .is x a => B x ∧ a.ok B M
  | .op x s a b => B x ∧ s ∈ signs ∧ a.ok B M ∧ b.ok B M
  | .cho a xs ys => a.ok B M ∧ okRs B M xs ∧ okRs B M ys
  | .tim k xs => k ≤ 20 ∧ okRs B M xs
def okRs (B : Str → Prop) (M : Nat) : List Rw → Prop
  | [] => True
  | r :: rs => r.ok B M ∧ okRs B M rs
end
theorem ok_mem {B : Str → Prop} {M : Nat} : ∀ {rs : List Rw}, okRs B M rs ↔ ∀ r ∈ rs, r.ok B M
  | [] => ⟨fun _ r hr => by simp at hr, fun _ => trivial⟩
  | x :: rs => by
    rw [okRs, ok_mem (rs := rs)]
    simp
theorem ok_app {B : Str → Prop} {M : Nat} {a b : List Rw} (ha : okRs B M a) (hb : okRs B M b) : okRs B M (a ++ b) := ok_mem.mpr fun r hr => by
  rcases List.mem_append.mp hr with h | h
  · exact ok_mem.mp ha r h
  · exact ok_mem.mp hb r h
/-! how many rows, rounds written out -/
mutual
def Rw.w : Rw → Nat
  | .is _ _ => 1
  | .op _ _ _ _ => 1
  | .cho _ xs ys => 1 + wRs xs + wRs ys
  | .tim k xs => k * wRs xs
def wRs : List Rw → Nat
  | [] => 0
  | r :: rs => r.w + wRs rs
end
theorem w_app : ∀ a b : List Rw, wRs (a ++ b) = wRs a + wRs b
  | [], b => by rw [List.nil_append, wRs, Nat.zero_add]
  | r :: a, b => by rw [List.cons_append, wRs, wRs, w_app a b, Nat.add_assoc]
/-! how many rows there are, inner ones too -/
mutual
def Rw.n : Rw → Nat
  | .is _ _ => 1
  | .op _ _ _ _ => 1
  | .cho _ xs ys => 1 + nRs xs + nRs ys
  | .tim _ xs => 1 + nRs xs
def nRs : List Rw → Nat
  | [] => 0
  | r :: rs => r.n + nRs rs
end
theorem n_app : ∀ a b : List Rw, nRs (a ++ b) = nRs a + nRs b
  | [], b => by rw [List.nil_append, nRs, Nat.zero_add]
  | r :: a, b => by rw [List.cons_append, nRs, nRs, n_app a b, Nat.add_assoc]
def Rw.word : Rw → Str
  | .is _ _ => "is"
  | .op _ _ _ _ => "op"
  | .cho _ _ _ => "choose"
  | .tim _ _ => "times"
theorem word_ok (r : Rw) : PyData.strOk r.word = true := by
  cases r with
  | is _ _ => exact sk_is
  | op _ _ _ _ => exact sk_op
  | cho _ _ _ => exact sk_cho
  | tim _ _ => exact sk_tim
def Rw.isCho : Rw → Bool
  | .cho _ _ _ => true
  | _ => false
def Rw.isTim : Rw → Bool
  | .tim _ _ => true
  | _ => false
def Rw.isIs : Rw → Bool
  | .is _ _ => true
  | _ => false
def Rw.isOp : Rw → Bool
  | .op _ _ _ _ => true
  | _ => false
theorem word_cho (r : Rw) : decide (r.word = "choose") = r.isCho := by
  cases r with
  | is _ _ => exact (by decide +kernel : decide (("is" : Str) = "choose") = false)
  | op _ _ _ _ => exact (by decide +kernel : decide (("op" : Str) = "choose") = false)
  | cho _ _ _ => exact (by decide +kernel : decide (("choose" : Str) = "choose") = true)
  | tim _ _ => exact (by decide +kernel : decide (("times" : Str) = "choose") = false)
theorem word_tim (r : Rw) : decide (r.word = "times") = r.isTim := by
  cases r with
  | is _ _ => exact (by decide +kernel : decide (("is" : Str) = "times") = false)
  | op _ _ _ _ => exact (by decide +kernel : decide (("op" : Str) = "times") = false)
  | cho _ _ _ => exact (by decide +kernel : decide (("choose" : Str) = "times") = false)
  | tim _ _ => exact (by decide +kernel : decide (("times" : Str) = "times") = true)
theorem word_is (r : Rw) : decide (r.word = "is") = r.isIs := by
  cases r with
  | is _ _ => exact (by decide +kernel : decide (("is" : Str) = "is") = true)
  | op _ _ _ _ => exact (by decide +kernel : decide (("op" : Str) = "is") = false)
  | cho _ _ _ => exact (by decide +kernel : decide (("choose" : Str) = "is") = false)
  | tim _ _ => exact (by decide +kernel : decide (("times" : Str) = "is") = false)
theorem word_op (r : Rw) : decide (r.word = "op") = r.isOp := by
  cases r with
  | is _ _ => exact (by decide +kernel : decide (("is" : Str) = "op") = false)
  | op _ _ _ _ => exact (by decide +kernel : decide (("op" : Str) = "op") = true)
  | cho _ _ _ => exact (by decide +kernel : decide (("choose" : Str) = "op") = false)
  | tim _ _ => exact (by decide +kernel : decide (("times" : Str) = "op") = false)
theorem ix_0 {a : Q} {l : List Q} : ixQ (.tup (a :: l)) 0 = some a := ixO_nat (xs := a :: l) (n := 0) rfl
theorem ix_1 {a b : Q} {l : List Q} : ixQ (.tup (a :: b :: l)) 1 = some b := ixO_nat (xs := a :: b :: l) (n := 1) rfl
theorem ix_2 {a b c : Q} {l : List Q} : ixQ (.tup (a :: b :: c :: l)) 2 = some c := ixO_nat (xs := a :: b :: c :: l) (n := 2) rfl
theorem ix_3 {a b c d : Q} {l : List Q} : ixQ (.tup (a :: b :: c :: d :: l)) 3 = some d := ixO_nat (xs := a :: b :: c :: d :: l) (n := 3) rfl
theorem ix_4 {a b c d e : Q} {l : List Q} : ixQ (.tup (a :: b :: c :: d :: e :: l)) 4 = some e := ixO_nat (xs := a :: b :: c :: d :: e :: l) (n := 4) rfl
theorem r_0 (r : Rw) : ixQ r.q 0 = some (.str r.word) := by cases r <;> (rw [Rw.q]; exact ix_0)
theorem e_cho (r : Rw) : eqD (eQ (Q.str r.word)) (eS ("choose" : Str)) = some r.isCho := by rw [eqW' (word_ok r) sk_cho, word_cho]
theorem e_tim (r : Rw) : eqD (eQ (Q.str r.word)) (eS ("times" : Str)) = some r.isTim := by rw [eqW' (word_ok r) sk_tim, word_tim]
theorem e_is (r : Rw) : eqD (eQ (Q.str r.word)) (eS ("is" : Str)) = some r.isIs := by rw [eqW' (word_ok r) sk_is, word_is]
theorem e_op (r : Rw) : eqD (eQ (Q.str r.word)) (eS ("op" : Str)) = some r.isOp := by rw [eqW' (word_ok r) sk_op, word_op]
theorem asX_t {l : List Q} : asX (.tup l) = some l := rfl
theorem asI_i {i : Int} : asI (.int i) = some i := rfl
theorem catQ_t {xs ys : List Q} (h : xs.length + ys.length ≤ sizeLine) : catQ (.tup xs) (.tup ys) = some (.tup (xs ++ ys)) := by
  show (if _ then some _ else none) = _
  rw [if_pos h]
/-! ### drawing rows -/
def bxQ (ns : List Str) : Q := .tup (ns.map Q.str)
theorem shl1 {w : Nat} (h : w ≤ 16) : shlO 1 (w : Int) = some ((2 ^ w : Nat) : Int) := by
  have := shl1_nat (k := (w : Int)) (by omega) (by omega)
  rwa [Int.toNat_natCast] at this
theorem number_ok {p : List Int} {w : Nat} (h : Pu p) (hw : w ≤ 16) : Ok (f_number p (w : Int)) fun r => Pu r.2 ∧ ∃ n : Nat, r.1 = (n : Int) ∧ n < 2 ^ w := by
  have hp : 0 < 2 ^ w := Nat.two_pow_pos w
  have hb : 2 ^ w ≤ 2 ^ 16 := Nat.pow_le_pow_right (by decide) hw
  have h16 : (2 : Nat) ^ 16 = 65536 := by decide
  unfold f_number
  rw [shl1 hw, Option.bind_some, Option.bind_some]
  refine nx h (by omega) (by omega) fun r p1 a1 a2 a3 => ?_
  refine nx a3 (by decide) (by decide) fun r1 p2 b1 b2 b3 => ?_
  dsimp only
  refine ok_bind (p := fun _ => True) ?_ fun x _ => ?_
  · have : r1 = 0 ∨ r1 = 1 ∨ r1 = 2 ∨ r1 = 3 := by omega
    rcases this with rfl | rfl | rfl | rfl <;> exact ⟨_, rfl, trivial⟩
  · rw [Option.bind_some, modO_eq (by omega), Option.bind_some]
    have m1 := Int.emod_nonneg x (b := ((2 ^ w : Nat) : Int)) (by omega)
    have m2 := Int.emod_lt_of_pos x (b := ((2 ^ w : Nat) : Int)) (by omega)
    exact ok_some ⟨b3, (x % ((2 ^ w : Nat) : Int)).toNat, by show x % ((2 ^ w : Nat) : Int) = _; omega, by omega⟩
theorem bx_len (ns : List Str) : lenQ (bxQ ns) = some (ns.length : Int) := by
  show some (((ns.map Q.str).length : Nat) : Int) = _
  rw [List.length_map]
theorem bx_ix {ns : List Str} {i : Int} (h1 : 0 ≤ i) (h2 : i < ns.length) : ∃ x, x ∈ ns ∧ ixQ (bxQ ns) i = some (.str x) := by
  obtain ⟨k, rfl⟩ := Int.eq_ofNat_of_zero_le h1
  have hk : k < ns.length := by omega
  exact ⟨ns[k], List.getElem_mem hk, ixO_nat (by simp [hk])⟩
theorem atom_ok {p : List Int} {w : Nat} {ns : List Str} (h : Pu p) (hw : w ≤ 16) (hn : 1 ≤ ns.length) (hn2 : ns.length ≤ 100) : Ok (f_atom p (w : Int) (bxQ ns)) fun r => Pu r.2 ∧ ∃ a : At, r.1 = a.q ∧ a.ok (· ∈ ns) (2 ^ w) := by
  unfold f_atom
  refine nx h (by decide) (by decide) fun r p1 a1 a2 a3 => ?_
  refine ok_iff (fun _ => ?_) fun _ => ?_
  · refine ok_bind (number_ok a3 hw) fun q hq => ?_
    obtain ⟨r1, p2⟩ := q
    obtain ⟨b1, n, rfl, hn⟩ := hq
    exact ok_some ⟨b1, .num n, rfl, hn⟩
  · rw [bx_len, Option.bind_some]
    refine nx a3 (by omega) (by omega) fun r1 p2 b1 b2 b3 => ?_
    obtain ⟨x, hx, e⟩ := bx_ix b1 b2
    show Ok (Option.bind (ixQ (bxQ ns) r1) _) _
    rw [e, Option.bind_some]
    exact ok_some ⟨b3, .box x, rfl, hx⟩
theorem sign_ok {i : Int} (h1 : 0 ≤ i) (h2 : i < 7) : ∃ s, s ∈ signs ∧ ixSO ("+-&|^<=" : Str) i = some s := by
  have : i = 0 ∨ i = 1 ∨ i = 2 ∨ i = 3 ∨ i = 4 ∨ i = 5 ∨ i = 6 := by omega
  rcases this with rfl | rfl | rfl | rfl | rfl | rfl | rfl
  · exact ⟨"+", by simp [signs], by decide +kernel⟩
  · exact ⟨"-", by simp [signs], by decide +kernel⟩
  · exact ⟨"&", by simp [signs], by decide +kernel⟩
  · exact ⟨"|", by simp [signs], by decide +kernel⟩
  · exact ⟨"^", by simp [signs], by decide +kernel⟩
  · exact ⟨"<", by simp [signs], by decide +kernel⟩
  · exact ⟨"=", by simp [signs], by decide +kernel⟩
theorem set_ok {p : List Int} {w : Nat} {ns : List Str} (h : Pu p) (hw : w ≤ 16) (hn : 1 ≤ ns.length) (hn2 : ns.length ≤ 100) : Ok (f_set_ p (w : Int) (bxQ ns)) fun r => Pu r.2 ∧ ∃ x : Rw, r.1 = x.q ∧ x.ok (· ∈ ns) (2 ^ w) ∧ x.dep = 0 ∧ x.w = 1 ∧ x.n = 1 := by
  unfold f_set_
  rw [bx_len, Option.bind_some]
  refine nx h (by omega) (by omega) fun r p1 a1 a2 a3 => ?_
  obtain ⟨x, hx, e⟩ := bx_ix a1 a2
  show Ok (Option.bind (ixQ (bxQ ns) r) _) _
  rw [e, Option.bind_some]
  refine ok_bind (atom_ok a3 hw hn hn2) fun q hq => ?_
  obtain ⟨r1, p2⟩ := q
  obtain ⟨b1, a, rfl, ha⟩ := hq
  simp only at b1
  refine nx b1 (by decide) (by decide) fun r2 p3 c1 c2 c3 => ?_
  refine ok_iff (fun _ => ok_some ⟨c3, .is x a, by rw [Rw.q], ⟨hx, ha⟩, rfl, rfl, rfl⟩) fun _ => ?_
  refine nx c3 (by decide) (by decide) fun r3 p4 d1 d2 d3 => ?_
  obtain ⟨s, hs, e2⟩ := sign_ok d1 d2
  show Ok (Option.bind (ixSO ("+-&|^<=" : Str) r3) _) _
  rw [e2, Option.bind_some]
  refine ok_bind (atom_ok d3 hw hn hn2) fun q hq => ?_
  obtain ⟨r4, p5⟩ := q
  obtain ⟨g1, b, rfl, hb⟩ := hq
  exact ok_some ⟨g1, .op x s a b, by rw [Rw.q], ⟨hx, hs, ha, hb⟩, rfl, rfl, rfl⟩
/-! ### what is opened -/
inductive Hd where
  | c1 (a : At) | c2 (a : At) (xs : List Rw) | t (k : Nat)
def Hd.q : Hd → Q
  | .c1 a => .tup [.str "choose", a.q]
  | .c2 a xs => .tup [.str "choose", a.q, .tup (qRs xs)]
  | .t k => .tup [.str "times", .int (k : Int)]
def Hd.xs : Hd → List Rw
  | .c2 _ xs => xs
  | _ => []
def Hd.fac : Hd → Nat
  | .t k => k
  | _ => 1
def Hd.w : Hd → Nat
  | .c1 _ => 1
  | .c2 _ xs => 1 + wRs xs
  | .t _ => 0
def Hd.ok (B : Str → Prop) (M : Nat) : Hd → Prop
  | .c1 a => a.ok B M
  | .c2 a xs => a.ok B M ∧ okRs B M xs
  | .t k => k ≤ 20
structure Ent where
  a : List Rw
  h : Hd
  o : Nat
def Ent.e (x : Ent) : List Q × Q × Int := (qRs x.a, x.h.q, (x.o : Int))
def opn (st : List Ent) : List (List Q × Q × Int) := st.reverse.map Ent.e
def Lnk : List Ent → Nat → Prop
  | [], o => o = 1
  | e :: r, o => o = e.o * e.h.fac ∧ Lnk r e.o
def wSt : List Ent → Nat
  | [] => 0
  | e :: r => e.o * (wRs e.a + e.h.w) + wSt r
def nSt : List Ent → Nat
  | [] => 0
  | e :: r => nRs e.a + nRs e.h.xs + 1 + nSt r
def DpSt : List Ent → Prop
  | [] => True
  | e :: r => depRs e.a + r.length ≤ 5 ∧ depRs e.h.xs + r.length + 1 ≤ 5 ∧ DpSt r
def OkSt (B : Str → Prop) (M : Nat) : List Ent → Prop
  | [] => True
  | e :: r => okRs B M e.a ∧ e.h.ok B M ∧ OkSt B M r
structure Inv (B : Str → Prop) (M : Nat) (st : List Ent) (rows : List Rw) (o left j : Nat) : Prop where
  len : st.length ≤ 5
  lnk : Lnk st o
  w : wSt st + o * wRs rows + left ≤ 120
  n : nSt st + nRs rows ≤ j
  dst : DpSt st
  dr : depRs rows + st.length ≤ 5
  ost : OkSt B M st
  ok : okRs B M rows
theorem opn_cons (e : Ent) (st : List Ent) : opn (e :: st) = opn st ++ [e.e] := by simp [opn]
theorem opn_len (st : List Ent) : (opn st).length = st.length := by simp [opn]
def mu : List Ent → Nat
  | [] => 0
  | e :: r => (match e.h with | .c2 _ _ => 1 | _ => 2) + mu r
/-- what shutting does -/
def shutE (e : Ent) (st : List Ent) (rows : List Rw) : List Ent × List Rw := match e.h with
  | .c1 a => (⟨e.a, .c2 a rows, e.o⟩ :: st, [])
  | .c2 a xs => (st, e.a ++ [.cho a xs rows])
  | .t k => (st, e.a ++ [.tim k rows])
theorem shut_inv {B : Str → Prop} {M : Nat} {e : Ent} {st : List Ent} {rows : List Rw} {o left j : Nat} (h : Inv B M (e :: st) rows o left j) : Inv B M (shutE e st rows).1 (shutE e st rows).2 e.o left j ∧ mu (shutE e st rows).1 < mu (e :: st) := by
  obtain ⟨h1, ⟨l1, l2⟩, h3, h4, ⟨d1, d2, d3⟩, h6, ⟨o1, o2, o3⟩, h8⟩ := h
  obtain ⟨ea, eh, eo⟩ := e
  simp only at l1 l2 d1 d2 o1 o2
  simp only [List.length_cons] at h1 h6
  cases eh with
  | c1 a =>
    simp only [wSt, nSt, Hd.fac, Hd.w, Hd.xs, nRs, Nat.mul_one] at l1 h3 h4
    subst l1
    refine ⟨⟨h1, ⟨by simp [Hd.fac], l2⟩, ?_, ?_, ⟨d1, by show depRs rows + st.length + 1 ≤ 5; omega, d3⟩, by show depRs [] + (st.length + 1) ≤ 5; rw [depRs]; omega, ⟨o1, ⟨o2, h8⟩, o3⟩, trivial⟩, ?_⟩
    · simp only [shutE, wSt, Hd.w, wRs, Nat.mul_zero]
      simp only [Nat.mul_add, Nat.mul_one] at h3 ⊢
      omega
    · simp only [shutE, nSt, Hd.xs, nRs]; omega
    · simp only [shutE, mu]; omega
  | c2 a xs =>
    simp only [wSt, nSt, Hd.fac, Hd.w, Hd.xs, Nat.mul_one] at l1 h3 h4 d2
    subst l1
    have hd : depRs (ea ++ [.cho a xs rows]) ≤ 5 - st.length := by
      refine dep_app (by omega) ?_
      simp only [depRs, Rw.dep]
      have : max (depRs xs) (depRs rows) ≤ 4 - st.length := Nat.max_le.mpr ⟨by omega, by omega⟩
      omega
    refine ⟨⟨by show st.length ≤ 5; omega, l2, ?_, ?_, d3, by show depRs (ea ++ [.cho a xs rows]) + st.length ≤ 5; omega, o3, ok_app o1 ⟨⟨o2.1, o2.2, h8⟩, trivial⟩⟩, ?_⟩
    · simp only [shutE, w_app, wRs, Rw.w]
      simp only [Nat.mul_add, Nat.mul_one] at h3 ⊢
      omega
    · simp only [shutE, n_app, nRs, Rw.n]; omega
    · simp only [shutE, mu]; omega
  | t k =>
    simp only [wSt, nSt, Hd.fac, Hd.w, Hd.xs, nRs] at l1 h3 h4
    subst l1
    have hd : depRs (ea ++ [.tim k rows]) ≤ 5 - st.length := by
      refine dep_app (by omega) ?_
      simp only [depRs, Rw.dep]
      omega
    refine ⟨⟨by show st.length ≤ 5; omega, l2, ?_, ?_, d3, by show depRs (ea ++ [.tim k rows]) + st.length ≤ 5; omega, o3, ok_app o1 ⟨⟨o2, h8⟩, trivial⟩⟩, ?_⟩
    · simp only [shutE, w_app, wRs, Rw.w]
      simp only [Nat.mul_add, Nat.add_zero, ← Nat.mul_assoc] at h3 ⊢
      omega
    · simp only [shutE, n_app, nRs, Rw.n]; omega
    · simp only [shutE, mu]; omega
def Hd.word : Hd → Str
  | .t _ => "times"
  | _ => "choose"
theorem shut_ok {e : Ent} {st : List Ent} {rows : List Rw} (h1 : st.length ≤ 5) (h2 : e.a.length ≤ 1000) (h3 : rows.length ≤ 1000) : f_shut (opn (e :: st)) (qRs rows) = some (qRs (shutE e st rows).2, opn (shutE e st rows).1) := by
  unfold f_shut
  rw [opn_cons, popO_last, Option.bind_some]
  obtain ⟨ea, eh, eo⟩ := e
  have hl : (opn st).length < sizeLine := by rw [opn_len, sz]; omega
  have hw : ∀ w : Str, PyData.strOk w = true → eqD (eQ (Q.str w)) (eS ("choose" : Str)) = some (decide (w = "choose")) := fun w hw => eqW' hw sk_cho
  simp only at h2
  cases eh with
  | c1 a =>
    have e0 : ixQ (Hd.c1 a).q 0 = some (.str "choose") := ix_0
    have e1 : lenQ (Hd.c1 a).q = some 2 := rfl
    have ec : catQ (Hd.c1 a).q (.tup [.tup (qRs rows)]) = some (Hd.c2 a rows).q := catQ_t (by simp [sz])
    show Option.bind (ixQ (Hd.c1 a).q 0) _ = _
    rw [e0, Option.bind_some, hw _ sk_cho, decide_eq_true rfl, Option.bind_some]
    show Option.bind (if true = true then (Option.bind (lenQ (Hd.c1 a).q) _) else _) _ = _
    rw [if_pos rfl, e1, Option.bind_some, Option.bind_some]
    rw [if_pos (by decide)]
    show Option.bind (catQ (Hd.c1 a).q _) _ = _
    rw [ec, Option.bind_some, appO_eq hl, Option.bind_some]
    show some _ = some (qRs [], opn (⟨ea, .c2 a rows, eo⟩ :: st))
    rw [opn_cons]; rfl
  | c2 a xs =>
    have e0 : ixQ (Hd.c2 a xs).q 0 = some (.str "choose") := ix_0
    have e1 : lenQ (Hd.c2 a xs).q = some 3 := rfl
    have ec : catQ (Hd.c2 a xs).q (.tup [.tup (qRs rows)]) = some (Rw.cho a xs rows).q := by
      rw [Rw.q]; exact catQ_t (by simp [sz])
    show Option.bind (ixQ (Hd.c2 a xs).q 0) _ = _
    rw [e0, Option.bind_some, hw _ sk_cho, decide_eq_true rfl, Option.bind_some]
    show Option.bind (if true = true then (Option.bind (lenQ (Hd.c2 a xs).q) _) else _) _ = _
    rw [if_pos rfl, e1, Option.bind_some, Option.bind_some]
    rw [if_neg (by decide)]
    show Option.bind (catQ (Hd.c2 a xs).q _) _ = _
    rw [ec, Option.bind_some]
    show Option.bind (catO (qRs ea) [(Rw.cho a xs rows).q]) _ = _
    rw [catO_eq (by rw [qRs_len, sz]; simp only [List.length_cons, List.length_nil]; omega), Option.bind_some]
    show some (qRs ea ++ [(Rw.cho a xs rows).q], opn st) = some (qRs (ea ++ [.cho a xs rows]), opn st)
    rw [qRs_app]; rfl
  | t k =>
    have e0 : ixQ (Hd.t k).q 0 = some (.str "times") := ix_0
    have ec : catQ (Hd.t k).q (.tup [.tup (qRs rows)]) = some (Rw.tim k rows).q := by
      rw [Rw.q]; exact catQ_t (by simp [sz])
    show Option.bind (ixQ (Hd.t k).q 0) _ = _
    rw [e0, Option.bind_some, hw _ sk_tim, show decide (("times" : Str) = "choose") = false by decide +kernel, Option.bind_some, if_neg Bool.false_ne_true, Option.bind_some, if_neg Bool.false_ne_true]
    show Option.bind (catQ (Hd.t k).q _) _ = _
    rw [ec, Option.bind_some]
    show Option.bind (catO (qRs ea) [(Rw.tim k rows).q]) _ = _
    rw [catO_eq (by rw [qRs_len, sz]; simp only [List.length_cons, List.length_nil]; omega), Option.bind_some]
    show some (qRs ea ++ [(Rw.tim k rows).q], opn st) = some (qRs (ea ++ [.tim k rows]), opn st)
    rw [qRs_app]; rfl
mutual
theorem dp_mono : ∀ (q : Q) (m n : Nat), m ≤ n → q.dp m = true → q.dp n = true
  | .non, _, _, _, _ => by simp [Q.dp]
  | .bl _, m, _, _, h => by simp [Q.dp] at h
  | .int _, _, _, _, _ => by simp [Q.dp]
  | .str s, m, n, _, h => by
    simp only [Q.dp] at h ⊢; exact h
  | .tup xs, 0, _, _, h => by simp [Q.dp] at h
  | .tup xs, m + 1, 0, h0, _ => absurd h0 (by omega)
  | .tup xs, m + 1, n + 1, h0, h => by
    simp only [Q.dp] at h ⊢
    exact dps_mono xs m n (by omega) h
  | .lst xs, 0, _, _, h => by simp [Q.dp] at h
  | .lst xs, m + 1, 0, h0, _ => absurd h0 (by omega)
  | .lst xs, m + 1, n + 1, h0, h => by
    simp only [Q.dp] at h ⊢
    exact dps_mono xs m n (by omega) h
theorem dps_mono : ∀ (xs : List Q) (m n : Nat), m ≤ n → Q.dps m xs = true → Q.dps n xs = true
  | [], _, _, _, _ => rfl
  | x :: xs, m, n, h0, h => by
    simp only [Q.dps, Bool.and_eq_true] at h ⊢
    exact ⟨dp_mono x m n h0 h.1, dps_mono xs m n h0 h.2⟩
end
/-! ### rows as data: their depth -/
theorem at_dp {B : Str → Prop} {M : Nat} (hB : ∀ s, B s → PyData.strOk s = true) {a : At} (h : a.ok B M) (n : Nat) : a.q.dp n = true := by
  cases a with
  | num k => cases n <;> rfl
  | box b => cases n <;> exact hB b h
theorem str_dp {s : Str} (h : PyData.strOk s = true) (n : Nat) : (Q.str s).dp n = true := by cases n <;> exact h
theorem int_dp (i : Int) (n : Nat) : (Q.int i).dp n = true := by cases n <;> rfl
theorem sign_sk {s : Str} (h : s ∈ signs) : PyData.strOk s = true := by
  have : signs.all PyData.strOk = true := by decide +kernel
  exact List.all_eq_true.mp this s h
theorem row_dp {B : Str → Prop} {M : Nat} (hB : ∀ s, B s → PyData.strOk s = true) : ∀ (n : Nat) (r : Rw), r.ok B M → r.dep ≤ n → r.q.dp (2 * n + 2) = true
  | n, .is x a, h, _ => by
    rw [Rw.q]
    simp only [Q.dp, Q.dps, sk_is, hB x h.1, at_dp hB h.2]; rfl
  | n, .op x s a b, h, _ => by
    rw [Rw.q]
    simp only [Q.dp, Q.dps, sk_op, hB x h.1, sign_sk h.2.1, at_dp hB h.2.2.1, at_dp hB h.2.2.2]; rfl
  | 0, .cho a xs ys, h, hd => by rw [Rw.dep] at hd; omega
  | n + 1, .cho a xs ys, h, hd => by
    rw [Rw.dep] at hd
    have hx : Q.dps (2 * n + 2) (qRs xs) = true := by
      rw [qRs_map]
      refine Q.dps_all fun q hq => ?_
      obtain ⟨r, hr, rfl⟩ := List.mem_map.mp hq
      refine row_dp hB n r (ok_mem.mp h.2.1 r hr) ?_
      have := dep_mem hr
      have := Nat.le_max_left (depRs xs) (depRs ys)
      omega
    have hy : Q.dps (2 * n + 2) (qRs ys) = true := by
      rw [qRs_map]
      refine Q.dps_all fun q hq => ?_
      obtain ⟨r, hr, rfl⟩ := List.mem_map.mp hq
      refine row_dp hB n r (ok_mem.mp h.2.2 r hr) ?_
      have := dep_mem hr
      have := Nat.le_max_right (depRs xs) (depRs ys)
      omega
    rw [Rw.q]
    show Q.dp (2 * n + 2 + 1 + 1) _ = true
    simp only [Q.dp, Q.dps, sk_cho, at_dp hB h.1, hx, hy]; rfl
  | 0, .tim k xs, h, hd => by rw [Rw.dep] at hd; omega
  | n + 1, .tim k xs, h, hd => by
    rw [Rw.dep] at hd
    have hx : Q.dps (2 * n + 2) (qRs xs) = true := by
      rw [qRs_map]
      refine Q.dps_all fun q hq => ?_
      obtain ⟨r, hr, rfl⟩ := List.mem_map.mp hq
      refine row_dp hB n r (ok_mem.mp h.2 r hr) ?_
      have := dep_mem hr
      omega
    rw [Rw.q]
    show Q.dp (2 * n + 2 + 1 + 1) _ = true
    simp only [Q.dp, Q.dps, sk_tim, hx]; rfl
theorem rows_dp {B : Str → Prop} {M : Nat} (hB : ∀ s, B s → PyData.strOk s = true) {rs : List Rw} (h : okRs B M rs) {n : Nat} (hd : depRs rs ≤ n) : Q.dps (2 * n + 2) (qRs rs) = true := by
  rw [qRs_map]
  refine Q.dps_all fun q hq => ?_
  obtain ⟨r, hr, rfl⟩ := List.mem_map.mp hq
  exact row_dp hB n r (ok_mem.mp h r hr) (Nat.le_trans (dep_mem hr) hd)
theorem hd_dp {B : Str → Prop} {M : Nat} (hB : ∀ s, B s → PyData.strOk s = true) {h : Hd} (ho : h.ok B M) (hd : depRs h.xs ≤ 5) : h.q.dp 14 = true := by
  cases h with
  | c1 a => simp only [Hd.q, Q.dp, Q.dps, sk_cho, at_dp hB ho]; rfl
  | c2 a xs =>
    have := rows_dp hB ho.2 (n := 5) hd
    simp only [Hd.q]
    show Q.dp (12 + 1 + 1) _ = true
    simp only [Q.dp, Q.dps, sk_cho, at_dp hB ho.1, this]; rfl
  | t k => simp only [Hd.q, Q.dp, Q.dps, sk_tim]; rfl
theorem toPy_T3 {α β γ : Type} {e1 : α → D} {e2 : β → D} {e3 : γ → D} {q1 : α → Q} {q2 : β → Q} {q3 : γ → Q} (h1 : ∀ a, toPy (e1 a) = some (q1 a).py) (h2 : ∀ a, toPy (e2 a) = some (q2 a).py) (h3 : ∀ a, toPy (e3 a) = some (q3 a).py) (p : α × β × γ) : toPy (eT3 e1 e2 e3 p) = some (Q.tup [q1 p.1, q2 p.2.1, q3 p.2.2]).py := by
  simp only [toPy, toPys, h1, h2, h3, Option.map_some, Q.py, Q.pys]
def e3q (p : List Q × Q × Int) : Q := .tup [.lst (p.1.map fun x => x), p.2.1, .int p.2.2]
theorem opn_gd {B : Str → Prop} {M : Nat} (hB : ∀ s, B s → PyData.strOk s = true) : ∀ {st : List Ent}, DpSt st → OkSt B M st → ∀ x ∈ (opn st).map e3q, x.dp 60 = true := by
  intro st hd ho x hx
  obtain ⟨p, hp, rfl⟩ := List.mem_map.mp hx
  unfold opn at hp
  obtain ⟨e, he, rfl⟩ := List.mem_map.mp hp
  rw [List.mem_reverse] at he
  have key : depRs e.a ≤ 5 ∧ depRs e.h.xs ≤ 5 ∧ okRs B M e.a ∧ e.h.ok B M := by
    clear hx hp
    induction st with
    | nil => simp at he
    | cons y r ih =>
      obtain ⟨d1, d2, d3⟩ := hd
      obtain ⟨o1, o2, o3⟩ := ho
      rcases List.mem_cons.mp he with rfl | he
      · exact ⟨by omega, by omega, o1, o2⟩
      · exact ih d3 o3 he
  obtain ⟨k1, k2, k3, k4⟩ := key
  have ha := rows_dp hB k3 k1
  have hh := hd_dp hB k4 k2
  have ha' := dps_mono _ _ 58 (by decide) ha
  have hh' := dp_mono _ _ 59 (by decide) hh
  show Q.dp (58 + 1 + 1) (.tup [.lst ((qRs e.a).map fun x => x), e.h.q, .int _]) = true
  simp only [List.map_id', Q.dp, Q.dps, ha', hh']; rfl
theorem toPy_opn (p : List Q × Q × Int) : toPy ((eT3 (eL false eQ) eQ eI) p) = some (e3q p).py :=
  toPy_T3 (q1 := fun l => Q.lst (l.map fun x => x)) (q2 := fun x => x) (q3 := fun i => Q.int i) (toPy_L (q := fun x => x) toPy_eQ) toPy_eQ toPy_I p
theorem eq_opn {B : Str → Prop} {M : Nat} (hB : ∀ s, B s → PyData.strOk s = true) {st : List Ent} (hd : DpSt st) (ho : OkSt B M st) : eqD ((eL true (eT3 (eL false eQ) eQ eI)) (opn st)) ((eL true (eT3 (eL false eQ) eQ eI)) ([] : List ((List (Q) × Q × Int)))) = some (decide (st = [])) := by
  have e := eqD_gd (toPy_L (o := true) (q := e3q) toPy_opn (opn st)) (toPy_L (o := true) (q := e3q) toPy_opn []) (Q.gd_of (n := 61) (Q.dps_all (opn_gd hB hd ho)) (by decide)) (Q.gd_of (n := 61) rfl (by decide))
  rw [e]
  refine congrArg some ?_
  rw [decide_eq_decide]
  simp [opn]
theorem len_n : ∀ rs : List Rw, rs.length ≤ nRs rs
  | [] => Nat.le_refl _
  | r :: rs => by
    rw [nRs, List.length_cons]
    have := len_n rs
    have : 1 ≤ r.n := by cases r <;> simp [Rw.n] <;> omega
    omega
theorem rng_at {a b x : Int} {pre post : List Int} (e : rng a b = pre ++ x :: post) : x = a + (pre.length : Int) ∧ a + (pre.length : Int) < b := by
  have h1 : (rng a b)[pre.length]? = some x := by rw [e]; simp
  have h2 : pre.length < (rng a b).length := by rw [e]; simp
  rw [rng_length] at h2
  rw [rng_get h2] at h1
  exact ⟨(Option.some.inj h1).symm, by omega⟩
theorem e_len {B : Str → Prop} {M : Nat} {e : Ent} {st : List Ent} {rows : List Rw} {o left j : Nat} (h : Inv B M (e :: st) rows o left j) : e.a.length ≤ j ∧ rows.length ≤ j := by
  have h4 := h.n
  have h1 := len_n e.a
  have h2 := len_n rows
  simp only [nSt] at h4
  omega
theorem pick_round {r4 r5 : Int} (h1 : 0 ≤ r4) (h2 : r4 < 21) (h3 : 0 ≤ r5) (h4 : r5 < 6) : Ok (ixO [0, 1, 2, 3, 4, r4] r5) fun x => ∃ k : Nat, x = (k : Int) ∧ k ≤ 20 := by
  have : r5 = 0 ∨ r5 = 1 ∨ r5 = 2 ∨ r5 = 3 ∨ r5 = 4 ∨ r5 = 5 := by omega
  rcases this with rfl | rfl | rfl | rfl | rfl | rfl
  · exact ⟨0, rfl, 0, rfl, by decide⟩
  · exact ⟨1, rfl, 1, rfl, by decide⟩
  · exact ⟨2, rfl, 2, rfl, by decide⟩
  · exact ⟨3, rfl, 3, rfl, by decide⟩
  · exact ⟨4, rfl, 4, rfl, by decide⟩
  · exact ⟨r4, rfl, r4.toNat, by omega, by omega⟩
theorem ixb {α : Type} (a b : α) (c : Bool) : ixO [a, b] (boI c) = some (if c = true then b else a) := by cases c <;> rfl
def hlQ : Q → Nat
  | .tup xs => 4 - xs.length
  | _ => 0
def muQ (l : List (List Q × Q × Int)) : Nat := (l.map fun e => hlQ e.2.1).sum
theorem muQ_opn (st : List Ent) : muQ (opn st) = mu st := by
  unfold muQ opn
  rw [List.map_map, List.map_reverse, List.sum_reverse]
  induction st with
  | nil => rfl
  | cons e r ih =>
    rw [List.map_cons, List.sum_cons, ih, mu]
    obtain ⟨a, h, o⟩ := e
    cases h <;> rfl
theorem mu_le (st : List Ent) : mu st ≤ 2 * st.length := by
  induction st with
  | nil => exact Nat.le_refl _
  | cons e r ih =>
    rw [mu, List.length_cons]
    obtain ⟨a, h, o⟩ := e
    cases h <;> simp only <;> omega
theorem Inv.up {B : Str → Prop} {M : Nat} {st : List Ent} {rows : List Rw} {o left j : Nat} (h : Inv B M st rows o left j) : Inv B M st rows o left (j + 1) := { h with n := Nat.le_succ_of_le h.n }
theorem rows_ok {xs : List Int} {w : Nat} {ns : List Str} {most : Nat} (hw : w ≤ 16) (hn : 1 ≤ ns.length) (hn2 : ns.length ≤ 100) (hB : ∀ s, s ∈ ns → PyData.strOk s = true) (hm : most ≤ 100) : Ok (f_rows xs (w : Int) (bxQ ns) (most : Int)) fun q => ∃ rs, q = .tup (qRs rs) ∧ wRs rs ≤ 120 ∧ nRs rs ≤ most ∧ depRs rs ≤ 5 ∧ okRs (· ∈ ns) (2 ^ w) rs := by
  unfold f_rows
  rw [Option.bind_some, Option.bind_some, rngO_eq (by decide) (by decide) (by omega) (by omega), Option.bind_some]
  have hrl : (rng 0 (most : Int)).length = most := by rw [rng_length]; omega
  refine ok_bind (p := fun s : List (List Q × Q × Int) × List Q × Int × Int => ∃ (st : List Ent) (rows : List Rw) (o left : Nat), s = (opn st, qRs rows, (o : Int), (left : Int)) ∧ Inv (· ∈ ns) (2 ^ w) st rows o left most) ?_ fun s hs => ?_
  · refine ok_mono (ok_forO (fun pre s => ∃ (st : List Ent) (rows : List Rw) (o left : Nat), s = (opn st, qRs rows, (o : Int), (left : Int)) ∧ Inv (· ∈ ns) (2 ^ w) st rows o left pre.length) ⟨[], [], 1, 120, rfl, ⟨by simp, rfl, by simp [wSt, wRs], by simp [nSt, nRs], trivial, by simp [depRs], trivial, trivial⟩⟩ fun pre x post s e hs => ?_) fun s hs => by rw [hrl] at hs; exact hs
    obtain ⟨st, rows, o, left, rfl, I⟩ := hs
    obtain ⟨ex, hx⟩ := rng_at e
    have hlen : (pre ++ [x]).length = pre.length + 1 := by simp
    rw [hlen]
    generalize pre.length = j at *
    have hj : j < most := by omega
    have hw3 := I.w
    have ho120 : left ≤ 120 := by omega
    dsimp only
    refine ok_bind (purse_ok (by omega) (by omega)) fun r1 hr1 => ?_
    refine nx hr1 (by decide) (by decide) fun r2 p2 a1 a2 a3 => ?_
    dsimp only
    refine ok_bind (p := fun s : List (List Q × Q × Int) × List Q × Int × Int × List Int => ∃ (st : List Ent) (rows : List Rw) (o left : Nat), s.1 = opn st ∧ s.2.1 = qRs rows ∧ s.2.2.1 = (o : Int) ∧ s.2.2.2.1 = (left : Int) ∧ Inv (· ∈ ns) (2 ^ w) st rows o left (j + 1)) ?_ fun s hs => ?_
    · refine ok_iff (fun hc => ?_) fun hc => ?_
      · rw [Bool.and_eq_true, Bool.and_eq_true] at hc
        have c2 := of_decide_eq_true hc.2.1
        have c3 := of_decide_eq_true hc.2.2
        rw [opn_len] at c2
        have hol : o ≤ left := by omega
        have hst5 : st.length + 1 ≤ 5 := by omega
        refine ok_bind (atom_ok a3 hw hn hn2) fun q hq => ?_
        obtain ⟨r3, p3⟩ := q
        obtain ⟨b1, a, rfl, ha⟩ := hq
        simp only at b1
        rw [Option.bind_some, Option.bind_some]
        have fin : ∀ (h : Hd) (p4 : List Int), h.ok (· ∈ ns) (2 ^ w) → h.xs = [] → h.w ≤ 1 → h.fac ≤ 20 → (Option.bind (ixQ h.q 1) fun x3 => Option.bind (ixO [(Q.int 1), x3] (boI (decide (r2 = 9)))) fun x4 => asI x4) = some (h.fac : Int) →
            Ok (Option.bind (appO (opn st) (qRs rows, h.q, (o : Int))) fun opened1 =>
              Option.bind (ixQ h.q 1) fun x3 =>
              Option.bind (ixO [(Q.int 1), x3] (boI (decide (r2 = 9)))) fun x4 =>
              Option.bind (asI x4) fun i1 =>
              Option.bind (mulO (o : Int) i1) fun i2 =>
              Option.bind (some ([] : List (Q))) fun rows_here1 =>
              some (opened1, rows_here1, i2, (left : Int) - (o : Int), p4)) fun s : List (List Q × Q × Int) × List Q × Int × Int × List Int => ∃ (st : List Ent) (rows : List Rw) (o left : Nat), s.1 = opn st ∧ s.2.1 = qRs rows ∧ s.2.2.1 = (o : Int) ∧ s.2.2.2.1 = (left : Int) ∧ Inv (· ∈ ns) (2 ^ w) st rows o left (j + 1) := by
          intro h p4 ho hxs hhw hf hi
          obtain ⟨x3, i1, hi⟩ := bd hi
          obtain ⟨x4, i2, i3⟩ := bd hi
          rw [appO_eq (by rw [opn_len, sz]; omega), Option.bind_some, i1, Option.bind_some, i2, Option.bind_some, i3, Option.bind_some, mulO_eq (.inr (by omega)), Option.bind_some, Option.bind_some]
          refine ok_some ⟨⟨rows, h, o⟩ :: st, [], o * h.fac, left - o, ?_, rfl, by show (o : Int) * (h.fac : Int) = _; rw [Int.natCast_mul], by show (left : Int) - (o : Int) = _; omega, ?_⟩
          · show opn st ++ [_] = _
            rw [opn_cons]; rfl
          · refine ⟨hst5, ⟨rfl, I.lnk⟩, ?_, ?_, ⟨I.dr, by rw [hxs, depRs]; omega, I.dst⟩, by rw [depRs, List.length_cons]; omega, ⟨I.ok, ho, I.ost⟩, trivial⟩
            · simp only [wSt, wRs, Nat.mul_zero, Nat.mul_add]
              have : o * h.w ≤ o * 1 := Nat.mul_le_mul_left o hhw
              omega
            · have := I.n
              simp only [nSt, hxs, nRs]; omega
        by_cases h9 : decide (r2 = 9) = true
        · rw [if_pos h9]
          refine ok_bind (p := fun s : List Int × Q => ∃ k : Nat, s.2 = (Hd.t k).q ∧ k ≤ 20) ?_ fun s hs => ?_
          · refine nx b1 (by decide) (by decide) fun r4 p4 d1 d2 d3 => ?_
            refine nx d3 (by decide) (by decide) fun r5 p5 e1 e2 e3 => ?_
            dsimp only
            refine ok_bind (pick_round d1 d2 e1 e2) fun x1 hx1 => ?_
            obtain ⟨k, rfl, hk⟩ := hx1
            rw [mulO_eq (.inr (by omega)), Option.bind_some, ixb, Option.bind_some, Option.bind_some]
            by_cases hc : decide ((o : Int) * (k : Int) ≤ (left : Int) - (o : Int)) = true
            · rw [if_pos hc]; exact ok_some ⟨k, rfl, hk⟩
            · rw [if_neg hc]; exact ok_some ⟨1, rfl, by decide⟩
          · obtain ⟨p4, q⟩ := s
            obtain ⟨k, rfl, hk⟩ := hs
            refine fin (.t k) p4 hk rfl (by show 0 ≤ 1; decide) hk ?_
            have e1 : ixQ (Hd.t k).q 1 = some (.int (k : Int)) := ix_1
            rw [e1, Option.bind_some, ixb, if_pos h9]; rfl
        · rw [if_neg h9, Option.bind_some]
          refine fin (.c1 a) p3 ha rfl (Nat.le_refl _) (by show 1 ≤ 20; decide) ?_
          have e1 : ixQ (Hd.c1 a).q 1 = some a.q := ix_1
          rw [e1, Option.bind_some, ixb, if_neg h9]; rfl
      · refine ok_bind (p := fun c : Bool => c = true → st ≠ []) ?_ fun c1 hc1 => ?_
        · refine ok_iff (fun _ => ?_) fun _ => ok_some fun e => by cases e
          rw [eq_opn hB I.dst I.ost, Option.bind_some]
          refine ok_some fun e => ?_
          simpa using e
        · refine ok_bind (p := fun s : List (List Q × Q × Int) × List Q × Int × Int × List Int => ∃ (st : List Ent) (rows : List Rw) (o left : Nat), s.1 = opn st ∧ s.2.1 = qRs rows ∧ s.2.2.1 = (o : Int) ∧ s.2.2.2.1 = (left : Int) ∧ Inv (· ∈ ns) (2 ^ w) st rows o left (j + 1)) ?_ fun s hs => ok_some hs
          refine ok_iff (fun hcc => ?_) fun _ => ?_
          · cases st with
            | nil => exact absurd rfl (hc1 hcc)
            | cons e st =>
              obtain ⟨k1, k2⟩ := e_len I
              have hst := I.len
              rw [opn_cons, ixO_last, Option.bind_some, ← opn_cons, shut_ok (by simp at hst; omega) (by omega) (by omega), Option.bind_some]
              obtain ⟨s1, _⟩ := shut_inv I
              exact ok_some ⟨_, _, e.o, left, rfl, rfl, rfl, rfl, s1.up⟩
          · refine ok_bind (p := fun s : List Q × Int × List Int => ∃ (rows : List Rw) (left : Nat), s.1 = qRs rows ∧ s.2.1 = (left : Int) ∧ Inv (· ∈ ns) (2 ^ w) st rows o left (j + 1)) ?_ fun s hs => ?_
            · refine ok_iff (fun hc => ?_) fun _ => ok_some ⟨rows, left, rfl, rfl, I.up⟩
              have hc := of_decide_eq_true hc
              refine ok_bind (set_ok a3 hw hn hn2) fun q hq => ?_
              obtain ⟨r7, p7⟩ := q
              obtain ⟨b1, y, rfl, y1, y2, y3, y4⟩ := hq
              have hrl' := len_n rows
              have hrn := I.n
              show Ok (Option.bind (appO (qRs rows) y.q) _) _
              rw [appO_eq (by rw [qRs_len, sz]; omega), Option.bind_some, Option.bind_some]
              refine ok_some ⟨rows ++ [y], left - o, by rw [qRs_app]; rfl, by show (left : Int) - (o : Int) = _; omega, ?_⟩
              refine ⟨I.len, I.lnk, ?_, ?_, I.dst, ?_, I.ost, ok_app I.ok ⟨y1, trivial⟩⟩
              · rw [w_app]
                simp only [wRs, y3, Nat.mul_add, Nat.add_zero, Nat.mul_one]
                omega
              · rw [n_app]
                simp only [nRs, y4]; omega
              · have := dep_app (a := rows) (b := [y]) (n := 5 - st.length) (by have := I.dr; omega) (by simp only [depRs, y2]; omega)
                have := I.len
                omega
            · obtain ⟨rows', left', k1, k2, k3⟩ := hs
              exact ok_some ⟨st, rows', o, left', rfl, k1, rfl, k2, k3⟩
    · obtain ⟨st', rows', o', left', k1, k2, k3, k4, k5⟩ := hs
      exact ok_some ⟨st', rows', o', left', by rw [k1, k2, k3, k4], k5⟩
  · obtain ⟨st, rows, o, left, rfl, I⟩ := hs
    refine ok_bind (p := fun s : List (List Q × Q × Int) × List Q => ∃ rs, s.2 = qRs rs ∧ wRs rs ≤ 120 ∧ nRs rs ≤ most ∧ depRs rs ≤ 5 ∧ okRs (· ∈ ns) (2 ^ w) rs) ?_ fun s hs => ?_
    · refine ok_wh (I := fun s : List (List Q × Q × Int) × List Q => ∃ (st : List Ent) (rows : List Rw) (o left : Nat), s = (opn st, qRs rows) ∧ Inv (· ∈ ns) (2 ^ w) st rows o left most) (fun s => muQ s.1) (fun s hs => ?_) _ _ ⟨st, rows, o, left, rfl, I⟩ ?_
      · obtain ⟨st, rows, o, left, rfl, I⟩ := hs
        refine ⟨!(decide (st = [])), ?_, fun hb => ?_, fun hb => ?_⟩
        · rw [eq_opn hB I.dst I.ost, Option.bind_some]
        · have hst : st = [] := by simpa using hb
          subst hst
          have hw3 := I.w
          have hl := I.lnk
          have hl : o = 1 := hl
          subst hl
          exact ⟨rows, rfl, by simp only [wSt, Nat.one_mul] at hw3; omega, by have := I.n; simp only [nSt] at this; omega, by have := I.dr; simpa using this, I.ok⟩
        · cases st with
          | nil => simp at hb
          | cons e st =>
            obtain ⟨k1, k2⟩ := e_len I
            have hst := I.len
            show Ok (Option.bind (f_shut (opn (e :: st)) (qRs rows)) _) _
            rw [shut_ok (by simp at hst; omega) (by omega) (by omega), Option.bind_some]
            obtain ⟨s1, s2⟩ := shut_inv I
            refine ok_some ⟨⟨_, _, e.o, left, rfl, s1⟩, ?_⟩
            show muQ (opn _) < muQ (opn (e :: st))
            rw [muQ_opn, muQ_opn]; exact s2
      · show muQ (opn st) < 2 ^ 64
        rw [muQ_opn]
        have := mu_le st
        have := I.len
        omega
    · obtain ⟨o1, q⟩ := s
      obtain ⟨rs, rfl, h1, h2, h3, h4⟩ := hs
      exact ok_some ⟨rs, rfl, h1, h2, h3, h4⟩
/-! ### joined texts -/
theorem joinL_mem {S : List Nat} : ∀ {parts : List (List Nat)} {c : Nat}, c ∈ TL.joinL S parts → c ∈ S ∨ ∃ p ∈ parts, c ∈ p
  | [], c, h => by simp [TL.joinL] at h
  | [p], c, h => .inr ⟨p, List.mem_singleton.mpr rfl, h⟩
  | p :: q :: r, c, h => by
    simp only [TL.joinL, List.mem_append] at h
    rcases h with h | h | h
    · exact .inr ⟨p, List.mem_cons_self, h⟩
    · exact .inl h
    · rcases joinL_mem h with h | ⟨z, hz, h⟩
      · exact .inl h
      · exact .inr ⟨z, List.mem_cons_of_mem _ hz, h⟩
theorem joinL_len {S : List Nat} {m : Nat} : ∀ {parts : List (List Nat)}, (∀ p ∈ parts, p.length ≤ m) → (TL.joinL S parts).length ≤ parts.length * (m + S.length)
  | [], h => by simp [TL.joinL]
  | [p], h => by
    have := h p (List.mem_singleton.mpr rfl)
    simp only [TL.joinL, List.length_cons, List.length_nil]; omega
  | p :: q :: r, h => by
    have h1 := h p List.mem_cons_self
    have h2 := joinL_len (S := S) (parts := q :: r) fun z hz => h z (List.mem_cons_of_mem _ hz)
    have e : (p :: q :: r).length * (m + S.length) = (q :: r).length * (m + S.length) + (m + S.length) := by
      rw [List.length_cons (a := p), Nat.succ_mul]
    rw [e]
    simp only [TL.joinL, List.length_append]
    omega
theorem joinL_ne {S : List Nat} {p : List Nat} {ps : List (List Nat)} (h : p ≠ []) : TL.joinL S (p :: ps) ≠ [] := by
  cases ps with
  | nil => exact h
  | cons q r =>
    intro e
    simp only [TL.joinL, List.append_eq_nil_iff] at e
    exact h e.1
theorem sum_le {l : List Nat} {m : Nat} (h : ∀ x ∈ l, x ≤ m) : l.sum ≤ l.length * m := by
  induction l with
  | nil => simp
  | cons a r ih =>
    have h1 := h a List.mem_cons_self
    have h2 := ih fun x hx => h x (List.mem_cons_of_mem _ hx)
    rw [List.sum_cons, List.length_cons, Nat.succ_mul]; omega
theorem joinS_eq {a : Str} {ys : List Str} {m : Nat} (h : ∀ y ∈ ys, y.length ≤ m) (hb : ys.length * (m + a.length) ≤ 16777216) : joinS a ys = some (Txt.join a ys) := by
  unfold joinS
  have h1 : (ys.map (·.length)).sum ≤ ys.length * m := by
    have := sum_le (l := ys.map (·.length)) (m := m) fun x hx => by
      obtain ⟨y, hy, rfl⟩ := List.mem_map.mp hx
      exact h y hy
    rwa [List.length_map] at this
  rw [Nat.mul_add] at hb
  rw [if_pos (by omega)]
theorem tl_joinT (a : Str) (ys : List Str) : (Txt.join a ys).cps.toList = TL.joinL a.cps.toList (ys.map fun y => y.cps.toList) := by
  rw [TL.join_eq]; exact TL.tl_join a ys
theorem join_len {a : Str} {ys : List Str} {m : Nat} (h : ∀ y ∈ ys, y.length ≤ m) : (Txt.join a ys).length ≤ ys.length * (m + a.length) := by
  have e := TL.len_tl (Txt.join a ys)
  have e1 := TL.len_tl a
  have h2 := joinL_len (S := a.cps.toList) (m := m) (parts := ys.map fun y => y.cps.toList) fun p hp => by
    obtain ⟨y, hy, rfl⟩ := List.mem_map.mp hp
    have := TL.len_tl y
    have := h y hy
    show (TL.tl y).length ≤ m
    omega
  rw [List.length_map] at h2
  rw [e, show TL.tl (Txt.join a ys) = _ from tl_joinT a ys, e1]
  exact h2
theorem join_ok {a : Str} {ys : List Str} (ha : PyData.strOk a = true) (h : ∀ y ∈ ys, PyData.strOk y = true) : PyData.strOk (Txt.join a ys) = true := by
  show (Txt.join a ys).cps.all (· < 0x110000) = true
  rw [← Array.all_toList, tl_joinT, List.all_eq_true]
  intro c hc
  have all : ∀ z : Str, PyData.strOk z = true → ∀ c ∈ z.cps.toList, decide (c < 0x110000) = true := by
    intro z hz c hc
    have hz : z.cps.all (· < 0x110000) = true := hz
    rw [← Array.all_toList, List.all_eq_true] at hz
    exact hz c hc
  rcases joinL_mem hc with hc | ⟨p, hp, hc⟩
  · exact all a ha c hc
  · obtain ⟨y, hy, rfl⟩ := List.mem_map.mp hp
    exact all y (h y hy) c hc
theorem splitO_eq {a b : Str} (h : (b.length == 0) = false) (h2 : a.length + 2 ≤ sizeLine) : splitO a b = some (Txt.split a b) := by
  unfold splitO; rw [if_pos ⟨h, h2⟩]
/-! ### names -/
theorem abc_tl : ("abcdefghijklmnopqrstuvwxyz" : Str).cps.toList = (List.range 26).map (97 + ·) := by decide +kernel
theorem abc_ix {i : Int} (h1 : 0 ≤ i) (h2 : i < 26) : ixSO ("abcdefghijklmnopqrstuvwxyz" : Str) i = some ⟨#[97 + i.toNat]⟩ := by
  obtain ⟨k, rfl⟩ := Int.eq_ofNat_of_zero_le h1
  have hk : k < 26 := by omega
  have e : atI (("abcdefghijklmnopqrstuvwxyz" : Str).cps.toList) (k : Int) = some (97 + k) := by
    rw [abc_tl]
    exact ixO_nat (by simp [hk])
  unfold ixSO
  rw [if_pos (by decide +kernel), e]
  rfl
theorem ok_sgn {c : Nat} (h : c < 0x110000) : PyData.strOk (⟨#[c]⟩ : Str) = true := by
  show (#[c] : Array Nat).all (· < 0x110000) = true
  rw [← Array.all_toList]
  simp only [List.all_cons, List.all_nil, Bool.and_true]
  exact decide_eq_true h
theorem ok_app' {a b : Str} (ha : PyData.strOk a = true) (hb : PyData.strOk b = true) : PyData.strOk (a ++ b) = true := by
  have ha : a.cps.all (· < 0x110000) = true := ha
  have hb : b.cps.all (· < 0x110000) = true := hb
  show (a ++ b).cps.all (· < 0x110000) = true
  rw [← Array.all_toList, show (a ++ b).cps.toList = TL.tl a ++ TL.tl b from TL.tl_append a b, List.all_append, Bool.and_eq_true]
  exact ⟨by rw [Array.all_toList]; exact ha, by rw [Array.all_toList]; exact hb⟩
theorem len_app (a b : Str) : (a ++ b).length = a.length + b.length := by
  rw [TL.len_tl, TL.tl_append, List.length_append, ← TL.len_tl, ← TL.len_tl]
/-- a name: its signs, its length -/
structure Nm (s : Str) : Prop where
  ok : PyData.strOk s = true
  len : s.length ≤ 20
def Lt (s : Str) : Prop := ∃ c, s = ⟨#[c]⟩ ∧ 97 ≤ c ∧ c ≤ 122
theorem catS_eq {a b : Str} (h : a.length + b.length ≤ sizeLine) : catS a b = some (a ++ b) := by unfold catS; rw [if_pos h]
theorem ok_filS' {α β σ : Type} {f : σ → α → Option (Option β × σ)} {R : β → Prop} {J : σ → Prop} : ∀ (xs : List α) (s : σ), J s → (∀ x ∈ xs, ∀ s, J s → Ok (f s x) fun p => (∃ y, p.1 = some y ∧ R y) ∧ J p.2) → Ok (filS' f xs s) fun p => p.1.length = xs.length ∧ (∀ y ∈ p.1, R y) ∧ J p.2
  | [], s, h, _ => ok_some ⟨rfl, by simp, h⟩
  | x :: xs, s, h, k => by
    rw [filS']
    refine ok_bind (k x List.mem_cons_self s h) fun p hp => ?_
    obtain ⟨o, s1⟩ := p
    obtain ⟨⟨y, e, hy⟩, hs1⟩ := hp
    simp only at e hs1
    subst e
    refine ok_bind (ok_filS' xs s1 hs1 fun x hx => k x (List.mem_cons_of_mem _ hx)) fun p hp => ?_
    obtain ⟨h1, h2, h3⟩ := hp
    refine ok_some ⟨by simp [h1], fun z hz => ?_, h3⟩
    rcases List.mem_cons.mp hz with rfl | hz
    · exact hy
    · exact h2 z hz
theorem ok_filS {α β σ : Type} {f : σ → α → Option (Option β × σ)} {R : β → Prop} {J : σ → Prop} {xs : List α} {s : σ} (hl : xs.length ≤ sizeLine) (h : J s) (k : ∀ x ∈ xs, ∀ s, J s → Ok (f s x) fun p => (∃ y, p.1 = some y ∧ R y) ∧ J p.2) : Ok (filS f xs s) fun p => p.1.length = xs.length ∧ (∀ y ∈ p.1, R y) ∧ J p.2 := by
  unfold filS; rw [if_pos hl]; exact ok_filS' xs s h k
theorem putO_nat {α : Type} {xs : List α} {i : Int} {x : α} (h1 : 0 ≤ i) (h2 : i < xs.length) : putO xs i x = some (xs.set i.toNat x) := by
  unfold putO ixN
  rw [if_pos h1, if_pos (by omega)]; rfl
theorem putO_last {α : Type} {xs : List α} {x : α} (h : xs ≠ []) : putO xs (-1) x = some (xs.set (xs.length - 1) x) := by
  have := List.length_pos_iff.mpr h
  unfold putO ixN
  rw [if_neg (by omega), if_pos (by omega)]
  simp only [Option.map_some]
  refine congrArg (fun n => some (xs.set n x)) ?_
  omega
theorem inDO_strs {a : Str} {l : List Str} (ha : PyData.strOk a = true) (h : ∀ x ∈ l, PyData.strOk x = true) : ∃ c, inDO (eS a) ((eL true eS) l) = some c := by
  have e1 : toPy (eS a) = some (Q.str a).py := rfl
  have e2 := toPy_L (o := true) (q := Q.str) toPy_S l
  have g : (Q.lst (l.map Q.str)).gd = true := Q.gd_of (n := 1) (Q.dps_all fun q hq => by
    obtain ⟨x, hx, rfl⟩ := List.mem_map.mp hq
    exact h x hx) (by decide)
  have g1 : (Q.str a).gd = true := Q.gd_of (n := 60) (q := .str a) ha (by decide)
  unfold Q.gd at g g1
  rw [Bool.and_eq_true] at g g1
  have e3 : (Q.lst (l.map Q.str)).py = .list (Q.pys (l.map Q.str)) := rfl
  unfold inDO
  rw [e1, e2, e3]
  dsimp only
  rw [e3] at g
  rw [if_pos ⟨g1.2, g.2⟩]
  exact ⟨_, rfl⟩
theorem inFO_words (s : Str) (l : List Str) : ∃ c, inFO (eS s) (eQ (Q.tup (l.map Q.str))) = some c := by
  have e : eQ (Q.tup (l.map Q.str)) = .tup (l.map D.str) := by rw [eQ, eQs_map, List.map_map]; rfl
  have hf : (l.map D.str).all flatD = true := by rw [List.all_map]; exact List.all_eq_true.mpr fun _ _ => rfl
  unfold inFO inF
  rw [e]
  show ∃ c, (match (if flatD (.str s) = true ∧ (l.map D.str).all flatD = true then _ else none : Option D) with
    | some (.bl r) => some r
    | _ => none) = some c
  rw [if_pos ⟨rfl, hf⟩]
  exact ⟨_, rfl⟩
theorem wordlist_ok {i : Int} (h1 : 0 ≤ i) (h2 : i < 10) : Ok (ixO [("ends" : Str), ("elseif" : Str), ("wider" : Str), ("boxesa" : Str), ("timesx" : Str), ("chooser" : Str), ("is" : Str), ("op" : Str), ("en" : Str), ("tim" : Str)] i) Nm := by
  have : i = 0 ∨ i = 1 ∨ i = 2 ∨ i = 3 ∨ i = 4 ∨ i = 5 ∨ i = 6 ∨ i = 7 ∨ i = 8 ∨ i = 9 := by omega
  have k : ∀ s : Str, PyData.strOk s = true ∧ s.length ≤ 20 → Nm s := fun s h => ⟨h.1, h.2⟩
  rcases this with rfl | rfl | rfl | rfl | rfl | rfl | rfl | rfl | rfl | rfl
  · exact ⟨"ends", rfl, k _ (by decide +kernel)⟩
  · exact ⟨"elseif", rfl, k _ (by decide +kernel)⟩
  · exact ⟨"wider", rfl, k _ (by decide +kernel)⟩
  · exact ⟨"boxesa", rfl, k _ (by decide +kernel)⟩
  · exact ⟨"timesx", rfl, k _ (by decide +kernel)⟩
  · exact ⟨"chooser", rfl, k _ (by decide +kernel)⟩
  · exact ⟨"is", rfl, k _ (by decide +kernel)⟩
  · exact ⟨"op", rfl, k _ (by decide +kernel)⟩
  · exact ⟨"en", rfl, k _ (by decide +kernel)⟩
  · exact ⟨"tim", rfl, k _ (by decide +kernel)⟩
theorem rep_a {n : Int} (h1 : 0 ≤ n) (h2 : n ≤ 1) : ∃ t, repSO ("a" : Str) n = some t ∧ PyData.strOk t = true ∧ t.length ≤ 1 := by
  have : n = 0 ∨ n = 1 := by omega
  rcases this with rfl | rfl
  · exact ⟨repS "a" 0, by decide +kernel, by decide +kernel, by decide +kernel⟩
  · exact ⟨repS "a" 1, by decide +kernel, by decide +kernel, by decide +kernel⟩
theorem names_ok {p : List Int} (h : Pu p) : Ok (f_names p) fun r => Pu r.2 ∧ ∃ ns : List Str, r.1 = bxQ ns ∧ 1 ≤ ns.length ∧ ns.length ≤ 6 ∧ ∀ s ∈ ns, Nm s := by
  unfold f_names
  rw [Option.bind_some]
  refine nx h (by decide) (by decide) fun r p1 a1 a2 a3 => ?_
  refine nx a3 (by omega) (by omega) fun r1 p2 b1 b2 b3 => ?_
  dsimp only
  rw [Option.bind_some, rngO_eq (by decide) (by decide) (by omega) (by omega), Option.bind_some]
  refine ok_bind (ok_filS (R := Lt) (J := Pu) (by rw [rng_length, sz]; omega) b3 fun x _ s hs => ?_) fun q hq => ?_
  · refine nx hs (by decide) (by decide) fun r4 p4 c1 c2 c3 => ?_
    dsimp only
    rw [abc_ix c1 c2, Option.bind_some]
    exact ok_some ⟨⟨_, rfl, _, rfl, by omega, by omega⟩, c3⟩
  obtain ⟨l, s1⟩ := q
  obtain ⟨l1, l2, l3⟩ := hq
  simp only at l1 l2 l3
  rw [rng_length] at l1
  refine nx l3 (by omega) (by omega) fun r5 p5 d1 d2 d3 => ?_
  refine nx d3 (by decide) (by decide) fun r6 p6 e1 e2 e3 => ?_
  dsimp only
  rw [Option.bind_some]
  refine nx e3 (by decide) (by decide) fun r7 p7 f1 f2 f3 => ?_
  dsimp only
  rw [rngO_eq (by decide) (by decide) (by omega) (by omega), Option.bind_some]
  refine ok_bind (p := fun s : List Str × List Str => s.2.length = (rng 0 (1 + r7)).length ∧ ∀ x ∈ s.2, Nm x) ?_ fun s hs => ?_
  · refine ok_mono (ok_forO (fun pre (s : List Str × List Str) => s.1.length = l.length ∧ (∀ x ∈ s.1, Lt x) ∧ s.2.length = pre.length ∧ ∀ x ∈ s.2, Nm x) ⟨rfl, l2, rfl, by simp⟩ fun pre x post s e hs => ?_) fun s hs => ⟨hs.2.2.1, hs.2.2.2⟩
    obtain ⟨lt, nm⟩ := s
    obtain ⟨g1, g2, g3, g4⟩ := hs
    simp only at g1 g2 g3 g4
    have hx : x ∈ rng 0 (1 + r7) := by rw [e]; simp
    rw [rng_mem] at hx
    rw [mulO_eq (.inl (by decide)), Option.bind_some, modO_eq (by decide), Option.bind_some, abc_ix (Int.emod_nonneg _ (by decide)) (Int.emod_lt_of_pos _ (by decide)), Option.bind_some]
    show Ok (Option.bind (putO lt r5 _) _) _
    have hsp : r5.toNat < lt.length := by omega
    rw [putO_nat d1 (by omega), Option.bind_some]
    generalize hlt : lt.set r5.toNat _ = lt2
    have q1 : lt2.length = l.length := by rw [← hlt, List.length_set]; exact g1
    have q2 : ∀ y ∈ lt2, Lt y := by
      intro y hy
      rw [← hlt] at hy
      rcases List.mem_or_eq_of_mem_set hy with hy | hy
      · exact g2 y hy
      · refine ⟨_, hy, ?_, ?_⟩
        · omega
        · have := Int.emod_lt_of_pos (r6 + 5 * x) (b := 26) (by decide)
          have := Int.emod_nonneg (r6 + 5 * x) (b := 26) (by decide)
          omega
    have q3 : ∀ y ∈ lt2, y.length ≤ 1 := fun y hy => by
      obtain ⟨c, rfl, _⟩ := q2 y hy
      exact Nat.le_refl _
    have le : ("" : Str).length = 0 := by decide +kernel
    rw [joinS_eq q3 (by rw [le]; omega), Option.bind_some]
    have jl : (Txt.join ("" : Str) lt2).length ≤ 8 := by
      have := join_len (a := ("" : Str)) q3
      rw [le] at this; omega
    have jo : PyData.strOk (Txt.join ("" : Str) lt2) = true := join_ok (by decide +kernel) fun y hy => by
      obtain ⟨c, rfl, _, _⟩ := q2 y hy
      exact ok_sgn (by omega)
    generalize Txt.join ("" : Str) lt2 = t at jl jo
    have m1 := Int.emod_nonneg x (b := 2) (by decide)
    have m2 := Int.emod_lt_of_pos x (b := 2) (by decide)
    rw [modO_eq (by decide), Option.bind_some, mulO_eq (.inr (by omega)), Option.bind_some]
    have hr : r * (x % 2) = 0 ∨ r * (x % 2) = 1 := by
      have hr : r = 0 ∨ r = 1 := by omega
      have hx2 : x % 2 = 0 ∨ x % 2 = 1 := by omega
      rcases hr with rfl | rfl
      · left; simp
      · rcases hx2 with h | h <;> rw [h] <;> simp
    obtain ⟨t1, k1, k2, k3⟩ := rep_a (n := r * (x % 2)) (by omega) (by omega)
    rw [k1, Option.bind_some, catS_eq (by rw [sz]; omega), Option.bind_some]
    have o2 : PyData.strOk (t ++ t1) = true := ok_app' jo k2
    have n2 : (t ++ t1).length ≤ 9 := by rw [len_app]; omega
    generalize t ++ t1 = t2 at o2 n2
    obtain ⟨c, hc⟩ := inFO_words t2 [("wide" : Str), ("boxes" : Str), ("choose" : Str), ("else" : Str), ("end" : Str), ("times" : Str)]
    show Ok (Option.bind (inFO (eS t2) (eQ (Q.tup ([("wide" : Str), ("boxes" : Str), ("choose" : Str), ("else" : Str), ("end" : Str), ("times" : Str)].map Q.str)))) _) _
    rw [hc, Option.bind_some]
    refine ok_bind (p := Nm) ?_ fun nme hn => ?_
    · refine ok_iff (fun _ => ?_) fun _ => ok_some ⟨o2, by omega⟩
      have lq : ("q" : Str).length = 1 := by decide +kernel
      rw [catS_eq (by rw [lq, sz]; omega), Option.bind_some]
      exact ok_some ⟨ok_app' o2 (by decide +kernel), by rw [len_app, lq]; omega⟩
    · have hpl := congrArg List.length e
      rw [rng_length, List.length_append, List.length_cons] at hpl
      show Ok (Option.bind (appO nm nme) _) _
      rw [appO_eq (by rw [sz]; omega), Option.bind_some]
      refine ok_some ⟨q1, q2, by simp [g3], fun y hy => ?_⟩
      rcases List.mem_append.mp hy with hy | hy
      · exact g4 y hy
      · rw [List.mem_singleton.mp hy]; exact hn
  obtain ⟨lt, nm⟩ := s
  obtain ⟨g1, g2⟩ := hs
  simp only at g1 g2
  rw [rng_length] at g1
  refine nx f3 (by decide) (by decide) fun r9 p8 i1 i2 i3 => ?_
  refine ok_bind (wordlist_ok i1 i2) fun x6 hx6 => ?_
  refine nx i3 (by decide) (by decide) fun r10 p9 j1 j2 j3 => ?_
  dsimp only
  refine ok_bind (p := fun _ => True) ?_ fun c2 _ => ?_
  · refine ok_iff (fun _ => ?_) fun _ => ok_some trivial
    obtain ⟨c, hc⟩ := inDO_strs hx6.ok fun x hx => (g2 x hx).ok
    rw [hc, Option.bind_some]
    exact ok_some trivial
  refine ok_bind (p := fun n3 : List Str => 1 ≤ n3.length ∧ n3.length ≤ 6 ∧ ∀ s ∈ n3, Nm s) ?_ fun n3 hn3 => ok_some ⟨j3, n3, rfl, hn3⟩
  refine ok_iff (fun _ => ?_) fun _ => ok_some ⟨by omega, by omega, g2⟩
  have hne : nm ≠ [] := by
    intro e0
    subst e0
    simp at g1; omega
  rw [putO_last hne, Option.bind_some]
  refine ok_some ⟨by rw [List.length_set]; omega, by rw [List.length_set]; omega, fun y hy => ?_⟩
  rcases List.mem_or_eq_of_mem_set hy with hy | hy
  · exact g2 y hy
  · rw [hy]; exact hx6
theorem program_ok (xs : List Int) : Ok (f_program xs) fun r => ∃ (w : Nat) (ns : List Str) (rs : List Rw), r = ((w : Int), bxQ ns, .tup (qRs rs)) ∧ 1 ≤ w ∧ w ≤ 16 ∧ 1 ≤ ns.length ∧ ns.length ≤ 6 ∧ (∀ s ∈ ns, Nm s) ∧ wRs rs ≤ 120 ∧ nRs rs ≤ 51 ∧ depRs rs ≤ 5 ∧ okRs (· ∈ ns) (2 ^ w) rs := by
  unfold f_program
  refine ok_bind (purse_ok (by decide) (by decide)) fun r hr => ?_
  refine nx hr (by decide) (by decide) fun r1 p1 a1 a2 a3 => ?_
  dsimp only
  rw [Option.bind_some]
  obtain ⟨w, hw⟩ : ∃ w : Nat, (1 : Int) + r1 = (w : Int) ∧ 1 ≤ w ∧ w ≤ 16 := ⟨(1 + r1).toNat, by omega, by omega, by omega⟩
  obtain ⟨ew, w1, w2⟩ := hw
  refine ok_bind (purse_ok (by decide) (by decide)) fun r2 hr2 => ?_
  refine ok_bind (names_ok hr2) fun q hq => ?_
  obtain ⟨r3, z⟩ := q
  obtain ⟨_, ns, rfl, n1, n2, n3⟩ := hq
  refine nx a3 (by decide) (by decide) fun r4 p4 b1 b2 b3 => ?_
  dsimp only
  rw [Option.bind_some]
  refine nx b3 (by decide) (by decide) fun r5 p5 c1 c2 c3 => ?_
  dsimp only
  refine ok_bind (p := fun s : List Int × Int => ∃ m : Nat, s.2 = (m : Int) ∧ m ≤ 51) ?_ fun s hs => ?_
  · refine ok_iff (fun _ => ?_) fun _ => ?_
    · refine nx c3 (by decide) (by decide) fun r6 p6 d1 d2 d3 => ok_some ⟨r6.toNat, by show r6 = _; omega, by omega⟩
    · have hl : (cutL xs (some 6) (some 57)).length ≤ 51 := by
        rw [cut_mid (by decide) (by decide), List.length_take]
        have : (57 : Int).toNat - (6 : Int).toNat = 51 := by decide
        omega
      refine ok_some ⟨(imax ((cutL xs (some 6) (some 57)).length : Int) (3 + r4)).toNat, ?_, ?_⟩
      · show imax _ _ = _
        unfold imax; split <;> omega
      · unfold imax; split <;> omega
  obtain ⟨p6, m⟩ := s
  obtain ⟨m, rfl, hm⟩ := hs
  rw [ew]
  refine ok_bind (rows_ok w2 n1 (by omega) (fun s hs => (n3 s hs).ok) (by omega)) fun q hq => ?_
  obtain ⟨rs, rfl, k1, k2, k3, k4⟩ := hq
  exact ok_some ⟨w, ns, rs, rfl, w1, w2, n1, n2, n3, k1, by omega, k3, k4⟩
/-! ### rounds written out -/
mutual
def outR : Rw → List Rw
  | .is x a => [.is x a]
  | .op x s a b => [.op x s a b]
  | .cho a xs ys => [.cho a (outRs xs) (outRs ys)]
  | .tim k xs => (List.replicate k (outRs xs)).flatten
def outRs : List Rw → List Rw
  | [] => []
  | r :: rs => outR r ++ outRs rs
end
theorem out_app : ∀ a b : List Rw, outRs (a ++ b) = outRs a ++ outRs b
  | [], b => by rw [List.nil_append, outRs, List.nil_append]
  | r :: a, b => by rw [List.cons_append, outRs, outRs, out_app a b, List.append_assoc]
theorem n_pos (r : Rw) : 1 ≤ r.n := by cases r <;> simp [Rw.n] <;> omega
theorem n_mem : ∀ {rs : List Rw} {r : Rw}, r ∈ rs → r.n ≤ nRs rs
  | x :: rs, r, h => by
    rw [nRs]
    rcases List.mem_cons.mp h with rfl | h
    · omega
    · have := n_mem h; omega
mutual
theorem outR_len {B : Str → Prop} {M : Nat} : ∀ (r : Rw) (d : Nat), r.ok B M → r.dep ≤ d → (outR r).length ≤ 20 ^ d * r.n
  | .is x a, d, _, _ => by
    have : 1 ≤ 20 ^ d := Nat.one_le_pow _ _ (by decide)
    simp only [outR, Rw.n, List.length_cons, List.length_nil]; omega
  | .op x s a b, d, _, _ => by
    have : 1 ≤ 20 ^ d := Nat.one_le_pow _ _ (by decide)
    simp only [outR, Rw.n, List.length_cons, List.length_nil]; omega
  | .cho a xs ys, d, _, _ => by
    have h1 : 1 ≤ 20 ^ d := Nat.one_le_pow _ _ (by decide)
    simp only [outR, Rw.n, List.length_cons, List.length_nil]
    have : 1 * 1 ≤ 20 ^ d * (1 + nRs xs + nRs ys) := Nat.mul_le_mul h1 (by omega)
    omega
  | .tim k xs, 0, _, h => by simp [Rw.dep] at h
  | .tim k xs, d + 1, ho, h => by
    have ih := outRs_len xs d ho.2 (by rw [Rw.dep] at h; omega)
    simp only [outR, Rw.n, List.length_flatten, List.map_replicate, List.sum_replicate_nat]
    have h1 : k * (outRs xs).length ≤ 20 * (20 ^ d * nRs xs) := Nat.mul_le_mul ho.1 ih
    have h2 : 20 ^ (d + 1) * (1 + nRs xs) = 20 ^ (d + 1) + 20 * (20 ^ d * nRs xs) := by
      rw [Nat.mul_add, Nat.mul_one, Nat.pow_succ, Nat.mul_comm (20 ^ d) 20, Nat.mul_assoc]
    rw [h2]
    exact Nat.le_trans h1 (Nat.le_add_left _ _)
theorem outRs_len {B : Str → Prop} {M : Nat} : ∀ (rs : List Rw) (d : Nat), okRs B M rs → depRs rs ≤ d → (outRs rs).length ≤ 20 ^ d * nRs rs
  | [], d, _, _ => by simp [outRs]
  | r :: rs, d, ho, h => by
    rw [depRs] at h
    have h1 := outR_len r d ho.1 (Nat.le_trans (Nat.le_max_left _ _) h)
    have h2 := outRs_len rs d ho.2 (Nat.le_trans (Nat.le_max_right _ _) h)
    rw [outRs, List.length_append, nRs, Nat.mul_add]; omega
end
mutual
theorem n_outR : ∀ r : Rw, nRs (outR r) = r.w
  | .is x a => by simp [outR, nRs, Rw.n, Rw.w]
  | .op x s a b => by simp [outR, nRs, Rw.n, Rw.w]
  | .cho a xs ys => by
    simp only [outR, nRs, Rw.n, Rw.w, n_outRs xs, n_outRs ys, Nat.add_zero]
  | .tim k xs => by
    rw [outR, Rw.w, ← n_outRs xs]
    induction k with
    | zero => simp [nRs]
    | succ k ih => rw [List.replicate_succ, List.flatten_cons, n_app, ih, Nat.succ_mul, Nat.add_comm]
theorem n_outRs : ∀ rs : List Rw, nRs (outRs rs) = wRs rs
  | [] => rfl
  | r :: rs => by rw [outRs, n_app, n_outR r, n_outRs rs, wRs]
end
mutual
theorem dep_outR : ∀ r : Rw, depRs (outR r) ≤ r.dep
  | .is x a => by simp [outR, depRs, Rw.dep]
  | .op x s a b => by simp [outR, depRs, Rw.dep]
  | .cho a xs ys => by
    have h1 := dep_outRs xs
    have h2 := dep_outRs ys
    simp only [outR, depRs, Rw.dep]
    have : max (depRs (outRs xs)) (depRs (outRs ys)) ≤ max (depRs xs) (depRs ys) := Nat.max_le.mpr ⟨Nat.le_trans h1 (Nat.le_max_left _ _), Nat.le_trans h2 (Nat.le_max_right _ _)⟩
    omega
  | .tim k xs => by
    have h1 := dep_outRs xs
    rw [outR, Rw.dep]
    refine dep_le fun r hr => ?_
    obtain ⟨l, hl, hr⟩ := List.mem_flatten.mp hr
    rw [(List.mem_replicate.mp hl).2] at hr
    have := dep_mem hr
    omega
theorem dep_outRs : ∀ rs : List Rw, depRs (outRs rs) ≤ depRs rs
  | [] => Nat.le_refl _
  | r :: rs => by
    rw [outRs, depRs]
    exact dep_app (Nat.le_trans (dep_outR r) (Nat.le_max_left _ _)) (Nat.le_trans (dep_outRs rs) (Nat.le_max_right _ _))
end
mutual
theorem ok_outR {B : Str → Prop} {M : Nat} : ∀ r : Rw, r.ok B M → okRs B M (outR r)
  | .is x a, h => ⟨h, trivial⟩
  | .op x s a b, h => ⟨h, trivial⟩
  | .cho a xs ys, h => by
    rw [outR]
    exact ⟨⟨h.1, ok_outRs xs h.2.1, ok_outRs ys h.2.2⟩, trivial⟩
  | .tim k xs, h => by
    rw [outR]
    refine ok_mem.mpr fun r hr => ?_
    obtain ⟨l, hl, hr⟩ := List.mem_flatten.mp hr
    rw [(List.mem_replicate.mp hl).2] at hr
    exact ok_mem.mp (ok_outRs xs h.2) r hr
theorem ok_outRs {B : Str → Prop} {M : Nat} : ∀ rs : List Rw, okRs B M rs → okRs B M (outRs rs)
  | [], _ => trivial
  | r :: rs, h => by
    rw [outRs]
    exact ok_app (ok_outR r h.1) (ok_outRs rs h.2)
end
/-! no round is left -/
mutual
def Rw.nt : Rw → Prop
  | .is _ _ => True
  | .op _ _ _ _ => True
  | .cho _ xs ys => ntRs xs ∧ ntRs ys
  | .tim _ _ => False
def ntRs : List Rw → Prop
  | [] => True
  | r :: rs => r.nt ∧ ntRs rs
end
theorem nt_mem : ∀ {rs : List Rw}, ntRs rs ↔ ∀ r ∈ rs, r.nt
  | [] => ⟨fun _ r hr => by simp at hr, fun _ => trivial⟩
  | x :: rs => by
    rw [ntRs, nt_mem (rs := rs)]
    simp
mutual
theorem nt_outR : ∀ r : Rw, ntRs (outR r)
  | .is x a => ⟨trivial, trivial⟩
  | .op x s a b => ⟨trivial, trivial⟩
  | .cho a xs ys => by
    rw [outR]
    exact ⟨⟨nt_outRs xs, nt_outRs ys⟩, trivial⟩
  | .tim k xs => by
    rw [outR]
    refine nt_mem.mpr fun r hr => ?_
    obtain ⟨l, hl, hr⟩ := List.mem_flatten.mp hr
    rw [(List.mem_replicate.mp hl).2] at hr
    exact nt_mem.mp (nt_outRs xs) r hr
theorem nt_outRs : ∀ rs : List Rw, ntRs (outRs rs)
  | [] => trivial
  | r :: rs => by
    rw [outRs]
    refine nt_mem.mpr fun z hz => ?_
    rcases List.mem_append.mp hz with h | h
    · exact nt_mem.mp (nt_outR r) z h
    · exact nt_mem.mp (nt_outRs rs) z h
end
/-- a program's rows: what is needed of them -/
structure Prg (B : Str → Prop) (M : Nat) (rs : List Rw) : Prop where
  ok : okRs B M rs
  dep : depRs rs ≤ 5
  n : nRs rs ≤ 51
  w : depRs rs ≤ 4 ∨ wRs rs ≤ 120
theorem out_le {B : Str → Prop} {M : Nat} {rs : List Rw} (h : Prg B M rs) : (outRs rs).length ≤ 8200000 := by
  rcases h.w with h1 | h1
  · have := outRs_len rs 4 h.ok h1
    have : 20 ^ 4 * nRs rs ≤ 20 ^ 4 * 51 := Nat.mul_le_mul_left _ h.n
    omega
  · have := len_n (outRs rs)
    rw [n_outRs] at this
    omega
theorem prg_cho {B : Str → Prop} {M : Nat} {rs : List Rw} {a : At} {xs ys : List Rw} (h : Prg B M rs) (hm : Rw.cho a xs ys ∈ rs) : Prg B M xs ∧ Prg B M ys ∧ depRs xs + 1 ≤ depRs rs ∧ depRs ys + 1 ≤ depRs rs := by
  have h1 := ok_mem.mp h.ok _ hm
  have h2 := dep_mem hm
  have h3 := n_mem hm
  rw [Rw.dep] at h2
  rw [Rw.n] at h3
  have := h.dep
  have := h.n
  have := Nat.le_max_left (depRs xs) (depRs ys)
  have := Nat.le_max_right (depRs xs) (depRs ys)
  exact ⟨⟨h1.2.1, by omega, by omega, .inl (by omega)⟩, ⟨h1.2.2, by omega, by omega, .inl (by omega)⟩, by omega, by omega⟩
theorem prg_tim {B : Str → Prop} {M : Nat} {rs : List Rw} {k : Nat} {xs : List Rw} (h : Prg B M rs) (hm : Rw.tim k xs ∈ rs) : Prg B M xs ∧ depRs xs + 1 ≤ depRs rs ∧ k ≤ 20 := by
  have h1 := ok_mem.mp h.ok _ hm
  have h2 := dep_mem hm
  have h3 := n_mem hm
  rw [Rw.dep] at h2
  rw [Rw.n] at h3
  have := h.dep
  have := h.n
  exact ⟨⟨h1.2, by omega, by omega, .inl (by omega)⟩, by omega, h1.1⟩
theorem qRs_flat (k : Nat) (l : List Rw) : (List.replicate k (qRs l)).flatten = qRs (List.replicate k l).flatten := by
  induction k with
  | zero => rfl
  | succ k ih => rw [List.replicate_succ, List.replicate_succ, List.flatten_cons, List.flatten_cons, ih, qRs_app]
theorem out_ok {B : Str → Prop} {M : Nat} : ∀ (n : Nat) (rs : List Rw), Prg B M rs → depRs rs ≤ n → f_out (n + 1) (.tup (qRs rs)) = some (.tup (qRs (outRs rs))) := by
  intro n
  induction n using Nat.strongRecOn with
  | _ n ih =>
  intro rs h hd
  have hle := out_le h
  rw [f_out, Option.bind_some, asX_t, Option.bind_some, qRs_map]
  refine ok_is (ok_bind (p := fun s => s = .tup (qRs (outRs rs))) ?_ fun s hs => ok_some hs)
  refine ok_forM (g := Rw.q) (fun pre (s : Q) => s = Q.tup (qRs (outRs pre))) rfl fun pre x post s e hs => ?_
  subst hs
  have hx : x ∈ rs := by rw [e]; simp
  have hlen : (outRs pre).length + (outR x).length ≤ 8200000 := by
    have e2 : outRs rs = outRs pre ++ (outR x ++ outRs post) := by rw [e, out_app, outRs]
    rw [e2, List.length_append, List.length_append] at hle
    omega
  have eo : outRs (pre ++ [x]) = outRs pre ++ outR x := by rw [out_app, outRs, outRs, List.append_nil]
  have fin : ∀ l : List Rw, l = outR x → catQ (.tup (qRs (outRs pre))) (.tup (qRs l)) = some (.tup (qRs (outRs (pre ++ [x])))) := by
    intro l hl
    rw [catQ_t (by rw [qRs_len, qRs_len, sz, hl]; omega), eo, qRs_app, hl]
  rw [r_0, Option.bind_some, e_tim, Option.bind_some]
  refine ok_bind (p := fun s => s = .tup (qRs (outRs (pre ++ [x])))) ?_ fun s hs => ok_some hs
  cases x with
  | tim k xs =>
    obtain ⟨p1, p2, p3⟩ := prg_tim h hx
    obtain ⟨m, rfl⟩ : ∃ m, n = m + 1 := ⟨n - 1, by omega⟩
    have i2 : ixQ (Rw.tim k xs).q 2 = some (.tup (qRs xs)) := by rw [Rw.q]; exact ix_2
    have i1 : ixQ (Rw.tim k xs).q 1 = some (.int (k : Int)) := by rw [Rw.q]; exact ix_1
    have hk : (outRs xs).length * k ≤ 8200000 := by
      have : (outR (.tim k xs)).length = k * (outRs xs).length := by simp [outR, List.sum_replicate_nat]
      rw [Nat.mul_comm]; omega
    have er : repQ (.tup (qRs (outRs xs))) (k : Int) = some (.tup (qRs (outR (.tim k xs)))) := by
      show (if _ then some _ else none) = _
      rw [if_pos ⟨by omega, by omega, by rw [qRs_len, Int.toNat_natCast, sz]; omega⟩, Int.toNat_natCast, qRs_flat]
      rw [outR]
    show Ok (if true = true then _ else _) _
    rw [if_pos rfl, i2, Option.bind_some, ih m (by omega) xs p1 (by omega), Option.bind_some, i1, Option.bind_some, asI_i, Option.bind_some, er, Option.bind_some, fin _ rfl, Option.bind_some]
    exact ok_some rfl
  | cho a xs ys =>
    obtain ⟨p1, p2, p3, p4⟩ := prg_cho h hx
    obtain ⟨m, rfl⟩ : ∃ m, n = m + 1 := ⟨n - 1, by omega⟩
    have i1 : ixQ (Rw.cho a xs ys).q 1 = some a.q := by rw [Rw.q]; exact ix_1
    have i2 : ixQ (Rw.cho a xs ys).q 2 = some (.tup (qRs xs)) := by rw [Rw.q]; exact ix_2
    have i3 : ixQ (Rw.cho a xs ys).q 3 = some (.tup (qRs ys)) := by rw [Rw.q]; exact ix_3
    have eq1 : (Q.tup [(Q.tup [(Q.str ("choose" : Str)), a.q, .tup (qRs (outRs xs)), .tup (qRs (outRs ys))])]) = .tup (qRs (outR (.cho a xs ys))) := by rw [outR, qRs, qRs, Rw.q]
    show Ok (if false = true then _ else _) _
    rw [if_neg Bool.false_ne_true, Option.bind_some, e_cho, Option.bind_some]
    refine ok_bind (p := fun s => s = .tup (qRs (outRs (pre ++ [Rw.cho a xs ys])))) ?_ fun s hs => ok_some hs
    show Ok (if true = true then _ else _) _
    rw [if_pos rfl, i1, Option.bind_some, i2, Option.bind_some, ih m (by omega) xs p1 (by omega), Option.bind_some, i3, Option.bind_some, ih m (by omega) ys p2 (by omega), Option.bind_some, eq1, fin _ rfl, Option.bind_some]
    exact ok_some rfl
  | is x' a =>
    have eq1 : (Q.tup [(Rw.is x' a).q]) = .tup (qRs (outR (.is x' a))) := by rw [outR, qRs, qRs]
    show Ok (if false = true then _ else _) _
    rw [if_neg Bool.false_ne_true, Option.bind_some, e_cho, Option.bind_some]
    refine ok_bind (p := fun s => s = .tup (qRs (outRs (pre ++ [Rw.is x' a])))) ?_ fun s hs => ok_some hs
    show Ok (if false = true then _ else _) _
    rw [if_neg Bool.false_ne_true, eq1, fin _ rfl, Option.bind_some]
    exact ok_some rfl
  | op x' s' a b =>
    have eq1 : (Q.tup [(Rw.op x' s' a b).q]) = .tup (qRs (outR (.op x' s' a b))) := by rw [outR, qRs, qRs]
    show Ok (if false = true then _ else _) _
    rw [if_neg Bool.false_ne_true, Option.bind_some, e_cho, Option.bind_some]
    refine ok_bind (p := fun s => s = .tup (qRs (outRs (pre ++ [Rw.op x' s' a b])))) ?_ fun s hs => ok_some hs
    show Ok (if false = true then _ else _) _
    rw [if_neg Bool.false_ne_true, eq1, fin _ rfl, Option.bind_some]
    exact ok_some rfl
theorem rep_loop {l : List Rw} {pre : List Rw} {k : Nat} (hk : k ≤ 20) (hl : pre.length + k * l.length ≤ 8200000) : forO (fun (s1 : List (Q)) (x4 : Int) =>
          Option.bind (catO s1 (qRs l)) fun found1 =>
          some found1
        ) (rng 0 (k : Int)) (qRs pre) = some (qRs (pre ++ (List.replicate k l).flatten)) := by
  have hr : (rng 0 (k : Int)).length = k := by rw [rng_length]; omega
  refine ok_is (ok_mono (ok_forO (fun p (s : List Q) => s = qRs (pre ++ (List.replicate p.length l).flatten)) (by simp) fun p x post s e hs => ?_) fun r h => by rw [hr] at h; exact h)
  subst hs
  have hp : p.length + 1 ≤ k := by
    have := congrArg List.length e
    rw [hr, List.length_append, List.length_cons] at this; omega
  have hm : (p.length + 1) * l.length ≤ k * l.length := Nat.mul_le_mul_right _ hp
  have hc : catO (qRs (pre ++ (List.replicate p.length l).flatten)) (qRs l) = some (qRs (pre ++ (List.replicate (p.length + 1) l).flatten)) := by
    rw [catO_eq (by rw [qRs_len, qRs_len, List.length_append, List.length_flatten, List.map_replicate, List.sum_replicate_nat, sz]; rw [Nat.succ_mul] at hm; omega), ← qRs_app, List.append_assoc]
    refine congrArg (fun z => some (qRs (pre ++ z))) ?_
    rw [List.replicate_succ', List.flatten_append]
    simp
  rw [hc, Option.bind_some]
  exact ok_some (by simp)
theorem wo_ok {B : Str → Prop} {M : Nat} : ∀ (n : Nat) (rs : List Rw), Prg B M rs → depRs rs ≤ n → f_written_out (n + 1) (.tup (qRs rs)) = some (qRs (outRs rs)) := by
  intro n
  induction n using Nat.strongRecOn with
  | _ n ih =>
  intro rs h hd
  have hle := out_le h
  rw [f_written_out, Option.bind_some, asX_t, Option.bind_some, qRs_map]
  refine ok_is (ok_bind (p := fun s => s = qRs (outRs rs)) ?_ fun s hs => ok_some hs)
  refine ok_forM (g := Rw.q) (fun pre (s : List Q) => s = qRs (outRs pre)) rfl fun pre x post s e hs => ?_
  subst hs
  have hx : x ∈ rs := by rw [e]; simp
  have hlen : (outRs pre).length + (outR x).length ≤ 8200000 := by
    have e2 : outRs rs = outRs pre ++ (outR x ++ outRs post) := by rw [e, out_app, outRs]
    rw [e2, List.length_append, List.length_append] at hle
    omega
  have eo : outRs (pre ++ [x]) = outRs pre ++ outR x := by rw [out_app, outRs, outRs, List.append_nil]
  have one : ∀ y : Rw, outR x = [y] → appO (qRs (outRs pre)) y.q = some (qRs (outRs (pre ++ [x]))) := by
    intro y hy
    rw [appO_eq (by rw [qRs_len, sz]; omega), eo, qRs_app, hy]; rfl
  rw [r_0, Option.bind_some, e_tim, Option.bind_some]
  refine ok_bind (p := fun s => s = qRs (outRs (pre ++ [x]))) ?_ fun s hs => ok_some hs
  cases x with
  | tim k xs =>
    obtain ⟨p1, p2, p3⟩ := prg_tim h hx
    obtain ⟨m, rfl⟩ : ∃ m, n = m + 1 := ⟨n - 1, by omega⟩
    have i2 : ixQ (Rw.tim k xs).q 2 = some (.tup (qRs xs)) := by rw [Rw.q]; exact ix_2
    have i1 : ixQ (Rw.tim k xs).q 1 = some (.int (k : Int)) := by rw [Rw.q]; exact ix_1
    have hk : (outR (.tim k xs)).length = k * (outRs xs).length := by simp [outR, List.sum_replicate_nat]
    show Ok (if true = true then _ else _) _
    rw [if_pos rfl, i2, Option.bind_some, ih m (by omega) xs p1 (by omega), Option.bind_some, i1, Option.bind_some, asI_i, Option.bind_some, rngO_eq (by decide) (by decide) (by omega) (by omega), Option.bind_some, rep_loop p3 (by omega), Option.bind_some]
    rw [eo, outR]
    exact ok_some rfl
  | cho a xs ys =>
    obtain ⟨p1, p2, p3, p4⟩ := prg_cho h hx
    obtain ⟨m, rfl⟩ : ∃ m, n = m + 1 := ⟨n - 1, by omega⟩
    have i2 : ixQ (Rw.cho a xs ys).q 2 = some (.tup (qRs xs)) := by rw [Rw.q]; exact ix_2
    have i3 : ixQ (Rw.cho a xs ys).q 3 = some (.tup (qRs ys)) := by rw [Rw.q]; exact ix_3
    have ec : cutQ (Rw.cho a xs ys).q none (some 2) = some (.tup [.str "choose", a.q]) := by
      rw [Rw.q]
      show some (Q.tup (cutL [_, _, _, _] none (some 2))) = _
      rw [cut_hi (by decide)]; rfl
    have ek : catQ (.tup [.str "choose", a.q]) (Q.tup [(Q.tup (qRs (outRs xs))), (Q.tup (qRs (outRs ys)))]) = some (Rw.cho a (outRs xs) (outRs ys)).q := by
      rw [catQ_t (by simp [sz]), Rw.q]; rfl
    show Ok (if false = true then _ else _) _
    rw [if_neg Bool.false_ne_true, Option.bind_some, e_cho, Option.bind_some]
    refine ok_bind (p := fun s => s = qRs (outRs (pre ++ [Rw.cho a xs ys]))) ?_ fun s hs => ok_some hs
    show Ok (if true = true then _ else _) _
    rw [if_pos rfl, ec, Option.bind_some, i2, Option.bind_some, ih m (by omega) xs p1 (by omega), Option.bind_some, i3, Option.bind_some, ih m (by omega) ys p2 (by omega), Option.bind_some, ek, Option.bind_some, one _ (by rw [outR]), Option.bind_some]
    exact ok_some rfl
  | is x' a =>
    show Ok (if false = true then _ else _) _
    rw [if_neg Bool.false_ne_true, Option.bind_some, e_cho, Option.bind_some]
    refine ok_bind (p := fun s => s = qRs (outRs (pre ++ [Rw.is x' a]))) ?_ fun s hs => ok_some hs
    show Ok (if false = true then _ else _) _
    rw [if_neg Bool.false_ne_true, one _ (by rw [outR]), Option.bind_some]
    exact ok_some rfl
  | op x' s' a b =>
    show Ok (if false = true then _ else _) _
    rw [if_neg Bool.false_ne_true, Option.bind_some, e_cho, Option.bind_some]
    refine ok_bind (p := fun s => s = qRs (outRs (pre ++ [Rw.op x' s' a b]))) ?_ fun s hs => ok_some hs
    show Ok (if false = true then _ else _) _
    rw [if_neg Bool.false_ne_true, one _ (by rw [outR]), Option.bind_some]
    exact ok_some rfl
/-! ### rows counted -/
theorem within_ok (r : Rw) (hn : r.n ≤ 10000) : ∃ rs, f_rows_within r.q = some (.tup (qRs rs)) ∧ 1 + nRs rs = r.n ∧ depRs rs ≤ r.dep - 1 ∧ (r.dep = 0 → depRs rs = 0 ∧ rs = []) := by
  unfold f_rows_within
  rw [r_0, Option.bind_some, e_cho, Option.bind_some]
  cases r with
  | cho a xs ys =>
    have i2 : ixQ (Rw.cho a xs ys).q 2 = some (.tup (qRs xs)) := by rw [Rw.q]; exact ix_2
    have i3 : ixQ (Rw.cho a xs ys).q 3 = some (.tup (qRs ys)) := by rw [Rw.q]; exact ix_3
    rw [Rw.n] at hn
    have := len_n xs
    have := len_n ys
    refine ⟨xs ++ ys, ?_, by rw [n_app, Rw.n]; omega, ?_, fun h => by simp [Rw.dep] at h⟩
    · show (if true = true then _ else _) = _
      rw [if_pos rfl, i2, Option.bind_some, i3, Option.bind_some, catQ_t (by rw [qRs_len, qRs_len, sz]; omega), Option.bind_some, qRs_app]
    · rw [Rw.dep, Nat.add_sub_cancel]
      exact dep_app (Nat.le_max_left _ _) (Nat.le_max_right _ _)
  | tim k xs =>
    have i2 : ixQ (Rw.tim k xs).q 2 = some (.tup (qRs xs)) := by rw [Rw.q]; exact ix_2
    refine ⟨xs, ?_, by rw [Rw.n], by rw [Rw.dep]; omega, fun h => by simp [Rw.dep] at h⟩
    show (if false = true then _ else _) = _
    rw [if_neg Bool.false_ne_true, Option.bind_some, e_tim, Option.bind_some]
    show (if true = true then _ else _) = _
    rw [if_pos rfl, i2, Option.bind_some]
  | is x a =>
    refine ⟨[], ?_, by simp [nRs, Rw.n], by simp [depRs], fun _ => ⟨rfl, rfl⟩⟩
    show (if false = true then _ else _) = _
    rw [if_neg Bool.false_ne_true, Option.bind_some, e_tim, Option.bind_some]
    rfl
  | op x s a b =>
    refine ⟨[], ?_, by simp [nRs, Rw.n], by simp [depRs], fun _ => ⟨rfl, rfl⟩⟩
    show (if false = true then _ else _) = _
    rw [if_neg Bool.false_ne_true, Option.bind_some, e_tim, Option.bind_some]
    rfl
theorem rin_loop {n : Nat} {rs : List Rw} (h : ∀ r ∈ rs, Option.bind (f_rows_within r.q) (f_rows_in n) = some ((r.n : Int) - 1)) : forO (fun (s : Int) (x : Q) =>
      Option.bind (f_rows_within x) fun r =>
      Option.bind (f_rows_in n r) fun r1 =>
      Option.bind (some (s + (1 + r1))) fun many =>
      some many
    ) (qRs rs) 0 = some (nRs rs : Int) := by
  rw [qRs_map]
  refine ok_is (ok_mono (ok_forM (g := Rw.q) (fun pre (s : Int) => s = (nRs pre : Int)) rfl fun pre x post s e hs => ?_) fun r h => h)
  subst hs
  obtain ⟨q, e1, e2⟩ := bd (h x (by rw [e]; simp))
  rw [e1, Option.bind_some, e2, Option.bind_some, Option.bind_some]
  refine ok_some ?_
  rw [n_app, nRs, nRs]
  omega
theorem rin_ok : ∀ (n : Nat) (rs : List Rw), depRs rs ≤ n → nRs rs ≤ 10000 → f_rows_in (n + 2) (.tup (qRs rs)) = some (nRs rs : Int) := by
  intro n
  induction n with
  | zero =>
    intro rs hd hn
    rw [f_rows_in, asX_t, Option.bind_some]
    rw [rin_loop fun r hr => ?_, Option.bind_some]
    have hn' := n_mem hr
    obtain ⟨ws, e1, e2, e3, e4⟩ := within_ok r (by omega)
    have h0 := dep_mem hr
    obtain ⟨_, rfl⟩ := e4 (by omega)
    rw [e1, Option.bind_some, f_rows_in, asX_t, Option.bind_some]
    rw [nRs] at e2
    show some (0 : Int) = _
    refine congrArg some ?_
    omega
  | succ n ih =>
    intro rs hd hn
    rw [f_rows_in, asX_t, Option.bind_some]
    rw [rin_loop fun r hr => ?_, Option.bind_some]
    have hn' := n_mem hr
    obtain ⟨ws, e1, e2, e3, e4⟩ := within_ok r (by omega)
    have h0 := dep_mem hr
    rw [e1, Option.bind_some, ih ws (by omega) (by omega)]
    refine congrArg some ?_
    omega
theorem weight_ok {rs : List Rw} (hd : depRs rs ≤ 5) (hn : nRs rs ≤ 10000) : f_weight (qRs rs) = some (nRs rs : Int) := by
  have h := rin_ok 10 rs (by omega) hn
  unfold f_weight
  have e : f_rows_in 12 (.lst (qRs rs)) = f_rows_in 12 (.tup (qRs rs)) := by rw [f_rows_in, f_rows_in]; rfl
  rw [e, h, Option.bind_some]
theorem count_ok : ∀ (n : Nat) (rs : List Rw), depRs rs ≤ n → ntRs rs → nRs rs ≤ 10000 → f_count (n + 1) (.tup (qRs rs)) = some (nRs rs : Int) := by
  intro n
  induction n using Nat.strongRecOn with
  | _ n ih =>
  intro rs hd ht hn
  have hl := len_n rs
  have e0 : lenQ (.tup (qRs rs)) = some (rs.length : Int) := by
    show some (((qRs rs).length : Nat) : Int) = _
    rw [qRs_len]
  rw [f_count, e0, Option.bind_some, asX_t, Option.bind_some]
  have key : ∀ r ∈ rs, (Option.bind (ixQ r.q 0) fun x1 => Option.bind (eqD (eQ x1) (eS ("choose" : Str))) fun c => if c = true then Option.bind (ixQ r.q 2) fun x2 => Option.bind (f_count n x2) fun r1 => Option.bind (ixQ r.q 3) fun x3 => Option.bind (f_count n x3) fun r2 => some (some (r1 + r2)) else some none) = some (if r.isCho = true then some ((r.n : Int) - 1) else none) := by
    intro r hr
    have h1 := dep_mem hr
    have h2 := nt_mem.mp ht r hr
    have h3 := n_mem hr
    rw [r_0, Option.bind_some, e_cho, Option.bind_some]
    cases r with
    | cho a xs ys =>
      rw [Rw.dep] at h1
      rw [Rw.n] at h3
      obtain ⟨m, rfl⟩ : ∃ m, n = m + 1 := ⟨n - 1, by omega⟩
      have := Nat.le_max_left (depRs xs) (depRs ys)
      have := Nat.le_max_right (depRs xs) (depRs ys)
      have i2 : ixQ (Rw.cho a xs ys).q 2 = some (.tup (qRs xs)) := by rw [Rw.q]; exact ix_2
      have i3 : ixQ (Rw.cho a xs ys).q 3 = some (.tup (qRs ys)) := by rw [Rw.q]; exact ix_3
      show (if true = true then _ else _) = some (if true = true then _ else _)
      rw [if_pos rfl, if_pos rfl, i2, Option.bind_some, ih m (by omega) xs (by omega) h2.1 (by omega), Option.bind_some, i3, Option.bind_some, ih m (by omega) ys (by omega) h2.2 (by omega), Option.bind_some, Rw.n]
      refine congrArg (fun z => some (some z)) ?_
      omega
    | tim k xs => exact h2.elim
    | is x a => rfl
    | op x s a b => rfl
  rw [qRs_map, filO_map, filO_eq (g := fun r : Rw => if r.isCho = true then some ((r.n : Int) - 1) else none) (by rw [sz]; omega) key, Option.bind_some]
  refine congrArg some ?_
  clear key ih hd hn hl e0
  induction rs with
  | nil => rfl
  | cons r rs ihr =>
    have ihr := ihr ht.2
    rw [List.filterMap_cons, List.length_cons, nRs]
    have hr := ht.1
    cases r with
    | cho a xs ys =>
      rw [if_pos (show (Rw.cho a xs ys).isCho = true from rfl)]
      dsimp only
      rw [List.sum_cons]
      omega
    | tim k xs => exact hr.elim
    | is x a =>
      rw [if_neg (show ¬ (Rw.is x a).isCho = true from Bool.false_ne_true)]
      dsimp only
      rw [Rw.n]
      omega
    | op x s a b =>
      rw [if_neg (show ¬ (Rw.op x s a b).isCho = true from Bool.false_ne_true)]
      dsimp only
      rw [Rw.n]
      omega
/-! ### kind by kind -/
theorem al_str {n : Nat} {s : Str} (h : PyData.strOk s = true) : f_alike (n + 1) (.str s) (.str s) = some true := by
  rw [f_alike]
  have e1 : isiQ (.str s) "tuple" = some false := rfl
  have e2 : isiQ (.str s) "bool" = some false := rfl
  have e3 : isiQ (.str s) "str" = some true := rfl
  have e4 : eqD (eQ (.str s)) (eQ (.str s)) = some true := by
    have := eqQ_gd (Q.gd_of (n := 60) (q := .str s) h (by decide)) (Q.gd_of (n := 60) (q := .str s) h (by decide))
    rw [this, decide_eq_true rfl]
  have e5 : eqD (eB true) (eB true) = some true := rfl
  simp only [e1, e2, e3, e4, e5, Option.bind_some, Bool.false_eq_true, if_false, Bool.not_true]
theorem al_int {n : Nat} {i : Int} : f_alike (n + 1) (.int i) (.int i) = some true := by
  rw [f_alike]
  have e1 : isiQ (.int i) "tuple" = some false := rfl
  have e2 : isiQ (.int i) "bool" = some false := rfl
  have e3 : isiQ (.int i) "str" = some false := rfl
  have e4 : eqD (eQ (.int i)) (eQ (.int i)) = some true := by
    have := eqQ_gd (a := .int i) (b := .int i) (Q.gd_of (n := 60) rfl (by decide)) (Q.gd_of (n := 60) rfl (by decide))
    rw [this, decide_eq_true rfl]
  have e5 : eqD (eB false) (eB false) = some true := rfl
  simp only [e1, e2, e3, e4, e5, Option.bind_some, Bool.false_eq_true, if_false, Bool.not_true]
theorem all_true {α : Type} (l : List α) : (l.map fun _ => true).all id = true := by simp
theorem al_tup {n : Nat} {xs : List Q} (hl : xs.length ≤ 100000) (h : ∀ x ∈ xs, f_alike n x x = some true) : f_alike (n + 1) (.tup xs) (.tup xs) = some true := by
  rw [f_alike]
  have e1 : isiQ (.tup xs) "tuple" = some true := rfl
  have e3 : lenQ (.tup xs) = some (xs.length : Int) := rfl
  have e4 : zipQ (.tup xs) (.tup xs) = some (xs.zip xs) := rfl
  have e5 : mapO (fun x => Option.bind (f_alike n x.1 x.2) fun r => some r) (xs.zip xs) = some ((xs.zip xs).map fun _ => true) := by
    refine mapO_eq (by rw [List.length_zip, sz]; omega) fun p hp => ?_
    obtain ⟨i, hi, e⟩ := List.getElem_of_mem hp
    rw [List.getElem_zip] at e
    subst e
    rw [h _ (List.getElem_mem _), Option.bind_some]
  simp only [e1, e3, e4, e5, Option.bind_some, Bool.false_eq_true, if_false, if_true, Bool.not_true, decide_true, all_true]
theorem al_at {B : Str → Prop} {M : Nat} (hB : ∀ s, B s → PyData.strOk s = true) {a : At} (h : a.ok B M) (n : Nat) : f_alike (n + 1) a.q a.q = some true := by
  cases a with
  | num k => exact al_int
  | box b => exact al_str (hB b h)
theorem al_row {B : Str → Prop} {M : Nat} (hB : ∀ s, B s → PyData.strOk s = true) (e : Nat) : ∀ (n : Nat) (r : Rw), r.ok B M → r.dep ≤ n → r.n ≤ 10000 → f_alike (2 * n + 2 + e) r.q r.q = some true
  | n, .is x a, h, _, _ => by
    rw [Rw.q, show 2 * n + 2 + e = (2 * n + e + 1) + 1 by omega]
    refine al_tup (by simp) fun z hz => ?_
    simp only [List.mem_cons, List.not_mem_nil, or_false] at hz
    rcases hz with rfl | rfl | rfl
    · exact al_str sk_is
    · exact al_str (hB x h.1)
    · exact al_at hB h.2 _
  | n, .op x s a b, h, _, _ => by
    rw [Rw.q, show 2 * n + 2 + e = (2 * n + e + 1) + 1 by omega]
    refine al_tup (by simp) fun z hz => ?_
    simp only [List.mem_cons, List.not_mem_nil, or_false] at hz
    rcases hz with rfl | rfl | rfl | rfl | rfl
    · exact al_str sk_op
    · exact al_str (hB x h.1)
    · exact al_str (sign_sk h.2.1)
    · exact al_at hB h.2.2.1 _
    · exact al_at hB h.2.2.2 _
  | 0, .cho a xs ys, h, hd, _ => by rw [Rw.dep] at hd; omega
  | n + 1, .cho a xs ys, h, hd, hn => by
    rw [Rw.dep] at hd
    rw [Rw.n] at hn
    have := Nat.le_max_left (depRs xs) (depRs ys)
    have := Nat.le_max_right (depRs xs) (depRs ys)
    have l1 := len_n xs
    have l2 := len_n ys
    rw [Rw.q, show 2 * (n + 1) + 2 + e = (2 * n + 2 + e + 1) + 1 by omega]
    refine al_tup (by simp) fun z hz => ?_
    simp only [List.mem_cons, List.not_mem_nil, or_false] at hz
    rcases hz with rfl | rfl | rfl | rfl
    · exact al_str sk_cho
    · exact al_at hB h.1 _
    · refine al_tup (by rw [qRs_len]; omega) fun z hz => ?_
      rw [qRs_map] at hz
      obtain ⟨r, hr, rfl⟩ := List.mem_map.mp hz
      have := dep_mem hr
      have := n_mem hr
      exact al_row hB e n r (ok_mem.mp h.2.1 r hr) (by omega) (by omega)
    · refine al_tup (by rw [qRs_len]; omega) fun z hz => ?_
      rw [qRs_map] at hz
      obtain ⟨r, hr, rfl⟩ := List.mem_map.mp hz
      have := dep_mem hr
      have := n_mem hr
      exact al_row hB e n r (ok_mem.mp h.2.2 r hr) (by omega) (by omega)
  | 0, .tim k xs, h, hd, _ => by rw [Rw.dep] at hd; omega
  | n + 1, .tim k xs, h, hd, hn => by
    rw [Rw.dep] at hd
    rw [Rw.n] at hn
    have l1 := len_n xs
    rw [Rw.q, show 2 * (n + 1) + 2 + e = (2 * n + 2 + e + 1) + 1 by omega]
    refine al_tup (by simp) fun z hz => ?_
    simp only [List.mem_cons, List.not_mem_nil, or_false] at hz
    rcases hz with rfl | rfl | rfl
    · exact al_str sk_tim
    · exact al_int
    · refine al_tup (by rw [qRs_len]; omega) fun z hz => ?_
      rw [qRs_map] at hz
      obtain ⟨r, hr, rfl⟩ := List.mem_map.mp hz
      have := dep_mem hr
      have := n_mem hr
      exact al_row hB e n r (ok_mem.mp h.2 r hr) (by omega) (by omega)
theorem alike_ok {B : Str → Prop} {M : Nat} (hB : ∀ s, B s → PyData.strOk s = true) {rs : List Rw} (h : okRs B M rs) (hd : depRs rs ≤ 5) (hn : nRs rs ≤ 10000) : f_alike 16 (.tup (qRs rs)) (.tup (qRs rs)) = some true := by
  refine al_tup (by have := len_n rs; rw [qRs_len]; omega) fun z hz => ?_
  rw [qRs_map] at hz
  obtain ⟨r, hr, rfl⟩ := List.mem_map.mp hz
  have := dep_mem hr
  have := n_mem hr
  exact al_row hB 3 5 r (ok_mem.mp h r hr) (by omega) (by omega)
/-! ### the law -/
theorem dep_drop {rs : List Rw} (k : Nat) : depRs (rs.drop k) ≤ depRs rs := dep_le fun _ hr => dep_mem (List.mem_of_mem_drop hr)
theorem n_drop (rs : List Rw) (k : Nat) : nRs (rs.drop k) ≤ nRs rs := by
  have := n_app (rs.take k) (rs.drop k)
  rw [List.take_append_drop] at this
  omega
theorem qRs_drop (rs : List Rw) (k : Nat) : (qRs rs).drop k = qRs (rs.drop k) := by rw [qRs_map, qRs_map, List.map_drop]
theorem rep_rep (l : List Rw) : ∀ m n : Nat, (List.replicate m (List.replicate n l).flatten).flatten = (List.replicate (m * n) l).flatten
  | 0, n => by simp
  | m + 1, n => by
    have e : ∀ a b : Nat, (List.replicate (a + b) l).flatten = (List.replicate a l).flatten ++ (List.replicate b l).flatten := by
      intro a b
      induction a with
      | zero => simp
      | succ a ih => rw [Nat.succ_add, List.replicate_succ, List.replicate_succ, List.flatten_cons, List.flatten_cons, ih, List.append_assoc]
    rw [List.replicate_succ, List.flatten_cons, rep_rep l m n, Nat.succ_mul, Nat.add_comm, e]
theorem law_true (xs : List Int) : f_law xs = some true := by
  refine ok_is ?_
  unfold f_law
  refine ok_bind (program_ok xs) fun r hr => ?_
  obtain ⟨w, ns, rs, rfl, w1, w2, n1, n2, n3, k1, k2, k3, k4⟩ := hr
  have hB : ∀ s, s ∈ ns → PyData.strOk s = true := fun s hs => (n3 s hs).ok
  have hP : Prg (· ∈ ns) (2 ^ w) rs := ⟨k4, k3, k2, .inr k1⟩
  have hO := out_ok 11 rs hP (by omega)
  have hW := wo_ok 11 rs hP (by omega)
  have on : nRs (outRs rs) ≤ 120 := by rw [n_outRs]; exact k1
  have od : depRs (outRs rs) ≤ 5 := Nat.le_trans (dep_outRs rs) k3
  have oo := ok_outRs rs k4
  have ot := nt_outRs rs
  have ol := len_n (outRs rs)
  generalize hL : outRs rs = L at *
  have hp : f_pieces ((w : Int), bxQ ns, .tup (qRs rs)) = some (qRs L) := by
    unfold f_pieces
    show Option.bind (f_written_out 12 (.tup (qRs rs))) _ = _
    rw [hW, Option.bind_some]
  show Ok (Option.bind (f_out 12 (.tup (qRs rs))) _) _
  rw [hO, Option.bind_some, hp, Option.bind_some]
  refine ok_bind (p := fun c => c = false) ?_ fun c hc => ?_
  · show Ok (if false = true then _ else _) _
    rw [if_neg Bool.false_ne_true, alike_ok hB oo od (by omega), Option.bind_some]
    exact ok_some rfl
  subst hc
  rw [if_neg Bool.false_ne_true, weight_ok od (by omega), Option.bind_some]
  refine ok_bind (p := fun c => c = false) ?_ fun c hc => ?_
  · show Ok (if false = true then _ else _) _
    rw [if_neg Bool.false_ne_true]
    refine ok_bind (p := fun c => c = false) ?_ fun c hc => ok_some hc
    rw [if_neg Bool.false_ne_true, count_ok 11 L (by omega) ot (by omega), Option.bind_some]
    exact ok_some (by simp)
  subst hc
  have e0 : lenQ (.tup (qRs L)) = some (L.length : Int) := by
    show some (((qRs L).length : Nat) : Int) = _
    rw [qRs_len]
  rw [if_neg Bool.false_ne_true, e0, Option.bind_some, rngO_eq (by decide) (by decide) (by omega) (by omega), Option.bind_some]
  refine ok_bind (p := fun w => w = .nx ()) (ok_forN (fun _ _ => True) trivial (fun pre x post s e _ => ?_) fun s _ => rfl) fun w hw => ?_
  · have hx : x ∈ rng 0 (L.length : Int) := by rw [e]; simp
    rw [rng_mem] at hx
    have hd := dep_drop (rs := L) x.toNat
    have hn := n_drop L x.toNat
    have ht : ntRs (L.drop x.toNat) := nt_mem.mpr fun r hr => nt_mem.mp ot r (List.mem_of_mem_drop hr)
    have ec : cutQ (.tup (qRs L)) (some x) none = some (.tup (qRs (L.drop x.toNat))) := by
      show some (Q.tup (cutL (qRs L) (some x) none)) = _
      rw [cut_lo hx.1, qRs_drop]
    rw [cut_lo hx.1, qRs_drop, weight_ok (by omega) (by omega), Option.bind_some, ec, Option.bind_some, count_ok 11 _ (by omega) ht (by omega), Option.bind_some]
    rw [decide_eq_true rfl]
    exact ok_some ⟨(), rfl, trivial⟩
  subst hw
  dsimp only
  rw [appO_eq (by rw [qRs_len, sz]; omega), Option.bind_some]
  refine ok_bind (purse_ok (by decide) (by decide)) fun r9 hr9 => ?_
  refine ok_bind (set_ok hr9 w2 n1 (by omega)) fun q hq => ?_
  obtain ⟨r10, p1⟩ := q
  obtain ⟨a1, x, rfl, x1, x2, x3, x4⟩ := hq
  simp only at a1
  refine ok_bind (set_ok a1 w2 n1 (by omega)) fun q hq => ?_
  obtain ⟨r11, p2⟩ := q
  obtain ⟨_, y, rfl, y1, y2, y3, y4⟩ := hq
  dsimp only
  rw [Option.bind_some]
  have hP2 : Prg (· ∈ ns) (2 ^ w) [.tim 20 [.tim 5 [x, y]]] := by
    refine ⟨⟨⟨by decide, ⟨by decide, x1, y1, trivial⟩, trivial⟩, trivial⟩, ?_, ?_, .inl ?_⟩
    · simp only [depRs, Rw.dep, x2, y2]; decide
    · simp only [nRs, Rw.n, x4, y4]; decide
    · simp only [depRs, Rw.dep, x2, y2]; decide
  have hd2 : depRs [.tim 20 [.tim 5 [x, y]]] ≤ 2 := by simp only [depRs, Rw.dep, x2, y2]; decide
  have hw2 : wRs [.tim 20 [.tim 5 [x, y]]] = 200 := by simp only [wRs, Rw.w, x3, y3]
  have hW2 := wo_ok 11 _ hP2 (by omega)
  have ox : outR x = [x] := by cases x <;> simp [outR, Rw.dep] at x2 ⊢
  have oy : outR y = [y] := by cases y <;> simp [outR, Rw.dep] at y2 ⊢
  have eL2 : outRs [.tim 20 [.tim 5 [x, y]]] = (List.replicate 100 [x, y]).flatten := by
    simp only [outRs, outR, ox, oy, List.append_nil, List.singleton_append]
    exact rep_rep [x, y] 20 5
  have on2 : nRs (outRs [.tim 20 [.tim 5 [x, y]]]) = 200 := by rw [n_outRs, hw2]
  have od2 : depRs (outRs [.tim 20 [.tim 5 [x, y]]]) ≤ 5 := Nat.le_trans (dep_outRs _) (by omega)
  have oo2 := ok_outRs _ hP2.ok
  have hp2 : f_pieces ((w : Int), bxQ ns, (Q.tup [(Q.tup [(Q.str ("times" : Str)), (Q.int 20), (Q.tup [(Q.tup [(Q.str ("times" : Str)), (Q.int 5), (Q.tup [x.q, y.q])])])])])) = some (qRs (outRs [.tim 20 [.tim 5 [x, y]]])) := by
    unfold f_pieces
    have e : (Q.tup [(Q.tup [(Q.str ("times" : Str)), (Q.int 20), (Q.tup [(Q.tup [(Q.str ("times" : Str)), (Q.int 5), (Q.tup [x.q, y.q])])])])]) = .tup (qRs [.tim 20 [.tim 5 [x, y]]]) := by
      simp only [qRs, Rw.q]; rfl
    show Option.bind (f_written_out 12 _) _ = _
    rw [e, hW2, Option.bind_some]
  rw [hp2, Option.bind_some]
  have er : repQ (Q.tup [x.q, y.q]) 100 = some (.tup (qRs (outRs [.tim 20 [.tim 5 [x, y]]]))) := by
    show (if -1000 ≤ (100 : Int) ∧ (100 : Int) ≤ 1000 ∧ [x.q, y.q].length * (100 : Int).toNat ≤ sizeLine then some (Q.tup (List.replicate (100 : Int).toNat [x.q, y.q]).flatten) else none) = _
    rw [if_pos ⟨by decide, by decide, by simp [sz]⟩, eL2, ← qRs_flat]
    rfl
  have gd : ∀ {l : List Rw}, okRs (· ∈ ns) (2 ^ w) l → depRs l ≤ 5 → eqD (eQ (.tup (qRs l))) (eQ (.tup (qRs l))) = some true := by
    intro l h1 h2
    have g := Q.gd_of (n := 13) (q := .tup (qRs l)) (rows_dp hB h1 h2) (by decide)
    rw [eqQ_gd g g, decide_eq_true rfl]
  rw [er, Option.bind_some, gd oo2 od2, Option.bind_some]
  refine ok_bind (p := fun c => c = false) ?_ fun c hc => ?_
  · show Ok (if false = true then _ else _) _
    rw [if_neg Bool.false_ne_true, weight_ok od2 (by omega), Option.bind_some, on2]
    exact ok_some rfl
  subst hc
  rw [if_neg Bool.false_ne_true, Option.bind_some, gd oo od, Option.bind_some]
  refine ok_bind (p := fun c => c = true) ?_ fun c hc => ok_some hc
  rw [if_pos rfl]
  have e00 : f_weight ([] : List Q) = some 0 := weight_ok (rs := []) (by simp [depRs]) (by simp [nRs])
  rw [e00, Option.bind_some]
  exact ok_some rfl
set_option maxHeartbeats 0
theorem law_call (ns : List Int) : ∃ o, callN (tabOf ds) fu 110 ("law", none) [(false, .scr ns)] = some (.ok (.bl true) o) := by
  have h := ok_law 93 ns true (law_true ns)
  exact ⟨_, h⟩
abbrev RW0 := PySem.Challenge.rw_nolitter_k08_rounds_written_out
def fn : List He.DefD := ds.map (·.d)
def fas : List (List He.Fa) := [fnN.map He.Fa.glo, ckN.map He.Fa.glo, ckN.map He.Fa.cls, ckN.map He.Fa.mkr, attN.map (fun p => He.Fa.noat p.1 p.2), mtN.map (fun p => He.Fa.meth p.1 p.2), bltNames.map He.Fa.free, conI.map (fun p => He.Fa.int p.1 p.2), conS.map (fun p => He.Fa.str p.1 p.2), dtN.map (fun p => He.Fa.glo p.1)]
def fa : List He.Fa := fas.flatten
def loose : List Str := [("__name__" : Str), ("rows_within" : Str), ("rows_in" : Str), ("__name__" : Str), ("written_out" : Str), ("pieces" : Str), ("weight" : Str), ("__name__" : Str), ("_law_purse" : Str), ("_law_next" : Str), ("_law_names" : Str), ("_law_number" : Str), ("_law_atom" : Str), ("_law_set" : Str), ("_law_shut" : Str), ("_law_rows" : Str), ("_law_program" : Str), ("_law_alike" : Str), ("_law_out" : Str), ("_law_count" : Str)]
abbrev RO : PySem.W.OpenRow := PySem.W.OpenLaw.row RW0
abbrev hk : PySem.W.Hook := He.hookX 4 fa fn (tabsOf dtN) [] (exOf dtN)
def ob (s : PySem.W.SharedT) : He.AlX := He.obsX 4 fa fn (tabsOf dtN) [] (exOf dtN) (HandSHeadRun.getT s)
theorem ob_eq (s : PySem.W.SharedT) : ob s = hk.obs s.abs := He.obsX_eq (HandSHeadRun.getT_eq s)
theorem run (w : World) : HandSHeadRun.RunEq RO (PySem.W.view RO.prog [20]) hk ob 4000 loose w := by
  intro os
  kernel_rfl
theorem in_fa {l : List He.Fa} (h : l ∈ fas) {f : He.Fa} (hf : f ∈ l) : f ∈ fa := List.mem_flatten.mpr ⟨l, h, hf⟩
theorem fa_glo {f : Str} (h : f ∈ fnN) : He.Fa.glo f ∈ fa := in_fa (by simp [fas]) (List.mem_map_of_mem h)
theorem fa_ck {f : Str} (h : f ∈ ckN) : He.Fa.glo f ∈ fa := in_fa (l := ckN.map He.Fa.glo) (by simp [fas]) (List.mem_map_of_mem h)
theorem fa_cls {f : Str} (h : f ∈ ckN) : He.Fa.cls f ∈ fa := in_fa (l := ckN.map He.Fa.cls) (by simp [fas]) (List.mem_map_of_mem h)
theorem fa_mkr {f : Str} (h : f ∈ ckN) : He.Fa.mkr f ∈ fa := in_fa (l := ckN.map He.Fa.mkr) (by simp [fas]) (List.mem_map_of_mem h)
theorem fa_noat {C f : Str} (h : (C, f) ∈ attN) : He.Fa.noat C f ∈ fa := in_fa (l := attN.map (fun p => He.Fa.noat p.1 p.2)) (by simp [fas]) (List.mem_map_of_mem (f := fun p : Str × Str => He.Fa.noat p.1 p.2) h)
theorem fa_meth {C f : Str} (h : (C, f) ∈ mtN) : He.Fa.meth C f ∈ fa := in_fa (l := mtN.map (fun p => He.Fa.meth p.1 p.2)) (by simp [fas]) (List.mem_map_of_mem (f := fun p : Str × Str => He.Fa.meth p.1 p.2) h)
theorem fa_free {x : Str} (h : x ∈ bltNames) : He.Fa.free x ∈ fa := in_fa (l := bltNames.map He.Fa.free) (by simp [fas]) (List.mem_map_of_mem h)
theorem fa_int {x : Str} {i : Int} (h : (x, i) ∈ conI) : He.Fa.int x i ∈ fa := in_fa (l := conI.map (fun p => He.Fa.int p.1 p.2)) (by simp [fas]) (List.mem_map_of_mem (f := fun p : Str × Int => He.Fa.int p.1 p.2) h)
theorem fa_str {x z : Str} (h : (x, z) ∈ conS) : He.Fa.str x z ∈ fa := in_fa (l := conS.map (fun p => He.Fa.str p.1 p.2)) (by simp [fas]) (List.mem_map_of_mem (f := fun p : Str × Str => He.Fa.str p.1 p.2) h)
theorem fa_dt : ∀ p ∈ dtN, He.Fa.glo p.1 ∈ fa := fun p h => in_fa (l := dtN.map (fun p => He.Fa.glo p.1)) (by simp [fas]) (List.mem_map_of_mem (f := fun p : Str × List (Str × Str) => He.Fa.glo p.1) h)
theorem att_all : attN.all (fun p => ckN.contains p.1) = true := by decide +kernel
theorem mt_all : mtN.all (fun p => ckN.contains p.1 && (tabOf ds (p.1, some p.2)).isSome) = true := by decide +kernel
theorem fv_all : fvN.all (fun f => fnN.contains f) = true := by decide +kernel
theorem ck_all : ckN.all (fun C => (tabOf ds (C, some "__init__")).isSome) = true := by decide +kernel
theorem fn_all : fnN.all (fun f => (tabOf ds (f, none)).isSome) = true := by decide +kernel
theorem dk_ok (C : Str) (dv : D) (e : P.dk C = some dv) (d : Df P) (hd : tabOf ds (C, some "__init__") = some d) : dv ∈ d.dv := by
  have e : glF dkL [] C = some dv := e
  rcases glF_ok e with ⟨i, rfl, hm⟩ | ⟨z, rfl, hm⟩
  · simp only [dkL, List.mem_cons, Prod.mk.injEq, List.not_mem_nil, or_false] at hm
  · exact absurd hm List.not_mem_nil
theorem pg {w : World} {K : PySem.W.Frag} {h : Heap} {mg : Str → Option Value} (X : K.In h) (G : h.Ns mainGlobals mg) (c : He.SaysX fa fn (tabsOf dtN) [] (exOf dtN) w h K) : PgOk P (tabOf ds) K mg w :=
  pg_ofC X G c.t.d rfl dok_all (fun x d e => by
      have e : glX conI conS fvN x = some d := e
      rcases glX_ok e with ⟨i, rfl, hm⟩ | ⟨z, rfl, hm⟩ | ⟨rfl, hm⟩
      · exact .inl ⟨i, rfl, fa_int hm⟩
      · exact .inr (.inl ⟨z, rfl, fa_str hm⟩)
      · exact .inr (.inr ⟨rfl, fa_glo (List.contains_iff_mem.mp (List.all_eq_true.mp fv_all _ hm))⟩))
    (fun C f hf => by
      have hm : (C, f) ∈ attN := List.contains_iff_mem.mp hf
      have hc : C ∈ ckN := List.contains_iff_mem.mp (List.all_eq_true.mp att_all _ hm)
      exact ⟨fa_ck hc, fa_cls hc, fa_noat hm⟩)
    (fun C m hf => by
      have hm : (C, m) ∈ mtN := List.contains_iff_mem.mp hf
      have hq := Bool.and_eq_true_iff.mp (List.all_eq_true.mp mt_all _ hm)
      have hc : C ∈ ckN := List.contains_iff_mem.mp hq.1
      exact ⟨fa_ck hc, fa_cls hc, fa_meth hm, hq.2⟩)
    (fun C hf => by
      have hc : C ∈ ckN := List.contains_iff_mem.mp hf
      exact ⟨fa_ck hc, fa_mkr hc, List.all_eq_true.mp ck_all _ hc⟩)
    dk_ok
    (fun f hf => by
      have hm : f ∈ fnN := List.contains_iff_mem.mp hf
      exact ⟨fa_glo hm, List.all_eq_true.mp fn_all f hm⟩)
    (fun x hx => fa_free hx)
    (fun x kvs e => dts_of X G c.t c.more fa_dt x kvs e)
end LawP
end
open PySem PySem.W PySem.Calls PyProof.Rows
set_option maxRecDepth 100000 in
set_option maxHeartbeats 0 in
theorem PySem.Challenge.cw_nolitter_k08_rounds_written_out_holds : PySem.Challenge.rw_nolitter_k08_rounds_written_out.Holds := by
  w_on; o_law
  refine HandSHeadRun.head_any (r := OpenLaw.row LawP.RW0) (q := view (OpenLaw.row LawP.RW0).prog [20]) (H := LawP.hk) (ob := LawP.ob) (M := 4000) (loose := LawP.loose) (d := HandSHeadRun.topDef (OpenLaw.row LawP.RW0).prog 20) (kwd := []) LawP.ob_eq
    (by kernel_rfl) (fun s => by kernel_rfl) LawP.run (by kernel_rfl) (by kernel_rfl) (by kernel_rfl) (by rfl) (by first | assumption | decide +kernel) (by decide +kernel) ⟨rfl, rfl, rfl, rfl, rfl, by decide +kernel⟩ ?hw ?hc
  case hw => w_witness2
  case hc =>
    exact Ev.walkW (row := LawP.RW0) (nn := 63) (kk := 220) (j := 110) (x := "_law_script") rfl (by decide) (by kernel_rfl) ⟨rfl, by decide, by decide⟩ rfl (by kernel_rfl) (SD := fun w h K => He.SaysX LawP.fa LawP.fn (Ev.tabsOf LawP.dtN) [] (Ev.exOf LawP.dtN) w h K) (fun w K h mg X G c => LawP.pg X G c) rfl rfl rfl rfl LawP.law_call
