import PyProof.Rows.All
import Wide.All
import OpenK.AllK
import Wide.FinOn
import HandS.ForMost
import HandS.TupAny
import HandS.Wide
import HandS.SortInts
import HandS.Zip0
import HandS.EndBits
import HandS.Style
import PyProof.Draws
import HandS.IsInst
import HandS.Defaults
import PyProof.ReprLen
import PySem.Challenge.RW_notbothout_k03_rules_kept_or_broken
set_option Elab.async false
set_option linter.all false
set_option maxRecDepth 100000
namespace S9
open PySem PySem.Spec PyProof.Rows L2

/-! ### data, values, the store -/
inductive D where
  | non
  | bl (b : Bool)
  | int (i : Int)
  | str (x : Str)
  | tup (l : List D)
  | lst (l : List D)
  | frl (l : List D)
  | dct (ks : List Key) (l : List D)
  | ins (C : Addr) (ns : List Str) (l : List D)
  | ty (n : String)
  | cls (C : Addr)

inductive W where
  | d (x : D)
  | loc (k : Nat)

inductive Cell where
  | lst (l : List D)
  | dct (ks : List Key) (l : List D)
  | ins (C : Addr) (ns : List Str) (ws : List W)
abbrev Sto := List Cell
abbrev DEnv := List (Option W)

mutual
def Rp (K : PySem.W.Frag) (H : Hp) : D → V → Prop
  | .non, v => v = .non
  | .bl b, v => v = .bl b
  | .int i, v => v = .int i
  | .str x, v => v = .str x
  | .tup l, v => ∃ a xs, v = .ref a ∧ SqT K H a xs ∧ RpL K H l xs
  | .lst l, v => ∃ a xs, v = .ref a ∧ H a = some (.lst xs) ∧ RpL K H l xs
  | .frl l, v => ∃ a xs, v = .ref a ∧ SqL K H a xs ∧ RpL K H l xs
  | .dct ks l, v => ∃ a kvs, v = .ref a ∧ H a = some (.dK kvs) ∧ kvs.map (·.1) = ks ∧ RpL K H l (kvs.map (·.2))
  | .ins C ns l, v => ∃ a dx fs, v = .ref a ∧ H a = some (.ins C dx fs) ∧ fs.map (·.1) = ns ∧ RpL K H l (fs.map (·.2))
  | .ty n, v => v = .ty n
  | .cls C, v => v = .ref C
def RpL (K : PySem.W.Frag) (H : Hp) : List D → List V → Prop
  | [], xs => xs = []
  | d :: l, xs => ∃ x r, xs = x :: r ∧ Rp K H d x ∧ RpL K H l r
end

section
variable {K : PySem.W.Frag} {H H' : Hp}
theorem same_t {a : Addr} {xs : List V} (e : Same H H') (h : SqT K H a xs) : SqT K H' a xs := by
  rcases h with (h | ⟨o, h⟩) | h
  · exact .inl (.inl (e _ _ h))
  · exact .inl (.inr ⟨o, e _ _ h⟩)
  · exact .inr h
mutual
theorem Rp.mono (e : Same H H') : ∀ {d : D} {v : V}, Rp K H d v → Rp K H' d v
  | .non, v, h => by simp only [Rp] at h ⊢; exact h
  | .bl b, v, h => by simp only [Rp] at h ⊢; exact h
  | .int i, v, h => by simp only [Rp] at h ⊢; exact h
  | .str x, v, h => by simp only [Rp] at h ⊢; exact h
  | .tup l, v, h => by
    simp only [Rp] at h ⊢
    obtain ⟨a, xs, e1, h1, h2⟩ := h
    exact ⟨a, xs, e1, same_t e h1, RpL.mono e h2⟩
  | .lst l, v, h => by
    simp only [Rp] at h ⊢
    obtain ⟨a, xs, e1, h1, h2⟩ := h
    exact ⟨a, xs, e1, e _ _ h1, RpL.mono e h2⟩
  | .frl l, v, h => by
    simp only [Rp] at h ⊢
    obtain ⟨a, xs, e1, h1, h2⟩ := h
    exact ⟨a, xs, e1, e.seq h1, RpL.mono e h2⟩
  | .dct ks l, v, h => by
    simp only [Rp] at h ⊢
    obtain ⟨a, kvs, e1, h1, h3, h2⟩ := h
    exact ⟨a, kvs, e1, e _ _ h1, h3, RpL.mono e h2⟩
  | .ins C ns l, v, h => by
    simp only [Rp] at h ⊢
    obtain ⟨a, dx, fs, e1, h1, h3, h2⟩ := h
    exact ⟨a, dx, fs, e1, e _ _ h1, h3, RpL.mono e h2⟩
  | .ty n, v, h => by simp only [Rp] at h ⊢; exact h
  | .cls n, v, h => by simp only [Rp] at h ⊢; exact h
theorem RpL.mono (e : Same H H') : ∀ {l : List D} {xs : List V}, RpL K H l xs → RpL K H' l xs
  | [], xs, h => by simp only [RpL] at h ⊢; exact h
  | d :: l, xs, h => by
    simp only [RpL] at h ⊢
    obtain ⟨x, r, e1, h1, h2⟩ := h
    exact ⟨x, r, e1, Rp.mono e h1, RpL.mono e h2⟩
end
theorem RpL.nil : RpL K H [] [] := by simp only [RpL]
theorem RpL.cons {d : D} {l : List D} {x : V} {r : List V} (h : Rp K H d x) (t : RpL K H l r) : RpL K H (d :: l) (x :: r) := by
  simp only [RpL]
  exact ⟨x, r, rfl, h, t⟩
theorem RpL.length : ∀ {l : List D} {xs : List V}, RpL K H l xs → xs.length = l.length
  | [], xs, h => by simp only [RpL] at h; subst h; rfl
  | d :: l, xs, h => by
    simp only [RpL] at h
    obtain ⟨x, r, rfl, _, h2⟩ := h
    simp [h2.length]
theorem RpL.get : ∀ {l : List D} {xs : List V} {i : Nat} {d : D}, RpL K H l xs → l[i]? = some d → ∃ x, xs[i]? = some x ∧ Rp K H d x
  | [], _, _, _, _, h => by simp at h
  | d :: l, xs, 0, d', h, g => by
    simp only [RpL] at h
    obtain ⟨x, r, rfl, h1, _⟩ := h
    simp at g
    subst g
    exact ⟨x, rfl, h1⟩
  | d :: l, xs, i + 1, d', h, g => by
    simp only [RpL] at h
    obtain ⟨x, r, rfl, _, h2⟩ := h
    simp at g
    obtain ⟨y, e, q⟩ := h2.get g
    exact ⟨y, by simpa using e, q⟩
theorem RpL.get' : ∀ {l : List D} {xs : List V} {i : Nat} {x : V}, RpL K H l xs → xs[i]? = some x → ∃ d, l[i]? = some d ∧ Rp K H d x
  | [], xs, _, _, h, g => by simp only [RpL] at h; subst h; simp at g
  | d :: l, xs, 0, x', h, g => by
    simp only [RpL] at h
    obtain ⟨x, r, rfl, h1, _⟩ := h
    simp at g
    subst g
    exact ⟨d, rfl, h1⟩
  | d :: l, xs, i + 1, x', h, g => by
    simp only [RpL] at h
    obtain ⟨x, r, rfl, _, h2⟩ := h
    simp at g
    obtain ⟨y, e, q⟩ := h2.get' g
    exact ⟨y, by simpa using e, q⟩
theorem RpL.append : ∀ {l m : List D} {xs ys : List V}, RpL K H l xs → RpL K H m ys → RpL K H (l ++ m) (xs ++ ys)
  | [], _, xs, _, h, g => by simp only [RpL] at h; subst h; exact g
  | d :: l, _, xs, _, h, g => by
    simp only [RpL] at h
    obtain ⟨x, r, rfl, h1, h2⟩ := h
    exact RpL.cons h1 (h2.append g)
theorem RpL.take : ∀ {l : List D} {xs : List V} (n : Nat), RpL K H l xs → RpL K H (l.take n) (xs.take n)
  | _, _, 0, _ => by simp only [List.take_zero]; exact RpL.nil
  | [], xs, n + 1, h => by simp only [RpL] at h; subst h; exact RpL.nil
  | d :: l, xs, n + 1, h => by
    simp only [RpL] at h
    obtain ⟨x, r, rfl, h1, h2⟩ := h
    exact RpL.cons h1 (h2.take n)
theorem RpL.drop : ∀ {l : List D} {xs : List V} (n : Nat), RpL K H l xs → RpL K H (l.drop n) (xs.drop n)
  | _, _, 0, h => h
  | [], xs, n + 1, h => by simp only [RpL] at h; subst h; exact RpL.nil
  | d :: l, xs, n + 1, h => by
    simp only [RpL] at h
    obtain ⟨x, r, rfl, h1, h2⟩ := h
    exact h2.drop n
theorem RpL.set {d : D} {x : V} (q : Rp K H d x) : ∀ {l : List D} {xs : List V} (n : Nat), RpL K H l xs → RpL K H (l.set n d) (xs.set n x)
  | [], xs, n, h => by simp only [RpL] at h; subst h; exact RpL.nil
  | e :: l, xs, 0, h => by
    simp only [RpL] at h
    obtain ⟨y, r, rfl, h1, h2⟩ := h
    exact RpL.cons q h2
  | e :: l, xs, n + 1, h => by
    simp only [RpL] at h
    obtain ⟨y, r, rfl, h1, h2⟩ := h
    exact RpL.cons h1 (RpL.set q n h2)
theorem RpL.reverse : ∀ {l : List D} {xs : List V}, RpL K H l xs → RpL K H l.reverse xs.reverse
  | [], xs, h => by simp only [RpL] at h; subst h; exact RpL.nil
  | e :: l, xs, h => by
    simp only [RpL] at h
    obtain ⟨y, r, rfl, h1, h2⟩ := h
    rw [List.reverse_cons, List.reverse_cons]
    exact h2.reverse.append (RpL.cons h1 RpL.nil)
theorem RpL.ints : ∀ {ns : List Int} {xs : List V}, RpL K H (ns.map D.int) xs → xs = ns.map V.int
  | [], xs, h => by simp only [List.map_nil, RpL] at h; exact h
  | n :: ns, xs, h => by
    simp only [List.map_cons, RpL] at h
    obtain ⟨y, r, rfl, h1, h2⟩ := h
    simp only [Rp] at h1
    rw [h1, h2.ints]; rfl
theorem RpL.of_ints : ∀ {ns : List Int}, RpL K H (ns.map D.int) (ns.map V.int)
  | [] => RpL.nil
  | n :: ns => RpL.cons (by simp only [Rp]) RpL.of_ints
theorem RpL.bls : ∀ {ns : List Bool} {xs : List V}, RpL K H (ns.map D.bl) xs → xs = ns.map V.bl
  | [], xs, h => by simp only [List.map_nil, RpL] at h; exact h
  | n :: ns, xs, h => by
    simp only [List.map_cons, RpL] at h
    obtain ⟨y, r, rfl, h1, h2⟩ := h
    simp only [Rp] at h1
    rw [h1, h2.bls]; rfl
theorem RpL.strs : ∀ {ns : List Str} {xs : List V}, RpL K H (ns.map D.str) xs → xs = ns.map V.str
  | [], xs, h => by simp only [List.map_nil, RpL] at h; exact h
  | n :: ns, xs, h => by
    simp only [List.map_cons, RpL] at h
    obtain ⟨y, r, rfl, h1, h2⟩ := h
    simp only [Rp] at h1
    rw [h1, h2.strs]; rfl
theorem RpL.of_strs : ∀ {ns : List Str}, RpL K H (ns.map D.str) (ns.map V.str)
  | [] => RpL.nil
  | n :: ns => RpL.cons (by simp only [Rp]) RpL.of_strs
end

/-! ### the frozen part -/
/-- the store's addresses; addresses that are kept out of sight (a list that is being built) -/
structure Rg where
  c : List Addr
  u : List Addr
def Rg.add (r : Rg) (p : Addr) : Rg := ⟨r.c ++ [p], r.u⟩
def Rg.hid (r : Rg) (p : Addr) : Rg := ⟨r.c, p :: r.u⟩
def Rg.has (r : Rg) (a : Addr) : Prop := a ∈ r.c ∨ a ∈ r.u
instance (r : Rg) (a : Addr) : Decidable (r.has a) := inferInstanceAs (Decidable (_ ∨ _))
def fz (r : Rg) (H : Hp) : Hp := fun a => if r.has a then none else H a
theorem fz_in {r : Rg} {H : Hp} {a : Addr} (h : r.has a) : fz r H a = none := by unfold fz; rw [if_pos h]
theorem fz_out {r : Rg} {H : Hp} {a : Addr} (h : ¬ r.has a) : fz r H a = H a := by unfold fz; rw [if_neg h]
theorem fz_less {r q : Rg} {H H' : Hp} (m : ∀ a, q.has a → r.has a) (e : Same H H') : Same (fz r H) (fz q H') := fun a o h => by
  by_cases z : r.has a
  · rw [fz_in z] at h; cases h
  · rw [fz_out z] at h
    rw [fz_out (fun y => z (m a y))]; exact e a o h
theorem fz_same {r : Rg} {H H' : Hp} (e : Same H H') : Same (fz r H) (fz r H') := fz_less (fun _ h => h) e
theorem fz_sub {r : Rg} {H : Hp} : Same (fz r H) H := fun a o h => by
  by_cases m : r.has a
  · rw [fz_in m] at h; cases h
  · rw [fz_out m] at h; exact h

def RW (K : PySem.W.Frag) (r : Rg) (H : Hp) (v : V) : W → Prop
  | .d x => Rp K (fz r H) x v
  | .loc k => ∃ a, r.c[k]? = some a ∧ v = .ref a
def RWL (K : PySem.W.Frag) (r : Rg) (H : Hp) : List V → List W → Prop
  | [], ws => ws = []
  | v :: vs, ws => ∃ w ws', ws = w :: ws' ∧ RW K r H v w ∧ RWL K r H vs ws'
def CellOk (K : PySem.W.Frag) (r : Rg) (H : Hp) (a : Addr) : Cell → Prop
  | .lst l => ∃ xs, H a = some (.lst xs) ∧ RpL K (fz r H) l xs
  | .dct ks l => ∃ kvs, H a = some (.dK kvs) ∧ kvs.map (·.1) = ks ∧ RpL K (fz r H) l (kvs.map (·.2))
  | .ins C ns ws => ∃ dx fs, H a = some (.ins C dx fs) ∧ fs.map (·.1) = ns ∧ RWL K r H (fs.map (·.2)) ws

structure Sta (K : PySem.W.Frag) (r : Rg) (M : Sto) (H : Hp) : Prop where
  len : r.c.length = M.length
  nd : r.c.Nodup ∧ r.u.Nodup
  dj : ∀ a ∈ r.u, a ∉ r.c
  prv : ∀ a ∈ r.u, ∃ o, H a = some o
  cell : ∀ (k : Nat) (a : Addr) (c : Cell), r.c[k]? = some a → M[k]? = some c → CellOk K r H a c
structure EnvR (K : PySem.W.Frag) (r : Rg) (H : Hp) (σ : L2.St) (δ : DEnv) : Prop where
  len : σ.length = δ.length
  at_ : ∀ (i : Nat) (w : W), δ[i]? = some (some w) → ∃ v, σ[i]? = some (some v) ∧ RW K r H v w
structure Nxt (r : Rg) (H : Hp) (r' : Rg) (H' : Hp) : Prop where
  ext : ∃ t, r'.c = r.c ++ t
  eu : r'.u = r.u
  prv : ∀ a ∈ r.u, ∀ o, H a = some o → H' a = some o
  same : Same (fz r H) (fz r' H')

section
variable {K : PySem.W.Frag} {r r1 r2 : Rg} {M M' : Sto} {H H1 H2 : Hp} {σ : L2.St} {δ : DEnv}
theorem CellOk.there {a : Addr} : ∀ {c : Cell}, CellOk K r H a c → ∃ o, H a = some o
  | .lst _, ⟨_, h, _⟩ => ⟨_, h⟩
  | .dct _ _, ⟨_, h, _⟩ => ⟨_, h⟩
  | .ins _ _ _, ⟨_, _, h, _⟩ => ⟨_, h⟩
theorem Sta.there (S : Sta K r M H) {a : Addr} (h : r.has a) : ∃ o, H a = some o := by
  rcases h with h | h
  · obtain ⟨k, hk, e⟩ := List.getElem_of_mem h
    have h1 : r.c[k]? = some a := by rw [List.getElem?_eq_getElem hk, e]
    have hk2 : k < M.length := by rw [← S.len]; exact hk
    exact (S.cell k a _ h1 (List.getElem?_eq_getElem hk2)).there
  · exact S.prv a h
theorem Sta.fresh (S : Sta K r M H) {p : Addr} (h : H p = none) : ¬ r.has p := fun m => by
  obtain ⟨o, e⟩ := S.there m
  rw [h] at e; cases e
theorem Nxt.refl : Nxt r H r H := ⟨⟨[], by simp⟩, rfl, fun _ _ _ h => h, Same.refl _⟩
theorem Nxt.trans (a : Nxt r H r1 H1) (b : Nxt r1 H1 r2 H2) : Nxt r H r2 H2 := by
  obtain ⟨t, e1⟩ := a.ext
  obtain ⟨u, e2⟩ := b.ext
  exact ⟨⟨t ++ u, by rw [e2, e1]; simp⟩, b.eu.trans a.eu, fun x hx o h => b.prv x (a.eu ▸ hx) o (a.prv x hx o h), a.same.trans b.same⟩
theorem Nxt.more (e : Same H H1) : Nxt r H r H1 := ⟨⟨[], by simp⟩, rfl, fun a _ o h => e a o h, fz_same e⟩
theorem RW.mono {v : V} {w : W} (n : Nxt r H r1 H1) (h : RW K r H v w) : RW K r1 H1 v w := by
  cases w with
  | d x => exact Rp.mono n.same h
  | loc k =>
    obtain ⟨a, e, q⟩ := h
    obtain ⟨t, e2⟩ := n.ext
    refine ⟨a, ?_, q⟩
    rw [e2, List.getElem?_append_left (List.getElem?_eq_some_iff.mp e).1]; exact e
theorem RWL.mono (n : Nxt r H r1 H1) : ∀ {vs : List V} {ws : List W}, RWL K r H vs ws → RWL K r1 H1 vs ws
  | [], _, h => h
  | _ :: _, _, ⟨w, ws', e, h1, h2⟩ => ⟨w, ws', e, h1.mono n, RWL.mono n h2⟩
theorem EnvR.mono (E : EnvR K r H σ δ) (n : Nxt r H r1 H1) : EnvR K r1 H1 σ δ :=
  ⟨E.len, fun i w h => let ⟨v, e, q⟩ := E.at_ i w h; ⟨v, e, q.mono n⟩⟩
theorem CellOk.next {a : Addr} (n : Nxt r H r1 H1) (e : H1 a = H a) : ∀ {c : Cell}, CellOk K r H a c → CellOk K r1 H1 a c
  | .lst _, ⟨xs, h, q⟩ => ⟨xs, e.trans h, RpL.mono n.same q⟩
  | .dct _ _, ⟨xs, h, h2, q⟩ => ⟨xs, e.trans h, h2, RpL.mono n.same q⟩
  | .ins _ _ _, ⟨dx, fs, h, h2, q⟩ => ⟨dx, fs, e.trans h, h2, RWL.mono n q⟩
theorem CellOk.more {a : Addr} (e : Same H H1) {c : Cell} (h : CellOk K r H a c) : CellOk K r H1 a c := by
  obtain ⟨o, ho⟩ := h.there
  exact h.next (Nxt.more e) ((e _ _ ho).trans ho.symm)
theorem Sta.more (S : Sta K r M H) (e : Same H H1) : Sta K r M H1 := ⟨S.len, S.nd, S.dj, fun a ha => let ⟨o, h⟩ := S.prv a ha; ⟨o, e a o h⟩, fun k a c h1 h2 => (S.cell k a c h1 h2).more e⟩
theorem EnvR.set {i : Nat} {v : V} {w : W} (E : EnvR K r H σ δ) (h : RW K r H v w) : EnvR K r H (σ.set i (some v)) (δ.set i (some w)) := by
  refine ⟨by simp [E.len], fun j u hj => ?_⟩
  by_cases e : i = j
  · subst e
    by_cases l : i < δ.length
    · rw [List.getElem?_set_self l] at hj
      have : w = u := Option.some.inj (Option.some.inj hj)
      subst this
      exact ⟨v, by rw [List.getElem?_set_self (by rw [E.len]; exact l)], h⟩
    · rw [List.getElem?_eq_none (by simpa using l)] at hj; cases hj
  · rw [List.getElem?_set_ne e] at hj
    obtain ⟨x, e1, q⟩ := E.at_ j u hj
    exact ⟨x, by rw [List.getElem?_set_ne e]; exact e1, q⟩
end
end S9

namespace S9
open PySem PySem.Spec PyProof.Rows L2

/-! ### what is read at an address in full -/
def RD (K : PySem.W.Frag) (r : Rg) (H : Hp) (v : V) : D → Prop
  | .lst l => ∃ a xs, v = .ref a ∧ H a = some (.lst xs) ∧ RpL K (fz r H) l xs
  | .dct ks l => ∃ a kvs, v = .ref a ∧ H a = some (.dK kvs) ∧ kvs.map (·.1) = ks ∧ RpL K (fz r H) l (kvs.map (·.2))
  | x => Rp K (fz r H) x v
def rd (M : Sto) : W → Option D
  | .d x => some x
  | .loc k => match M[k]? with
    | some (.lst l) => some (.lst l)
    | some (.dct ks l) => some (.dct ks l)
    | _ => none
def fr : W → Option D
  | .d x => some x
  | .loc _ => none
def rds (M : Sto) : List W → Option (List D)
  | [] => some []
  | w :: ws => (rd M w).bind fun x => (rds M ws).map fun l => x :: l
def frs9 : List W → Option (List D)
  | [] => some []
  | w :: ws => (fr w).bind fun x => (frs9 ws).map fun l => x :: l
section
variable {K : PySem.W.Frag} {r r1 r2 : Rg} {M M' : Sto} {H H1 H2 : Hp} {σ : L2.St} {δ : DEnv}
theorem RD.of {v : V} {x : D} (h : Rp K (fz r H) x v) : RD K r H v x := by
  cases x with
  | lst l =>
    simp only [Rp] at h
    obtain ⟨a, xs, e, q, p⟩ := h
    exact ⟨a, xs, e, fz_sub _ _ q, p⟩
  | dct ks l =>
    simp only [Rp] at h
    obtain ⟨a, xs, e, q, p⟩ := h
    exact ⟨a, xs, e, fz_sub _ _ q, p⟩
  | _ => exact h
theorem RW.rd (S : Sta K r M H) {v : V} {w : W} {x : D} (h : RW K r H v w) (e : rd M w = some x) : RD K r H v x := by
  cases w with
  | d y =>
    have : y = x := Option.some.inj e
    subst this
    exact RD.of h
  | loc k =>
    obtain ⟨a, e1, rfl⟩ := h
    simp only [S9.rd] at e
    split at e
    · rename_i l hl
      cases e
      obtain ⟨xs, q, p⟩ := S.cell k a _ e1 hl
      exact ⟨a, xs, rfl, q, p⟩
    · rename_i ks l hl
      cases e
      obtain ⟨xs, q, p⟩ := S.cell k a _ e1 hl
      exact ⟨a, xs, rfl, q, p⟩
    · cases e
theorem RW.fr {v : V} {w : W} {x : D} (h : RW K r H v w) (e : fr w = some x) : Rp K (fz r H) x v := by
  cases w with
  | d y =>
    have : y = x := Option.some.inj e
    subst this
    exact h
  | loc k => cases e
def RDL (K : PySem.W.Frag) (r : Rg) (H : Hp) : List V → List D → Prop
  | [], l => l = []
  | v :: vs, l => ∃ x t, l = x :: t ∧ RD K r H v x ∧ RDL K r H vs t
theorem RWL.rds (S : Sta K r M H) : ∀ {vs : List V} {ws : List W} {l : List D}, RWL K r H vs ws → rds M ws = some l → RDL K r H vs l
  | [], ws, l, h, e => by
    cases (show ws = [] from h)
    cases e
    rfl
  | v :: vs, ws, l, h, e => by
    obtain ⟨w, ws', rfl, h1, h2⟩ := h
    simp only [S9.rds, Option.bind_eq_some_iff, Option.map_eq_some_iff] at e
    obtain ⟨x, ex, t, et, rfl⟩ := e
    exact ⟨x, t, rfl, h1.rd S ex, h2.rds S et⟩
theorem RWL.frs : ∀ {vs : List V} {ws : List W} {l : List D}, RWL K r H vs ws → frs9 ws = some l → RpL K (fz r H) l vs
  | [], ws, l, h, e => by
    cases (show ws = [] from h)
    cases e
    exact RpL.nil
  | v :: vs, ws, l, h, e => by
    obtain ⟨w, ws', rfl, h1, h2⟩ := h
    simp only [S9.frs9, Option.bind_eq_some_iff, Option.map_eq_some_iff] at e
    obtain ⟨x, ex, t, et, rfl⟩ := e
    exact RpL.cons (h1.fr ex) (h2.frs et)
theorem RWL.cons {v : V} {w : W} {vs : List V} {ws : List W} (h : RW K r H v w) (t : RWL K r H vs ws) : RWL K r H (v :: vs) (w :: ws) := ⟨w, ws, rfl, h, t⟩
theorem RWL.nil : RWL K r H [] [] := rfl
theorem RWL.length : ∀ {vs : List V} {ws : List W}, RWL K r H vs ws → vs.length = ws.length
  | [], ws, h => by cases (show ws = [] from h); rfl
  | v :: vs, ws, h => by
    obtain ⟨w, ws', rfl, h1, h2⟩ := h
    simp [h2.length]

/-! ### a new list -/
structure NewL (K : PySem.W.Frag) (r : Rg) (H : Hp) (M' : Sto) (l : List D) (p : Addr) (r' : Rg) (H' : Hp) : Prop where
  nxt : Nxt r H r' H'
  sta : Sta K r' M' H'
  sta2 : Sta K (r'.add p) (M' ++ [.lst l]) H'
  same : Same (fz r H) (fz (r'.add p) H')
theorem has_add {r : Rg} {p a : Addr} : (r.add p).has a ↔ r.has a ∨ a = p := by
  unfold Rg.add Rg.has
  simp only [List.mem_append, List.mem_singleton]
  constructor
  · rintro ((h | h) | h)
    · exact .inl (.inl h)
    · exact .inr h
    · exact .inl (.inr h)
  · rintro ((h | h) | h)
    · exact .inl (.inl h)
    · exact .inr h
    · exact .inl (.inr h)
theorem has_hid {r : Rg} {p a : Addr} : (r.hid p).has a ↔ r.has a ∨ a = p := by
  unfold Rg.hid Rg.has
  simp only [List.mem_cons]
  constructor
  · rintro (h | h | h)
    · exact .inl (.inl h)
    · exact .inr h
    · exact .inl (.inr h)
  · rintro ((h | h) | h)
    · exact .inl h
    · exact .inr (.inr h)
    · exact .inr (.inl h)
theorem same_up {H : Hp} {p : Addr} {o : HO} (hp : H p = none) : Same H (upd H p o) := fun x u h => by rw [upd_ne (ne_of_none h hp)]; exact h
theorem fz_new {q : Rg} {p : Addr} {o : HO} (h : H p = none) (m : ∀ a, q.has a → r.has a ∨ a = p) : Same (fz r H) (fz q (upd H p o)) := fun a u e => by
  have h1 : ¬ r.has a := fun m => by rw [fz_in m] at e; cases e
  rw [fz_out h1] at e
  have h2 : a ≠ p := ne_of_none e h
  rw [fz_out (fun z => (m a z).elim h1 h2), upd_ne h2]
  exact e
theorem nxt_new {p : Addr} {o : HO} (h : H p = none) : Nxt r H (r.add p) (upd H p o) :=
  ⟨⟨[p], rfl⟩, rfl, fun a _ u e => same_up h a u e, fz_new h fun a z => has_add.mp z⟩
theorem sta_new {p : Addr} {o : HO} {c : Cell} (S : Sta K r M H) (h : H p = none) (q : CellOk K (r.add p) (upd H p o) p c) : Sta K (r.add p) (M ++ [c]) (upd H p o) := by
  have nm := S.fresh h
  refine ⟨by simp [Rg.add, S.len], ⟨?_, S.nd.2⟩, fun a ha z => ?_, fun a ha => ?_, fun k a c' e1 e2 => ?_⟩
  · show (r.c ++ [p]).Nodup
    rw [List.nodup_append]
    exact ⟨S.nd.1, by simp, fun a ha b hb z => by simp at hb; subst hb; exact nm (z ▸ .inl ha)⟩
  · have z : a ∈ r.c ++ [p] := z
    rcases List.mem_append.mp z with z | z
    · exact S.dj a ha z
    · have : a = p := by simpa using z
      exact nm (this ▸ .inr ha)
  · obtain ⟨u, e⟩ := S.prv a ha
    exact ⟨u, same_up h a u e⟩
  · have e1 : (r.c ++ [p])[k]? = some a := e1
    by_cases hk : k < r.c.length
    · rw [List.getElem?_append_left hk] at e1
      rw [List.getElem?_append_left (by rw [← S.len]; exact hk)] at e2
      have ha : a ≠ p := fun z => nm (z ▸ .inl (List.mem_of_getElem? e1))
      exact (S.cell k a c' e1 e2).next (nxt_new h) (upd_ne ha)
    · have e3 : k = r.c.length := by
        have := (List.getElem?_eq_some_iff.mp e1).1
        simp at this
        omega
      subst e3
      have e4 : a = p := by simpa using e1.symm
      have e5 : c' = c := by rw [S.len] at e2; simpa using e2.symm
      subst e4
      subst e5
      exact q
theorem new_l {p : Addr} {l : List D} {xs : List V} (S : Sta K r M H) (h : H p = none) (q : RpL K (fz r H) l xs) : NewL K r H M l p r (upd H p (.lst xs)) := by
  have n : Nxt r H (r.add p) (upd H p (.lst xs)) := nxt_new h
  exact ⟨Nxt.more (same_up h), S.more (same_up h), sta_new S h ⟨xs, upd_same, RpL.mono n.same q⟩, n.same⟩
theorem NewL.step {l : List D} {p : Addr} {r' : Rg} {H' : Hp} {M0 : Sto} (n : Nxt r H r1 H1) (h : NewL K r1 H1 M' l p r' H') : NewL K r H M' l p r' H' :=
  ⟨n.trans h.nxt, h.sta, h.sta2, n.same.trans h.same⟩
theorem NewL.nxt2 {l : List D} {p : Addr} {r' : Rg} {H' : Hp} (h : NewL K r H M' l p r' H') : Nxt r H (r'.add p) H' := by
  obtain ⟨t, e⟩ := h.nxt.ext
  exact ⟨⟨t ++ [p], by show r'.c ++ [p] = _; rw [e]; simp⟩, h.nxt.eu, h.nxt.prv, h.same⟩
theorem NewL.at_ {l : List D} {p : Addr} {r' : Rg} {H' : Hp} (h : NewL K r H M' l p r' H') : ∃ xs, H' p = some (.lst xs) ∧ RpL K (fz (r'.add p) H') l xs := by
  have e1 : (r'.add p).c[r'.c.length]? = some p := by simp [Rg.add]
  have e2 : (M' ++ [Cell.lst l])[r'.c.length]? = some (.lst l) := by rw [h.sta.len]; simp
  exact h.sta2.cell _ _ _ e1 e2
theorem NewL.out {l : List D} {p : Addr} {r' : Rg} {H' : Hp} (h : NewL K r H M' l p r' H') : ¬ r'.has p := fun m => by
  rcases m with m | m
  · have : (r'.c ++ [p]).Nodup := h.sta2.nd.1
    rw [List.nodup_append] at this
    exact this.2.2 p m p (by simp) rfl
  · exact h.sta2.dj p m (by simp [Rg.add])
theorem NewL.rp {l : List D} {p : Addr} {r' : Rg} {H' : Hp} (h : NewL K r H M' l p r' H') : Rp K (fz r' H') (.lst l) (.ref p) := by
  obtain ⟨xs, e, q⟩ := h.at_
  simp only [Rp]
  refine ⟨p, xs, rfl, ?_, RpL.mono (fz_less (fun a z => has_add.mpr (.inl z)) (Same.refl _)) q⟩
  rw [fz_out h.out]; exact e
end

/-! ### results -/
/-- an error: its class, its fields -/
structure Exn where
  cls : Value
  ns : List Str
  ds : List D
inductive R (A : Type) where
  | bad
  | ok (a : A) (M : Sto)
  | ex (e : Exn) (M : Sto)
def R.bind {A B : Type} : R A → (A → Sto → R B) → R B
  | .bad, _ => .bad
  | .ok a M, k => k a M
  | .ex e M, _ => .ex e M
def R.of {A : Type} (M : Sto) : Option A → R A
  | some a => .ok a M
  | none => .bad
@[simp] theorem R.of_some {A : Type} {M : Sto} {a : A} : R.of M (some a) = .ok a M := rfl
@[simp] theorem R.bind_ok {A B : Type} {a : A} {M : Sto} {k : A → Sto → R B} : (R.ok a M).bind k = k a M := rfl
@[simp] theorem R.bind_ex {A B : Type} {e : Exn} {M : Sto} {k : A → Sto → R B} : (R.ex e M).bind k = .ex e M := rfl
@[simp] theorem R.bind_bad {A B : Type} {k : A → Sto → R B} : (R.bad : R A).bind k = .bad := rfl
def ExR (K : PySem.W.Frag) (r : Rg) (H : Hp) (cls : Value) (od : Option Addr) (e : Exn) : Prop :=
  cls = e.cls ∧ match od with
    | none => e.ns = []
    | some d => ∃ fs, H d = some (.xd fs) ∧ fs.map (·.1) = e.ns ∧ RpL K (fz r H) e.ds (fs.map (·.2))
def Post {A B : Type} (K : PySem.W.Frag) (E : XK) (r : Rg) (H : Hp) (rel : Rg → Hp → Sto → B → A → Prop) : R A → (B → Hp → Prop) → Prop
  | .bad, _ => False
  | .ok w M', Q => ∀ v H' r', Nxt r H r' H' → Sta K r' M' H' → rel r' H' M' v w → Q v H'
  | .ex e M', _ => ∀ H' r' cls od, Nxt r H r' H' → Sta K r' M' H' → ExR K r' H' cls od e → E cls od H'
section
variable {K : PySem.W.Frag} {E : XK} {r r1 : Rg} {H H1 : Hp} {A B C A' : Type} {rel : Rg → Hp → Sto → B → A → Prop} {rel' : Rg → Hp → Sto → C → A' → Prop}
theorem Post.nxt {x : R A} {Q : B → Hp → Prop} (n : Nxt r H r1 H1) (h : Post K E r H rel x Q) : Post K E r1 H1 rel x Q := by
  cases x with
  | bad => exact h
  | ok w M => exact fun v H' r' n' S q => h v H' r' (n.trans n') S q
  | ex e M => exact fun H' r' c o n' S q => h H' r' c o (n.trans n') S q
theorem Post.bind {x : R A'} {k : A' → Sto → R A} {Q : B → Hp → Prop} {Q' : C → Hp → Prop} (h : Post K E r H rel (x.bind k) Q)
    (j : ∀ w M' v H' r', x = .ok w M' → Nxt r H r' H' → Sta K r' M' H' → rel' r' H' M' v w → Post K E r' H' rel (k w M') Q → Q' v H') : Post K E r H rel' x Q' := by
  cases x with
  | bad => exact h
  | ok w M => exact fun v H' r' n' S q => j w M v H' r' rfl n' S q (Post.nxt n' h)
  | ex e M => exact h
theorem Post.of {o : Option A} {M : Sto} {Q : B → Hp → Prop} (h : Post K E r H rel (R.of M o) Q) : ∃ w, o = some w ∧ ∀ v H' r', Nxt r H r' H' → Sta K r' M H' → rel r' H' M v w → Q v H' := by
  cases o with
  | none => exact h.elim
  | some w => exact ⟨w, rfl, h⟩
end

/-! ### readings by functions of the data -/
abbrev FE := DEnv → Sto → R W
abbrev FN := DEnv → Sto → R (List D)
abbrev FA := DEnv → Sto → R (List W)
abbrev FT := DEnv → Sto → R Bool
def relW (K : PySem.W.Frag) (r : Rg) (H : Hp) (_ : Sto) (v : V) (w : W) : Prop := RW K r H v w
def relWL (K : PySem.W.Frag) (r : Rg) (H : Hp) (_ : Sto) (v : List V) (w : List W) : Prop := RWL K r H v w
def relB (_ : Rg) (_ : Hp) (_ : Sto) (v : Bool) (w : Bool) : Prop := v = w
def PostN (K : PySem.W.Frag) (E : XK) (r : Rg) (H : Hp) : R (List D) → VK → Prop
  | .bad, _ => False
  | .ok l M', Q => ∀ p H' r', NewL K r H M' l p r' H' → Q (.ref p) H'
  | .ex e M', _ => ∀ H' r' cls od, Nxt r H r' H' → Sta K r' M' H' → ExR K r' H' cls od e → E cls od H'
def tR (K : PySem.W.Frag) (E : XK) (f : FE) : TE := fun σ H Q => ∃ r δ M, EnvR K r H σ δ ∧ Sta K r M H ∧ Post K E r H (relW K) (f δ M) Q
def tN (K : PySem.W.Frag) (E : XK) (f : FN) : TE := fun σ H Q => ∃ r δ M, EnvR K r H σ δ ∧ Sta K r M H ∧ PostN K E r H (f δ M) Q
def tA (K : PySem.W.Frag) (E : XK) (f : FA) : TA := fun σ H Q => ∃ r δ M, EnvR K r H σ δ ∧ Sta K r M H ∧ Post K E r H (relWL K) (f δ M) Q
def tT (K : PySem.W.Frag) (E : XK) (f : FT) : TT := fun σ H Q => ∃ r δ M, EnvR K r H σ δ ∧ Sta K r M H ∧ Post K E r H relB (f δ M) Q
abbrev RE (X : Cx) (E : XK) (e : Expr) (f : FE) : Prop := PE X e (tR X.K E f)
abbrev RN (X : Cx) (E : XK) (e : Expr) (f : FN) : Prop := PE X e (tN X.K E f)
abbrev RA (X : Cx) (E : XK) (es : List Expr) (f : FA) : Prop := PA X es (tA X.K E f)
abbrev RT (X : Cx) (E : XK) (e : Expr) (f : FT) : Prop := PT X e (tT X.K E f)
theorem PostN.bind {K : PySem.W.Frag} {E : XK} {r : Rg} {H : Hp} {A' C : Type} {rel' : Rg → Hp → Sto → C → A' → Prop} {x : R A'} {k : A' → Sto → R (List D)} {Q : VK} {Q' : C → Hp → Prop} (h : PostN K E r H (x.bind k) Q)
    (j : ∀ w M' v H' r', x = .ok w M' → Nxt r H r' H' → Sta K r' M' H' → rel' r' H' M' v w → PostN K E r' H' (k w M') Q → Q' v H') : Post K E r H rel' x Q' := by
  cases x with
  | bad => exact h
  | ok w M =>
    refine fun v H' r' n' S q => j w M v H' r' rfl n' S q ?_
    have h : PostN K E r H (k w M) Q := h
    revert h
    cases k w M with
    | bad => exact fun h => h
    | ok l M2 => exact fun h p H2 r2 N => h p H2 r2 (NewL.step (M0 := M) n' N)
    | ex e M2 => exact fun h H2 r2 c o n2 S2 q2 => h H2 r2 c o (n'.trans n2) S2 q2
  | ex e M => exact h

theorem pe_imp {X : Cx} {e : Expr} {t t' : TE} (h : PE X e t) (k : ∀ σ H Q, t' σ H Q → t σ H Q) : PE X e t' := ⟨fun pins s σ H Q I q => h.run pins s σ H Q I (k σ H Q q)⟩
theorem pt_imp {X : Cx} {e : Expr} {t t' : TT} (h : PT X e t) (k : ∀ σ H Q, t' σ H Q → t σ H Q) : PT X e t' := ⟨fun pins s σ H Q I q => h.run pins s σ H Q I (k σ H Q q)⟩
theorem pw_imp {X : Cx} {e : Expr} {t t' : TT} (h : PW X e t) (k : ∀ σ H Q, t' σ H Q → t σ H Q) : PW X e t' := ⟨fun whole pins s σ H Q I q => h.run whole pins s σ H Q I (k σ H Q q)⟩
theorem pa_imp {X : Cx} {es : List Expr} {t t' : TA} (h : PA X es t) (k : ∀ σ H Q, t' σ H Q → t σ H Q) : PA X es t' := ⟨fun pos pins s σ H Q I q => h.run pos pins s σ H Q I (k σ H Q q)⟩
theorem ps_imp {X : Cx} {e : Stmt} {t t' : TS} (h : PS X e t) (k : ∀ D σ H, t' D σ H → t D σ H) : PS X e t' := ⟨fun pins s σ H D I q => h.run pins s σ H D I (k D σ H q)⟩
theorem pss_imp {X : Cx} {e : List Stmt} {t t' : TS} (h : PSs X e t) (k : ∀ D σ H, t' D σ H → t D σ H) : PSs X e t' := ⟨fun pins s σ H D I q => h.run pins s σ H D I (k D σ H q)⟩

section
variable {X : Cx} {E : XK} {pos : Pos} {a b : Expr} {fa fb : FE}
/-! ### names, constants -/
def fVar (i : Nat) : FE := fun δ M => match δ[i]? with
  | some (some w) => .ok w M
  | _ => .bad
theorem re_var {i : Nat} {e : Expr} (h : PE X e (tVar i)) : RE X E e (fVar i) := pe_imp h fun σ H Q ⟨r, δ, M, Ev, S, k⟩ => by
  unfold fVar at k
  split at k
  · rename_i w' hw
    obtain ⟨v, ev, q⟩ := Ev.at_ i _ hw
    exact ⟨v, ev, k v H r Nxt.refl S q⟩
  · exact k.elim
def fC (x : D) : FE := fun _ M => .ok (.d x) M
theorem re_c {e : Expr} {v : V} {x : D} (h : PE X e (tC v)) (q : ∀ H, Rp X.K H x v) : RE X E e (fC x) := pe_imp h fun σ H Q ⟨r, δ, M, Ev, S, k⟩ => k v H r Nxt.refl S (q _)
theorem re_int {i : Int} {j} : RE X E (.Constant (.int i) j pos) (fC (.int i)) := re_c pe_int fun _ => by simp only [Rp]
theorem re_bl {i : Bool} {j} : RE X E (.Constant (.bool i) j pos) (fC (.bl i)) := re_c pe_bl fun _ => by simp only [Rp]
theorem re_non {j} : RE X E (.Constant .none j pos) (fC .non) := re_c pe_non fun _ => by simp only [Rp]
theorem re_str {x : Str} {j} : RE X E (.Constant (.str x) j pos) (fC (.str x)) := re_c pe_str fun _ => by simp only [Rp]
/-- a name of the module that holds a plain constant -/
theorem re_glob {x : Str} {v : V} {u : Value} {d : D} (hg : Gl X x) (hm : X.mg x = some u) (rv : RelV v u) (q : ∀ H, Rp X.K H d v) (hd : (x == ("__debug__" : Str)) = false := by decide) : RE X E (.Name x pos) (fC d) := re_c (pe_glob hg hm rv hd) q

/-! ### a new list, frozen or kept -/
def fFro (f : FN) : FE := fun δ M => (f δ M).bind fun l M1 => .ok (.d (.lst l)) M1
def fNew (f : FN) : FE := fun δ M => (f δ M).bind fun l M1 => .ok (.loc M1.length) (M1 ++ [.lst l])
theorem fro_imp {f : FN} {K : PySem.W.Frag} {r : Rg} {H : Hp} {x : R (List D)} {Q : VK} (k : Post K E r H (relW K) (x.bind fun l M1 => .ok (.d (.lst l)) M1) Q) : PostN K E r H x Q := by
  cases x with
  | bad => exact k
  | ok l M1 => exact fun p H' r' N => k _ H' r' N.nxt N.sta N.rp
  | ex e M1 => exact k
theorem re_fro {f : FN} (h : RN X E a f) : RE X E a (fFro f) := pe_imp h fun σ H Q ⟨r, δ, M, Ev, S, k⟩ => ⟨r, δ, M, Ev, S, fro_imp (f := f) k⟩
theorem re_new {f : FN} (h : RN X E a f) : RE X E a (fNew f) := pe_imp h fun σ H Q ⟨r, δ, M, Ev, S, k⟩ => ⟨r, δ, M, Ev, S, by
  unfold fNew at k
  revert k
  cases f δ M with
  | bad => exact fun k => k
  | ok l M1 => exact fun k p H' r' N => k _ H' (r'.add p) N.nxt2 N.sta2 ⟨p, by rw [← N.sta.len]; simp [Rg.add], rfl⟩
  | ex e M1 => exact fun k => k⟩

/-! ### operators -/
def OpD (K : PySem.W.Frag) (rr : R2) (g : D → D → Option D) : Prop := ∀ (r : Rg) (M : Sto) (H : Hp) (x y : V) (d1 d2 d : D), Sta K r M H → RD K r H x d1 → RD K r H y d2 → g d1 d2 = some d →
  ∀ Q : VK, (∀ v H', Same H H' → Rp K (fz r H') d v → Q v H') → rr x y H Q
def OpN (K : PySem.W.Frag) (rr : R2) (g : D → D → Option (List D)) : Prop := ∀ (r : Rg) (M : Sto) (H : Hp) (x y : V) (d1 d2 : D) (l : List D), Sta K r M H → RD K r H x d1 → RD K r H y d2 → g d1 d2 = some l →
  ∀ Q : VK, (∀ xs, RpL K (fz r H) l xs → ∀ p, H p = none → Q (.ref p) (upd H p (.lst xs))) → rr x y H Q
/-- two operands, read when both are there -/
def f2 {A : Type} (fa fb : FE) (k : D → D → Sto → R A) : DEnv → Sto → R A := fun δ M => (fa δ M).bind fun x M1 => (fb δ M1).bind fun y M2 => (R.of M2 ((rd M2 x).bind fun x' => (rd M2 y).map fun y' => (x', y'))).bind fun p M3 => k p.1 p.2 M3
def fOp (g : D → D → Option D) (fa fb : FE) : FE := f2 fa fb fun x y M => R.of M ((g x y).map W.d)
def fOpN (g : D → D → Option (List D)) (fa fb : FE) : FN := f2 fa fb fun x y M => R.of M (g x y)
theorem rd2 {M : Sto} {w u : W} {z : D × D} (e : ((rd M w).bind fun x' => (rd M u).map fun y' => (x', y')) = some z) : rd M w = some z.1 ∧ rd M u = some z.2 := by
  simp only [Option.bind_eq_some_iff, Option.map_eq_some_iff] at e
  obtain ⟨x, h1, y, h2, rfl⟩ := e
  exact ⟨h1, h2⟩
theorem op_imp {rr : R2} {g : D → D → Option D} (hg : OpD X.K rr g) : ∀ σ H Q, tR X.K E (fOp g fa fb) σ H Q → tOp rr (tR X.K E fa) (tR X.K E fb) σ H Q := fun σ H Q ⟨r, δ, M, Ev, S, k⟩ =>
  ⟨r, δ, M, Ev, S, Post.bind k fun w1 M1 v1 H1 r1 _ n1 S1 q1 k1 => ⟨r1, δ, M1, Ev.mono n1, S1, Post.bind k1 fun w2 M2 v2 H2 r2 _ n2 S2 q2 k2 => by
    cases e : ((rd M2 w1).bind fun x' => (rd M2 w2).map fun y' => (x', y')) with
    | none => rw [e] at k2; exact k2.elim
    | some z =>
      rw [e] at k2
      obtain ⟨e1, e2⟩ := rd2 e
      obtain ⟨w, h1, k3⟩ := Post.of (show Post _ _ _ _ _ (R.of M2 ((g z.1 z.2).map W.d)) _ from k2)
      simp only [Option.map_eq_some_iff] at h1
      obtain ⟨d, hd, rfl⟩ := h1
      exact hg r2 M2 H2 v1 v2 z.1 z.2 d S2 ((RW.mono n2 q1).rd S2 e1) (RW.rd S2 q2 e2) hd Q fun v H3 e q => k3 v H3 r2 (Nxt.more e) (S2.more e) q⟩⟩
theorem opn_imp {rr : R2} {g : D → D → Option (List D)} (hg : OpN X.K rr g) : ∀ σ H Q, tN X.K E (fOpN g fa fb) σ H Q → tOp rr (tR X.K E fa) (tR X.K E fb) σ H Q := fun σ H Q ⟨r, δ, M, Ev, S, k⟩ =>
  ⟨r, δ, M, Ev, S, PostN.bind k fun w1 M1 v1 H1 r1 _ n1 S1 q1 k1 => ⟨r1, δ, M1, Ev.mono n1, S1, PostN.bind k1 fun w2 M2 v2 H2 r2 _ n2 S2 q2 k2 => by
    cases e : ((rd M2 w1).bind fun x' => (rd M2 w2).map fun y' => (x', y')) with
    | none => rw [e] at k2; exact k2.elim
    | some z =>
      rw [e] at k2
      obtain ⟨e1, e2⟩ := rd2 e
      have k3 : PostN X.K E r2 H2 (R.of M2 (g z.1 z.2)) Q := k2
      cases e3 : g z.1 z.2 with
      | none => rw [e3] at k3; exact k3.elim
      | some l =>
        rw [e3] at k3
        exact hg r2 M2 H2 v1 v2 z.1 z.2 l S2 ((RW.mono n2 q1).rd S2 e1) (RW.rd S2 q2 e2) e3 Q fun xs q p hp => k3 p _ r2 (new_l S2 hp q)⟩⟩
theorem re_op {op : Operator} {rr : R2} {g : D → D → Option D} (ho : OpR X (binaryOp op) rr) (hg : OpD X.K rr g) (ha : RE X E a fa) (hb : RE X E b fb) : RE X E (.BinOp a op b pos) (fOp g fa fb) := pe_imp (pe_op ho ha hb) (op_imp hg)
theorem rn_op {op : Operator} {rr : R2} {g : D → D → Option (List D)} (ho : OpR X (binaryOp op) rr) (hg : OpN X.K rr g) (ha : RE X E a fa) (hb : RE X E b fb) : RN X E (.BinOp a op b pos) (fOpN g fa fb) := pe_imp (pe_op ho ha hb) (opn_imp hg)
theorem re_cmp {op : CmpOp} {rr : R2} {g : D → D → Option D} (ho : OpR X (compareOp op) rr) (hg : OpD X.K rr g) (ha : RE X E a fa) (hb : RE X E b fb) (hm : behindInMarks op b = false) : RE X E (.Compare a [op] [b] pos) (fOp g fa fb) := pe_imp (pe_cmpR ho ha hb hm) (op_imp hg)
theorem re_ix {rr : R2} {g : D → D → Option D} (ho : IxR X rr) (hg : OpD X.K rr g) (ha : RE X E a fa) (hb : RE X E b fb) (hs : PlainIx b) : RE X E (.Subscript a b pos) (fOp g fa fb) := pe_imp (pe_ix ho ha hb hs) (op_imp hg)
def UnD (K : PySem.W.Frag) (rr : V → Hp → VK → Prop) (g : D → Option D) : Prop := ∀ (r : Rg) (M : Sto) (H : Hp) (x : V) (d1 d : D), Sta K r M H → RD K r H x d1 → g d1 = some d →
  ∀ Q : VK, (∀ v H', Same H H' → Rp K (fz r H') d v → Q v H') → rr x H Q
def fUn (g : D → Option D) (fa : FE) : FE := fun δ M => (fa δ M).bind fun x M1 => R.of M1 (((rd M1 x).bind g).map W.d)
theorem un_imp {rr : V → Hp → VK → Prop} {g : D → Option D} (hg : UnD X.K rr g) : ∀ σ H Q, tR X.K E (fUn g fa) σ H Q → tUn rr (tR X.K E fa) σ H Q := fun σ H Q ⟨r, δ, M, Ev, S, k⟩ =>
  ⟨r, δ, M, Ev, S, Post.bind k fun w1 M1 v1 H1 r1 _ n1 S1 q1 k1 => by
    obtain ⟨w, h1, k3⟩ := Post.of k1
    simp only [Option.map_eq_some_iff, Option.bind_eq_some_iff] at h1
    obtain ⟨d, ⟨x, hx, hd⟩, rfl⟩ := h1
    exact hg r1 M1 H1 v1 x d S1 (RW.rd S1 q1 hx) hd Q fun v H3 e q => k3 v H3 r1 (Nxt.more e) (S1.more e) q⟩
theorem re_un {op : UnaryOp} {rr : V → Hp → VK → Prop} {g : D → Option D} (ho : UnR X (unaryOp op) rr) (hg : UnD X.K rr g) (ha : RE X E a fa) : RE X E (.UnaryOp op a pos) (fUn g fa) := pe_imp (pe_un ho ha) (un_imp hg)

/-! ### arguments, displays, built-ins -/
def fNil : FA := fun _ M => .ok [] M
def fCons (fa : FE) (fs : FA) : FA := fun δ M => (fa δ M).bind fun w M1 => (fs δ M1).bind fun ws M2 => .ok (w :: ws) M2
theorem ra_nil : RA X E [] fNil := pa_imp pa_nil fun σ H Q ⟨r, δ, M, Ev, S, k⟩ => k [] H r Nxt.refl S rfl
theorem cons_imp {fs : FA} : ∀ σ H Q, tA X.K E (fCons fa fs) σ H Q → tCons (tR X.K E fa) (tA X.K E fs) σ H Q := fun σ H Q ⟨r, δ, M, Ev, S, k⟩ =>
  ⟨r, δ, M, Ev, S, Post.bind k fun w1 M1 v1 H1 r1 _ n1 S1 q1 k1 => ⟨r1, δ, M1, Ev.mono n1, S1, Post.bind k1 fun ws M2 vs H2 r2 _ n2 S2 q2 k2 => k2 _ H2 r2 Nxt.refl S2 (RWL.cons (RW.mono n2 q1) q2)⟩⟩
theorem ra_cons {es : List Expr} {fs : FA} (ha : RE X E a fa) (hr : RA X E es fs) (hs : starEach (a :: es) X.env = (false, eval a X.env) :: starEach es X.env := by rfl) : RA X E (a :: es) (fCons fa fs) := pa_imp (pa_cons ha hr hs) cons_imp
def CallD (K : PySem.W.Frag) (rr : List V → Hp → VK → Prop) (g : List D → Option D) : Prop := ∀ (r : Rg) (M : Sto) (H : Hp) (vs : List V) (ds : List D) (d : D), Sta K r M H → RDL K r H vs ds → g ds = some d →
  ∀ Q : VK, (∀ v H', Same H H' → Rp K (fz r H') d v → Q v H') → rr vs H Q
def CallN (K : PySem.W.Frag) (rr : List V → Hp → VK → Prop) (g : List D → Option (List D)) : Prop := ∀ (r : Rg) (M : Sto) (H : Hp) (vs : List V) (ds : List D) (l : List D), Sta K r M H → RDL K r H vs ds → g ds = some l →
  ∀ Q : VK, (∀ xs, RpL K (fz r H) l xs → ∀ p, H p = none → Q (.ref p) (upd H p (.lst xs))) → rr vs H Q
def fCB (g : List D → Option D) (fs : FA) : FE := fun δ M => (fs δ M).bind fun ws M1 => R.of M1 (((rds M1 ws).bind g).map W.d)
def fCN (g : List D → Option (List D)) (fs : FA) : FN := fun δ M => (fs δ M).bind fun ws M1 => R.of M1 ((rds M1 ws).bind g)
theorem cb_imp {rr : List V → Hp → VK → Prop} {g : List D → Option D} {fs : FA} (hg : CallD X.K rr g) : ∀ σ H Q, tR X.K E (fCB g fs) σ H Q → tCB rr (tA X.K E fs) σ H Q := fun σ H Q ⟨r, δ, M, Ev, S, k⟩ =>
  ⟨r, δ, M, Ev, S, Post.bind k fun ws M1 vs H1 r1 _ n1 S1 q1 k1 => by
    obtain ⟨w, h1, k3⟩ := Post.of k1
    simp only [Option.map_eq_some_iff, Option.bind_eq_some_iff] at h1
    obtain ⟨d, ⟨x, hx, hd⟩, rfl⟩ := h1
    exact hg r1 M1 H1 vs x d S1 (RWL.rds S1 q1 hx) hd Q fun v H3 e q => k3 v H3 r1 (Nxt.more e) (S1.more e) q⟩
theorem cn_imp {rr : List V → Hp → VK → Prop} {g : List D → Option (List D)} {fs : FA} (hg : CallN X.K rr g) : ∀ σ H Q, tN X.K E (fCN g fs) σ H Q → tCB rr (tA X.K E fs) σ H Q := fun σ H Q ⟨r, δ, M, Ev, S, k⟩ =>
  ⟨r, δ, M, Ev, S, PostN.bind k fun ws M1 vs H1 r1 _ n1 S1 q1 k1 => by
    cases e : (rds M1 ws).bind g with
    | none => rw [e] at k1; exact k1.elim
    | some l =>
      rw [e] at k1
      simp only [Option.bind_eq_some_iff] at e
      obtain ⟨x, hx, hd⟩ := e
      exact hg r1 M1 H1 vs x l S1 (RWL.rds S1 q1 hx) hd Q fun xs q p hp => k1 p _ r1 (new_l S1 hp q)⟩
variable {x : Str} {p : Pos} {es : List Expr} {id T : String} {fs : FA}
theorem re_callB {rr : List V → Hp → VK → Prop} {g : List D → Option D} (hc : CallR X (.builtin id) rr) (hg : CallD X.K rr g) (hx : Gl X x) (hm : X.mg x = none) (hv : bootBuiltins x = some (.builtin id)) (ha : RA X E (a :: es) fs) (hn : x ≠ "__name__" := by decide) (hdb : (x == ("__debug__" : Str)) = false := by decide)
    (he : starEach (a :: es) X.env = (false, eval a X.env) :: starEach es X.env := by rfl) (hpl : (backTo pos (starEach es X.env)).any (·.1) = false := by rfl) : RE X E (.Call (.Name x p) (a :: es) [] pos) (fCB g fs) := pe_imp (pe_callB hc hx hm hv ha hn hdb he hpl) (cb_imp hg)
theorem rn_callB {rr : List V → Hp → VK → Prop} {g : List D → Option (List D)} (hc : CallR X (.builtin id) rr) (hg : CallN X.K rr g) (hx : Gl X x) (hm : X.mg x = none) (hv : bootBuiltins x = some (.builtin id)) (ha : RA X E (a :: es) fs) (hn : x ≠ "__name__" := by decide) (hdb : (x == ("__debug__" : Str)) = false := by decide)
    (he : starEach (a :: es) X.env = (false, eval a X.env) :: starEach es X.env := by rfl) (hpl : (backTo pos (starEach es X.env)).any (·.1) = false := by rfl) : RN X E (.Call (.Name x p) (a :: es) [] pos) (fCN g fs) := pe_imp (pe_callB hc hx hm hv ha hn hdb he hpl) (cn_imp hg)
theorem re_callTy {rr : List V → Hp → VK → Prop} {g : List D → Option D} (hc : CallR X (.type T) rr) (hg : CallD X.K rr g) (hx : Gl X x) (hm : X.mg x = none) (hv : bootBuiltins x = some (.type T)) (ha : RA X E (a :: es) fs) (hn : x ≠ "__name__" := by decide) (hdb : (x == ("__debug__" : Str)) = false := by decide)
    (he : starEach (a :: es) X.env = (false, eval a X.env) :: starEach es X.env := by rfl) (hpl : (backTo pos (starEach es X.env)).any (·.1) = false := by rfl) : RE X E (.Call (.Name x p) (a :: es) [] pos) (fCB g fs) := pe_imp (pe_callTy hc hx hm hv ha hn hdb he hpl) (cb_imp hg)
theorem rn_callTy {rr : List V → Hp → VK → Prop} {g : List D → Option (List D)} (hc : CallR X (.type T) rr) (hg : CallN X.K rr g) (hx : Gl X x) (hm : X.mg x = none) (hv : bootBuiltins x = some (.type T)) (ha : RA X E (a :: es) fs) (hn : x ≠ "__name__" := by decide) (hdb : (x == ("__debug__" : Str)) = false := by decide)
    (he : starEach (a :: es) X.env = (false, eval a X.env) :: starEach es X.env := by rfl) (hpl : (backTo pos (starEach es X.env)).any (·.1) = false := by rfl) : RN X E (.Call (.Name x p) (a :: es) [] pos) (fCN g fs) := pe_imp (pe_callTy hc hx hm hv ha hn hdb he hpl) (cn_imp hg)
end
end S9

namespace S9
open PySem PySem.Spec PyProof.Rows L2
section
variable {X : Cx} {E : XK} {pos : Pos} {a b c : Expr} {fa fb fc : FE}
/-! ### tuples and lists written out -/
theorem rp_tup {K : PySem.W.Frag} {r : Rg} {H : Hp} {M : Sto} {l : List D} {xs : List V} {p : Addr} (S : Sta K r M H) (hp : H p = none) (q : RpL K (fz r H) l xs) : Rp K (fz r (upd H p (.tup xs))) (.tup l) (.ref p) := by
  simp only [Rp]
  refine ⟨p, xs, rfl, .inl (.inl ?_), RpL.mono (fz_same (same_up hp)) q⟩
  rw [fz_out (S.fresh hp), upd_same]
def fTup (fs : FA) : FE := fun δ M => (fs δ M).bind fun ws M1 => (R.of M1 (frs9 ws)).bind fun l M2 => if l.length ≤ 1000 then .ok (.d (.tup l)) M2 else .bad
def fLst (fs : FA) : FN := fun δ M => (fs δ M).bind fun ws M1 => (R.of M1 (frs9 ws)).bind fun l M2 => if l.length ≤ 1000 then .ok l M2 else .bad
theorem line_of {n : Nat} (h : n ≤ 1000) : n ≤ sizeLine := Nat.le_trans h (by decide)
theorem re_tup {es : List Expr} {fs : FA} {k : Nat} (h : RA X E es fs) : RE X E (.Tuple es k pos) (fTup fs) := pe_imp (pe_tup h) fun σ H Q ⟨r, δ, M, Ev, S, k⟩ =>
  ⟨r, δ, M, Ev, S, Post.bind k fun ws M1 vs H1 r1 _ n1 S1 q1 k1 => by
    cases e : frs9 ws with
    | none => rw [e] at k1; exact k1.elim
    | some l =>
      rw [e] at k1
      have k2 : Post X.K E r1 H1 (relW X.K) (if l.length ≤ 1000 then R.ok (.d (.tup l)) M1 else .bad) Q := k1
      split at k2
      · rename_i hl
        have q := RWL.frs q1 e
        refine ⟨by rw [q.length]; exact line_of hl, fun p hp => k2 _ _ r1 (Nxt.more (same_up hp)) (S1.more (same_up hp)) (rp_tup S1 hp q)⟩
      · exact k2.elim⟩
theorem rn_lst {es : List Expr} {fs : FA} (h : RA X E es fs) : RN X E (.List es pos) (fLst fs) := pe_imp (pe_lst h) fun σ H Q ⟨r, δ, M, Ev, S, k⟩ =>
  ⟨r, δ, M, Ev, S, PostN.bind k fun ws M1 vs H1 r1 _ n1 S1 q1 k1 => by
    cases e : frs9 ws with
    | none => rw [e] at k1; exact k1.elim
    | some l =>
      rw [e] at k1
      have k2 : PostN X.K E r1 H1 (if l.length ≤ 1000 then R.ok l M1 else .bad) Q := k1
      split at k2
      · rename_i hl
        have q := RWL.frs q1 e
        exact ⟨by rw [q.length]; exact line_of hl, fun p hp => k2 p _ r1 (new_l S1 hp q)⟩
      · exact k2.elim⟩

/-! ### truth -/
def tru (w : W) : Option Bool := match w with
  | .d (.bl b) => some b
  | _ => none
def fB (fa : FE) : FT := fun δ M => (fa δ M).bind fun w M1 => R.of M1 (tru w)
theorem tru_rw {K : PySem.W.Frag} {r : Rg} {H : Hp} {v : V} {w : W} {k : Bool} (e : tru w = some k) (h : RW K r H v w) : v = .bl k := by
  unfold tru at e
  split at e
  · cases e
    simpa only [RW, Rp] using h
  · cases e
theorem rt_val (h : RE X E a fa) (he : ∀ whole, isTrue a X.env whole = (do let v ← whole; standAt a.pos; holding [v] (truthy v)) := by intro _; rfl) : RT X E a (fB fa) := pt_imp (pt_val h he) fun σ H Q ⟨r, δ, M, Ev, S, k⟩ =>
  ⟨r, δ, M, Ev, S, Post.bind k fun w M1 v H1 r1 _ n1 S1 q1 k1 => by
    obtain ⟨k2, e, k3⟩ := Post.of k1
    exact ⟨k2, tru_rw e q1, k3 k2 H1 r1 Nxt.refl S1 rfl⟩⟩
abbrev RB (X : Cx) (E : XK) (e : Expr) (f : FT) : Prop := PW X e (tT X.K E f)
def fAndT (f g : FT) : FT := fun δ M => (f δ M).bind fun b M1 => match b with
  | true => g δ M1
  | false => .ok false M1
def fOrT (f g : FT) : FT := fun δ M => (f δ M).bind fun b M1 => match b with
  | true => .ok true M1
  | false => g δ M1
def fNotT (f : FT) : FT := fun δ M => (f δ M).bind fun b M1 => .ok (!b) M1
variable {f g : FT} {rest : List Expr}
theorem rb_and1 (h : RT X E a f) : RB X E (.BoolOp .And [a] pos) f := pw_and1 h
theorem rb_or1 (h : RT X E a f) : RB X E (.BoolOp .Or [a] pos) f := pw_or1 h
theorem rb_and (h : RT X E a f) (h2 : RB X E (.BoolOp .And (b :: rest) pos) g) : RB X E (.BoolOp .And (a :: b :: rest) pos) (fAndT f g) := pw_imp (pw_and h h2) fun σ H Q ⟨r, δ, M, Ev, S, k⟩ =>
  ⟨r, δ, M, Ev, S, Post.bind k fun w M1 v H1 r1 _ n1 S1 q1 k1 => by
    cases q1
    cases w with
    | true => exact iteT ⟨r1, δ, M1, Ev.mono n1, S1, k1⟩
    | false => exact iteF (k1 false H1 r1 Nxt.refl S1 rfl)⟩
theorem rb_or (h : RT X E a f) (h2 : RB X E (.BoolOp .Or (b :: rest) pos) g) : RB X E (.BoolOp .Or (a :: b :: rest) pos) (fOrT f g) := pw_imp (pw_or h h2) fun σ H Q ⟨r, δ, M, Ev, S, k⟩ =>
  ⟨r, δ, M, Ev, S, Post.bind k fun w M1 v H1 r1 _ n1 S1 q1 k1 => by
    cases q1
    cases w with
    | true => exact iteT (k1 true H1 r1 Nxt.refl S1 rfl)
    | false => exact iteF ⟨r1, δ, M1, Ev.mono n1, S1, k1⟩⟩
theorem rt_of (h : RB X E a f) : RT X E a f := PW.pt h
theorem rt_not (h : RT X E a f) : RT X E (.UnaryOp .Not a pos) (fNotT f) := pt_imp (pt_not h) fun σ H Q ⟨r, δ, M, Ev, S, k⟩ =>
  ⟨r, δ, M, Ev, S, Post.bind k fun w M1 v H1 r1 _ n1 S1 q1 k1 => by
    cases q1
    exact k1 _ H1 r1 Nxt.refl S1 rfl⟩
/-! .. as values -/
def fAnd (fa fb : FE) : FE := fun δ M => (fa δ M).bind fun w M1 => (R.of M1 (tru w)).bind fun b M2 => match b with
  | true => fb δ M2
  | false => .ok (.d (.bl false)) M2
def fOr (fa fb : FE) : FE := fun δ M => (fa δ M).bind fun w M1 => (R.of M1 (tru w)).bind fun b M2 => match b with
  | true => .ok (.d (.bl true)) M2
  | false => fb δ M2
def fNot (fa : FE) : FE := fun δ M => (fa δ M).bind fun w M1 => R.of M1 ((tru w).map fun b => .d (.bl (!b)))
theorem re_one {op} (h : RE X E a fa) : RE X E (.BoolOp op [a] pos) fa := pe_one h
theorem re_and (ha : RE X E a fa) (hb : RE X E (.BoolOp .And (b :: rest) pos) fb) : RE X E (.BoolOp .And (a :: b :: rest) pos) (fAnd fa fb) := pe_imp (pe_and ha hb) fun σ H Q ⟨r, δ, M, Ev, S, k⟩ =>
  ⟨r, δ, M, Ev, S, Post.bind k fun w M1 v H1 r1 _ n1 S1 q1 k1 => by
    cases e : tru w with
    | none => rw [e] at k1; exact k1.elim
    | some x =>
      rw [e] at k1
      refine ⟨x, tru_rw e q1, ?_⟩
      cases x with
      | true => exact iteT ⟨r1, δ, M1, Ev.mono n1, S1, k1⟩
      | false => exact iteF (k1 _ H1 r1 Nxt.refl S1 (by simp only [relW, RW, Rp]))⟩
theorem re_or (ha : RE X E a fa) (hb : RE X E (.BoolOp .Or (b :: rest) pos) fb) : RE X E (.BoolOp .Or (a :: b :: rest) pos) (fOr fa fb) := pe_imp (pe_or ha hb) fun σ H Q ⟨r, δ, M, Ev, S, k⟩ =>
  ⟨r, δ, M, Ev, S, Post.bind k fun w M1 v H1 r1 _ n1 S1 q1 k1 => by
    cases e : tru w with
    | none => rw [e] at k1; exact k1.elim
    | some x =>
      rw [e] at k1
      refine ⟨x, tru_rw e q1, ?_⟩
      cases x with
      | true => exact iteT (k1 _ H1 r1 Nxt.refl S1 (by simp only [relW, RW, Rp]))
      | false => exact iteF ⟨r1, δ, M1, Ev.mono n1, S1, k1⟩⟩
theorem re_not (ha : RE X E a fa) : RE X E (.UnaryOp .Not a pos) (fNot fa) := pe_imp (pe_not ha) fun σ H Q ⟨r, δ, M, Ev, S, k⟩ =>
  ⟨r, δ, M, Ev, S, Post.bind k fun w M1 v H1 r1 _ n1 S1 q1 k1 => by
    obtain ⟨w2, e, k2⟩ := Post.of k1
    simp only [Option.map_eq_some_iff] at e
    obtain ⟨x, e, rfl⟩ := e
    exact ⟨x, tru_rw e q1, k2 _ H1 r1 Nxt.refl S1 (by simp only [relW, RW, Rp])⟩⟩
def fIf (f : FT) (fa fb : FE) : FE := fun δ M => (f δ M).bind fun b M1 => match b with
  | true => fa δ M1
  | false => fb δ M1
theorem re_if (hc : RT X E c f) (ha : RE X E a fa) (hb : RE X E b fb) : RE X E (.IfExp c a b pos) (fIf f fa fb) := pe_imp (pe_ifExp hc ha hb) fun σ H Q ⟨r, δ, M, Ev, S, k⟩ =>
  ⟨r, δ, M, Ev, S, Post.bind k fun w M1 v H1 r1 _ n1 S1 q1 k1 => by
    cases q1
    cases w with
    | true => exact iteT ⟨r1, δ, M1, Ev.mono n1, S1, k1⟩
    | false => exact iteF ⟨r1, δ, M1, Ev.mono n1, S1, k1⟩⟩
def fChain (g1 g2 : D → D → Option D) (fa fb fc : FE) : FE := fun δ M => (fa δ M).bind fun x M1 => (fb δ M1).bind fun y M2 =>
  (R.of M2 ((rd M2 x).bind fun x' => (rd M2 y).bind fun y' => (g1 x' y').bind fun z => tru (.d z))).bind fun k M3 => match k with
    | true => (fc δ M3).bind fun w M4 => R.of M4 ((rd M4 y).bind fun y' => (rd M4 w).bind fun w' => (g2 y' w').map W.d)
    | false => .ok (.d (.bl false)) M3
theorem chain_imp {rr rr' : R2} {g1 g2 : D → D → Option D} (hg : OpD X.K rr g1) (hg' : OpD X.K rr' g2) : ∀ σ H Q, tR X.K E (fChain g1 g2 fa fb fc) σ H Q → tChain rr rr' (tR X.K E fa) (tR X.K E fb) (tR X.K E fc) σ H Q := fun σ H Q ⟨r, δ, M, Ev, S, k⟩ =>
  ⟨r, δ, M, Ev, S, Post.bind k fun w M1 v H1 r1 _ n1 S1 q1 k1 => ⟨r1, δ, M1, Ev.mono n1, S1, Post.bind k1 fun w2 M2 v2 H2 r2 _ n2 S2 q2 k2 => by
    cases e : ((rd M2 w).bind fun x' => (rd M2 w2).bind fun y' => (g1 x' y').bind fun z => tru (.d z)) with
    | none => rw [e] at k2; exact k2.elim
    | some x =>
      rw [e] at k2
      simp only [Option.bind_eq_some_iff] at e
      obtain ⟨x', e1, y', e2, z, e3, e4⟩ := e
      refine hg r2 M2 H2 v v2 x' y' z S2 ((RW.mono n2 q1).rd S2 e1) (RW.rd S2 q2 e2) e3 _ fun vz H3 e5 q3 => ⟨x, tru_rw (w := .d z) e4 q3, ?_⟩
      cases x with
      | false => exact iteF (k2 _ H3 r2 (Nxt.more e5) (S2.more e5) (by simp only [relW, RW, Rp]))
      | true =>
        refine iteT ⟨r2, δ, M2, (Ev.mono (n1.trans n2)).mono (Nxt.more e5), S2.more e5, Post.bind (Post.nxt (Nxt.more e5) k2) fun w4 M4 v4 H4 r4 _ n4 S4 q4 k4 => ?_⟩
        obtain ⟨d, e, k5⟩ := Post.of k4
        simp only [Option.bind_eq_some_iff, Option.map_eq_some_iff] at e
        obtain ⟨y4, e7, w', e8, d', e9, rfl⟩ := e
        exact hg' r4 M4 H4 v2 v4 y4 w' d' S4 ((RW.mono ((Nxt.more e5).trans n4) q2).rd S4 e7) (RW.rd S4 q4 e8) e9 _ fun vz H5 e q => k5 _ H5 r4 (Nxt.more e) (S4.more e) q⟩⟩
theorem re_chain {op op' : CmpOp} {rr rr' : R2} {g1 g2 : D → D → Option D} (ho : OpR X (compareOp op) rr) (ho' : OpR X (compareOp op') rr') (hg : OpD X.K rr g1) (hg' : OpD X.K rr' g2) (ha : RE X E a fa) (hb : RE X E b fb) (hc : RE X E c fc)
    (hm : lastMarks [op, op'] [b, c] = false := by with_unfolding_all rfl) : RE X E (.Compare a [op, op'] [b, c] pos) (fChain g1 g2 fa fb fc) := pe_imp (pe_chain ho ho' ha hb hc hm) (chain_imp hg hg')
/-! a comparison as a test -/
theorem test_imp {f : FE} {t : TE} (h : ∀ σ H Q, tR X.K E f σ H Q → t σ H Q) : ∀ σ H Q, tT X.K E (fB f) σ H Q → tTest t σ H Q := fun σ H Q ⟨r, δ, M, Ev, S, k⟩ => h _ _ _ ⟨r, δ, M, Ev, S, Post.bind k fun w M1 v H1 r1 _ n1 S1 q1 k1 => by
  obtain ⟨k2, e, k3⟩ := Post.of k1
  exact ⟨k2, tru_rw e q1, k3 k2 H1 r1 Nxt.refl S1 rfl⟩⟩
theorem rt_cmp {op : CmpOp} {rr : R2} {g : D → D → Option D} (ho : OpR X (compareOp op) rr) (hg : OpD X.K rr g) (ha : RE X E a fa) (hb : RE X E b fb) (hm : behindInMarks op b = false) : RT X E (.Compare a [op] [b] pos) (fB (fOp g fa fb)) := pt_imp (pt_cmpR ho ha hb hm) (test_imp (op_imp hg))
theorem rt_chain {op op' : CmpOp} {rr rr' : R2} {g1 g2 : D → D → Option D} (ho : OpR X (compareOp op) rr) (ho' : OpR X (compareOp op') rr') (hg : OpD X.K rr g1) (hg' : OpD X.K rr' g2) (ha : RE X E a fa) (hb : RE X E b fb) (hc : RE X E c fc)
    (hm : lastMarks [op, op'] [b, c] = false := by with_unfolding_all rfl) : RT X E (.Compare a [op, op'] [b, c] pos) (fB (fChain g1 g2 fa fb fc)) := pt_imp (pt_chain ho ho' ha hb hc hm) (test_imp (chain_imp hg hg'))

/-! ### slices -/
abbrev FO := DEnv → Sto → R (Option Int)
def relO (_ : Rg) (_ : Hp) (_ : Sto) (v : Option Int) (w : Option Int) : Prop := v = w
def tO (K : PySem.W.Frag) (E : XK) (f : FO) : TO := fun σ H Q => ∃ r δ M, EnvR K r H σ δ ∧ Sta K r M H ∧ Post K E r H relO (f δ M) Q
theorem po_imp {X : Cx} {e : Option Expr} {t t' : TO} (h : PO X e t) (k : ∀ σ H Q, t' σ H Q → t σ H Q) : PO X e t' := ⟨fun pins s σ H Q I q => h.run pins s σ H Q I (k σ H Q q)⟩
abbrev RO (X : Cx) (E : XK) (e : Option Expr) (f : FO) : Prop := PO X e (tO X.K E f)
def oNone : FO := fun _ M => .ok none M
def intW (w : W) : Option Int := match w with
  | .d (.int i) => some i
  | _ => none
theorem int_rw {K : PySem.W.Frag} {r : Rg} {H : Hp} {v : V} {w : W} {k : Int} (e : intW w = some k) (h : RW K r H v w) : v = .int k := by
  unfold intW at e
  split at e
  · cases e
    simpa only [RW, Rp] using h
  · cases e
def oSome (fa : FE) : FO := fun δ M => (fa δ M).bind fun w M1 => R.of M1 ((intW w).map some)
theorem ro_none : RO X E none oNone := po_imp po_none fun σ H Q ⟨r, δ, M, Ev, S, k⟩ => k none H r Nxt.refl S rfl
theorem ro_some (h : RE X E a fa) : RO X E (some a) (oSome fa) := po_imp (po_some h) fun σ H Q ⟨r, δ, M, Ev, S, k⟩ =>
  ⟨r, δ, M, Ev, S, Post.bind k fun w M1 v H1 r1 _ n1 S1 q1 k1 => by
    obtain ⟨o, e, k2⟩ := Post.of k1
    simp only [Option.map_eq_some_iff] at e
    obtain ⟨i, e, rfl⟩ := e
    exact ⟨i, int_rw e q1, k2 _ H1 r1 Nxt.refl S1 rfl⟩⟩
def SlD (K : PySem.W.Frag) (rr : V → Option Int → Option Int → Hp → VK → Prop) (g : D → Option Int → Option Int → Option D) : Prop := ∀ (r : Rg) (M : Sto) (H : Hp) (x : V) (d1 d : D) (lo hi : Option Int), Sta K r M H → RD K r H x d1 → g d1 lo hi = some d →
  ∀ Q : VK, (∀ v H', Same H H' → Rp K (fz r H') d v → Q v H') → rr x lo hi H Q
def SlN (K : PySem.W.Frag) (rr : V → Option Int → Option Int → Hp → VK → Prop) (g : D → Option Int → Option Int → Option (List D)) : Prop := ∀ (r : Rg) (M : Sto) (H : Hp) (x : V) (d1 : D) (l : List D) (lo hi : Option Int), Sta K r M H → RD K r H x d1 → g d1 lo hi = some l →
  ∀ Q : VK, (∀ xs, RpL K (fz r H) l xs → ∀ p, H p = none → Q (.ref p) (upd H p (.lst xs))) → rr x lo hi H Q
def fSl (g : D → Option Int → Option Int → Option D) (fa : FE) (fl fh : FO) : FE := fun δ M => (fa δ M).bind fun x M1 => (fl δ M1).bind fun lo M2 => (fh δ M2).bind fun hi M3 => R.of M3 ((rd M3 x).bind fun d => (g d lo hi).map W.d)
def fSlN (g : D → Option Int → Option Int → Option (List D)) (fa : FE) (fl fh : FO) : FN := fun δ M => (fa δ M).bind fun x M1 => (fl δ M1).bind fun lo M2 => (fh δ M2).bind fun hi M3 => R.of M3 ((rd M3 x).bind fun d => g d lo hi)
variable {lo hi : Option Expr} {fl fh : FO} {p2 : Pos}
theorem re_sl {rr : V → Option Int → Option Int → Hp → VK → Prop} {g : D → Option Int → Option Int → Option D} (hr : SlR X rr) (hg : SlD X.K rr g) (ha : RE X E a fa) (hl : RO X E lo fl) (hh : RO X E hi fh) : RE X E (.Subscript a (.Slice lo hi none p2) pos) (fSl g fa fl fh) :=
  pe_imp (pe_slice hr ha hl hh) fun σ H Q ⟨r, δ, M, Ev, S, k⟩ => ⟨r, δ, M, Ev, S, Post.bind k fun w M1 v H1 r1 _ n1 S1 q1 k1 => ⟨r1, δ, M1, Ev.mono n1, S1, Post.bind k1 fun o2 M2 v2 H2 r2 _ n2 S2 q2 k2 =>
    ⟨r2, δ, M2, (Ev.mono n1).mono n2, S2, Post.bind k2 fun o3 M3 v3 H3 r3 _ n3 S3 q3 k3 => by
      cases q2
      cases q3
      obtain ⟨w', e, k5⟩ := Post.of k3
      simp only [Option.bind_eq_some_iff, Option.map_eq_some_iff] at e
      obtain ⟨d, e1, d', e2, rfl⟩ := e
      exact hg r3 M3 H3 v d d' o2 o3 S3 ((RW.mono (n2.trans n3) q1).rd S3 e1) e2 Q fun z H4 e q => k5 z H4 r3 (Nxt.more e) (S3.more e) q⟩⟩⟩
theorem rn_sl {rr : V → Option Int → Option Int → Hp → VK → Prop} {g : D → Option Int → Option Int → Option (List D)} (hr : SlR X rr) (hg : SlN X.K rr g) (ha : RE X E a fa) (hl : RO X E lo fl) (hh : RO X E hi fh) : RN X E (.Subscript a (.Slice lo hi none p2) pos) (fSlN g fa fl fh) :=
  pe_imp (pe_slice hr ha hl hh) fun σ H Q ⟨r, δ, M, Ev, S, k⟩ => ⟨r, δ, M, Ev, S, PostN.bind k fun w M1 v H1 r1 _ n1 S1 q1 k1 => ⟨r1, δ, M1, Ev.mono n1, S1, PostN.bind k1 fun o2 M2 v2 H2 r2 _ n2 S2 q2 k2 =>
    ⟨r2, δ, M2, (Ev.mono n1).mono n2, S2, PostN.bind k2 fun o3 M3 v3 H3 r3 _ n3 S3 q3 k3 => by
      cases q2
      cases q3
      cases e : ((rd M3 w).bind fun d => g d o2 o3) with
      | none => rw [e] at k3; exact k3.elim
      | some l =>
        rw [e] at k3
        simp only [Option.bind_eq_some_iff] at e
        obtain ⟨d, e1, e2⟩ := e
        exact hg r3 M3 H3 v d l o2 o3 S3 ((RW.mono (n2.trans n3) q1).rd S3 e1) e2 Q fun xs q p hp => k3 p _ r3 (new_l S3 hp q)⟩⟩⟩
end

/-! ### statements -/
inductive Out where
  | nx (δ : DEnv)
  | rt (w : W)
  | bk (δ : DEnv)
  | ct (δ : DEnv)
abbrev FS := DEnv → Sto → R Out
def PostS (K : PySem.W.Frag) (E : XK) (r : Rg) (H : Hp) : R Out → Ends → Prop
  | .bad, _ => False
  | .ok (.nx δ) M', D => ∀ σ' H' r', Nxt r H r' H' → Sta K r' M' H' → EnvR K r' H' σ' δ → D.nx σ' H'
  | .ok (.bk δ) M', D => ∀ σ' H' r', Nxt r H r' H' → Sta K r' M' H' → EnvR K r' H' σ' δ → D.bk σ' H'
  | .ok (.ct δ) M', D => ∀ σ' H' r', Nxt r H r' H' → Sta K r' M' H' → EnvR K r' H' σ' δ → D.ct σ' H'
  | .ok (.rt w) M', D => ∀ v H' r', Nxt r H r' H' → Sta K r' M' H' → RW K r' H' v w → D.rt v H'
  | .ex e M', _ => ∀ H' r' cls od, Nxt r H r' H' → Sta K r' M' H' → ExR K r' H' cls od e → E cls od H'
def tS (K : PySem.W.Frag) (E : XK) (f : FS) : TS := fun D σ H => ∃ r δ M, EnvR K r H σ δ ∧ Sta K r M H ∧ PostS K E r H (f δ M) D
abbrev RS (X : Cx) (E : XK) (s : Stmt) (f : FS) : Prop := PS X s (tS X.K E f)
abbrev RSs (X : Cx) (E : XK) (s : List Stmt) (f : FS) : Prop := PSs X s (tS X.K E f)
theorem PostS.nxt {K : PySem.W.Frag} {E : XK} {r r1 : Rg} {H H1 : Hp} {x : R Out} {D : Ends} (n : Nxt r H r1 H1) (h : PostS K E r H x D) : PostS K E r1 H1 x D := by
  cases x with
  | bad => exact h
  | ok o M =>
    cases o with
    | nx δ => exact fun v H' r' n' S q => h v H' r' (n.trans n') S q
    | bk δ => exact fun v H' r' n' S q => h v H' r' (n.trans n') S q
    | ct δ => exact fun v H' r' n' S q => h v H' r' (n.trans n') S q
    | rt w => exact fun v H' r' n' S q => h v H' r' (n.trans n') S q
  | ex e M => exact fun H' r' c o n' S q => h H' r' c o (n.trans n') S q
theorem PostS.bind {K : PySem.W.Frag} {E : XK} {r : Rg} {H : Hp} {A' C : Type} {rel' : Rg → Hp → Sto → C → A' → Prop} {x : R A'} {k : A' → Sto → R Out} {D : Ends} {Q' : C → Hp → Prop} (h : PostS K E r H (x.bind k) D)
    (j : ∀ w M' v H' r', x = .ok w M' → Nxt r H r' H' → Sta K r' M' H' → rel' r' H' M' v w → PostS K E r' H' (k w M') D → Q' v H') : Post K E r H rel' x Q' := by
  cases x with
  | bad => exact h
  | ok w M => exact fun v H' r' n' S q => j w M v H' r' rfl n' S q (PostS.nxt n' h)
  | ex e M => exact h
/-- what stands behind a statement -/
def R.thenS (x : R Out) (k : DEnv → Sto → R Out) : R Out := match x with
  | .ok (.nx δ) M => k δ M
  | y => y
def sNil : FS := fun δ M => .ok (.nx δ) M
def sSeq (f g : FS) : FS := fun δ M => (f δ M).thenS g
def sRet (fa : FE) : FS := fun δ M => (fa δ M).bind fun w M1 => .ok (.rt w) M1
def sRetN : FS := fun _ M => .ok (.rt (.d .non)) M
def sDrop (fa : FE) : FS := fun δ M => (fa δ M).bind fun _ M1 => .ok (.nx δ) M1
def sIf (f : FT) (g h : FS) : FS := fun δ M => (f δ M).bind fun b M1 => match b with
  | true => g δ M1
  | false => h δ M1
def sBrk : FS := fun δ M => .ok (.bk δ) M
def sCnt : FS := fun δ M => .ok (.ct δ) M
section
variable {X : Cx} {E : XK} {pos : Pos} {a b c : Expr} {fa fb fc : FE} {st : Stmt} {rest body : List Stmt} {f g : FS}
theorem rss_nil : RSs X E [] sNil := pss_imp pss_nil fun D σ H ⟨r, δ, M, Ev, S, k⟩ => k σ H r Nxt.refl S Ev
theorem rss_one (h : RS X E st f) : RSs X E [st] f := pss_one h
theorem rss_cons (h : RS X E st f) (h2 : RSs X E rest g) : RSs X E (st :: rest) (sSeq f g) := pss_imp (pss_cons h h2) fun D σ H ⟨r, δ, M, Ev, S, k⟩ => ⟨r, δ, M, Ev, S, by
  unfold sSeq at k
  revert k
  cases f δ M with
  | bad => exact fun k => k
  | ex e M1 => exact fun k => k
  | ok o M1 =>
    cases o with
    | nx δ1 => exact fun k σ' H' r' n S' E' => ⟨r', δ1, M1, E', S', PostS.nxt n k⟩
    | rt w => exact fun k => k
    | bk w => exact fun k => k
    | ct w => exact fun k => k⟩
theorem rs_pass : RS X E (.Pass pos) sNil := ps_imp ps_pass fun D σ H ⟨r, δ, M, Ev, S, k⟩ => k σ H r Nxt.refl S Ev
theorem rs_brk : RS X E (.Break pos) sBrk := ps_imp ps_break fun D σ H ⟨r, δ, M, Ev, S, k⟩ => k σ H r Nxt.refl S Ev
theorem rs_cnt : RS X E (.Continue pos) sCnt := ps_imp ps_continue fun D σ H ⟨r, δ, M, Ev, S, k⟩ => k σ H r Nxt.refl S Ev
theorem rs_ret (h : RE X E a fa) : RS X E (.Return (some a) pos) (sRet fa) := ps_imp (ps_ret h) fun D σ H ⟨r, δ, M, Ev, S, k⟩ =>
  ⟨r, δ, M, Ev, S, PostS.bind k fun w M1 v H1 r1 _ n1 S1 q1 k1 => k1 v H1 r1 Nxt.refl S1 q1⟩
theorem rs_retN : RS X E (.Return none pos) sRetN := ps_imp ps_retN fun D σ H ⟨r, δ, M, Ev, S, k⟩ => k _ H r Nxt.refl S (by simp only [RW, Rp])
theorem rs_expr (h : RE X E a fa) (hs : swapsWith a none pos.line X.env = pure false := by rfl) : RS X E (.Expr a pos) (sDrop fa) := ps_imp (ps_expr h hs) fun D σ H ⟨r, δ, M, Ev, S, k⟩ =>
  ⟨r, δ, M, Ev, S, PostS.bind k fun w M1 v H1 r1 _ n1 S1 q1 k1 => k1 σ H1 r1 Nxt.refl S1 (Ev.mono n1)⟩
theorem rs_if {sa sb : List Stmt} {t : FT} (hc : RT X E c t) (ha : RSs X E sa f) (hb : RSs X E sb g) : RS X E (.If c sa sb pos) (sIf t f g) := ps_imp (ps_if hc ha hb) fun D σ H ⟨r, δ, M, Ev, S, k⟩ =>
  ⟨r, δ, M, Ev, S, PostS.bind k fun w M1 v H1 r1 _ n1 S1 q1 k1 => by
    cases q1
    cases w with
    | true => exact iteT ⟨r1, δ, M1, Ev.mono n1, S1, k1⟩
    | false => exact iteF ⟨r1, δ, M1, Ev.mono n1, S1, k1⟩⟩
end

/-! ### targets -/
abbrev FG := D → DEnv → Option DEnv
/-- ts: the slots that it stores into -/
def tG (K : PySem.W.Frag) (ts : List Nat) (g : FG) : TG := fun v σ H Q => ∃ r δ M d δ', EnvR K r H σ δ ∧ Sta K r M H ∧ Rp K (fz r H) d v ∧ g d δ = some δ' ∧
  ∀ σ', (∀ j, j ∉ ts → σ'[j]? = σ[j]?) → σ'.length = σ.length → EnvR K r H σ' δ' → Q σ' H
abbrev RG (X : Cx) (tg : Expr) (ts : List Nat) (g : FG) : Prop := PG X tg (tG X.K ts g)
theorem pg_imp {X : Cx} {e : Expr} {t t' : TG} (h : PG X e t) (k : ∀ v σ H Q, t' v σ H Q → t v σ H Q) : PG X e t' := ⟨fun pins s σ H v u Q I rv q => h.run pins s σ H v u Q I rv (k v σ H Q q)⟩
theorem pgs_imp {X : Cx} {e : List Expr} {t t' : TGs} (h : PGs X e t) (k : ∀ v σ H Q, t' v σ H Q → t v σ H Q) : PGs X e t' := ⟨fun pins s σ H v u Q I rv q => h.run pins s σ H v u Q I rv (k v σ H Q q)⟩
def gNm (i : Nat) : FG := fun d δ => some (δ.set i (some (.d d)))
abbrev FGs := List D → DEnv → Option DEnv
def tGs (K : PySem.W.Frag) (ts : List Nat) (g : FGs) : TGs := fun vs σ H Q => ∃ r δ M l δ', EnvR K r H σ δ ∧ Sta K r M H ∧ RpL K (fz r H) l vs ∧ g l δ = some δ' ∧
  ∀ σ', (∀ j, j ∉ ts → σ'[j]? = σ[j]?) → σ'.length = σ.length → EnvR K r H σ' δ' → Q σ' H
abbrev RGs (X : Cx) (tg : List Expr) (ts : List Nat) (g : FGs) : Prop := PGs X tg (tGs X.K ts g)
def gNl : FGs := fun l δ => match l with
  | [] => some δ
  | _ => none
def gCn (g : FG) (gs : FGs) : FGs := fun l δ => match l with
  | d :: l => (g d δ).bind fun δ1 => gs l δ1
  | [] => none
def gTp (n : Nat) (gs : FGs) : FG := fun d δ => match d with
  | .tup l => if l.length = n then gs l δ else none
  | _ => none
section
variable {X : Cx} {pos : Pos} {ts us : List Nat} {g : FG} {gs : FGs}
theorem rg_name {i : Nat} {x : Str} (hN : X.N.Nodup) (hi : X.N[i]? = some x) (hx : Loc X.env.scope x) (hf : X.fn x = true ∨ X.env.scope.names.lookup x = some .local := by first | exact .inl rfl | exact .inr rfl | assumption) : RG X (.Name x pos) [i] (gNm i) :=
  pg_imp (pg_name hN hi hx hf) fun v σ H Q ⟨r, δ, M, d, δ', Ev, S, q, e, k⟩ => by
    cases e
    exact k _ (fun j hj => by rw [List.getElem?_set_ne (fun z => hj (by simp [z]))]) (by simp) (Ev.set q)
theorem rgs_nil : RGs X [] [] gNl := pgs_imp pgs_nil fun v σ H Q ⟨r, δ, M, l, δ', Ev, S, q, e, k⟩ => by
  cases l with
  | nil =>
    cases e
    simp only [RpL] at q
    exact ⟨q, k σ (fun _ _ => rfl) rfl Ev⟩
  | cons d l => cases e
theorem rgs_cons {e : Expr} {es : List Expr} (h1 : RG X e ts g) (h2 : RGs X es us gs) (hs : (assignEach (e :: es) X.env).map (·.2) = assign e X.env :: (assignEach es X.env).map (·.2) := by rfl) : RGs X (e :: es) (ts ++ us) (gCn g gs) :=
  pgs_imp (pgs_cons h1 h2 hs) fun v σ H Q ⟨r, δ, M, l, δ', Ev, S, q, e, k⟩ => by
    cases l with
    | nil => cases e
    | cons d l =>
      simp only [gCn, Option.bind_eq_some_iff] at e
      obtain ⟨δ1, e1, e2⟩ := e
      simp only [RpL] at q
      obtain ⟨x, t, rfl, q1, q2⟩ := q
      refine ⟨x, t, rfl, r, δ, M, d, δ1, Ev, S, q1, e1, fun σ1 h1 l1 E1 => ⟨r, δ1, M, l, δ', E1, S, q2, e2, fun σ2 h2 l2 E2 => k σ2 (fun j hj => ?_) (l2.trans l1) E2⟩⟩
      rw [h2 j (fun z => hj (by simp [z])), h1 j (fun z => hj (by simp [z]))]
theorem rg_tup {es : List Expr} {k n : Nat} (hc : X.calm = true) (h : RGs X es ts gs) (hn : (assignEach es X.env).length = n := by rfl) (hst : (assignEach es X.env).findIdx? (·.1) = none := by rfl) : RG X (.Tuple es k pos) ts (gTp n gs) :=
  pg_imp (pg_tup hc h hn hst) fun v σ H Q ⟨r, δ, M, d, δ', Ev, S, q, e, k⟩ => by
    unfold gTp at e
    split at e
    · rename_i l
      split at e
      · rename_i hl
        simp only [Rp] at q
        obtain ⟨a, xs, rfl, q1, q2⟩ := q
        exact ⟨a, xs, rfl, same_t fz_sub q1, by rw [q2.length]; exact hl, r, δ, M, l, δ', Ev, S, q2, e, k⟩
      · cases e
    · cases e
/-! assignments -/
variable {E : XK} {a : Expr} {fa : FE}
/-- name = value: any value -/
def sSet (i : Nat) (fa : FE) : FS := fun δ M => (fa δ M).bind fun w M1 => .ok (.nx (δ.set i (some w))) M1
theorem rs_set {i : Nat} {x : Str} {pos' : Pos} (hN : X.N.Nodup) (hi : X.N[i]? = some x) (hx : Loc X.env.scope x) (he : RE X E a fa) (hs : swapsWith a (some (.Name x pos')) pos.line X.env = pure false := by rfl) (hf : X.fn x = true ∨ X.env.scope.names.lookup x = some .local := by first | exact .inl rfl | exact .inr rfl | assumption) :
    RS X E (.Assign [.Name x pos'] a pos) (sSet i fa) := ps_imp (ps_set hN hi hx he hs hf) fun D σ H ⟨r, δ, M, Ev, S, k⟩ =>
  ⟨r, δ, M, Ev, S, PostS.bind k fun w M1 v H1 r1 _ n1 S1 q1 k1 => k1 _ H1 r1 Nxt.refl S1 ((Ev.mono n1).set q1)⟩
/-- target = value: data -/
def sAsg (g : FG) (fa : FE) : FS := fun δ M => (fa δ M).bind fun w M1 => R.of M1 ((fr w).bind fun d => (g d δ).map Out.nx)
theorem rs_asg {tg : Expr} (he : RE X E a fa) (hg : RG X tg ts g) (hs : swapsWithSole [tg] a pos.line X.env = pure false := by rfl) (hw : swappedStores [tg] a X.env = pure none := by rfl)
    (h1 : (assignEach [tg] X.env).map (·.2) = [assign tg X.env] := by rfl) : RS X E (.Assign [tg] a pos) (sAsg g fa) := ps_imp (ps_asg he hg hs hw h1) fun D σ H ⟨r, δ, M, Ev, S, k⟩ =>
  ⟨r, δ, M, Ev, S, PostS.bind k fun w M1 v H1 r1 _ n1 S1 q1 k1 => by
    cases e : ((fr w).bind fun d => (g d δ).map Out.nx) with
    | none => rw [e] at k1; exact k1.elim
    | some o =>
      rw [e] at k1
      simp only [Option.bind_eq_some_iff, Option.map_eq_some_iff] at e
      obtain ⟨d, e1, δ1, e2, rfl⟩ := e
      exact ⟨r1, δ, M1, d, δ1, Ev.mono n1, S1, RW.fr q1 e1, e2, fun σ' _ _ E' => k1 σ' H1 r1 Nxt.refl S1 E'⟩⟩
/-- a, b = x, y -/
def sPar (i j : Nat) (fs : FA) : FS := fun δ M => (fs δ M).bind fun ws M1 => match ws with
  | [v, w] => .ok (.nx ((δ.set i (some v)).set j (some w))) M1
  | _ => .bad
end
end S9

namespace S9
open PySem PySem.Spec PyProof.Rows L2
/-! ### what is walked -/
abbrev FI := DEnv → Sto → R (List D × List Nat)
/-- the walk J gives the items l, one a turn, as long as the cells at lk stand as they stood -/
def Wk (K : PySem.W.Frag) (J : It) (l : List D) (lk : List Nat) (r0 : Rg) (M0 : Sto) (H0 : Hp) : Prop := ∀ r1 H1 M1, (∃ t, r1.c = r0.c ++ t) → Same (fz r0 H0) (fz r1 H1) → Sta K r1 M1 H1 → (∀ k ∈ lk, M1[k]? = M0[k]?) →
  ∀ i, (∀ d, l[i]? = some d → J.go i H1 ∧ ∀ x H2, J.yld i H1 x H2 → Same H1 H2 ∧ Rp K (fz r1 H2) d x) ∧ (l.length ≤ i → J.stop i H1)
def PostI (K : PySem.W.Frag) (E : XK) (r : Rg) (H : Hp) : R (List D × List Nat) → (It → Hp → Prop) → Prop
  | .bad, _ => False
  | .ok p M', Q => ∀ J H' r', Nxt r H r' H' → Sta K r' M' H' → Wk K J p.1 p.2 r' M' H' → Q J H'
  | .ex e M', _ => ∀ H' r' cls od, Nxt r H r' H' → Sta K r' M' H' → ExR K r' H' cls od e → E cls od H'
def tI (K : PySem.W.Frag) (E : XK) (f : FI) : TI := fun σ H Q => ∃ r δ M, EnvR K r H σ δ ∧ Sta K r M H ∧ PostI K E r H (f δ M) Q
abbrev RI (X : Cx) (E : XK) (tg e : Expr) (f : FI) : Prop := PI X tg e (tI X.K E f)
theorem pi_imp {X : Cx} {tg e : Expr} {t t' : TI} (h : PI X tg e t) (k : ∀ σ H Q, t' σ H Q → t σ H Q) : PI X tg e t' := ⟨fun pins s σ H Q I q => h.run pins s σ H Q I (k σ H Q q)⟩
theorem PostI.bind {K : PySem.W.Frag} {E : XK} {r : Rg} {H : Hp} {A' C : Type} {rel' : Rg → Hp → Sto → C → A' → Prop} {x : R A'} {k : A' → Sto → R (List D × List Nat)} {Q : It → Hp → Prop} {Q' : C → Hp → Prop} (h : PostI K E r H (x.bind k) Q)
    (j : ∀ w M' v H' r', x = .ok w M' → Nxt r H r' H' → Sta K r' M' H' → rel' r' H' M' v w → PostI K E r' H' (k w M') Q → Q' v H') : Post K E r H rel' x Q' := by
  cases x with
  | bad => exact h
  | ok w M =>
    refine fun v H' r' n' S q => j w M v H' r' rfl n' S q ?_
    have h : PostI K E r H (k w M) Q := h
    revert h
    cases k w M with
    | bad => exact fun h => h
    | ok l M2 => exact fun h J H2 r2 n2 S2 W => h J H2 r2 (n'.trans n2) S2 W
    | ex e M2 => exact fun h H2 r2 c o n2 S2 q2 => h H2 r2 c o (n'.trans n2) S2 q2
  | ex e M => exact h
section
variable {X : Cx} {E : XK} {tg a : Expr} {fa : FE}
/-- a list or a tuple -/
def iSeq (K : PySem.W.Frag) (tl : TE) : TI := fun σ H Q => tl σ H fun x H1 => ∃ a, x = .ref a ∧ (((∃ xs, SqL K H1 a xs) ∧ Q (Itl K a) H1) ∨ ((∃ xs, SqT K H1 a xs) ∧ Q (Itt K a) H1))
theorem pi_seq {l : Expr} {tl : TE} (hl : PE X l tl) : PI X tg l (iSeq X.K tl) := by
  refine ⟨fun pins s σ H Q I h => ?_⟩
  refine thn (hl.run pins s σ H _ I h) fun v s1 ⟨x, H1, I1, r1, q1⟩ => ?_
  obtain ⟨a, e, q⟩ := q1
  subst e
  cases r1
  have pin : ∀ b ∈ [s1.heap.objs.size], FpOk X pins H1 b := fun b hb => by
    have e : b = s1.heap.objs.size := by simpa using hb
    subst e
    exact I1.fpOk (Nat.le_refl _) (I1.hok.fresh (Nat.le_refl _))
  rcases q with ⟨⟨xs, hq⟩, q⟩ | ⟨⟨xs, hq⟩, q⟩
  · obtain ⟨its, rv, p, hz⟩ := I1.list hq
    refine wpAny_pyIter_list p.isList ?_
    exact ⟨s1.heap.objs.size, [s1.heap.objs.size], _, _, H1, rfl, I1.kept (t' := s1.toks) fun b o e => Heap.get?_push_of_some _ e, turn_list a _, ⟨_, Heap.get?_push_size _ rfl, rfl, rfl⟩, pin, q⟩
  · obtain ⟨its, rv, p, hz⟩ := I1.tuple hq
    refine wpAny_pyIter_tuple (show s1.heap.IsTuple a its.toArray from p) ?_
    exact ⟨s1.heap.objs.size, [s1.heap.objs.size], _, _, H1, rfl, I1.kept (t' := s1.toks) fun b o e => Heap.get?_push_of_some _ e, turn_tuple a _, ⟨_, Heap.get?_push_size _ rfl, rfl, rfl⟩, pin, q⟩
def itemsW (M : Sto) : W → Option (List D × List Nat)
  | .d (.lst l) => some (l, [])
  | .d (.frl l) => some (l, [])
  | .d (.tup l) => some (l, [])
  | .loc k => match M[k]? with
    | some (.lst l) => some (l, [k])
    | _ => none
  | _ => none
def fSeqI (fa : FE) : FI := fun δ M => (fa δ M).bind fun w M1 => R.of M1 (itemsW M1 w)
variable {K : PySem.W.Frag}
theorem wk_list {r : Rg} {M : Sto} {H : Hp} {l : List D} {p : Addr} {xs : List V} (lk : List Nat)
    (hq : ∀ r1 H1 M1, Same (fz r H) (fz r1 H1) → Sta K r1 M1 H1 → (∀ k ∈ lk, M1[k]? = M[k]?) → SqL K H1 p xs ∧ RpL K (fz r1 H1) l xs) : Wk K (Itl K p) l lk r M H := fun r1 H1 M1 _ n S hk i => by
  obtain ⟨h1, h2⟩ := hq r1 H1 M1 n S hk
  refine ⟨fun d hd => ?_, fun hi => ⟨xs, h1, by rw [h2.length]; exact hi⟩⟩
  obtain ⟨x, ex, q⟩ := h2.get hd
  exact ⟨⟨xs, x, h1, ex⟩, fun y H2 ⟨e, hy⟩ => by
    subst e
    have := hy xs h1
    rw [ex] at this
    cases this
    exact ⟨Same.refl _, q⟩⟩
theorem wk_tup {r : Rg} {M : Sto} {H : Hp} {l : List D} {p : Addr} {xs : List V}
    (hq : SqT K (fz r H) p xs) (h2 : RpL K (fz r H) l xs) : Wk K (Itt K p) l [] r M H := fun r1 H1 M1 _ n S hk i => by
  have h1 : SqT K H1 p xs := same_t fz_sub (same_t n hq)
  have h2 := RpL.mono n h2
  refine ⟨fun d hd => ?_, fun hi => ⟨xs, h1, by rw [h2.length]; exact hi⟩⟩
  obtain ⟨x, ex, q⟩ := h2.get hd
  exact ⟨⟨xs, x, h1, ex⟩, fun y H2 ⟨e, hy⟩ => by
    subst e
    have := hy xs h1
    rw [ex] at this
    cases this
    exact ⟨Same.refl _, q⟩⟩
theorem ri_seq (h : RE X E a fa) : RI X E tg a (fSeqI fa) := pi_imp (pi_seq h) fun σ H Q ⟨r, δ, M, Ev, S, k⟩ =>
  ⟨r, δ, M, Ev, S, PostI.bind k fun w M1 v H1 r1 _ n1 S1 q1 k1 => by
    cases e : itemsW M1 w with
    | none => rw [e] at k1; exact k1.elim
    | some z =>
      rw [e] at k1
      unfold itemsW at e
      split at e
      · cases e
        simp only [relW, RW, Rp] at q1
        obtain ⟨p, xs, rfl, q2, q3⟩ := q1
        exact ⟨p, rfl, .inl ⟨⟨xs, .inl (.inl (fz_sub _ _ q2))⟩, k1 _ _ r1 Nxt.refl S1 (wk_list _ fun r2 H2 M2 n2 S2 _ => ⟨.inl (.inl (fz_sub _ _ (n2 _ _ q2))), RpL.mono n2 q3⟩)⟩⟩
      · cases e
        simp only [relW, RW, Rp] at q1
        obtain ⟨p, xs, rfl, q2, q3⟩ := q1
        exact ⟨p, rfl, .inl ⟨⟨xs, fz_sub.seq q2⟩, k1 _ _ r1 Nxt.refl S1 (wk_list _ fun r2 H2 M2 n2 S2 _ => ⟨fz_sub.seq (n2.seq q2), RpL.mono n2 q3⟩)⟩⟩
      · cases e
        simp only [relW, RW, Rp] at q1
        obtain ⟨p, xs, rfl, q2, q3⟩ := q1
        exact ⟨p, rfl, .inr ⟨⟨xs, same_t fz_sub q2⟩, k1 _ _ r1 Nxt.refl S1 (wk_tup q2 q3)⟩⟩
      · rename_i kk _
        split at e
        · rename_i l hl
          cases e
          obtain ⟨p, e1, rfl⟩ := q1
          obtain ⟨xs, q2, q3⟩ := S1.cell kk p _ e1 hl
          refine ⟨p, rfl, .inl ⟨⟨xs, .inl (.inl q2)⟩, k1 _ _ r1 Nxt.refl S1 ?_⟩⟩
          -- the cell stands as it stood, its list may be another one of the same items
          intro r2 H2 M2 x2 n2 S2 hk i
          have hk2 : M2[kk]? = some (.lst l) := (hk kk (by simp)).trans hl
          obtain ⟨t, et⟩ := x2
          have e2 : r2.c[kk]? = some p := by rw [et, List.getElem?_append_left (List.getElem?_eq_some_iff.mp e1).1]; exact e1
          obtain ⟨ys, h1, h2⟩ := S2.cell kk p _ e2 hk2
          have h1' : SqL X.K H2 p ys := .inl (.inl h1)
          refine ⟨fun d hd => ?_, fun hi => ⟨ys, h1', by rw [h2.length]; exact hi⟩⟩
          obtain ⟨x, ex, q⟩ := h2.get hd
          exact ⟨⟨ys, x, h1', ex⟩, fun y H3 ⟨e, hy⟩ => by
            subst e
            have := hy ys h1'
            rw [ex] at this
            cases this
            exact ⟨Same.refl _, q⟩⟩
        · cases e
      · cases e⟩
/-- a range -/
def rgD (lo : Int) (n : Nat) : List D := (List.range n).map fun (i : Nat) => D.int (lo + (i : Int))
def rngW1 : List W → Option (Int × Int)
  | [.d (.int j)] => some (0, j)
  | _ => none
def rngW2 : List W → Option (Int × Int)
  | [.d (.int i), .d (.int j)] => some (i, j)
  | _ => none
def rngC (p : Int × Int) : Bool := decide (-1000000 ≤ p.1) && decide (p.1 ≤ 1000000) && decide (-1000000 ≤ p.2) && decide (p.2 ≤ 1000000)
theorem rngC_of {p : Int × Int} (h : rngC p = true) : -1000000 ≤ p.1 ∧ p.1 ≤ 1000000 ∧ -1000000 ≤ p.2 ∧ p.2 ≤ 1000000 := by
  unfold rngC at h
  simp only [Bool.and_eq_true, decide_eq_true_eq] at h
  exact ⟨h.1.1.1, h.1.1.2, h.1.2, h.2⟩
def rngR (p : Int × Int) (M : Sto) : R (List D × List Nat) := match rngC p with
  | true => .ok (rgD p.1 (p.2 - p.1).toNat, []) M
  | false => .bad
def fRng1 (fs : FA) : FI := fun δ M => (fs δ M).bind fun ws M1 => (R.of M1 (rngW1 ws)).bind rngR
def fRng2 (fs : FA) : FI := fun δ M => (fs δ M).bind fun ws M1 => (R.of M1 (rngW2 ws)).bind rngR
theorem wk_rng {r : Rg} {M : Sto} {H : Hp} {lo : Int} {n : Nat} : Wk K (Itr lo n) (rgD lo n) [] r M H := fun r1 H1 M1 _ _ S _ i => by
  refine ⟨fun d hd => ?_, fun hi => ?_⟩
  · unfold rgD at hd
    rw [List.getElem?_map] at hd
    cases e : (List.range n)[i]? with
    | none => rw [e] at hd; cases hd
    | some j =>
      rw [e] at hd
      cases hd
      obtain ⟨h1, h2⟩ := List.getElem?_eq_some_iff.mp e
      rw [List.length_range] at h1
      rw [List.getElem_range] at h2
      subst h2
      exact ⟨h1, fun y H2 ⟨e1, e2⟩ => by
        subst e1
        exact ⟨Same.refl _, by simp only [Rp]; exact e2⟩⟩
  · unfold rgD at hi
    rw [List.length_map, List.length_range] at hi
    exact hi
theorem rwl1 {r : Rg} {H : Hp} {vs : List V} {i : Int} (h : RWL K r H vs [.d (.int i)]) : vs = [.int i] := by
  cases vs with
  | nil => cases h
  | cons v vs =>
    obtain ⟨w, ws, e, h1, h2⟩ := h
    cases e
    cases vs with
    | nil => simp only [RW, Rp] at h1; rw [h1]
    | cons u us => obtain ⟨_, _, e, _⟩ := h2; cases e
theorem rwl2 {r : Rg} {H : Hp} {vs : List V} {i j : Int} (h : RWL K r H vs [.d (.int i), .d (.int j)]) : vs = [.int i, .int j] := by
  cases vs with
  | nil => cases h
  | cons v vs =>
    obtain ⟨w, ws, e, h1, h2⟩ := h
    cases e
    rw [rwl1 h2]
    simp only [RW, Rp] at h1
    rw [h1]
theorem ri_range1 {fs : FA} {p pos : Pos} (hg : Gl X "range") (hm : X.mg "range" = none) (ha : RA X E [a] fs) (hs : starEach [a] X.env = [(false, eval a X.env)] := by rfl) : RI X E tg (.Call (.Name "range" p) [a] [] pos) (fRng1 fs) :=
  pi_imp (pi_range1 hg hm ha hs) fun σ H Q ⟨r, δ, M, Ev, S, k⟩ => ⟨r, δ, M, Ev, S, PostI.bind k fun ws M1 vs H1 r1 _ n1 S1 q1 k1 => by
    cases e : rngW1 ws with
    | none => rw [e] at k1; exact k1.elim
    | some z =>
      rw [e] at k1
      have k2 : PostI X.K E r1 H1 (rngR z M1) Q := k1
      unfold rngR at k2
      cases hc : rngC z with
      | false => rw [hc] at k2; exact k2.elim
      | true =>
        rw [hc] at k2
        have hb := rngC_of hc
        unfold rngW1 at e
        split at e
        · cases e
          simp only at hb
          refine ⟨_, rwl1 q1, by omega, by omega, k2 _ _ r1 Nxt.refl S1 ?_⟩
          have := @wk_rng X.K r1 M1 H1 0
          simpa only [Int.sub_zero] using wk_rng
        · cases e⟩
theorem ri_range2 {b : Expr} {fs : FA} {p pos : Pos} (hg : Gl X "range") (hm : X.mg "range" = none) (ha : RA X E [a, b] fs) (hs : starEach [a, b] X.env = [(false, eval a X.env), (false, eval b X.env)] := by rfl) (hs2 : starEach [b] X.env = [(false, eval b X.env)] := by rfl) :
    RI X E tg (.Call (.Name "range" p) [a, b] [] pos) (fRng2 fs) :=
  pi_imp (pi_range2 hg hm ha hs hs2) fun σ H Q ⟨r, δ, M, Ev, S, k⟩ => ⟨r, δ, M, Ev, S, PostI.bind k fun ws M1 vs H1 r1 _ n1 S1 q1 k1 => by
    cases e : rngW2 ws with
    | none => rw [e] at k1; exact k1.elim
    | some z =>
      rw [e] at k1
      have k2 : PostI X.K E r1 H1 (rngR z M1) Q := k1
      unfold rngR at k2
      cases hc : rngC z with
      | false => rw [hc] at k2; exact k2.elim
      | true =>
        rw [hc] at k2
        have hb := rngC_of hc
        unfold rngW2 at e
        split at e
        · cases e
          simp only at hb
          exact ⟨_, _, rwl2 q1, ⟨by omega, by omega, by omega, by omega⟩, k2 _ _ r1 Nxt.refl S1 wk_rng⟩
        · cases e⟩
end

/-! ### for -/
def lkOk (lk : List Nat) (M0 M2 : Sto) : Prop := ∀ k ∈ lk, M2[k]? = M0[k]?
open Classical in
/-- go on where the walked cells stand as they stood -/
noncomputable def lkR {A : Type} (lk : List Nat) (M0 M2 : Sto) (x : R A) : R A := if lkOk lk M0 M2 then x else .bad
@[simp] theorem lkR_nil {A : Type} {M0 M2 : Sto} {x : R A} : lkR [] M0 M2 x = x := by
  unfold lkR
  exact if_pos (fun _ h => nomatch h)
noncomputable def forF (lk : List Nat) (M0 : Sto) (g : FG) (fb : FS) : List D → DEnv → Sto → R Out
  | [], δ, M => .ok (.nx δ) M
  | d :: l, δ, M => match g d δ with
    | none => .bad
    | some δ1 => match fb δ1 M with
      | .ok (.nx δ2) M2 => lkR lk M0 M2 (forF lk M0 g fb l δ2 M2)
      | .ok (.ct δ2) M2 => lkR lk M0 M2 (forF lk M0 g fb l δ2 M2)
      | .ok (.bk δ2) M2 => .ok (.nx δ2) M2
      | .ok (.rt w) M2 => .ok (.rt w) M2
      | .ex e M2 => .ex e M2
      | .bad => .bad
noncomputable def sFor (fi : FI) (g : FG) (fb : FS) : FS := fun δ M => (fi δ M).bind fun p M1 => forF p.2 M1 g fb p.1 δ M1
theorem PostI.of {K : PySem.W.Frag} {E : XK} {r : Rg} {H : Hp} {x : R (List D × List Nat)} {k : List D × List Nat → Sto → R Out} {D : Ends} {Q : It → Hp → Prop} (h : PostS K E r H (x.bind k) D)
    (j : ∀ p M' J H' r', Nxt r H r' H' → Sta K r' M' H' → Wk K J p.1 p.2 r' M' H' → PostS K E r' H' (k p M') D → Q J H') : PostI K E r H x Q := by
  cases x with
  | bad => exact h
  | ok p M => exact fun J H' r' n S W => j p M J H' r' n S W (PostS.nxt n h)
  | ex e M => exact h
section
variable {X : Cx} {E : XK} {tg iter : Expr} {body : List Stmt} {fi : FI} {ts : List Nat} {g : FG} {fb : FS} {pos : Pos}
theorem drop_cons {α : Type} {l : List α} {i : Nat} {d : α} (h : l[i]? = some d) : l.drop i = d :: l.drop (i + 1) := by
  obtain ⟨h1, h2⟩ := List.getElem?_eq_some_iff.mp h
  rw [← h2]
  exact List.drop_eq_getElem_cons h1
theorem rs_for (hp : PassesOwn (model X.prog X.w) X.A X.env X.xe) (hc : X.calm = true) (hi : RI X E tg iter fi) (hg : RG X tg ts g) (hb : RSs X E body fb)
    (hs : ∀ x, foldedSetIterable iter X.env x = pure x := by intro _; rfl) : RS X E (.For tg iter body [] pos) (sFor fi g fb) := ps_imp (ps_for hp hc hi hg hb hs) fun D σ H ⟨r, δ, M, Ev, S, k⟩ =>
  ⟨r, δ, M, Ev, S, PostI.of k fun ⟨l, lk⟩ M0 J H0 r0 n0 S0 Wl k0 => by
    refine ⟨fun i m σ Hc => i ≤ l.length ∧ m = l.length - i ∧ ∃ r δ M, Nxt r0 H0 r Hc ∧ EnvR X.K r Hc σ δ ∧ Sta X.K r M Hc ∧ lkOk lk M0 M ∧ PostS X.K E r Hc (forF lk M0 g fb (l.drop i) δ M) D,
      ⟨l.length, Nat.zero_le _, rfl, r0, δ, M0, Nxt.refl, Ev.mono n0, S0, fun _ _ => rfl, k0⟩, ?_⟩
    rintro i m σ Hc ⟨hi, rfl, r, δ, M, n, Ec, Sc, hk, kc⟩
    obtain ⟨w1, w2⟩ := Wl r Hc M n.ext n.same Sc hk i
    cases hd : l[i]? with
    | none =>
      have hl : l.length ≤ i := List.getElem?_eq_none_iff.mp hd
      refine .inl ⟨w2 hl, ?_⟩
      rw [List.drop_eq_nil_of_le hl] at kc
      exact kc σ Hc r Nxt.refl Sc Ec
    | some d =>
      obtain ⟨go, yl⟩ := w1 d hd
      have hil : i < l.length := (List.getElem?_eq_some_iff.mp hd).1
      rw [drop_cons hd] at kc
      refine .inr ⟨go, fun σ' H' => i + 1 ≤ l.length ∧ ∃ r δ M, Nxt r0 H0 r H' ∧ EnvR X.K r H' σ' δ ∧ Sta X.K r M H' ∧ lkOk lk M0 M ∧ PostS X.K E r H' (forF lk M0 g fb (l.drop (i + 1)) δ M) D,
        fun σ' H' ⟨h1, h2⟩ => ⟨l.length - (i + 1), by omega, h1, rfl, h2⟩, fun x H2 hy => ?_⟩
      obtain ⟨e2, q2⟩ := yl x H2 hy
      unfold forF at kc
      cases eg : g d δ with
      | none => rw [eg] at kc; exact kc.elim
      | some δ1 =>
        simp only [eg] at kc
        refine ⟨r, δ, M, d, δ1, Ec.mono (Nxt.more e2), Sc.more e2, q2, eg, fun σ1 _ _ E1 => ⟨r, δ1, M, E1, Sc.more e2, ?_⟩⟩
        have kc := PostS.nxt (Nxt.more (r := r) e2) kc
        have n2 : Nxt r0 H0 r H2 := n.trans (Nxt.more e2)
        have again : ∀ {δ2 : DEnv} {M2 : Sto} {σ' : L2.St} {H' : Hp} {r' : Rg}, PostS X.K E r H2 (lkR lk M0 M2 (forF lk M0 g fb (l.drop (i + 1)) δ2 M2)) D → Nxt r H2 r' H' → Sta X.K r' M2 H' → EnvR X.K r' H' σ' δ2 →
            i + 1 ≤ l.length ∧ ∃ r δ M, Nxt r0 H0 r H' ∧ EnvR X.K r H' σ' δ ∧ Sta X.K r M H' ∧ lkOk lk M0 M ∧ PostS X.K E r H' (forF lk M0 g fb (l.drop (i + 1)) δ M) D := fun {δ2 M2 σ' H' r'} kk n3 S3 E3 => by
          unfold lkR at kk
          split at kk
          · rename_i hlk
            exact ⟨hil, r', δ2, M2, n2.trans n3, E3, S3, hlk, PostS.nxt n3 kk⟩
          · exact kk.elim
        cases eb : fb δ1 M with
        | bad => rw [eb] at kc; exact kc
        | ex e M2 => rw [eb] at kc; exact kc
        | ok o M2 =>
          cases o with
          | nx δ2 => rw [eb] at kc; exact fun σ' H' r' n3 S3 E3 => again kc n3 S3 E3
          | ct δ2 => rw [eb] at kc; exact fun σ' H' r' n3 S3 E3 => again kc n3 S3 E3
          | bk δ2 => rw [eb] at kc; exact kc
          | rt w => rw [eb] at kc; exact kc⟩
end

/-! ### while -/
def whF (t : FT) (fb : FS) : Nat → DEnv → Sto → R Out
  | 0, _, _ => .bad
  | n + 1, δ, M => (t δ M).bind fun b M1 => match b with
    | false => .ok (.nx δ) M1
    | true => match fb δ M1 with
      | .ok (.nx δ2) M2 => whF t fb n δ2 M2
      | .ok (.ct δ2) M2 => whF t fb n δ2 M2
      | .ok (.bk δ2) M2 => .ok (.nx δ2) M2
      | .ok (.rt w) M2 => .ok (.rt w) M2
      | .ex e M2 => .ex e M2
      | .bad => .bad
def sWhile (N : DEnv → Sto → Nat) (t : FT) (fb : FS) : FS := fun δ M => whF t fb (N δ M) δ M
section
variable {X : Cx} {E : XK} {c : Expr} {body : List Stmt} {t : FT} {fb : FS} {pos : Pos}
theorem rs_while (N : DEnv → Sto → Nat) (hp : PassesOwn (model X.prog X.w) X.A X.env X.xe) (hc : RT X E c t) (hb : RSs X E body fb) : RS X E (.While c body [] pos) (sWhile N t fb) := ps_imp (ps_while hp hc hb) fun D σ H ⟨r, δ, M, Ev, S, k⟩ => by
  refine ⟨fun m σ Hc => ∃ r δ M, EnvR X.K r Hc σ δ ∧ Sta X.K r M Hc ∧ PostS X.K E r Hc (whF t fb m δ M) D, ⟨N δ M, r, δ, M, Ev, S, k⟩, ?_⟩
  rintro m σ Hc ⟨r, δ, M, Ec, Sc, kc⟩
  cases m with
  | zero => exact kc.elim
  | succ n =>
    unfold whF at kc
    refine ⟨r, δ, M, Ec, Sc, PostS.bind kc fun b M1 v H1 r1 _ n1 S1 q1 k1 => ?_⟩
    cases q1
    cases b with
    | false => exact iteF (k1 σ H1 r1 Nxt.refl S1 (Ec.mono n1))
    | true =>
      refine iteT ⟨fun σ' H' => ∃ r δ M, EnvR X.K r H' σ' δ ∧ Sta X.K r M H' ∧ PostS X.K E r H' (whF t fb n δ M) D, fun σ' H' h => ⟨n, Nat.lt_succ_self n, h⟩, r1, δ, M1, Ec.mono n1, S1, ?_⟩
      cases eb : fb δ M1 with
      | bad => simp only [eb] at k1; exact k1
      | ex e M2 => simp only [eb] at k1; exact k1
      | ok o M2 =>
        cases o with
        | nx δ2 => simp only [eb] at k1; exact fun σ' H' r' n3 S3 E3 => ⟨r', δ2, M2, E3, S3, PostS.nxt n3 k1⟩
        | ct δ2 => simp only [eb] at k1; exact fun σ' H' r' n3 S3 E3 => ⟨r', δ2, M2, E3, S3, PostS.nxt n3 k1⟩
        | bk δ2 => simp only [eb] at k1; exact k1
        | rt w => simp only [eb] at k1; exact k1
end
end S9

namespace S9
open PySem PySem.Spec PyProof.Rows L2
/-! ### list comprehensions -/
def R.noEx {A : Type} : R A → R A
  | .ex _ _ => .bad
  | x => x
noncomputable def lcF (lk : List Nat) (M0 : Sto) (g : FG) (ft : FT) (fe : FE) (δ : DEnv) : List D → Sto → R (List D)
  | [], M => .ok [] M
  | d :: l, M => match g d δ with
    | none => .bad
    | some δ1 => (ft δ1 M).noEx.bind fun b M2 => match b with
      | false => lkR lk M0 M2 (lcF lk M0 g ft fe δ l M2)
      | true => (fe δ1 M2).noEx.bind fun w M3 => (R.of M3 (fr w)).bind fun x M4 => lkR lk M0 M4 ((lcF lk M0 g ft fe δ l M4).bind fun r M5 => .ok (x :: r) M5)
def wipeD (δ : DEnv) : List Nat → DEnv
  | [] => δ
  | v :: vs => (wipeD δ vs).set v none
noncomputable def fLc (fi : FI) (g : FG) (ft : FT) (fe : FE) (vs : List Nat) : FN := fun δ M => (fi δ M).bind fun p M1 => if p.1.length ≤ 100000 then lcF p.2 M1 g ft fe (wipeD δ vs) p.1 M1 else .bad
def tYesF : FT := fun _ M => .ok true M
section
variable {K : PySem.W.Frag} {r r1 : Rg} {M : Sto} {H : Hp} {σ : L2.St} {δ : DEnv}
theorem EnvR.wipe (E : EnvR K r H σ δ) : ∀ vs : List Nat, EnvR K r H (L2.wipe σ vs) (wipeD δ vs)
  | [] => E
  | v :: vs => by
    have q := EnvR.wipe E vs
    unfold L2.wipe wipeD
    refine ⟨by simp [q.len], fun i w h => ?_⟩
    by_cases e : v = i
    · subst e
      by_cases l : v < (wipeD δ vs).length
      · rw [List.getElem?_set_self l] at h; cases h
      · rw [List.getElem?_eq_none (by simpa using l)] at h; cases h
    · rw [List.getElem?_set_ne e] at h
      obtain ⟨x, e1, q1⟩ := q.at_ i w h
      exact ⟨x, by rw [List.getElem?_set_ne e]; exact e1, q1⟩
theorem wipe_in {σ : L2.St} {i : Nat} : ∀ {vs : List Nat}, i ∈ vs → i < σ.length → (wipe σ vs)[i]? = some none
  | [], h, _ => nomatch h
  | v :: vs, h, hl => by
    unfold L2.wipe
    by_cases e : v = i
    · subst e
      rw [List.getElem?_set_self (by rw [wipe_length]; exact hl)]
    · rw [List.getElem?_set_ne e]
      rcases List.mem_cons.mp h with h | h
      · exact absurd h.symm e
      · exact wipe_in h hl
theorem wipe_same {σ σ' : L2.St} {vs : List Nat} (h : ∀ j, j ∉ vs → σ'[j]? = (wipe σ vs)[j]?) (hl : σ'.length = (wipe σ vs).length) : wipe σ' vs = wipe σ vs := by
  apply List.ext_getElem?
  intro j
  by_cases hj : j ∈ vs
  · by_cases l : j < σ.length
    · rw [wipe_in hj l, wipe_in hj (by rw [hl, wipe_length]; exact l)]
    · rw [List.getElem?_eq_none (by rw [wipe_length, hl, wipe_length]; omega), List.getElem?_eq_none (by rw [wipe_length]; omega)]
  · rw [wipe_out hj, h j hj]
theorem Sta.unhid {p : Addr} (S : Sta K (r.hid p) M H) : Sta K r M H := by
  have e : Same (fz (r.hid p) H) (fz r H) := fz_less (fun a z => has_hid.mpr (.inl z)) (Same.refl _)
  have rw' : ∀ {v : V} {w : W}, RW K (r.hid p) H v w → RW K r H v w := fun {v w} h => by
    cases w with
    | d x => exact Rp.mono e h
    | loc k => exact h
  have rwl : ∀ {vs : List V} {ws : List W}, RWL K (r.hid p) H vs ws → RWL K r H vs ws := by
    intro vs
    induction vs with
    | nil => intro ws h; exact h
    | cons v vs ih => intro ws h; obtain ⟨w, ws', e, h1, h2⟩ := h; exact ⟨w, ws', e, rw' h1, ih h2⟩
  refine ⟨S.len, ⟨S.nd.1, (List.nodup_cons.mp S.nd.2).2⟩, fun a ha => S.dj a (List.mem_cons_of_mem _ ha), fun a ha => S.prv a (List.mem_cons_of_mem _ ha), fun k a c h1 h2 => ?_⟩
  have q := S.cell k a c h1 h2
  cases c with
  | lst l => obtain ⟨xs, q1, q2⟩ := q; exact ⟨xs, q1, RpL.mono e q2⟩
  | dct ks l => obtain ⟨xs, q1, q3, q2⟩ := q; exact ⟨xs, q1, q3, RpL.mono e q2⟩
  | ins C ns ws => obtain ⟨dx, fs, q1, q3, q2⟩ := q; exact ⟨dx, fs, q1, q3, rwl q2⟩
theorem Sta.hid {p : Addr} {o : HO} (S : Sta K r M H) (h : H p = none) : Sta K (r.hid p) M (upd H p o) := by
  have nm := S.fresh h
  have e : Same (fz r H) (fz (r.hid p) (upd H p o)) := fz_new h fun a z => has_hid.mp z
  have rw' : ∀ {v : V} {w : W}, RW K r H v w → RW K (r.hid p) (upd H p o) v w := fun {v w} h => by
    cases w with
    | d x => exact Rp.mono e h
    | loc k => exact h
  have rwl : ∀ {vs : List V} {ws : List W}, RWL K r H vs ws → RWL K (r.hid p) (upd H p o) vs ws := by
    intro vs
    induction vs with
    | nil => intro ws h; exact h
    | cons v vs ih => intro ws h; obtain ⟨w, ws', e, h1, h2⟩ := h; exact ⟨w, ws', e, rw' h1, ih h2⟩
  refine ⟨S.len, ⟨S.nd.1, List.nodup_cons.mpr ⟨fun z => nm (.inr z), S.nd.2⟩⟩, fun a ha z => ?_, fun a ha => ?_, fun k a c h1 h2 => ?_⟩
  · rcases List.mem_cons.mp ha with ha | ha
    · exact nm (ha ▸ .inl z)
    · exact S.dj a ha z
  · rcases List.mem_cons.mp ha with ha | ha
    · subst ha; exact ⟨o, upd_same⟩
    · obtain ⟨u, q⟩ := S.prv a ha
      exact ⟨u, same_up h a u q⟩
  · have q := S.cell k a c h1 h2
    have hne : a ≠ p := fun z => nm (z ▸ .inl (List.mem_of_getElem? h1))
    cases c with
    | lst l => obtain ⟨xs, q1, q2⟩ := q; exact ⟨xs, (upd_ne hne).trans q1, RpL.mono e q2⟩
    | dct ks l => obtain ⟨xs, q1, q3, q2⟩ := q; exact ⟨xs, (upd_ne hne).trans q1, q3, RpL.mono e q2⟩
    | ins C ns ws => obtain ⟨dx, fs, q1, q3, q2⟩ := q; exact ⟨dx, fs, (upd_ne hne).trans q1, q3, rwl q2⟩
/-- a hidden object changes -/
theorem fz_prv {p : Addr} {o : HO} (h : p ∈ r.u) : fz r (upd H p o) = fz r H := by
  funext a
  by_cases z : r.has a
  · rw [fz_in z, fz_in z]
  · rw [fz_out z, fz_out z, upd_ne (fun e => z (.inr (by rw [e]; exact h)))]
theorem Sta.prvUpd {p : Addr} {o : HO} (S : Sta K r M H) (h : p ∈ r.u) : Sta K r M (upd H p o) := by
  refine ⟨S.len, S.nd, S.dj, fun a ha => ?_, fun k a c h1 h2 => ?_⟩
  · by_cases e : a = p
    · subst e; exact ⟨o, upd_same⟩
    · rw [upd_ne e]; exact S.prv a ha
  · have hne : a ≠ p := fun z => S.dj p h (z ▸ List.mem_of_getElem? h1)
    have q := S.cell k a c h1 h2
    have rwl : ∀ {vs : List V} {ws : List W}, RWL K r H vs ws → RWL K r (upd H p o) vs ws := by
      intro vs
      induction vs with
      | nil => intro ws h; exact h
      | cons v vs ih =>
        intro ws hh
        obtain ⟨w, ws', e, h1, h2⟩ := hh
        refine ⟨w, ws', e, ?_, ih h2⟩
        cases w with
        | d x => show Rp K (fz r (upd H p o)) x v; rw [fz_prv h]; exact h1
        | loc k => exact h1
    cases c with
    | lst l => obtain ⟨xs, q1, q2⟩ := q; exact ⟨xs, (upd_ne hne).trans q1, by rw [fz_prv h]; exact q2⟩
    | dct ks l => obtain ⟨xs, q1, q3, q2⟩ := q; exact ⟨xs, (upd_ne hne).trans q1, q3, by rw [fz_prv h]; exact q2⟩
    | ins C ns ws => obtain ⟨dx, fs, q1, q3, q2⟩ := q; exact ⟨dx, fs, (upd_ne hne).trans q1, q3, rwl q2⟩
/-- the hidden list comes out -/
theorem Sta.out {p : Addr} {l : List D} {xs : List V} (S : Sta K (r.hid p) M H) (hp : H p = some (.lst xs)) (q : RpL K (fz (r.hid p) H) l xs) : Sta K (r.add p) (M ++ [.lst l]) H := by
  have e : fz (r.add p) H = fz (r.hid p) H := by
    funext a
    by_cases z : (r.hid p).has a
    · rw [fz_in z, fz_in (has_add.mpr (has_hid.mp z))]
    · rw [fz_out z, fz_out (fun y => z (has_hid.mpr (has_add.mp y)))]
  have npc : p ∉ r.c := S.dj p (by simp [Rg.hid])
  have lc : r.c.length = M.length := S.len
  have rw' : ∀ {v : V} {w : W}, RW K (r.hid p) H v w → RW K (r.add p) H v w := fun {v w} h => by
    cases w with
    | d x => show Rp K (fz (r.add p) H) x v; rw [e]; exact h
    | loc k =>
      obtain ⟨a, h1, h2⟩ := h
      have h1 : r.c[k]? = some a := h1
      exact ⟨a, by show (r.c ++ [p])[k]? = _; rw [List.getElem?_append_left (List.getElem?_eq_some_iff.mp h1).1]; exact h1, h2⟩
  have rwl : ∀ {vs : List V} {ws : List W}, RWL K (r.hid p) H vs ws → RWL K (r.add p) H vs ws := by
    intro vs
    induction vs with
    | nil => intro ws h; exact h
    | cons v vs ih => intro ws h; obtain ⟨w, ws', e, h1, h2⟩ := h; exact ⟨w, ws', e, rw' h1, ih h2⟩
  have un := List.nodup_cons.mp S.nd.2
  refine ⟨by simp [Rg.add, lc], ⟨?_, un.2⟩, fun a ha z => ?_, fun a ha => S.prv a (List.mem_cons_of_mem _ ha), fun k a c h1 h2 => ?_⟩
  · show (r.c ++ [p]).Nodup
    rw [List.nodup_append]
    exact ⟨S.nd.1, by simp, fun a ha b hb z => by simp at hb; subst hb; exact npc (z ▸ ha)⟩
  · have z : a ∈ r.c ++ [p] := z
    have hnd : a ∉ r.c := S.dj a (List.mem_cons_of_mem _ ha)
    rcases List.mem_append.mp z with z | z
    · exact hnd z
    · have : a = p := by simpa using z
      exact un.1 (this ▸ ha)
  · have h1 : (r.c ++ [p])[k]? = some a := h1
    by_cases hk : k < r.c.length
    · rw [List.getElem?_append_left hk] at h1
      rw [List.getElem?_append_left (by rw [← lc]; exact hk)] at h2
      have q := S.cell k a c h1 h2
      cases c with
      | lst l => obtain ⟨xs, q1, q2⟩ := q; exact ⟨xs, q1, by rw [e]; exact q2⟩
      | dct ks l => obtain ⟨xs, q1, q3, q2⟩ := q; exact ⟨xs, q1, q3, by rw [e]; exact q2⟩
      | ins C ns ws => obtain ⟨dx, fs, q1, q3, q2⟩ := q; exact ⟨dx, fs, q1, q3, rwl q2⟩
    · have e3 : k = r.c.length := by
        have := (List.getElem?_eq_some_iff.mp h1).1
        simp at this
        omega
      subst e3
      have e4 : a = p := by simpa using h1.symm
      have e5 : c = .lst l := by rw [lc] at h2; simpa using h2.symm
      subst e4
      subst e5
      exact ⟨xs, hp, by rw [e]; exact q⟩
end
end S9

namespace S9
open PySem PySem.Spec PyProof.Rows L2
abbrev RTs (X : Cx) (ifs : List Expr) (f : FT) : Prop := PTs X ifs (tT X.K E0 f)
theorem rts_nil {X : Cx} : RTs X [] tYesF := ⟨fun pins s σ H Q I ⟨r, δ, M, Ev, S, k⟩ => pts_nil.run pins s σ H Q I (k true H r Nxt.refl S rfl)⟩
theorem rts_one {X : Cx} {c : Expr} {f : FT} (h : RT X E0 c f) : RTs X [c] f := pts_one h
theorem PostI.ofN {K : PySem.W.Frag} {E : XK} {r : Rg} {H : Hp} {x : R (List D × List Nat)} {k : List D × List Nat → Sto → R (List D)} {Q : VK} {Q' : It → Hp → Prop} (h : PostN K E r H (x.bind k) Q)
    (j : ∀ p M' J H' r', Nxt r H r' H' → Sta K r' M' H' → Wk K J p.1 p.2 r' M' H' → PostN K E r' H' (k p M') Q → Q' J H') : PostI K E r H x Q' := by
  cases x with
  | bad => exact h
  | ok p M =>
    refine fun J H' r' n S W => j p M J H' r' n S W ?_
    have h : PostN K E r H (k p M) Q := h
    revert h
    cases k p M with
    | bad => exact fun h => h
    | ok l M2 => exact fun h p H2 r2 N => h p H2 r2 (NewL.step (M0 := M) n N)
    | ex e M2 => exact fun h H2 r2 c o n2 S2 q2 => h H2 r2 c o (n.trans n2) S2 q2
  | ex e M => exact h
/-- a part that may not raise -/
theorem PostN.noEx {K : PySem.W.Frag} {E : XK} {r : Rg} {H : Hp} {A C : Type} {rel : Rg → Hp → Sto → C → A → Prop} {x : R A} {k : A → Sto → R (List D)} {Q : VK} {r1 : Rg} {H1 : Hp} {Q' : C → Hp → Prop} (h : PostN K E r H (x.noEx.bind k) Q)
    (j : ∀ w M' v H' r', x = .ok w M' → Nxt r1 H1 r' H' → Sta K r' M' H' → rel r' H' M' v w → PostN K E r H (k w M') Q → Q' v H') : Post K E0 r1 H1 rel x Q' := by
  cases x with
  | bad => exact h
  | ok w M => exact fun v H' r' n S q => j w M v H' r' rfl n S q h
  | ex e M => exact h.elim
section
variable {X : Cx} {E : XK} {elt tg iter : Expr} {ifs : List Expr} {scope : Scope} {own : List (Str × Nat)} {pos : Pos} {fi : FI} {ts : List Nat} {g : FG} {ft : FT} {fe : FE}
theorem lc_imp (hts : ∀ j ∈ ts, j ∈ own.map (·.2)) : ∀ σ H Q, tN X.K E (fLc fi g ft fe (own.map (·.2))) σ H Q → tLc (tI X.K E fi) (tG X.K ts g) (tT X.K E0 ft) (tR X.K E0 fe) (own.map (·.2)) σ H Q := by
  generalize own.map (·.2) = vs at hts ⊢
  intro σ H Q ⟨r, δ, M, Ev, S, k⟩
  refine ⟨r, δ, M, Ev, S, PostI.ofN k fun ⟨l, lk⟩ M0 J H0 r0 n0 S0 Wl k0 Dl hDl => ?_⟩
  simp only at k0 Wl
  split at k0
  case isFalse => exact k0.elim
  case isTrue hlen =>
  have E0v := (Ev.mono n0).wipe vs
  refine ⟨fun i m Hc => i ≤ l.length ∧ m = l.length - i ∧ ∃ (r : Rg) (M : Sto) (acc : List D) (xs : List V), (∃ t, r.c = r0.c ++ t) ∧ r.u = r0.u ∧ (∀ a ∈ r0.u, ∀ o, H0 a = some o → Hc a = some o) ∧ Same (fz r0 H0) (fz (r.hid Dl) Hc) ∧ Sta X.K (r.hid Dl) M Hc ∧
      Hc Dl = some (.lst xs) ∧ RpL X.K (fz (r.hid Dl) Hc) acc xs ∧ acc.length ≤ i ∧ lkOk lk M0 M ∧ PostN X.K E r0 H0 ((lcF lk M0 g ft fe (wipeD δ vs) (l.drop i) M).bind fun q M5 => .ok (acc ++ q) M5) Q,
    ⟨l.length, Nat.zero_le _, rfl, r0, M0, [], [], ⟨[], by simp⟩, rfl, fun a _ o h => same_up hDl a o h, fz_new hDl fun a z => has_hid.mp z, S0.hid hDl, upd_same, RpL.nil, Nat.le_refl _, fun _ _ => rfl, ?_⟩, ?_⟩
  · revert k0
    show PostN X.K E r0 H0 (lcF lk M0 g ft fe (wipeD δ vs) l M0) Q → PostN X.K E r0 H0 ((lcF lk M0 g ft fe (wipeD δ vs) l M0).bind fun q M5 => .ok ([] ++ q) M5) Q
    cases lcF lk M0 g ft fe (wipeD δ vs) l M0 with
    | bad => exact fun h => h
    | ok q M5 => exact fun h => h
    | ex e M5 => exact fun h => h
  rintro i m Hc ⟨hi, rfl, r, M, acc, xs, hx, hu, hp, hs, Sc, hD, ha, hal, hk, kc⟩
  have Su := Sc.unhid
  have hs2 : Same (fz r0 H0) (fz r Hc) := fun a o h => fz_less (fun a z => has_hid.mpr (.inl z)) (Same.refl _) a o (hs a o h)
  cases hd : l[i]? with
  | none =>
    have hl : l.length ≤ i := List.getElem?_eq_none_iff.mp hd
    refine .inl ⟨(Wl r Hc M hx hs2 Su hk i).2 hl, ?_⟩
    rw [List.drop_eq_nil_of_le hl] at kc
    have kc : PostN X.K E r0 H0 (.ok (acc ++ []) M) Q := kc
    rw [List.append_nil] at kc
    have eq : fz (r.add Dl) Hc = fz (r.hid Dl) Hc := by
      funext a
      by_cases z : (r.hid Dl).has a
      · rw [fz_in z, fz_in (has_add.mpr (has_hid.mp z))]
      · rw [fz_out z, fz_out (fun y => z (has_hid.mpr (has_add.mp y)))]
    exact kc Dl Hc r ⟨⟨hx, hu, hp, hs2⟩, Su, Sc.out hD ha, by rw [eq]; exact hs⟩
  | some d =>
    obtain ⟨go, _⟩ := (Wl r Hc M hx hs2 Su hk i).1 d hd
    have hil : i < l.length := (List.getElem?_eq_some_iff.mp hd).1
    rw [drop_cons hd] at kc
    refine .inr ⟨go, fun H' => i + 1 ≤ l.length ∧ ∃ (r : Rg) (M : Sto) (acc : List D) (xs : List V), (∃ t, r.c = r0.c ++ t) ∧ r.u = r0.u ∧ (∀ a ∈ r0.u, ∀ o, H0 a = some o → H' a = some o) ∧ Same (fz r0 H0) (fz (r.hid Dl) H') ∧ Sta X.K (r.hid Dl) M H' ∧
      H' Dl = some (.lst xs) ∧ RpL X.K (fz (r.hid Dl) H') acc xs ∧ acc.length ≤ i + 1 ∧ lkOk lk M0 M ∧ PostN X.K E r0 H0 ((lcF lk M0 g ft fe (wipeD δ vs) (l.drop (i + 1)) M).bind fun q M5 => .ok (acc ++ q) M5) Q,
      fun H' ⟨h1, h2⟩ => ⟨l.length - (i + 1), by omega, h1, rfl, h2⟩, fun x H2 hy => ?_⟩
    -- the item, with the new list out of sight
    obtain ⟨e2, q2⟩ := ((Wl (r.hid Dl) Hc M hx hs Sc hk i).1 d hd).2 x H2 hy
    unfold lcF at kc
    cases eg : g d (wipeD δ vs) with
    | none => rw [eg] at kc; exact kc.elim
    | some δ1 =>
      simp only [eg] at kc
      have Ec : EnvR X.K (r.hid Dl) H2 (wipe σ vs) (wipeD δ vs) := ⟨E0v.len, fun j w h => by
        obtain ⟨v, e, q⟩ := E0v.at_ j w h
        refine ⟨v, e, ?_⟩
        cases w with
        | d y => exact Rp.mono (fz_same e2) (Rp.mono hs q)
        | loc kk =>
          obtain ⟨a, h1, h2⟩ := q
          obtain ⟨t, et⟩ := hx
          exact ⟨a, by show r.c[kk]? = _; rw [et, List.getElem?_append_left (List.getElem?_eq_some_iff.mp h1).1]; exact h1, h2⟩⟩
      have Sc2 : Sta X.K (r.hid Dl) M H2 := Sc.more e2
      refine ⟨r.hid Dl, wipeD δ vs, M, d, δ1, Ec, Sc2, q2, eg, fun σ1 hj hl1 E1 => ⟨wipe_same (fun j hjv => hj j fun z => hjv (hts j z)) hl1, r.hid Dl, δ1, M, E1, Sc2, ?_⟩⟩
      -- what is left, whatever the test says
      have assoc : PostN X.K E r0 H0 (((ft δ1 M).noEx).bind fun b M2 => (match b with
          | false => lkR lk M0 M2 (lcF lk M0 g ft fe (wipeD δ vs) (l.drop (i + 1)) M2)
          | true => (fe δ1 M2).noEx.bind fun w M3 => (R.of M3 (fr w)).bind fun x M4 => lkR lk M0 M4 ((lcF lk M0 g ft fe (wipeD δ vs) (l.drop (i + 1)) M4).bind fun r M5 => .ok (x :: r) M5)).bind fun q M5 => .ok (acc ++ q) M5) Q := by
        revert kc
        cases (ft δ1 M).noEx with
        | bad => exact fun h => h
        | ok b M2 => exact fun h => h
        | ex e M2 => exact fun h => h
      refine PostN.noEx assoc fun b M2 v H3 r3 _ n3 S3 q3 k3 => ?_
      cases q3
      have hD3 : H3 Dl = some (.lst xs) := n3.prv Dl (by simp [Rg.hid]) _ (e2 _ _ hD)
      obtain ⟨t3, et3⟩ := n3.ext
      have hu3 : r3.u = Dl :: r.u := n3.eu
      obtain ⟨r3c, r3u⟩ := r3
      cases hu3
      have hx3 : ∃ t, r3c = r0.c ++ t := by
        obtain ⟨t, et⟩ := hx
        have et3 : r3c = r.c ++ t3 := et3
        exact ⟨t ++ t3, by rw [et3, et]; simp⟩
      have hp3 : ∀ a ∈ r0.u, ∀ o, H0 a = some o → H3 a = some o := fun a ha o h => n3.prv a (by simp [Rg.hid, hu, ha]) o (e2 a o (hp a ha o h))
      have hs3 : Same (fz r0 H0) (fz ⟨r3c, Dl :: r.u⟩ H3) := (hs.trans (fz_same e2)).trans n3.same
      have ha3 : RpL X.K (fz ⟨r3c, Dl :: r.u⟩ H3) acc xs := RpL.mono n3.same (RpL.mono (fz_same e2) ha)
      cases b with
      | false =>
        refine iteF ⟨hil, ⟨r3c, r.u⟩, M2, acc, xs, hx3, hu, hp3, hs3, S3, hD3, ha3, by omega, ?_⟩
        have k3 : PostN X.K E r0 H0 ((lkR lk M0 M2 (lcF lk M0 g ft fe (wipeD δ vs) (l.drop (i + 1)) M2)).bind fun q M5 => .ok (acc ++ q) M5) Q := k3
        unfold lkR at k3
        split at k3
        · rename_i hlk
          exact ⟨hlk, k3⟩
        · exact k3.elim
      | true =>
        refine iteT ⟨⟨r3c, Dl :: r.u⟩, δ1, M2, E1.mono n3, S3, ?_⟩
        have assoc2 : PostN X.K E r0 H0 ((fe δ1 M2).noEx.bind fun w M3 => ((R.of M3 (fr w)).bind fun x M4 => lkR lk M0 M4 ((lcF lk M0 g ft fe (wipeD δ vs) (l.drop (i + 1)) M4).bind fun r M5 => .ok (x :: r) M5)).bind fun q M5 => .ok (acc ++ q) M5) Q := by
          revert k3
          show PostN X.K E r0 H0 (((fe δ1 M2).noEx.bind fun w M3 => (R.of M3 (fr w)).bind fun x M4 => lkR lk M0 M4 ((lcF lk M0 g ft fe (wipeD δ vs) (l.drop (i + 1)) M4).bind fun r M5 => .ok (x :: r) M5)).bind fun q M5 => .ok (acc ++ q) M5) Q → _
          cases (fe δ1 M2).noEx with
          | bad => exact fun h => h
          | ok b M2 => exact fun h => h
          | ex e M2 => exact fun h => h
        refine PostN.noEx assoc2 fun w M3 v H4 r4 _ n4 S4 q4 k4 => ?_
        have hD4 : H4 Dl = some (.lst xs) := n4.prv Dl (by simp) _ hD3
        obtain ⟨t4, et4⟩ := n4.ext
        have hu4 : r4.u = Dl :: r.u := n4.eu
        obtain ⟨r4c, r4u⟩ := r4
        cases hu4
        cases ew : fr w with
        | none => rw [ew] at k4; exact k4.elim
        | some y =>
          rw [ew] at k4
          have k4 : PostN X.K E r0 H0 ((lkR lk M0 M3 ((lcF lk M0 g ft fe (wipeD δ vs) (l.drop (i + 1)) M3).bind fun r M5 => .ok (y :: r) M5)).bind fun q M5 => .ok (acc ++ q) M5) Q := k4
          have hx4 : ∃ t, r4c = r0.c ++ t := by
            obtain ⟨t, et⟩ := hx3
            have et4 : r4c = r3c ++ t4 := et4
            exact ⟨t ++ t4, by rw [et4, et]; simp⟩
          have hp4 : ∀ a ∈ r0.u, ∀ o, H0 a = some o → H4 a = some o := fun a ha o h => n4.prv a (by simp [hu, ha]) o (hp3 a ha o h)
          have ha4 : RpL X.K (fz ⟨r4c, Dl :: r.u⟩ H4) acc xs := RpL.mono n4.same ha3
          have hmem : Dl ∈ (Rg.mk r4c (Dl :: r.u)).u := by simp
          have hDu : ∀ a ∈ r0.u, a ≠ Dl := fun a ha z => by
            have := (List.nodup_cons.mp Sc.nd.2).1
            exact this (hu ▸ z ▸ ha)
          refine ⟨xs, hD4, ?_, hil, ⟨r4c, r.u⟩, M3, acc ++ [y], xs ++ [v], hx4, hu, fun a ha o h => by rw [upd_ne (hDu a ha)]; exact hp4 a ha o h, ?_, Sta.prvUpd S4 hmem, upd_same, ?_, by simp; omega, ?_⟩
          · rw [ha4.length]
            exact Nat.lt_of_le_of_lt (show acc.length ≤ 100000 by omega) (by decide)
          · show Same (fz r0 H0) (fz ⟨r4c, Dl :: r.u⟩ (upd H4 Dl _))
            rw [fz_prv hmem]
            exact hs3.trans n4.same
          · show RpL X.K (fz ⟨r4c, Dl :: r.u⟩ (upd H4 Dl _)) _ _
            rw [fz_prv hmem]
            exact ha4.append (RpL.cons (RW.fr q4 ew) RpL.nil)
          · unfold lkR at k4
            split at k4
            · rename_i hlk
              refine ⟨hlk, ?_⟩
              revert k4
              cases lcF lk M0 g ft fe (wipeD δ vs) (l.drop (i + 1)) M3 with
              | bad => exact fun h => h
              | ok q M5 =>
                intro h
                have h : PostN X.K E r0 H0 (.ok (acc ++ (y :: q)) M5) Q := h
                show PostN X.K E r0 H0 (.ok (acc ++ [y] ++ q) M5) Q
                rw [List.append_assoc]
                exact h
              | ex e M5 => exact fun h => h
            · exact k4.elim
theorem rn_lc (hc : X.calm = true) (hN : X.N.Nodup) (hi : RI X E tg iter fi) (ok : BlkOk X.N X.env.scope scope own)
    (hg : ∀ (s : Shared) (H : Hp) (C : Addr) (cl : List (Str × Addr)) (fp : List Addr), RG (X.blk s H scope (compEnvC scope cl C X.env) fp) tg ts g) (ht : ∀ (s : Shared) (H : Hp) (C : Addr) (cl : List (Str × Addr)) (fp : List Addr), RTs (X.blk s H scope (compEnvC scope cl C X.env) fp) ifs ft)
    (he : ∀ (s : Shared) (H : Hp) (C : Addr) (cl : List (Str × Addr)) (fp : List Addr), RE (X.blk s H scope (compEnvC scope cl C X.env) fp) E0 elt fe) (hts : ∀ j ∈ ts, j ∈ own.map (·.2)) (hs : ∀ x, foldedSetIterable iter X.env x = pure x := by intro _; rfl) :
    RN X E (.ListComp elt [⟨tg, iter, ifs, 0⟩] scope pos) (fLc fi g ft fe (own.map (·.2))) := pe_imp (pe_lc hc hN hi ok hg ht he hs) (lc_imp hts)
/-- name = [..] on one line, the name a local -/
def sSetN (i : Nat) (f : FN) (keep : Bool) : FS := fun δ M => (f δ M).bind fun l M1 => match keep with
  | true => .ok (.nx (δ.set i (some (.loc M1.length)))) (M1 ++ [.lst l])
  | false => .ok (.nx (δ.set i (some (.d (.lst l))))) M1
theorem setn_imp {i : Nat} {f : FN} {keep : Bool} {te : TE} (h : ∀ σ H Q, tN X.K E f σ H Q → te σ H Q) : ∀ D σ H, tS X.K E (sSetN i f keep) D σ H → tAsg te (gName i) D σ H := fun D σ H ⟨r, δ, M, Ev, S, k⟩ => h _ _ _ ⟨r, δ, M, Ev, S, by
  unfold sSetN at k
  revert k
  cases f δ M with
  | bad => exact fun k => k
  | ex e M1 => exact fun k => k
  | ok l M1 =>
    cases keep with
    | true => exact fun k p H' r' N => k _ H' (r'.add p) N.nxt2 N.sta2 ((Ev.mono N.nxt2).set ⟨p, by rw [← N.sta.len]; simp [Rg.add], rfl⟩)
    | false => exact fun k p H' r' N => k _ H' r' N.nxt N.sta ((Ev.mono N.nxt).set N.rp)⟩
theorem rs_setLc (keep : Bool) {i : Nat} {y : Str} {py spos : Pos} (hc : X.calm = true) (hN : X.N.Nodup) (hy : X.N[i]? = some y) (hyl : X.env.scope.names.lookup y = some .local)
    (hsw : swapsWith (.ListComp elt [⟨tg, iter, ifs, 0⟩] scope pos) (some (.Name y py)) spos.line X.env = pure true) (hi : RI X E tg iter fi) (ok : BlkOk X.N X.env.scope scope own)
    (hg : ∀ (s : Shared) (H : Hp) (C : Addr) (cl : List (Str × Addr)) (fp : List Addr), RG (X.blk s H scope (compEnvC scope cl C X.env) fp) tg ts g) (ht : ∀ (s : Shared) (H : Hp) (C : Addr) (cl : List (Str × Addr)) (fp : List Addr), RTs (X.blk s H scope (compEnvC scope cl C X.env) fp) ifs ft)
    (he : ∀ (s : Shared) (H : Hp) (C : Addr) (cl : List (Str × Addr)) (fp : List Addr), RE (X.blk s H scope (compEnvC scope cl C X.env) fp) E0 elt fe) (hts : ∀ j ∈ ts, j ∈ own.map (·.2)) (hs : ∀ x, foldedSetIterable iter X.env x = pure x := by intro _; rfl) :
    RS X E (.Assign [.Name y py] (.ListComp elt [⟨tg, iter, ifs, 0⟩] scope pos) spos) (sSetN i (fLc fi g ft fe (own.map (·.2))) keep) := ps_imp (ps_setLc hc hN hy hyl hsw hi ok hg ht he hs) (setn_imp (lc_imp hts))
end
end S9

namespace S9
open PySem PySem.Spec PyProof.Rows L2
/-! ### what a def is worth -/
abbrev FF := List W → Sto → R W
def W.clo (n : Nat) : W → Bool
  | .d _ => true
  | .loc k => decide (k < n)
def Cell.clo (n : Nat) : Cell → Bool
  | .ins _ _ ws => ws.all (W.clo n)
  | _ => true
/-- the store behind a call: what the call made for itself is dropped -/
def cutM (n : Nat) (M : Sto) : Option Sto := if M.length ≤ n then some M else if (M.take n).all (Cell.clo n) = true then some (M.take n) else none
def fin1 (n : Nat) (w : W) (M : Sto) : R W := match cutM n M with
  | none => .bad
  | some M1 => match w with
    | .d x => .ok (.d x) M1
    | .loc k => if k < n then .ok (.loc k) M1 else match M[k]? with
      | some (.lst l) => .ok (.d (.lst l)) M1
      | _ => .bad
def fin (n : Nat) : R Out → R W
  | .ok (.rt w) M => fin1 n w M
  | .ok (.nx _) M => fin1 n (.d .non) M
  | .ex e M => match cutM n M with
    | none => .bad
    | some M1 => .ex e M1
  | _ => .bad
/-- a def by its body -/
def body (N : Nat) (f : FS) : FF := fun ws M => fin M.length (f (ws.map some ++ List.replicate (N - ws.length) none) M)
/-- .. that hands back a new list -/
def finN (n : Nat) : R Out → R (List D)
  | .ok (.rt (.loc k)) M => match cutM n M with
    | none => .bad
    | some M1 => if k < n then .bad else match M[k]? with
      | some (.lst l) => .ok l M1
      | _ => .bad
  | _ => .bad
def bodyN (N : Nat) (f : FS) : List W → Sto → R (List D) := fun ws M => finN M.length (f (ws.map some ++ List.replicate (N - ws.length) none) M)
section
variable {K : PySem.W.Frag} {E : XK} {r r0 : Rg} {M M0 : Sto} {H H0 : Hp}
def Rg.cut (r : Rg) (n : Nat) : Rg := ⟨r.c.take n, r.u⟩
theorem has_cut {n : Nat} {a : Addr} (h : (r.cut n).has a) : r.has a := by
  rcases h with h | h
  · exact .inl (List.mem_of_mem_take h)
  · exact .inr h
theorem rwl_cut {n : Nat} : ∀ {vs : List V} {ws : List W}, RWL K r H vs ws → ws.all (W.clo n) = true → RWL K (r.cut n) H vs ws
  | [], ws, h, _ => h
  | v :: vs, ws, h, hc => by
    obtain ⟨w, ws', rfl, h1, h2⟩ := h
    simp only [List.all_cons, Bool.and_eq_true] at hc
    refine ⟨w, ws', rfl, ?_, rwl_cut h2 hc.2⟩
    cases w with
    | d x => exact Rp.mono (fz_less (fun a z => has_cut z) (Same.refl _)) h1
    | loc k =>
      obtain ⟨a, e, q⟩ := h1
      have hk : k < n := of_decide_eq_true hc.1
      exact ⟨a, by show (r.c.take n)[k]? = _; rw [List.getElem?_take_of_lt hk]; exact e, q⟩
theorem Sta.cut {n : Nat} {M1 : Sto} (S : Sta K r M H) (hn : n ≤ r.c.length) (hc : cutM n M = some M1) : Sta K (r.cut n) M1 H := by
  have e : Same (fz r H) (fz (r.cut n) H) := fz_less (fun a z => has_cut z) (Same.refl _)
  unfold cutM at hc
  split at hc
  · rename_i hl
    cases hc
    have : r.cut n = r := by
      unfold Rg.cut
      rw [List.take_of_length_le (by rw [S.len]; exact hl)]
    rw [this]
    exact S
  · rename_i hl
    split at hc
    · rename_i ha
      cases hc
      refine ⟨?_, ⟨List.Nodup.sublist (List.take_sublist n r.c) S.nd.1, S.nd.2⟩, fun a ha z => S.dj a ha (List.mem_of_mem_take z), S.prv, fun k a c h1 h2 => ?_⟩
      · show (r.c.take n).length = (M.take n).length
        rw [List.length_take, List.length_take, S.len]
      · have h1 : (r.c.take n)[k]? = some a := h1
        have hk : k < n := by
          have := (List.getElem?_eq_some_iff.mp h1).1
          rw [List.length_take] at this
          omega
        rw [List.getElem?_take_of_lt hk] at h1
        have hc2 : c.clo n = true := List.all_eq_true.mp ha c (List.mem_of_getElem? h2)
        rw [List.getElem?_take_of_lt hk] at h2
        have q := S.cell k a c h1 h2
        cases c with
        | lst l => obtain ⟨xs, q1, q2⟩ := q; exact ⟨xs, q1, RpL.mono e q2⟩
        | dct ks l => obtain ⟨xs, q1, q3, q2⟩ := q; exact ⟨xs, q1, q3, RpL.mono e q2⟩
        | ins C ns ws => obtain ⟨dx, fs, q1, q3, q2⟩ := q; exact ⟨dx, fs, q1, q3, rwl_cut q2 hc2⟩
    · cases hc
theorem nxt_cut (n : Nxt r0 H0 r H) : r.cut r0.c.length = r0 := by
  obtain ⟨t, e⟩ := n.ext
  obtain ⟨rc, ru⟩ := r
  obtain ⟨r0c, r0u⟩ := r0
  have e : rc = r0c ++ t := e
  have e2 : ru = r0u := n.eu
  subst e e2
  unfold Rg.cut
  simp
theorem Nxt.cut (n : Nxt r0 H0 r H) : Nxt r0 H0 r0 H := ⟨⟨[], by simp⟩, rfl, n.prv, fun a o h => fz_less (fun a z => by
  obtain ⟨t, e⟩ := n.ext
  rcases z with z | z
  · exact .inl (by rw [e]; exact List.mem_append_left _ z)
  · exact .inr (n.eu ▸ z)) (Same.refl _) a o (n.same a o h)⟩
theorem Nxt.has (n : Nxt r0 H0 r H) {a : Addr} (z : r0.has a) : r.has a := by
  obtain ⟨t, e⟩ := n.ext
  rcases z with z | z
  · exact .inl (by rw [e]; exact List.mem_append_left _ z)
  · exact .inr (n.eu ▸ z)
/-- the promise of a def of n arguments -/
def spM (K : PySem.W.Frag) (n : Nat) (φ : FF) : Sp := fun vs H Q E => ∃ r M ws, ws.length = n ∧ RWL K r H vs ws ∧ Sta K r M H ∧ Post K E r H (relW K) (φ ws M) Q
def sp0 (K : PySem.W.Frag) (n : Nat) (φ : FF) : Sp := fun vs H Q _ => ∃ r M ws, ws.length = n ∧ RWL K r H vs ws ∧ Sta K r M H ∧ Post K E0 r H (relW K) (φ ws M) Q
def spN (K : PySem.W.Frag) (n : Nat) (φ : List W → Sto → R (List D)) : Sp := fun vs H Q _ => ∃ r M ws, ws.length = n ∧ RWL K r H vs ws ∧ Sta K r M H ∧ PostN K E0 r H (φ ws M) Q
theorem env_start {N : List Str} {vs : List V} {ws : List W} (h : RWL K r H vs ws) : EnvR K r H (L2.start N vs) (ws.map some ++ List.replicate (N.length - ws.length) none) := by
  have hl := h.length
  have at_ : ∀ {vs : List V} {ws : List W}, RWL K r H vs ws → ∀ (i : Nat) (w : W), ws[i]? = some w → ∃ v, vs[i]? = some v ∧ RW K r H v w := by
    intro vs
    induction vs with
    | nil => intro ws h i w e; cases (show ws = [] from h); simp at e
    | cons v vs ih =>
      intro ws h i w e
      obtain ⟨w', ws', rfl, h1, h2⟩ := h
      cases i with
      | zero => simp at e; subst e; exact ⟨v, rfl, h1⟩
      | succ i => simp at e; obtain ⟨x, e2, q⟩ := ih h2 i w e; exact ⟨x, by simpa using e2, q⟩
  refine ⟨by unfold L2.start; simp [hl], fun i w e => ?_⟩
  unfold L2.start
  by_cases hi : i < ws.length
  · rw [List.getElem?_append_left (by simpa using hi), List.getElem?_map] at e
    cases e2 : ws[i]? with
    | none => rw [e2] at e; cases e
    | some u =>
      rw [e2] at e
      have : u = w := Option.some.inj (Option.some.inj e)
      subst this
      obtain ⟨v, e3, q⟩ := at_ h i u e2
      refine ⟨v, ?_, q⟩
      rw [List.getElem?_append_left (by rw [List.length_map, hl]; exact hi), List.getElem?_map, e3]
      rfl
  · rw [List.getElem?_append_right (by simpa using hi)] at e
    have := List.mem_of_getElem? e
    have := List.eq_of_mem_replicate this
    cases this
theorem fin1_post {n : Nat} {w : W} {M : Sto} {Q : VK} (h : Post K E r H (relW K) (fin1 n w M) Q) (hn : r.c.length = n) : ∀ v H' r', Nxt r H r' H' → Sta K r' M H' → RW K r' H' v w → Q v H' := fun v H' r' n1 S1 q1 => by
  unfold fin1 at h
  cases hc : cutM n M with
  | none => rw [hc] at h; exact h.elim
  | some M1 =>
    rw [hc] at h
    have hle : n ≤ r'.c.length := by obtain ⟨t, e⟩ := n1.ext; rw [e, List.length_append, ← hn]; exact Nat.le_add_right _ _
    have S2 := S1.cut hle hc
    rw [← hn, nxt_cut n1] at S2
    have n2 := n1.cut
    have less : Same (fz r' H') (fz r H') := fz_less (fun a z => n1.has z) (Same.refl _)
    cases w with
    | d x => exact h v H' r n2 S2 (Rp.mono less q1)
    | loc k =>
      simp only at h
      obtain ⟨a, e1, e2⟩ := q1
      split at h
      · rename_i hk
        refine h v H' r n2 S2 ⟨a, ?_, e2⟩
        obtain ⟨t, et⟩ := n1.ext
        rw [et, List.getElem?_append_left (by rw [hn]; exact hk)] at e1
        exact e1
      · rename_i hk
        split at h
        · rename_i l hl
          refine h v H' r n2 S2 ?_
          obtain ⟨xs, q2, q3⟩ := S1.cell k a _ e1 hl
          show Rp K (fz r H') (.lst l) v
          simp only [Rp]
          refine ⟨a, xs, e2, ?_, RpL.mono less q3⟩
          rw [fz_out]
          · exact q2
          · intro z
            rcases z with z | z
            · -- the cell is none of the elder ones
              obtain ⟨t, et⟩ := n1.ext
              obtain ⟨j, hj, e4⟩ := List.getElem_of_mem z
              have e5 : r'.c[j]? = some a := by rw [et, List.getElem?_append_left hj, List.getElem?_eq_getElem hj, e4]
              have : j = k := nd_ix S1.nd.1 e5 e1
              omega
            · exact S1.dj a (n1.eu ▸ z) (List.mem_of_getElem? e1)
        · exact h.elim
theorem fin_post {n : Nat} {x : R Out} {Q : VK} (h : Post K E r H (relW K) (fin n x) Q) (hn : r.c.length = n) : PostS K E r H x { nx := fun _ H' => Q .non H', rt := Q } := by
  cases x with
  | bad => exact h
  | ok o M =>
    cases o with
    | nx δ => exact fun σ' H' r' n1 S1 _ => fin1_post (w := .d .non) h hn .non H' r' n1 S1 (by simp only [RW, Rp])
    | rt w => exact fin1_post h hn
    | bk δ => exact h.elim
    | ct δ => exact h.elim
  | ex e M =>
    unfold fin at h
    simp only at h
    cases hc : cutM n M with
    | none => rw [hc] at h; exact h.elim
    | some M1 =>
      rw [hc] at h
      refine fun H' r' cls od n1 S1 q1 => ?_
      have hle : n ≤ r'.c.length := by obtain ⟨t, e⟩ := n1.ext; rw [e, List.length_append, ← hn]; exact Nat.le_add_right _ _
      have S2 := S1.cut hle hc
      rw [← hn, nxt_cut n1] at S2
      refine h H' r cls od n1.cut S2 ⟨q1.1, ?_⟩
      have q2 := q1.2
      cases od with
      | none => exact q2
      | some d =>
        obtain ⟨fs, a1, a2, a3⟩ := q2
        exact ⟨fs, a1, a2, RpL.mono (fz_less (fun a z => n1.has z) (Same.refl _)) a3⟩
theorem finN_post {n : Nat} {x : R Out} {Q : VK} (h : PostN K E0 r H (finN n x) Q) (hn : r.c.length = n) : PostS K E0 r H x { nx := fun _ H' => Q .non H', rt := Q } := by
  unfold finN at h
  split at h
  · rename_i k M
    cases hc : cutM n M with
    | none => rw [hc] at h; exact h.elim
    | some M1 =>
      rw [hc] at h
      simp only at h
      split at h
      · exact h.elim
      · rename_i hk
        split at h
        · rename_i l hl
          refine fun v H' r' n1 S1 ⟨a, e1, e2⟩ => ?_
          subst e2
          have hle : n ≤ r'.c.length := by obtain ⟨t, e⟩ := n1.ext; rw [e, List.length_append, ← hn]; exact Nat.le_add_right _ _
          have S2 := S1.cut hle hc
          rw [← hn, nxt_cut n1] at S2
          have less : Same (fz r' H') (fz r H') := fz_less (fun a z => n1.has z) (Same.refl _)
          have har : ¬ r.has a := by
            intro z
            rcases z with z | z
            · obtain ⟨t, et⟩ := n1.ext
              obtain ⟨j, hj, e4⟩ := List.getElem_of_mem z
              have e5 : r'.c[j]? = some a := by rw [et, List.getElem?_append_left hj, List.getElem?_eq_getElem hj, e4]
              have : j = k := nd_ix S1.nd.1 e5 e1
              omega
            · exact S1.dj a (n1.eu ▸ z) (List.mem_of_getElem? e1)
          obtain ⟨xs, q2, q3⟩ := S1.cell k a _ e1 hl
          have less2 : Same (fz r' H') (fz (r.add a) H') := fz_less (fun b z => (has_add.mp z).elim (fun z => n1.has z) fun z => z ▸ .inl (List.mem_of_getElem? e1)) (Same.refl _)
          refine h a H' r ⟨n1.cut, S2, ?_, fun b o hb => less2 b o (n1.same b o hb)⟩
          -- the store with the new list behind it
          have hlen : r.c.length = M1.length := S2.len
          refine ⟨by simp [Rg.add, hlen], ⟨?_, S2.nd.2⟩, fun b hb z => ?_, S2.prv, fun j b c e3 e4 => ?_⟩
          · show (r.c ++ [a]).Nodup
            rw [List.nodup_append]
            exact ⟨S2.nd.1, by simp, fun b hb c hc z => by simp at hc; subst hc; exact har (z ▸ .inl hb)⟩
          · have z : b ∈ r.c ++ [a] := z
            rcases List.mem_append.mp z with z | z
            · exact S2.dj b hb z
            · have : b = a := by simpa using z
              exact har (this ▸ .inr hb)
          · have e3 : (r.c ++ [a])[j]? = some b := e3
            by_cases hj : j < r.c.length
            · rw [List.getElem?_append_left hj] at e3
              rw [List.getElem?_append_left (by rw [← hlen]; exact hj)] at e4
              have q := S2.cell j b c e3 e4
              have q' : ∃ c', r'.c[j]? = some b ∧ M[j]? = some c' ∧ c' = c := by
                obtain ⟨t, et⟩ := n1.ext
                refine ⟨c, by rw [et, List.getElem?_append_left hj]; exact e3, ?_, rfl⟩
                unfold cutM at hc
                split at hc
                · cases hc; exact e4
                · split at hc
                  · cases hc
                    rw [List.getElem?_take_of_lt (by rw [← hn]; exact hj)] at e4
                    exact e4
                  · cases hc
              obtain ⟨c', g1, g2, rfl⟩ := q'
              have qq := S1.cell j b c' g1 g2
              cases c' with
              | lst l => obtain ⟨ys, y1, y2⟩ := qq; exact ⟨ys, y1, RpL.mono less2 y2⟩
              | dct ks l => obtain ⟨ys, y1, y3, y2⟩ := qq; exact ⟨ys, y1, y3, RpL.mono less2 y2⟩
              | ins C ns ws =>
                obtain ⟨dx, fs, y1, y3, y2⟩ := q
                obtain ⟨dx', fs', z1, z3, z2⟩ := qq
                rw [y1] at z1
                cases z1
                have up : ∀ {vs : List V} {ws : List W}, RWL K r H' vs ws → RWL K r' H' vs ws → RWL K (r.add a) H' vs ws := by
                  intro vs
                  induction vs with
                  | nil => intro ws h _; exact h
                  | cons v vs ih =>
                    intro ws h g
                    obtain ⟨w, ws', e, h1, h2⟩ := h
                    obtain ⟨w2, ws2, e', g1, g2⟩ := g
                    rw [e] at e'
                    cases e'
                    refine ⟨w, ws', e, ?_, ih h2 g2⟩
                    cases w with
                    | d x => exact Rp.mono less2 g1
                    | loc kk =>
                      obtain ⟨b, t1, t2⟩ := h1
                      exact ⟨b, by show (r.c ++ [a])[kk]? = _; rw [List.getElem?_append_left (List.getElem?_eq_some_iff.mp t1).1]; exact t1, t2⟩
                exact ⟨dx, fs, y1, y3, up y2 z2⟩
            · have e5 : j = r.c.length := by
                have := (List.getElem?_eq_some_iff.mp e3).1
                simp at this
                omega
              subst e5
              have e6 : b = a := by simpa using e3.symm
              have e7 : c = .lst l := by rw [hlen] at e4; simpa using e4.symm
              subst e6
              subst e7
              exact ⟨xs, q2, RpL.mono less2 q3⟩
        · exact h.elim
  · exact h.elim
end
/-! ### calls of defs -/
def fCall (n : Nat) (φ : FF) (fs : FA) : FE := fun δ M => (fs δ M).bind fun ws M1 => if ws.length = n then φ ws M1 else .bad
def fCall0 (n : Nat) (φ : FF) (fs : FA) : FE := fun δ M => (fs δ M).bind fun ws M1 => if ws.length = n then (φ ws M1).noEx else .bad
def fCallN (n : Nat) (φ : List W → Sto → R (List D)) (fs : FA) : FN := fun δ M => (fs δ M).bind fun ws M1 => if ws.length = n then (φ ws M1).noEx else .bad
section
variable {X : Cx} {E E' : XK} {fs : FA} {n : Nat} {φ : FF} {ψ : List W → Sto → R (List D)}
theorem call0_imp : ∀ σ H Q, tR X.K E (fCall0 n φ fs) σ H Q → tCall (sp0 X.K n φ) [] E' (tA X.K E fs) σ H Q := fun σ H Q ⟨r, δ, M, Ev, S, k⟩ =>
  ⟨r, δ, M, Ev, S, Post.bind k fun ws M1 vs H1 r1 _ n1 S1 q1 k1 => by
    split at k1
    · rename_i hl
      refine ⟨r1, M1, ws, hl, by rw [List.append_nil]; exact q1, S1, ?_⟩
      revert k1
      cases φ ws M1 with
      | bad => exact fun h => h
      | ok w M2 => exact fun h => h
      | ex e M2 => exact fun h => h.elim
    · exact k1.elim⟩
theorem call_imp : ∀ σ H Q, tR X.K E (fCall n φ fs) σ H Q → tCall (spM X.K n φ) [] E (tA X.K E fs) σ H Q := fun σ H Q ⟨r, δ, M, Ev, S, k⟩ =>
  ⟨r, δ, M, Ev, S, Post.bind k fun ws M1 vs H1 r1 _ n1 S1 q1 k1 => by
    split at k1
    · rename_i hl
      exact ⟨r1, M1, ws, hl, by rw [List.append_nil]; exact q1, S1, k1⟩
    · exact k1.elim⟩
theorem callN_imp : ∀ σ H Q, tN X.K E (fCallN n ψ fs) σ H Q → tCall (spN X.K n ψ) [] E' (tA X.K E fs) σ H Q := fun σ H Q ⟨r, δ, M, Ev, S, k⟩ =>
  ⟨r, δ, M, Ev, S, PostN.bind k fun ws M1 vs H1 r1 _ n1 S1 q1 k1 => by
    split at k1
    · rename_i hl
      refine ⟨r1, M1, ws, hl, by rw [List.append_nil]; exact q1, S1, ?_⟩
      revert k1
      cases ψ ws M1 with
      | bad => exact fun h => h
      | ok w M2 => exact fun h => h
      | ex e M2 => exact fun h => h.elim
    · exact k1.elim⟩
variable {CX : CXT} {k : Nat} {f : Addr} {fd : FuncData} {ps : List Str} {x : Str} {p pos : Pos} {e : Expr} {es : List Expr}
theorem re_call0 (F : FnOk X.prog X.w X.K X.mg X.base CX k f fd ps (sp0 X.K n φ)) (hr : Room k X.A) (hg : Gl X x) (hm : X.mg x = some (.ref f)) (hk : PySem.W.keepIn X.K (.ref f) = true) (hb : Binds X.K fd ps []) (hx : Passes CX X E')
    (ha : RA X E (e :: es) fs) (hdb : (x == ("__debug__" : Str)) = false := by decide) (he : starEach (e :: es) X.env = (false, eval e X.env) :: starEach es X.env := by rfl) (hpl : (backTo pos (starEach es X.env)).any (·.1) = false := by rfl) :
    RE X E (.Call (.Name x p) (e :: es) [] pos) (fCall0 n φ fs) := pe_imp (pe_call F hr hg hm hk hb .nil hx ha hdb he hpl) call0_imp
theorem re_call (F : FnOk X.prog X.w X.K X.mg X.base CX k f fd ps (spM X.K n φ)) (hr : Room k X.A) (hg : Gl X x) (hm : X.mg x = some (.ref f)) (hk : PySem.W.keepIn X.K (.ref f) = true) (hb : Binds X.K fd ps []) (hx : Passes CX X E)
    (ha : RA X E (e :: es) fs) (hdb : (x == ("__debug__" : Str)) = false := by decide) (he : starEach (e :: es) X.env = (false, eval e X.env) :: starEach es X.env := by rfl) (hpl : (backTo pos (starEach es X.env)).any (·.1) = false := by rfl) :
    RE X E (.Call (.Name x p) (e :: es) [] pos) (fCall n φ fs) := pe_imp (pe_call F hr hg hm hk hb .nil hx ha hdb he hpl) call_imp
theorem rn_call (F : FnOk X.prog X.w X.K X.mg X.base CX k f fd ps (spN X.K n ψ)) (hr : Room k X.A) (hg : Gl X x) (hm : X.mg x = some (.ref f)) (hk : PySem.W.keepIn X.K (.ref f) = true) (hb : Binds X.K fd ps []) (hx : Passes CX X E')
    (ha : RA X E (e :: es) fs) (hdb : (x == ("__debug__" : Str)) = false := by decide) (he : starEach (e :: es) X.env = (false, eval e X.env) :: starEach es X.env := by rfl) (hpl : (backTo pos (starEach es X.env)).any (·.1) = false := by rfl) :
    RN X E (.Call (.Name x p) (e :: es) [] pos) (fCallN n ψ fs) := pe_imp (pe_call F hr hg hm hk hb .nil hx ha hdb he hpl) callN_imp
end
/-! ### the promise of a def by its body -/
section
variable {P : Program} {w : World} {K : PySem.W.Frag} {mg : Str → Option Value} {base : Heap} {x qual : Str} {st : Stmt} {f : Addr} {fd : FuncData} {N ps : List Str} {k : Nat}
theorem ok_body {g : FS} (F : Fun K x qual st f fd) (S : FnScope N ps (defScope st))
    (hbody : ∀ (cdv : Value) (A : Around) (outer : List Env) (s : Shared) (H : Hp) (E : XK), Room k (A.deeper (envOfC qual (defScope st) s.heap.objs.size f cdv)) →
      RSs (cxOf CX0 P w K mg base N qual (defScope st) f cdv A outer s H E).nox E0 (defBody st) g) :
    FnOk P w K mg base CX0 (k + 1) f fd ps (sp0 K ps.length (body N.length g)) :=
  F.ok S (fun vs H Q E ⟨r, M, ws, hl, q, _⟩ => (RWL.length q).trans hl) fun cdv A outer s H vs Q E hr ⟨r, M, ws, hl, q, T, h⟩ =>
    ⟨_, hbody cdv A outer s H E hr, r, _, M, env_start q, T, fin_post h T.len⟩
theorem okN_body {g : FS} (F : Fun K x qual st f fd) (S : FnScope N ps (defScope st))
    (hbody : ∀ (cdv : Value) (A : Around) (outer : List Env) (s : Shared) (H : Hp) (E : XK), Room k (A.deeper (envOfC qual (defScope st) s.heap.objs.size f cdv)) →
      RSs (cxOf CX0 P w K mg base N qual (defScope st) f cdv A outer s H E).nox E0 (defBody st) g) :
    FnOk P w K mg base CX0 (k + 1) f fd ps (spN K ps.length (bodyN N.length g)) :=
  F.ok S (fun vs H Q E ⟨r, M, ws, hl, q, _⟩ => (RWL.length q).trans hl) fun cdv A outer s H vs Q E hr ⟨r, M, ws, hl, q, T, h⟩ =>
    ⟨_, hbody cdv A outer s H E hr, r, _, M, env_start q, T, finN_post h T.len⟩
/-- the same def by another function of the data that says no more -/
theorem sp0_imp {n : Nat} {φ ψ : FF} (h : ∀ ws M, ψ ws M = .bad ∨ φ ws M = ψ ws M) (F : FnOk P w K mg base CX0 k f fd ps (sp0 K n φ)) : FnOk P w K mg base CX0 k f fd ps (sp0 K n ψ) :=
  F.imp fun vs H Q E ⟨r, M, ws, hl, q, T, hp⟩ => by
    refine ⟨r, M, ws, hl, q, T, ?_⟩
    rcases h ws M with e | e
    · rw [e] at hp; exact hp.elim
    · rw [e]; exact hp
theorem spN_imp {n : Nat} {φ ψ : List W → Sto → R (List D)} (h : ∀ ws M, ψ ws M = .bad ∨ φ ws M = ψ ws M) (F : FnOk P w K mg base CX0 k f fd ps (spN K n φ)) : FnOk P w K mg base CX0 k f fd ps (spN K n ψ) :=
  F.imp fun vs H Q E ⟨r, M, ws, hl, q, T, hp⟩ => by
    refine ⟨r, M, ws, hl, q, T, ?_⟩
    rcases h ws M with e | e
    · rw [e] at hp; exact hp.elim
    · rw [e]; exact hp
end
end S9

namespace S9
open PySem PySem.Spec PyProof.Rows L2
/-! ### data as the library's -/
mutual
def D.toP : D → Option PyData
  | .non => some .none
  | .bl b => some (.bool b)
  | .int i => some (.int i)
  | .str x => some (.str x)
  | .tup l => (D.toPs l).map .tuple
  | .lst l => (D.toPs l).map .list
  | .frl l => (D.toPs l).map .list
  | .dct _ _ => none
  | .ins _ _ _ => none
  | .ty _ => none
  | .cls _ => none
def D.toPs : List D → Option (List PyData)
  | [] => some []
  | d :: l => d.toP.bind fun p => (D.toPs l).map fun q => p :: q
end
section
variable {K : PySem.W.Frag} {H H' : Hp} {r : Rg}
mutual
theorem Rp.dp : ∀ {d : D} {v : V} {p : PyData}, Rp K H d v → d.toP = some p → L2.Dp K H v p
  | .non, v, p, h, e => by simp only [Rp, D.toP, Option.some.injEq] at h e; subst h; subst e; exact .non
  | .bl b, v, p, h, e => by simp only [Rp, D.toP, Option.some.injEq] at h e; subst h; subst e; exact .bl b
  | .int i, v, p, h, e => by simp only [Rp, D.toP, Option.some.injEq] at h e; subst h; subst e; exact .int i
  | .str x, v, p, h, e => by simp only [Rp, D.toP, Option.some.injEq] at h e; subst h; subst e; exact .str x
  | .tup l, v, p, h, e => by
    simp only [Rp, D.toP, Option.map_eq_some_iff] at h e
    obtain ⟨a, xs, rfl, h1, h2⟩ := h
    obtain ⟨q, e1, rfl⟩ := e
    exact .tup h1 (RpL.dp h2 e1)
  | .lst l, v, p, h, e => by
    simp only [Rp, D.toP, Option.map_eq_some_iff] at h e
    obtain ⟨a, xs, rfl, h1, h2⟩ := h
    obtain ⟨q, e1, rfl⟩ := e
    exact .lst (.inl (.inl h1)) (RpL.dp h2 e1)
  | .frl l, v, p, h, e => by
    simp only [Rp, D.toP, Option.map_eq_some_iff] at h e
    obtain ⟨a, xs, rfl, h1, h2⟩ := h
    obtain ⟨q, e1, rfl⟩ := e
    exact .lst h1 (RpL.dp h2 e1)
  | .dct _ _, v, p, h, e => by simp only [D.toP] at e; cases e
  | .ins _ _ _, v, p, h, e => by simp only [D.toP] at e; cases e
  | .ty _, v, p, h, e => by simp only [D.toP] at e; cases e
  | .cls _, v, p, h, e => by simp only [D.toP] at e; cases e
theorem RpL.dp : ∀ {l : List D} {vs : List V} {ps : List PyData}, RpL K H l vs → D.toPs l = some ps → L2.DpAll K H vs ps
  | [], vs, ps, h, e => by simp only [RpL, D.toPs, Option.some.injEq] at h e; subst h; subst e; exact .nil
  | d :: l, vs, ps, h, e => by
    simp only [RpL, D.toPs, Option.bind_eq_some_iff, Option.map_eq_some_iff] at h e
    obtain ⟨x, t, rfl, h1, h2⟩ := h
    obtain ⟨p, e1, q, e2, rfl⟩ := e
    exact .cons (Rp.dp h1 e1) (RpL.dp h2 e2)
end
theorem RD.dp {d : D} {v : V} {p : PyData} (h : RD K r H v d) (e : d.toP = some p) : L2.Dp K H v p := by
  cases d with
  | lst l =>
    simp only [D.toP, Option.map_eq_some_iff] at e
    obtain ⟨a, xs, rfl, h1, h2⟩ := h
    obtain ⟨q, e1, rfl⟩ := e
    exact .lst (.inl (.inl h1)) (RpL.dp (RpL.mono fz_sub h2) e1)
  | dct ks l => simp only [D.toP] at e; cases e
  | ins _ _ _ => simp only [D.toP] at e; cases e
  | ty _ => simp only [D.toP] at e; cases e
  | cls _ => simp only [D.toP] at e; cases e
  | non => exact Rp.dp (Rp.mono fz_sub h) e
  | bl b => exact Rp.dp (Rp.mono fz_sub h) e
  | int i => exact Rp.dp (Rp.mono fz_sub h) e
  | str x => exact Rp.dp (Rp.mono fz_sub h) e
  | tup l => exact Rp.dp (Rp.mono fz_sub h) e
  | frl l => exact Rp.dp (Rp.mono fz_sub h) e
/-- the items of a list or a tuple, as they stand -/
def itsD : D → Option (List D)
  | .lst l => some l
  | .frl l => some l
  | .tup l => some l
  | _ => none
theorem RD.seq {d : D} {v : V} {l : List D} (h : RD K r H v d) (e : itsD d = some l) : ∃ a xs, v = .ref a ∧ (SqL K H a xs ∨ SqT K H a xs) ∧ RpL K (fz r H) l xs := by
  cases d with
  | lst l =>
    cases e
    obtain ⟨a, xs, rfl, h1, h2⟩ := h
    exact ⟨a, xs, rfl, .inl (.inl (.inl h1)), h2⟩
  | frl l =>
    cases e
    simp only [RD, Rp] at h
    obtain ⟨a, xs, rfl, h1, h2⟩ := h
    exact ⟨a, xs, rfl, .inl (fz_sub.seq h1), h2⟩
  | tup l =>
    cases e
    simp only [RD, Rp] at h
    obtain ⟨a, xs, rfl, h1, h2⟩ := h
    exact ⟨a, xs, rfl, .inr (same_t fz_sub h1), h2⟩
  | _ => cases e
end
/-! ### operators on data -/
section
variable {K : PySem.W.Frag}
def gI (f : Int → Int → D) : D → D → Option D
  | .int i, .int j => some (f i j)
  | _, _ => none
theorem od_I0 {f : Int → Int → V} {g : Int → Int → D} (h : ∀ i j H, Rp K H (g i j) (f i j)) : OpD K (rI0 f) (gI g) := fun r M H x y d1 d2 d S h1 h2 e Q q => by
  unfold gI at e
  split at e
  · cases e
    simp only [RD, Rp] at h1 h2
    exact ⟨_, _, h1, h2, q _ H (Same.refl _) (h _ _ _)⟩
  · cases e
def gIc (C : Int → Int → Bool) (f : Int → Int → D) : D → D → Option D
  | .int i, .int j => match C i j with
    | true => some (f i j)
    | false => none
  | _, _ => none
theorem od_I {C : Int → Int → Prop} {c : Int → Int → Bool} {f : Int → Int → V} {g : Int → Int → D} (hc : ∀ i j, c i j = true → C i j) (h : ∀ i j H, Rp K H (g i j) (f i j)) : OpD K (rI C f) (gIc c g) := fun r M H x y d1 d2 d S h1 h2 e Q q => by
  unfold gIc at e
  split at e
  · split at e
    · rename_i hh
      cases e
      simp only [RD, Rp] at h1 h2
      exact ⟨_, _, h1, h2, hc _ _ hh, q _ H (Same.refl _) (h _ _ _)⟩
    · cases e
  · cases e
theorem rp_int {H : Hp} {i : Int} : Rp K H (.int i) (.int i) := by simp only [Rp]
theorem rp_bl {H : Hp} {i : Bool} : Rp K H (.bl i) (.bl i) := by simp only [Rp]
theorem rp_str {H : Hp} {i : Str} : Rp K H (.str i) (.str i) := by simp only [Rp]
theorem OpD.or {rr rr' : R2} {g g' : D → D → Option D} (h : OpD K rr g) (h' : OpD K rr' g') : OpD K (fun x y H Q => rr x y H Q ∨ rr' x y H Q) (fun a b => (g a b).orElse fun _ => g' a b) := fun r M H x y d1 d2 d S h1 h2 e Q q => by
  simp only at e
  cases e1 : g d1 d2 with
  | some z => rw [e1] at e; cases e; exact .inl (h r M H x y d1 d2 _ S h1 h2 e1 Q q)
  | none => rw [e1] at e; exact .inr (h' r M H x y d1 d2 d S h1 h2 e Q q)
def gAddS : D → D → Option D
  | .str a, .str b => if a.length + b.length ≤ 100000 then some (.str (a ++ b)) else none
  | _, _ => none
theorem od_addS : OpD K (fun x y H Q => ∃ i j, x = V.str i ∧ y = V.str j ∧ i.length + j.length ≤ sizeLine ∧ Q (.str (i ++ j)) H) gAddS := fun r M H x y d1 d2 d S h1 h2 e Q q => by
  unfold gAddS at e
  split at e
  · split at e
    · rename_i hl
      cases e
      simp only [RD, Rp] at h1 h2
      exact ⟨_, _, h1, h2, Nat.le_trans hl (by decide), q _ H (Same.refl _) rp_str⟩
    · cases e
  · cases e
def gAddT : D → D → Option D
  | .tup a, .tup b => if a.length + b.length ≤ 100000 then some (.tup (a ++ b)) else none
  | _, _ => none
theorem od_addT : OpD K (rCatA K) gAddT := fun r M H x y d1 d2 d S h1 h2 e Q q => by
  unfold gAddT at e
  split at e
  · split at e
    · rename_i l m hl
      cases e
      simp only [RD, Rp] at h1 h2
      obtain ⟨a, xs, rfl, q1, q2⟩ := h1
      obtain ⟨b, ys, rfl, q3, q4⟩ := h2
      refine ⟨a, b, xs, ys, rfl, rfl, same_t fz_sub q1, same_t fz_sub q3, by rw [q2.length, q4.length]; exact Nat.le_trans hl (by decide), fun e1 => ?_, fun _ e2 => ?_, fun _ _ p hp => ?_⟩
      · subst e1
        have : l = [] := List.eq_nil_of_length_eq_zero q2.length.symm
        subst this
        exact q _ H (Same.refl _) (by simp only [Rp, List.nil_append]; exact ⟨b, ys, rfl, q3, q4⟩)
      · subst e2
        have : m = [] := List.eq_nil_of_length_eq_zero q4.length.symm
        subst this
        exact q _ H (Same.refl _) (by simp only [Rp, List.append_nil]; exact ⟨a, xs, rfl, q1, q2⟩)
      · exact q _ _ (same_up hp) (rp_tup S hp (q2.append q4))
    · cases e
  · cases e
def gAdd : D → D → Option D := fun a b => (gI (fun i j => .int (i + j)) a b).orElse fun _ => (gAddS a b).orElse fun _ => gAddT a b
theorem op_addA {X : Cx} : OpR X (binaryOp .Add) (fun x y H Q => rI0 (fun i j => .int (i + j)) x y H Q ∨ ((∃ i j, x = V.str i ∧ y = V.str j ∧ i.length + j.length ≤ sizeLine ∧ Q (.str (i ++ j)) H) ∨ rCatA X.K x y H Q)) := OpR.or op_add (OpR.or op_add_str op_catA)
theorem od_add : OpD K (fun x y H Q => rI0 (fun i j => .int (i + j)) x y H Q ∨ ((∃ i j, x = V.str i ∧ y = V.str j ∧ i.length + j.length ≤ sizeLine ∧ Q (.str (i ++ j)) H) ∨ rCatA K x y H Q)) gAdd := OpD.or (od_I0 fun _ _ _ => rp_int) (OpD.or od_addS od_addT)
def gSub : D → D → Option D := gI fun i j => .int (i - j)
theorem od_sub : OpD K (rI0 fun i j => .int (i - j)) gSub := od_I0 fun _ _ _ => rp_int
def cMul (i j : Int) : Bool := decide (i.natAbs.log2 + j.natAbs.log2 < 1000000)
def gMul : D → D → Option D := gIc cMul fun i j => .int (i * j)
theorem od_mul : OpD K (rI CMulW fun i j => .int (i * j)) gMul := od_I (fun _ _ h => show _ < _ from of_decide_eq_true h) fun _ _ _ => rp_int
def cPos (_ j : Int) : Bool := decide (0 < j)
def gMod : D → D → Option D := gIc cPos fun i j => .int (i % j)
theorem od_mod : OpD K (rI (fun _ j => 0 < j) fun i j => .int (i % j)) gMod := od_I (fun _ _ h => of_decide_eq_true h) fun _ _ _ => rp_int
def cDiv (_ j : Int) : Bool := decide (0 < j) && decide (j.natAbs.log2 < 9000)
def gDiv : D → D → Option D := gIc cDiv fun i j => .int (i / j)
theorem od_div : OpD K (rI CDivW fun i j => .int (i / j)) gDiv := od_I (fun _ _ h => by
  unfold cDiv at h
  simp only [Bool.and_eq_true, decide_eq_true_eq] at h
  exact h) fun _ _ _ => rp_int
def CPowW (i j : Int) : Prop := 0 ≤ j ∧ (Builtin.Int.intBits i : Int) * j ≤ 2 ^ 27
def cPow (i j : Int) : Bool := decide (0 ≤ j) && decide ((Builtin.Int.intBits i : Int) * j ≤ 2 ^ 27)
theorem op_powW {X : Cx} : OpR X (binaryOp .Pow) (rI CPowW fun i j => .int (i ^ j.toNat)) := opI fun _ _ _ _ _ _ _ hc q => pow_int hc.1 hc.2 q
def gPow : D → D → Option D := gIc cPow fun i j => .int (i ^ j.toNat)
theorem od_pow : OpD K (rI CPowW fun i j => .int (i ^ j.toNat)) gPow := od_I (fun _ _ h => by
  unfold cPow at h
  simp only [Bool.and_eq_true, decide_eq_true_eq] at h
  exact h) fun _ _ _ => rp_int
def gLt : D → D → Option D := gI fun i j => .bl (decide (i < j))
def gLe : D → D → Option D := gI fun i j => .bl (decide (i ≤ j))
def gGt : D → D → Option D := gI fun i j => .bl (decide (j < i))
def gGe : D → D → Option D := gI fun i j => .bl (decide (j ≤ i))
theorem od_lt : OpD K (rI0 fun i j => .bl (decide (i < j))) gLt := od_I0 fun _ _ _ => rp_bl
theorem od_le : OpD K (rI0 fun i j => .bl (decide (i ≤ j))) gLe := od_I0 fun _ _ _ => rp_bl
theorem od_gt : OpD K (rI0 fun i j => .bl (decide (j < i))) gGt := od_I0 fun _ _ _ => rp_bl
theorem od_ge : OpD K (rI0 fun i j => .bl (decide (j ≤ i))) gGe := od_I0 fun _ _ _ => rp_bl
/-- == -/
def eqS : D → D → Option Bool
  | .int i, .int j => some (decide (i = j))
  | .bl i, .bl j => some (decide (i = j))
  | .str i, .str j => some (decide (i = j))
  | _, _ => none
def eqP (a b : D) : Option Bool := a.toP.bind fun p => b.toP.bind fun q => if SeqAt.shaped p = true ∧ SeqAt.shaped q = true then some (PyData.eqv p q) else none
def eqD (a b : D) : Option Bool := (eqS a b).orElse fun _ => eqP a b
def gEq (a b : D) : Option D := (eqD a b).map D.bl
def gNe (a b : D) : Option D := (eqD a b).map fun k => D.bl (!k)
theorem eqS_of {r : Rg} {H : Hp} {x y : V} {a b : D} {k : Bool} (h1 : RD K r H x a) (h2 : RD K r H y b) (e : eqS a b = some k) : scal x y = true ∧ decide (x = y) = k := by
  unfold eqS at e
  split at e
  · cases e
    simp only [RD, Rp] at h1 h2
    subst h1; subst h2
    exact ⟨rfl, by simp⟩
  · cases e
    simp only [RD, Rp] at h1 h2
    subst h1; subst h2
    exact ⟨rfl, by simp⟩
  · cases e
    simp only [RD, Rp] at h1 h2
    subst h1; subst h2
    exact ⟨rfl, by simp⟩
  · cases e
theorem eqP_of {r : Rg} {H : Hp} {x y : V} {a b : D} {k : Bool} (h1 : RD K r H x a) (h2 : RD K r H y b) (e : eqP a b = some k) : ∃ p q, L2.Dp K H x p ∧ L2.Dp K H y q ∧ SeqAt.shaped p = true ∧ SeqAt.shaped q = true ∧ PyData.eqv p q = k := by
  unfold eqP at e
  simp only [Option.bind_eq_some_iff] at e
  obtain ⟨p, e1, q, e2, e3⟩ := e
  split at e3
  · rename_i hs
    cases e3
    exact ⟨p, q, RD.dp h1 e1, RD.dp h2 e2, hs.1, hs.2, rfl⟩
  · cases e3
theorem op_eqA {X : Cx} (hu : X.A.units + 64 < cLine) : OpR X (compareOp .Eq) (fun x y H Q => rEq x y H Q ∨ rEqD X.K x y H Q) := OpR.or op_eq (op_eqD hu)
theorem op_neA {X : Cx} (hu : X.A.units + 64 < cLine) : OpR X (compareOp .NotEq) (fun x y H Q => rNe x y H Q ∨ rNeD X.K x y H Q) := OpR.or op_ne (op_neD hu)
theorem od_eq : OpD K (fun x y H Q => rEq x y H Q ∨ rEqD K x y H Q) gEq := fun r M H x y d1 d2 d S h1 h2 e Q q => by
  unfold gEq at e
  simp only [Option.map_eq_some_iff] at e
  obtain ⟨k, e, rfl⟩ := e
  unfold eqD at e
  cases e1 : eqS d1 d2 with
  | some z =>
    rw [e1] at e
    cases e
    obtain ⟨a1, a2⟩ := eqS_of h1 h2 e1
    exact .inl ⟨a1, by rw [a2]; exact q _ H (Same.refl _) rp_bl⟩
  | none =>
    rw [e1] at e
    obtain ⟨p, z, a1, a2, a3, a4, a5⟩ := eqP_of h1 h2 e
    exact .inr ⟨p, z, a1, a2, a3, a4, by rw [a5]; exact q _ H (Same.refl _) rp_bl⟩
theorem od_ne : OpD K (fun x y H Q => rNe x y H Q ∨ rNeD K x y H Q) gNe := fun r M H x y d1 d2 d S h1 h2 e Q q => by
  unfold gNe at e
  simp only [Option.map_eq_some_iff] at e
  obtain ⟨k, e, rfl⟩ := e
  unfold eqD at e
  cases e1 : eqS d1 d2 with
  | some z =>
    rw [e1] at e
    cases e
    obtain ⟨a1, a2⟩ := eqS_of h1 h2 e1
    exact .inl ⟨a1, by rw [a2]; exact q _ H (Same.refl _) rp_bl⟩
  | none =>
    rw [e1] at e
    obtain ⟨p, z, a1, a2, a3, a4, a5⟩ := eqP_of h1 h2 e
    exact .inr ⟨p, z, a1, a2, a3, a4, by rw [a5]; exact q _ H (Same.refl _) rp_bl⟩
def gNeg : D → Option D
  | .int i => some (.int (-i))
  | _ => none
theorem od_neg : UnD K (rU fun i => .int (-i)) gNeg := fun r M H x d1 d S h e Q q => by
  unfold gNeg at e
  split at e
  · cases e
    simp only [RD, Rp] at h
    exact ⟨_, h, q _ H (Same.refl _) rp_int⟩
  · cases e
/-- an item by its place -/
def gIx : D → D → Option D
  | a, .int i => (itsD a).bind fun l => atI l i
  | _, _ => none
theorem atI_rp {H : Hp} {l : List D} {xs : List V} {i : Int} {d : D} (h : RpL K H l xs) (e : atI l i = some d) : ∃ v, atI xs i = some v ∧ Rp K H d v := by
  unfold atI at e ⊢
  rw [h.length]
  cases e1 : ixN l.length i with
  | none => rw [e1] at e; cases e
  | some j => rw [e1] at e; exact h.get e
theorem od_ix : OpD K (rIx K) gIx := fun r M H x y d1 d2 d S h1 h2 e Q q => by
  unfold gIx at e
  split at e
  · simp only [Option.bind_eq_some_iff] at e
    obtain ⟨l, e1, e2⟩ := e
    simp only [RD, Rp] at h2
    obtain ⟨a, xs, rfl, g1, g2⟩ := RD.seq h1 e1
    obtain ⟨v, e3, g3⟩ := atI_rp g2 e2
    rcases g1 with g1 | g1
    · exact .inl ⟨a, xs, _, v, rfl, h2, g1, e3, q v H (Same.refl _) g3⟩
    · exact .inr (.inl ⟨a, xs, _, v, rfl, h2, g1, e3, q v H (Same.refl _) g3⟩)
  · cases e
/-- slices -/
def cutD (l : List D) (lo hi : Option Int) : List D := (l.drop (HT.sIx l.length 0 lo)).take (HT.sIx l.length l.length hi - HT.sIx l.length 0 lo)
theorem cut_rp {H : Hp} {l : List D} {xs : List V} {lo hi : Option Int} (h : RpL K H l xs) : RpL K H (cutD l lo hi) (cutV xs lo hi) := by
  unfold cutD cutV
  rw [h.length]
  exact (h.drop _).take _
def gSlT : D → Option Int → Option Int → Option D
  | .tup l, lo, hi => some (.tup (cutD l lo hi))
  | _, _, _ => none
theorem sd_tup : SlD K (rSlA K) gSlT := fun r M H x d1 d lo hi S h e Q q => by
  unfold gSlT at e
  split at e
  · rename_i l
    cases e
    simp only [RD, Rp] at h
    obtain ⟨a, xs, rfl, g1, g2⟩ := h
    refine ⟨a, xs, rfl, same_t fz_sub g1, fun ⟨e1, e2⟩ => ?_, fun _ p hp => q _ _ (same_up hp) (rp_tup S hp (cut_rp g2))⟩
    have : cutD l lo hi = l := by
      unfold cutD
      rw [← g2.length, e1, e2, g2.length]
      simp
    rw [this] at q
    exact q _ H (Same.refl _) (by simp only [Rp]; exact ⟨a, xs, rfl, g1, g2⟩)
  · cases e
def gSlL : D → Option Int → Option Int → Option (List D)
  | .lst l, lo, hi => some (cutD l lo hi)
  | .frl l, lo, hi => some (cutD l lo hi)
  | _, _, _ => none
theorem sn_lst : SlN K (rSlL K) gSlL := fun r M H x d1 l lo hi S h e Q q => by
  unfold gSlL at e
  split at e
  · cases e
    obtain ⟨a, xs, rfl, g1, g2⟩ := h
    exact ⟨a, xs, rfl, .inl (.inl g1), fun p hp => q _ (cut_rp g2) p hp⟩
  · cases e
    simp only [RD, Rp] at h
    obtain ⟨a, xs, rfl, g1, g2⟩ := h
    exact ⟨a, xs, rfl, fz_sub.seq g1, fun p hp => q _ (cut_rp g2) p hp⟩
  · cases e
/-- list + list, list * int -/
def gCat : D → D → Option (List D)
  | .lst a, .lst b => if a.length + b.length ≤ 100000 then some (a ++ b) else none
  | _, _ => none
theorem on_cat : OpN K rCat gCat := fun r M H x y d1 d2 l S h1 h2 e Q q => by
  unfold gCat at e
  split at e
  · split at e
    · rename_i hl
      cases e
      obtain ⟨a, xs, rfl, g1, g2⟩ := h1
      obtain ⟨b, ys, rfl, g3, g4⟩ := h2
      exact ⟨a, b, xs, ys, rfl, rfl, g1, g3, by rw [g2.length, g4.length]; exact Nat.le_trans hl (by decide), fun p hp => q _ (g2.append g4) p hp⟩
    · cases e
  · cases e
def repD (n : Nat) (l : List D) : List D := (List.replicate n l).flatten
def gRep : D → D → Option (List D)
  | .lst a, .int k => if k ≤ 1000 ∧ -1000 ≤ k ∧ a.length ≤ 1000 then some (repD k.toNat a) else none
  | _, _ => none
theorem rep_rp {H : Hp} {l : List D} {xs : List V} (h : RpL K H l xs) : ∀ n : Nat, RpL K H (repD n l) (List.replicate n xs).flatten
  | 0 => RpL.nil
  | n + 1 => by
    unfold repD
    rw [List.replicate_succ, List.replicate_succ, List.flatten_cons, List.flatten_cons]
    exact h.append (rep_rp h n)
theorem on_rep : OpN K rRep gRep := fun r M H x y d1 d2 l S h1 h2 e Q q => by
  unfold gRep at e
  split at e
  · split at e
    · rename_i hl
      cases e
      obtain ⟨a, xs, rfl, g1, g2⟩ := h1
      simp only [RD, Rp] at h2
      refine ⟨a, _, xs, rfl, h2, g1, by omega, by omega, ?_, fun p hp => q _ (rep_rp g2 _) p hp⟩
      rw [g2.length]
      exact Nat.le_trans (Nat.mul_le_mul hl.2.2 (show _ ≤ 1000 by omega)) (by decide)
    · cases e
  · cases e
end
/-! ### built-ins on data -/
section
variable {K : PySem.W.Frag}
theorem rdl1 {r : Rg} {H : Hp} {vs : List V} {d : D} (h : RDL K r H vs [d]) : ∃ v, vs = [v] ∧ RD K r H v d := by
  cases vs with
  | nil => cases h
  | cons v vs =>
    obtain ⟨x, t, e, h1, h2⟩ := h
    cases e
    cases vs with
    | nil => exact ⟨v, rfl, h1⟩
    | cons u us => obtain ⟨_, _, e, _⟩ := h2; cases e
theorem rdl2 {r : Rg} {H : Hp} {vs : List V} {d e : D} (h : RDL K r H vs [d, e]) : ∃ v u, vs = [v, u] ∧ RD K r H v d ∧ RD K r H u e := by
  cases vs with
  | nil => cases h
  | cons v vs =>
    obtain ⟨x, t, e, h1, h2⟩ := h
    cases e
    obtain ⟨u, rfl, h3⟩ := rdl1 h2
    exact ⟨v, u, rfl, h1, h3⟩
theorem rdl3 {r : Rg} {H : Hp} {vs : List V} {d e f : D} (h : RDL K r H vs [d, e, f]) : ∃ v u w, vs = [v, u, w] ∧ RD K r H v d ∧ RD K r H u e ∧ RD K r H w f := by
  cases vs with
  | nil => cases h
  | cons v vs =>
    obtain ⟨x, t, e, h1, h2⟩ := h
    cases e
    obtain ⟨u, w, rfl, h3, h4⟩ := rdl2 h2
    exact ⟨v, u, w, rfl, h1, h3, h4⟩
def gAbs : List D → Option D
  | [.int i] => some (.int (if i < 0 then -i else i))
  | _ => none
theorem cd_abs : CallD K (fun xs H Q => ∃ i, xs = [V.int i] ∧ Q (.int (if i < 0 then -i else i)) H) gAbs := fun r M H vs ds d S h e Q q => by
  unfold gAbs at e
  split at e
  · cases e
    obtain ⟨v, rfl, h1⟩ := rdl1 h
    simp only [RD, Rp] at h1
    exact ⟨_, by rw [h1], q _ H (Same.refl _) rp_int⟩
  · cases e
def gI2 (f : Int → Int → Int) : List D → Option D
  | [.int i, .int j] => some (.int (f i j))
  | _ => none
theorem cd_I2 {f : Int → Int → Int} : CallD K (fun xs H Q => ∃ i j, xs = [V.int i, V.int j] ∧ Q (.int (f i j)) H) (gI2 f) := fun r M H vs ds d S h e Q q => by
  unfold gI2 at e
  split at e
  · cases e
    obtain ⟨v, u, rfl, h1, h2⟩ := rdl2 h
    simp only [RD, Rp] at h1 h2
    exact ⟨_, _, by rw [h1, h2], q _ H (Same.refl _) rp_int⟩
  · cases e
def gI3 (f : Int → Int → Int → Int) : List D → Option D
  | [.int i, .int j, .int k] => some (.int (f i j k))
  | _ => none
theorem cd_I3 {f : Int → Int → Int → Int} : CallD K (fun xs H Q => ∃ i j k, xs = [V.int i, V.int j, V.int k] ∧ Q (.int (f i j k)) H) (gI3 f) := fun r M H vs ds d S h e Q q => by
  unfold gI3 at e
  split at e
  · cases e
    obtain ⟨v, u, w, rfl, h1, h2, h3⟩ := rdl3 h
    simp only [RD, Rp] at h1 h2 h3
    exact ⟨_, _, _, by rw [h1, h2, h3], q _ H (Same.refl _) rp_int⟩
  · cases e
def max2 (i j : Int) : Int := if j > i then j else i
def min2 (i j : Int) : Int := if j < i then j else i
def max3 (a b c : Int) : Int := if b > a then (if c > b then c else b) else (if c > a then c else a)
def min3 (a b c : Int) : Int := if b < a then (if c < b then c else b) else (if c < a then c else a)
theorem vals3 {x y z : V} {us : List Value} (r : Vals [x, y, z] us) : ∃ u v w', us = [u, v, w'] ∧ RelV x u ∧ RelV y v ∧ RelV z w' := by
  cases r with
  | cons r1 r2 =>
    obtain ⟨u, v, rfl, a, b⟩ := vals2 r2
    exact ⟨_, u, v, rfl, r1, a, b⟩
theorem call_max3 {X : Cx} (hc : X.calm = true) : CallR X (.builtin "max") (fun xs H Q => ∃ i j k, xs = [V.int i, V.int j, V.int k] ∧ Q (.int (max3 i j k)) H) := by
  intro pins s σ H xs us Q I r ⟨i, j, k, e, q⟩
  subst e
  obtain ⟨_, _, _, rfl, ⟨t1, rfl⟩, ⟨t2, rfl⟩, ⟨t3, rfl⟩⟩ := vals3 r
  refine max_three_ints (I.ok.hd hc) fun h' tk kk => ⟨.int (max3 i j k), H, I.kept kk, ?_, q⟩
  unfold max3
  by_cases h1 : j > i
  · by_cases h2 : k > j
    · rw [if_pos h1, if_pos h1, if_pos h2, if_pos h2]; exact ⟨_, rfl⟩
    · rw [if_pos h1, if_pos h1, if_neg h2, if_neg h2]; exact ⟨_, rfl⟩
  · by_cases h2 : k > i
    · rw [if_neg h1, if_neg h1, if_pos h2, if_pos h2]; exact ⟨_, rfl⟩
    · rw [if_neg h1, if_neg h1, if_neg h2, if_neg h2]; exact ⟨_, rfl⟩
theorem call_min3 {X : Cx} (hc : X.calm = true) : CallR X (.builtin "min") (fun xs H Q => ∃ i j k, xs = [V.int i, V.int j, V.int k] ∧ Q (.int (min3 i j k)) H) := by
  intro pins s σ H xs us Q I r ⟨i, j, k, e, q⟩
  subst e
  obtain ⟨_, _, _, rfl, ⟨t1, rfl⟩, ⟨t2, rfl⟩, ⟨t3, rfl⟩⟩ := vals3 r
  refine min_three_ints (I.ok.hd hc) fun h' tk kk => ⟨.int (min3 i j k), H, I.kept kk, ?_, q⟩
  unfold min3
  by_cases h1 : j < i
  · by_cases h2 : k < j
    · rw [if_pos h1, if_pos h1, if_pos h2, if_pos h2]; exact ⟨_, rfl⟩
    · rw [if_pos h1, if_pos h1, if_neg h2, if_neg h2]; exact ⟨_, rfl⟩
  · by_cases h2 : k < i
    · rw [if_neg h1, if_neg h1, if_pos h2, if_pos h2]; exact ⟨_, rfl⟩
    · rw [if_neg h1, if_neg h1, if_neg h2, if_neg h2]; exact ⟨_, rfl⟩
/-- len of a list, a tuple, a text -/
def gLen : List D → Option D
  | [.str x] => if x.length ≤ 100000 then some (.int x.length) else none
  | [d] => (itsD d).map fun l => .int l.length
  | _ => none
theorem cd_len : CallD K (fun xs H Q => ∃ x n, xs = [x] ∧ LenV K x H n ∧ Q (.int n) H) gLen := fun r M H vs ds d S h e Q q => by
  unfold gLen at e
  split at e
  · split at e
    · rename_i hl
      cases e
      obtain ⟨v, rfl, h1⟩ := rdl1 h
      simp only [RD, Rp] at h1
      subst h1
      exact ⟨_, _, rfl, ⟨Nat.le_trans hl (by decide), rfl⟩, q _ H (Same.refl _) rp_int⟩
    · cases e
  · simp only [Option.map_eq_some_iff] at e
    obtain ⟨l, e1, rfl⟩ := e
    obtain ⟨v, rfl, h1⟩ := rdl1 h
    obtain ⟨a, xs, rfl, g1, g2⟩ := RD.seq h1 e1
    refine ⟨_, l.length, rfl, ?_, q _ H (Same.refl _) rp_int⟩
    rcases g1 with g1 | g1
    · exact .inl ⟨xs, g1, g2.length.symm⟩
    · exact .inr ⟨xs, g1, g2.length.symm⟩
  · cases e
def b2n (k : Bool) : Int := if k then 1 else 0
def gInt : List D → Option D
  | [.int i] => some (.int i)
  | [.bl k] => some (.int (b2n k))
  | _ => none
theorem cd_int : CallD K (fun xs H Q => (∃ i, xs = [V.int i] ∧ Q (.int i) H) ∨ ∃ k, xs = [V.bl k] ∧ Q (.int (if k then 1 else 0)) H) gInt := fun r M H vs ds d S h e Q q => by
  unfold gInt at e
  split at e
  · cases e
    obtain ⟨v, rfl, h1⟩ := rdl1 h
    simp only [RD, Rp] at h1
    exact .inl ⟨_, by rw [h1], q _ H (Same.refl _) rp_int⟩
  · cases e
    obtain ⟨v, rfl, h1⟩ := rdl1 h
    simp only [RD, Rp] at h1
    exact .inr ⟨_, by rw [h1], q _ H (Same.refl _) (by unfold b2n; exact rp_int)⟩
  · cases e
/-- the ints, the truths of a list of data -/
def intsD : List D → Option (List Int)
  | [] => some []
  | .int i :: l => (intsD l).map fun t => i :: t
  | _ :: _ => none
def blsD : List D → Option (List Bool)
  | [] => some []
  | .bl i :: l => (blsD l).map fun t => i :: t
  | _ :: _ => none
def strsD : List D → Option (List Str)
  | [] => some []
  | .str i :: l => (strsD l).map fun t => i :: t
  | _ :: _ => none
theorem intsD_of : ∀ {l : List D} {ns : List Int}, intsD l = some ns → l = ns.map D.int
  | [], ns, e => by simp only [intsD, Option.some.injEq] at e; subst e; rfl
  | d :: l, ns, e => by
    cases d with
    | int i =>
      simp only [intsD, Option.map_eq_some_iff] at e
      obtain ⟨t, e, rfl⟩ := e
      rw [intsD_of e]; rfl
    | _ => cases e
theorem blsD_of : ∀ {l : List D} {ns : List Bool}, blsD l = some ns → l = ns.map D.bl
  | [], ns, e => by simp only [blsD, Option.some.injEq] at e; subst e; rfl
  | d :: l, ns, e => by
    cases d with
    | bl i =>
      simp only [blsD, Option.map_eq_some_iff] at e
      obtain ⟨t, e, rfl⟩ := e
      rw [blsD_of e]; rfl
    | _ => cases e
theorem strsD_of : ∀ {l : List D} {ns : List Str}, strsD l = some ns → l = ns.map D.str
  | [], ns, e => by simp only [strsD, Option.some.injEq] at e; subst e; rfl
  | d :: l, ns, e => by
    cases d with
    | str i =>
      simp only [strsD, Option.map_eq_some_iff] at e
      obtain ⟨t, e, rfl⟩ := e
      rw [strsD_of e]; rfl
    | _ => cases e
theorem intsD_map (ns : List Int) : intsD (ns.map D.int) = some ns := by
  induction ns with
  | nil => rfl
  | cons n ns ih => simp only [List.map_cons, intsD, ih, Option.map_some]
theorem blsD_map (ns : List Bool) : blsD (ns.map D.bl) = some ns := by
  induction ns with
  | nil => rfl
  | cons n ns ih => simp only [List.map_cons, blsD, ih, Option.map_some]
theorem strsD_map (ns : List Str) : strsD (ns.map D.str) = some ns := by
  induction ns with
  | nil => rfl
  | cons n ns ih => simp only [List.map_cons, strsD, ih, Option.map_some]
def lstOf : D → Option (List D)
  | .lst l => some l
  | .frl l => some l
  | _ => none
theorem RD.lstOf {r : Rg} {H : Hp} {d : D} {v : V} {l : List D} (h : RD K r H v d) (e : lstOf d = some l) : ∃ a xs, v = .ref a ∧ SqL K H a xs ∧ RpL K (fz r H) l xs := by
  cases d with
  | lst l =>
    cases e
    obtain ⟨a, xs, rfl, h1, h2⟩ := h
    exact ⟨a, xs, rfl, .inl (.inl h1), h2⟩
  | frl l =>
    cases e
    simp only [RD, Rp] at h
    obtain ⟨a, xs, rfl, h1, h2⟩ := h
    exact ⟨a, xs, rfl, fz_sub.seq h1, h2⟩
  | _ => cases e
def gSum : List D → Option D
  | [d] => (lstOf d).bind fun l => (intsD l).map fun ns => .int ns.sum
  | _ => none
theorem cd_sum : CallD K (rSum K) gSum := fun r M H vs ds d S h e Q q => by
  unfold gSum at e
  split at e
  · simp only [Option.bind_eq_some_iff, Option.map_eq_some_iff] at e
    obtain ⟨l, e1, ns, e2, rfl⟩ := e
    obtain ⟨v, rfl, h1⟩ := rdl1 h
    obtain ⟨a, xs, rfl, g1, g2⟩ := RD.lstOf h1 e1
    rw [intsD_of e2] at g2
    rw [g2.ints] at g1
    exact ⟨a, ns, rfl, g1, q _ H (Same.refl _) rp_int⟩
  · cases e
def gAll : List D → Option D
  | [d] => (lstOf d).bind fun l => (blsD l).map fun ns => .bl (ns.all id)
  | _ => none
def gAny : List D → Option D
  | [d] => (lstOf d).bind fun l => (blsD l).map fun ns => .bl (ns.any id)
  | _ => none
theorem cd_all : CallD K (rAll K) gAll := fun r M H vs ds d S h e Q q => by
  unfold gAll at e
  split at e
  · simp only [Option.bind_eq_some_iff, Option.map_eq_some_iff] at e
    obtain ⟨l, e1, ns, e2, rfl⟩ := e
    obtain ⟨v, rfl, h1⟩ := rdl1 h
    obtain ⟨a, xs, rfl, g1, g2⟩ := RD.lstOf h1 e1
    rw [blsD_of e2] at g2
    rw [g2.bls] at g1
    exact ⟨a, ns, rfl, g1, q _ H (Same.refl _) rp_bl⟩
  · cases e
theorem cd_any : CallD K (rAny K) gAny := fun r M H vs ds d S h e Q q => by
  unfold gAny at e
  split at e
  · simp only [Option.bind_eq_some_iff, Option.map_eq_some_iff] at e
    obtain ⟨l, e1, ns, e2, rfl⟩ := e
    obtain ⟨v, rfl, h1⟩ := rdl1 h
    obtain ⟨a, xs, rfl, g1, g2⟩ := RD.lstOf h1 e1
    rw [blsD_of e2] at g2
    rw [g2.bls] at g1
    exact ⟨a, ns, rfl, g1, q _ H (Same.refl _) rp_bl⟩
  · cases e
/-- tuple(x) of a list, a tuple -/
def gTuple : List D → Option D
  | [d] => (itsD d).map D.tup
  | _ => none
theorem cd_tuple : CallD K (fun xs H Q => ∃ p ys, xs = [V.ref p] ∧ ((SqL K H p ys ∧ ∀ l, H l = none → Q (.ref l) (upd H l (.tup ys))) ∨ (SqT K H p ys ∧ Q (.ref p) H))) gTuple := fun r M H vs ds d S h e Q q => by
  unfold gTuple at e
  split at e
  · rename_i d1
    obtain ⟨v, rfl, h1⟩ := rdl1 h
    simp only [Option.map_eq_some_iff] at e
    obtain ⟨l, e1, rfl⟩ := e
    cases d1 with
    | lst m =>
      cases e1
      obtain ⟨a, xs, rfl, g1, g2⟩ := h1
      exact ⟨a, xs, rfl, .inl ⟨.inl (.inl g1), fun p hp => q _ _ (same_up hp) (rp_tup S hp g2)⟩⟩
    | frl m =>
      cases e1
      simp only [RD, Rp] at h1
      obtain ⟨a, xs, rfl, g1, g2⟩ := h1
      exact ⟨a, xs, rfl, .inl ⟨fz_sub.seq g1, fun p hp => q _ _ (same_up hp) (rp_tup S hp g2)⟩⟩
    | tup m =>
      cases e1
      have h2 : Rp K (fz r H) (.tup l) v := h1
      simp only [RD, Rp] at h1
      obtain ⟨a, xs, rfl, g1, g2⟩ := h1
      exact ⟨a, xs, rfl, .inr ⟨same_t fz_sub g1, q _ H (Same.refl _) h2⟩⟩
    | _ => cases e1
  · cases e
/-- list(x) -/
def gList : List D → Option (List D)
  | [d] => itsD d
  | _ => none
theorem cn_list : CallN K (fun xs H Q => ∃ p ys, xs = [V.ref p] ∧ (SqL K H p ys ∨ SqT K H p ys) ∧ ∀ l, H l = none → Q (.ref l) (upd H l (.lst ys))) gList := fun r M H vs ds l S h e Q q => by
  unfold gList at e
  split at e
  · obtain ⟨v, rfl, h1⟩ := rdl1 h
    obtain ⟨a, xs, rfl, g1, g2⟩ := RD.seq h1 e
    exact ⟨a, xs, rfl, g1, fun p hp => q xs g2 p hp⟩
  · cases e
end
end S9

namespace S9
open PySem PySem.Spec PyProof.Rows L2
/-! ### a cell changes -/
section
variable {K : PySem.W.Frag} {r : Rg} {M : Sto} {H : Hp}
theorem fz_cell {a : Addr} {o : HO} (h : r.has a) : fz r (upd H a o) = fz r H := by
  funext b
  by_cases z : r.has b
  · rw [fz_in z, fz_in z]
  · rw [fz_out z, fz_out z, upd_ne (fun e => z (by rw [e]; exact h))]
theorem Sta.put {k : Nat} {a : Addr} {o : HO} {c : Cell} (S : Sta K r M H) (h : r.c[k]? = some a) (q : CellOk K r (upd H a o) a c) : Nxt r H r (upd H a o) ∧ Sta K r (M.set k c) (upd H a o) := by
  have hm : a ∈ r.c := List.mem_of_getElem? h
  have hfz : fz r (upd H a o) = fz r H := fz_cell (.inl hm)
  have nu : ∀ b ∈ r.u, b ≠ a := fun b hb z => S.dj b hb (z ▸ hm)
  have n : Nxt r H r (upd H a o) := ⟨⟨[], by simp⟩, rfl, fun b hb u e => by rw [upd_ne (nu b hb)]; exact e, by rw [hfz]; exact Same.refl _⟩
  refine ⟨n, by rw [List.length_set]; exact S.len, S.nd, S.dj, fun b hb => ?_, fun j b c' e1 e2 => ?_⟩
  · rw [upd_ne (nu b hb)]; exact S.prv b hb
  · by_cases e : k = j
    · subst e
      rw [h] at e1
      cases e1
      have hk : k < M.length := by rw [← S.len]; exact (List.getElem?_eq_some_iff.mp h).1
      rw [List.getElem?_set_self hk] at e2
      cases e2
      exact q
    · rw [List.getElem?_set_ne e] at e2
      have hne : b ≠ a := fun z => e (nd_ix S.nd.1 h (z ▸ e1))
      exact (S.cell j b c' e1 e2).next n (upd_ne hne)
end
section
variable {X : Cx} {E : XK} {pos : Pos} {a b e : Expr} {fa fb fe : FE}
/-- xs.append(e) -/
def appC (k : Nat) (M : Sto) (w : W) : R Unit := match fr w, M[k]? with
  | some x, some (.lst l) => if l.length ≤ 100000 then .ok () (M.set k (.lst (l ++ [x]))) else .bad
  | _, _ => .bad
def sApp (fo fe : FE) : FS := fun δ M => (fo δ M).bind fun o M1 => match o with
  | .loc k => match M1[k]? with
    | some (.lst _) => (fe δ M1).bind fun w M2 => (appC k M2 w).bind fun _ M3 => .ok (.nx δ) M3
    | _ => .bad
  | _ => .bad
theorem rs_append {apos cpos spos : Pos} (ho : RE X E a fa) (he : RE X E e fe) (hs : swapsWith (.Call (.Attribute a "append" apos) [e] [] cpos) none spos.line X.env = pure false := by rfl) (hbase : attributeBase a "append" X.env (eval a X.env) = eval a X.env := by rfl)
    (hfew : ((backTo cpos (starEach [e] X.env)).all (fun x => !x.1) && (backToKw cpos (keywordEach [] X.env)).all (fun x => x.1.isSome)
      && decide (([e] : List Expr).length + ([] : List Keyword).length + (if ([] : List Keyword).isEmpty then 0 else 1) < 30)) = true := by rfl)
    (hline : (apos.endLine == cpos.line) = true := by rfl) (hs1 : starEach [e] X.env = (false, eval e X.env) :: starEach [] X.env := by rfl) (hplain : (backTo cpos (starEach [] X.env)).any (·.1) = false := by rfl) :
    RS X E (.Expr (.Call (.Attribute a "append" apos) [e] [] cpos) spos) (sApp fa fe) :=
  ps_imp (ps_expr (pe_bm PySem.F.plainAttrs_list PySem.F.slot_list_append PySem.F.type_list_append mt_append ho (ra_cons (E := E) he ra_nil hs1) hbase hfew hline hs1 hplain) hs) fun D σ H ⟨r, δ, M, Ev, S, k⟩ =>
  ⟨r, δ, M, Ev, S, PostS.bind k fun o M1 vo H1 r1 _ n1 S1 q1 k1 => by
    cases o with
    | d x => exact k1.elim
    | loc kk =>
      obtain ⟨p, e1, rfl⟩ := q1
      simp only at k1
      cases hc : M1[kk]? with
      | none => rw [hc] at k1; exact k1.elim
      | some c =>
        rw [hc] at k1
        cases c with
        | dct _ _ => exact k1.elim
        | ins _ _ _ => exact k1.elim
        | lst l1 =>
          simp only at k1
          obtain ⟨xs1, h1, _⟩ := S1.cell kk p _ e1 hc
          refine ⟨.inl ⟨rfl, xs1, .inl (.inl h1)⟩, r1, δ, M1, Ev.mono n1, S1, ?_⟩
          have k2 : Post X.K E r1 H1 (relWL X.K) ((fe δ M1).bind fun w M2 => R.ok [w] M2) fun vs H2 => rAppend (.ref p) vs H2 fun _ H1 => D.nx σ H1 := by
            revert k1
            cases fe δ M1 with
            | bad => exact fun h => h
            | ex z M2 => exact fun h => h
            | ok w M2 =>
              intro k1 vs H2 r2 n2 S2 q2
              have k1 : PostS X.K E r1 H1 ((appC kk M2 w).bind fun _ M3 => .ok (.nx δ) M3) D := k1
              unfold appC at k1
              cases ew : fr w with
              | none => rw [ew] at k1; exact k1.elim
              | some x =>
                rw [ew] at k1
                cases hc2 : M2[kk]? with
                | none => rw [hc2] at k1; exact k1.elim
                | some c =>
                  rw [hc2] at k1
                  cases c with
                  | dct _ _ => exact k1.elim
                  | ins _ _ _ => exact k1.elim
                  | lst l =>
                    simp only at k1
                    split at k1
                    · rename_i hl
                      obtain ⟨t, et⟩ := n2.ext
                      have e2 : r2.c[kk]? = some p := by rw [et, List.getElem?_append_left (List.getElem?_eq_some_iff.mp e1).1]; exact e1
                      obtain ⟨xs, g1, g2⟩ := S2.cell kk p _ e2 hc2
                      cases vs with
                      | nil => cases q2
                      | cons v vs =>
                        obtain ⟨w', ws', e3, q3, q4⟩ := q2
                        cases e3
                        cases vs with
                        | cons _ _ => obtain ⟨_, _, e4, _⟩ := q4; cases e4
                        | nil =>
                          refine ⟨p, xs, v, rfl, rfl, g1, by rw [g2.length]; exact Nat.lt_of_le_of_lt hl (by decide), ?_⟩
                          have hfz : fz r2 (upd H2 p (.lst (xs ++ [v]))) = fz r2 H2 := fz_cell (.inl (List.mem_of_getElem? e2))
                          obtain ⟨n3, S3⟩ := S2.put (o := .lst (xs ++ [v])) (c := .lst (l ++ [x])) e2 ⟨xs ++ [v], upd_same, by rw [hfz]; exact g2.append (RpL.cons (RW.fr q3 ew) RpL.nil)⟩
                          exact k1 σ _ r2 (n2.trans n3) S3 (((Ev.mono n1).mono n2).mono n3)
                    · exact k1.elim
          unfold fCons fNil
          exact k2⟩
/-- xs[i] = e -/
def setC (k : Nat) (i : W) (w : W) (M : Sto) : R Unit := match fr w, intW i, M[k]? with
  | some x, some j, some (.lst l) => match ixN l.length j with
    | some m => .ok () (M.set k (.lst (l.set m x)))
    | none => .bad
  | _, _, _ => .bad
def sSetI (fo fi fe : FE) : FS := fun δ M => (fe δ M).bind fun w M1 => (fo δ M1).bind fun o M2 => (fi δ M2).bind fun i M3 => match o with
  | .loc k => (setC k i w M3).bind fun _ M4 => .ok (.nx δ) M4
  | _ => .bad
theorem rs_seti {tpos : Pos} (ho : RE X E a fa) (hi : RE X E b fb) (he : RE X E e fe)
    (ha : ∀ v, assign (.Subscript a b tpos) X.env v = (do
      let ov ← holding [v] (eval a X.env)
      let iv ← holding [v, ov] (eval b X.env)
      standAt tpos
      holding [v, ov, iv] (setItem ov iv v)
      release [v, ov, iv] []) := by intro _; rfl) (hs : swapsWithSole [.Subscript a b tpos] e pos.line X.env = pure false := by rfl) (hw : swappedStores [.Subscript a b tpos] e X.env = pure none := by rfl)
    (h1 : (assignEach [.Subscript a b tpos] X.env).map (·.2) = [assign (.Subscript a b tpos) X.env] := by rfl) : RS X E (.Assign [.Subscript a b tpos] e pos) (sSetI fa fb fe) :=
  ps_imp (ps_asg he (pg_sub ho hi set_list ha) hs hw h1) fun D σ H ⟨r, δ, M, Ev, S, k⟩ =>
  ⟨r, δ, M, Ev, S, PostS.bind k fun w M1 v H1 r1 _ n1 S1 q1 k1 => ⟨r1, δ, M1, Ev.mono n1, S1, PostS.bind k1 fun o M2 vo H2 r2 _ n2 S2 q2 k2 => ⟨r2, δ, M2, (Ev.mono n1).mono n2, S2, PostS.bind k2 fun i M3 vi H3 r3 _ n3 S3 q3 k3 => by
    cases o with
    | d x => exact k3.elim
    | loc kk =>
      obtain ⟨p, e1, rfl⟩ := q2
      simp only at k3
      unfold setC at k3
      cases ew : fr w with
      | none => rw [ew] at k3; exact k3.elim
      | some x =>
        cases ei : intW i with
        | none => rw [ew, ei] at k3; exact k3.elim
        | some j =>
          rw [ew, ei] at k3
          cases hc2 : M3[kk]? with
          | none => rw [hc2] at k3; exact k3.elim
          | some c =>
            rw [hc2] at k3
            cases c with
            | dct _ _ => exact k3.elim
            | ins _ _ _ => exact k3.elim
            | lst l =>
              simp only at k3
              cases em : ixN l.length j with
              | none => rw [em] at k3; exact k3.elim
              | some m =>
                rw [em] at k3
                obtain ⟨t, et⟩ := n3.ext
                have e2 : r3.c[kk]? = some p := by rw [et, List.getElem?_append_left (List.getElem?_eq_some_iff.mp e1).1]; exact e1
                obtain ⟨xs, g1, g2⟩ := S3.cell kk p _ e2 hc2
                refine ⟨p, xs, j, m, rfl, int_rw ei q3, g1, by rw [g2.length]; exact em, ?_⟩
                have hfz : fz r3 (upd H3 p (.lst (xs.set m v))) = fz r3 H3 := fz_cell (.inl (List.mem_of_getElem? e2))
                have q5 := RW.fr (RW.mono (n2.trans n3) q1) ew
                obtain ⟨n4, S4⟩ := S3.put (o := .lst (xs.set m v)) (c := .lst (l.set m x)) e2 ⟨xs.set m v, upd_same, by rw [hfz]; exact RpL.set q5 m g2⟩
                exact k3 σ _ r3 n4 S4 ((((Ev.mono n1).mono n2).mono n3).mono n4)⟩⟩⟩
/-- x op= e, x a local -/
def sAug (i : Nat) (g : D → D → Option D) (fe : FE) : FS := fun δ M => match δ[i]? with
  | some (some w) => (fe δ M).bind fun u M1 => R.of M1 ((rd M1 w).bind fun x => (rd M1 u).bind fun y => (g x y).map fun z => Out.nx (δ.set i (some (.d z))))
  | _ => .bad
theorem rs_aug {i : Nat} {x : Str} {op : Operator} {ti : TIp} {pos' : Pos} {g : D → D → Option D} (hN : X.N.Nodup) (hi : X.N[i]? = some x) (hx : Loc X.env.scope x) (he : RE X E e fe) (ho : PIp X op ti) (hg : OpD X.K ti g)
    (hf : X.fn x = true ∨ X.env.scope.names.lookup x = some .local := by first | exact .inl rfl | exact .inr rfl | assumption) : RS X E (.AugAssign (.Name x pos') op e pos) (sAug i g fe) :=
  ps_imp (ps_aug hN hi hx he ho hf) fun D σ H ⟨r, δ, M, Ev, S, k⟩ => by
    unfold sAug at k
    split at k
    · rename_i w hw
      obtain ⟨v, ev, q⟩ := Ev.at_ i _ hw
      refine ⟨v, ev, r, δ, M, Ev, S, PostS.bind k fun u M1 vu H1 r1 _ n1 S1 q1 k1 => ?_⟩
      cases e : ((rd M1 w).bind fun x => (rd M1 u).bind fun y => (g x y).map fun z => Out.nx (δ.set i (some (.d z)))) with
      | none => rw [e] at k1; exact k1.elim
      | some o =>
        rw [e] at k1
        simp only [Option.bind_eq_some_iff, Option.map_eq_some_iff] at e
        obtain ⟨x', e1, y', e2, z, e3, rfl⟩ := e
        exact hg r1 M1 H1 v vu x' y' z S1 (RW.rd S1 (RW.mono n1 q) e1) (RW.rd S1 q1 e2) e3 _ fun vz H2 e q => k1 _ H2 r1 (Nxt.more e) (S1.more e) (((Ev.mono n1).mono (Nxt.more e)).set (w := .d z) q)
    · exact k.elim
end
end S9

set_option maxHeartbeats 1000000
namespace Z9
open PySem
open PySem.Sem (wp)
/-! ### zip of lists and tuples, any number of them -/
/-- the tuple that was handed out last may be remembered -/
def Owd (f0 : Value) : Prop := f0 = Value.none ∨ ∃ T : Nat, f0 = rawInt T
abbrev ZAt (h : Heap) (z TI TO : Addr) (f0 f1 : Value) : Prop := h.get? z = some { cls := .type "zip", dict := none, data := .fields #[f0, f1, .bool false, .ref TI, .ref TO], slots := #[] }
abbrev TupA (h : Heap) (T : Addr) (vs : List Value) : Prop := h.get? T = some { cls := .type "tuple", data := .seq vs.toArray }
/-- a source: whether a tuple, its iterator, itself -/
structure Src where
  tp : Bool
  it : Addr
  l : Addr
def Src.at_ (q : Src) (h : Heap) (i : Nat) : Prop := if q.tp = true then h.IsTupleIter q.it q.l i else h.IsListIter q.it q.l i
def Src.its (q : Src) (h : Heap) (xs : Array Value) : Prop := if q.tp = true then h.IsTuple q.l xs else h.IsList q.l xs
theorem Src.keep {q : Src} {h h' : Heap} {i : Nat} (x : q.at_ h i) (e : ∀ o, h.get? q.it = some o → h'.get? q.it = some o) : q.at_ h' i := by
  unfold Src.at_ at x ⊢
  split at x
  · rename_i hh; rw [if_pos hh]; obtain ⟨o, a, b⟩ := x; exact ⟨o, e o a, b⟩
  · rename_i hh; rw [if_neg hh]; obtain ⟨o, a, b⟩ := x; exact ⟨o, e o a, b⟩
theorem Src.keepI {q : Src} {h h' : Heap} {xs : Array Value} (x : q.its h xs) (e : ∀ o, h.get? q.l = some o → h'.get? q.l = some o) : q.its h' xs := by
  unfold Src.its at x ⊢
  split at x
  · rename_i hh; rw [if_pos hh]; obtain ⟨o, a, b⟩ := x; exact ⟨o, e o a, b⟩
  · rename_i hh; rw [if_neg hh]; obtain ⟨o, a, b⟩ := x; exact ⟨o, e o a, b⟩
theorem Src.obj {q : Src} {h : Heap} {i : Nat} (x : q.at_ h i) : ∃ o, h.get? q.it = some o ∧ ∀ v, o.data ≠ .cell v := by
  unfold Src.at_ at x
  split at x
  · obtain ⟨o, a, _, b⟩ := x; exact ⟨o, a, fun v e => by rw [b] at e; cases e⟩
  · obtain ⟨o, a, _, b⟩ := x; exact ⟨o, a, fun v e => by rw [b] at e; cases e⟩
section
variable {prog : Program} {w : World} {A : Around} {E : Value → Shared → Prop} {s : Shared}
theorem draw_item {q : Src} {i : Nat} {xs : Array Value} {x : Value} {Q : Value → Shared → Prop} (h1 : q.at_ s.heap i) (h2 : q.its s.heap xs) (hx : xs[i]? = some x)
    (hQ : ∀ h', q.at_ h' (i + 1) → Heap.SameBut q.it s.heap h' → Q x { s with heap := h' }) : wpAny (model prog w) A (Builtin.SmallTypes.nextOf (.ref q.it)) Q E s := by
  obtain ⟨tp, it, l⟩ := q
  cases tp with
  | true => exact RZ.nextOf_tuple_item h1 h2 hx hQ
  | false => exact wpAny_nextOf_list_item h1 h2 hx hQ
theorem draw_end {q : Src} {i : Nat} {xs : Array Value} {Q : Value → Shared → Prop} (hh : A.handled = none) (h1 : q.at_ s.heap i) (h2 : q.its s.heap xs) (hx : xs[i]? = none)
    (hE : ∀ h' e, Heap.ExtBut q.it s.heap h' → (∃ o, h'.get? e = some o ∧ o.cls = .type "StopIteration") → E (.ref e) { s with heap := h' }) : wpAny (model prog w) A (Builtin.SmallTypes.nextOf (.ref q.it)) Q E s := by
  obtain ⟨tp, it, l⟩ := q
  cases tp with
  | true => exact RZ.nextOf_tuple_end hh h1 h2 hx hE
  | false => exact wpAny_nextOf_list_end hh h1 h2 hx hE
theorem walk_list {M : Model} {B C : Type} {f : B → C → Sem (ForInStep C)} {Q : C → Shared → Prop} (I : List B → C → Shared → Prop)
    (step : ∀ a r b s, I (a :: r) b s → wpAny M A (f a b) (fun x s' => ∃ b', x = .yield b' ∧ I r b' s') E s) (done : ∀ b s, I [] b s → Q b s) : ∀ (l : List B) (b : C) (s : Shared), I l b s → wpAny M A (forIn l b f) Q E s
  | [], b, s, h => by
    rw [List.forIn_nil]
    exact wpAny_pure (done b s h)
  | a :: r, b, s, h => by
    rw [List.forIn_cons]
    refine wpAny_bind (wpAny_mono (step a r b s h) (fun x s' hx => ?_) fun _ _ e => e)
    obtain ⟨b', rfl, h'⟩ := hx
    exact walk_list I step done r b' s' h'
structure Apart (z TI TO : Addr) (qs : List Src) : Prop where
  TIz : TI ≠ z
  TOz : TO ≠ z
  TITO : TI ≠ TO
  itz : ∀ q ∈ qs, q.it ≠ z
  itTO : ∀ q ∈ qs, q.it ≠ TO
  itTI : ∀ q ∈ qs, q.it ≠ TI
  lz : ∀ q ∈ qs, q.l ≠ z
  lTO : ∀ q ∈ qs, q.l ≠ TO
  lit : ∀ q ∈ qs, ∀ p ∈ qs, q.l ≠ p.it
  nd : (qs.map (·.it)).Nodup
/-- all but the zip's own objects stands as it stood -/
def Kept (z TO : Addr) (qs : List Src) (h h' : Heap) : Prop := ∀ c o, c ≠ z → c ≠ TO → (∀ q ∈ qs, c ≠ q.it) → h.get? c = some o → h'.get? c = some o
/-- the first j sources have been drawn -/
structure Upto (z TI TO : Addr) (qs : List Src) (i : Nat) (f0 f1 : Value) (h0 : Heap) (os : List Value) (j : Nat) (h : Heap) : Prop where
  sz : h.objs.size = h0.objs.size
  kept : Kept z TO qs h0 h
  zat : ZAt h z TI TO f0 f1
  to : TupA h TO os
  at_ : ∀ (k : Nat) (q : Src), qs[k]? = some q → q.at_ h (if k < j then i + 1 else i)
theorem nd_at {qs : List Src} (nd : (qs.map (·.it)).Nodup) {k j : Nat} {p q : Src} (a : qs[k]? = some p) (b : qs[j]? = some q) (h : k ≠ j) : p.it ≠ q.it := fun e => h (by
  have a' : (qs.map (·.it))[k]? = some p.it := by rw [List.getElem?_map, a]; rfl
  have b' : (qs.map (·.it))[j]? = some p.it := by rw [List.getElem?_map, b, e]; rfl
  exact L2.nd_ix nd a' b')
theorem drawn {z TI TO : Addr} {qs : List Src} {i j : Nat} {f0 f1 : Value} {h0 : Heap} {os : List Value} {q : Src} {h' : Heap} {h : Heap} (D : Apart z TI TO qs) (u : Upto z TI TO qs i f0 f1 h0 os j h) (hq : qs[j]? = some q)
    (h1 : q.at_ h' (i + 1)) (sb : Heap.SameBut q.it h h') : Upto z TI TO qs i f0 f1 h0 os (j + 1) h' := by
  have hm : q ∈ qs := List.mem_of_getElem? hq
  refine ⟨sb.1.trans u.sz, fun c o c1 c2 c3 e => sb.extBut _ _ (c3 q hm) (u.kept c o c1 c2 c3 e), sb.extBut _ _ (D.itz q hm).symm u.zat, sb.extBut _ _ (D.itTO q hm).symm u.to, fun k p hp => ?_⟩
  by_cases e : k = j
  · subst e
    rw [hq] at hp
    cases hp
    rw [if_pos (Nat.lt_succ_self _)]
    exact h1
  · have hne := nd_at D.nd hp hq e
    have q1 := u.at_ k p hp
    have e2 : (if k < j + 1 then i + 1 else i) = if k < j then i + 1 else i := by
      by_cases hk : k < j
      · rw [if_pos hk, if_pos (by omega)]
      · rw [if_neg hk, if_neg (by omega)]
    rw [e2]
    exact Src.keep q1 fun o eo => sb.extBut _ _ hne eo
theorem its_now {z TI TO : Addr} {qs : List Src} {i j : Nat} {f0 f1 : Value} {h0 h : Heap} {os : List Value} {q : Src} {xs : Array Value} (D : Apart z TI TO qs) (u : Upto z TI TO qs i f0 f1 h0 os j h) (hq : q ∈ qs) (x : q.its h0 xs) : q.its h xs :=
  Src.keepI x fun o e => u.kept _ o (D.lz q hq) (D.lTO q hq) (fun p hp => D.lit q hq p hp) e
theorem set_next {A : Type} {vs os : List A} {j : Nat} {v : A} (hl : vs.length = os.length) (hv : vs[j]? = some v) : (vs.take j ++ os.drop j).set j v = vs.take (j + 1) ++ os.drop (j + 1) := by
  obtain ⟨h1, h2⟩ := List.getElem?_eq_some_iff.mp hv
  have hj : j < os.length := by omega
  have e1 : (vs.take j).length = j := by rw [List.length_take]; omega
  rw [List.drop_eq_getElem_cons hj, List.set_append_right _ _ (by omega), e1, Nat.sub_self, List.set_cons_zero, List.take_succ_eq_append_getElem h1, h2, List.append_assoc]
  rfl
theorem alive_any {M : Model} {a : Addr} {Q : Option Obj → Shared → Prop} (h : Q (s.heap.get? a) s) : wpAny M A (loadIfAlive a) Q E s := fun Γ p hΓ => h
theorem free_or {z TI TO : Addr} {f0 f1 : Value} {Q : Bool → Shared → Prop} (hw : Owd f0) (hz : ZAt s.heap z TI TO f0 f1) (h1 : Q true s) (h2 : ∀ h', (∃ f1', ZAt h' z TI TO f0 f1') → Heap.SameBut z s.heap h' → Q false { s with heap := h' }) :
    wpAny (model prog w) A (Builtin.SmallTypes.ownedTupleIsFree (.ref z)) Q E s := by
  unfold Builtin.SmallTypes.ownedTupleIsFree
  refine wpAny_bind (wpAny_field hz rfl (x := f0) rfl ?_)
  rcases hw with rfl | ⟨T, rfl⟩
  · exact wpAny_pure h1
  · show wpAny _ _ (loadIfAlive _ >>= _) _ _ s
    refine wpAny_bind (alive_any ?_)
    split
    · exact wpAny_pure h1
    · refine wpAny_bind (wpAny_field hz rfl (x := f1) rfl ?_)
      simp only
      split
      · refine wpAny_bind (wpAny_setField_rec hz (by simp) fun h' hz' hs' => wpAny_pure (h2 h' ⟨_, hz'⟩ hs'))
      · exact wpAny_pure (h2 s.heap ⟨_, hz⟩ ⟨rfl, fun _ _ => rfl⟩)
theorem hand_out {z TI TO T : Addr} {f0 f1 : Value} {Q : Unit → Shared → Prop} (hz : ZAt s.heap z TI TO f0 f1) (h : ∀ h', ZAt h' z TI TO (rawInt T) (.bool false) → Heap.SameBut z s.heap h' → Q () { s with heap := h' }) :
    wpAny (model prog w) A (Builtin.SmallTypes.ownedTupleHandOut (.ref z) (.ref T)) Q E s := by
  unfold Builtin.SmallTypes.ownedTupleHandOut
  refine wpAny_bind (wpAny_setField_rec hz (by simp) fun h1 hz1 hs1 => ?_)
  replace hz1 : ZAt h1 z TI TO (rawInt T) f1 := hz1
  refine wpAny_setField_rec hz1 (by simp) fun h2 hz2 hs2 => h h2 hz2 ⟨hs2.1.trans hs1.1, fun c hc => (hs2.2 c hc).trans (hs1.2 c hc)⟩
/-- what a turn leaves -/
structure Next (z TI TO : Addr) (qs : List Src) (i : Nat) (vs : List Value) (h0 h : Heap) : Prop where
  zat : ∃ f0 f1, Owd f0 ∧ ZAt h z TI TO f0 f1
  to : ∃ os, os.length = qs.length ∧ TupA h TO os
  at_ : ∀ (k : Nat) (q : Src), qs[k]? = some q → q.at_ h (i + 1)
  new : TupA h h0.objs.size vs
  sz : h.objs.size = h0.objs.size + 1
  kept : Kept z TO qs h0 h
theorem zip_item {z TI TO : Addr} {f0 f1 : Value} {qs : List Src} {i : Nat} {os vs : List Value} {Q : Value → Shared → Prop} (D : Apart z TI TO qs) (hw : Owd f0) (hz : ZAt s.heap z TI TO f0 f1) (hTI : TupA s.heap TI (qs.map fun q => .ref q.it)) (hne : qs ≠ [])
    (hTO : TupA s.heap TO os) (hos : os.length = qs.length) (hn : qs.length ≤ 1000) (hat : ∀ (k : Nat) (q : Src), qs[k]? = some q → q.at_ s.heap i) (hvl : vs.length = qs.length)
    (hv : ∀ (k : Nat) (q : Src), qs[k]? = some q → ∃ xs v, q.its s.heap xs ∧ vs[k]? = some v ∧ xs[i]? = some v) (hQ : ∀ h', Next z TI TO qs i vs s.heap h' → Q (.ref s.heap.objs.size) { s with heap := h' }) :
    wpAny (model prog w) A (Builtin.«zip.__next__» ⟨[.ref z], []⟩) (fun fin s' => ∃ v, fin = .done (.ret v) ∧ Q v s') E s := by
  show wpAny _ _ (field (.ref z) 2 >>= _) _ _ _
  refine wpAny_bind (wpAny_field hz rfl (x := .bool false) rfl ?_)
  show wpAny _ _ (field (.ref z) 3 >>= _) _ _ _
  refine wpAny_bind (wpAny_field hz rfl (x := .ref TI) rfl ?_)
  refine wpAny_bind (wpAny_seqItems hTI rfl ?_)
  have he : (qs.map fun q => Value.ref q.it).toArray.isEmpty = false := by
    cases qs with
    | nil => exact absurd rfl hne
    | cons q qs => simp
  have hzlt : z < s.heap.objs.size := Heap.lt_size hz
  simp only [he, Bool.false_eq_true, if_false]
  refine wpAny_bind (free_or hw hz ?_ fun h' hz' sb => ?_)
  · -- the remembered tuple is used again
    rw [if_pos rfl]
    refine wpAny_bind (wpAny_rule ?_)
    refine wpAny_bind (wpAny_field hz rfl (x := .ref TO) rfl ?_)
    refine wpAny_bind (wpAny_setField_rec hz (by simp) fun h1 hz1 sb1 => ?_)
    replace hz1 : ZAt h1 z TI TO .ellipsis f1 := hz1
    have u0 : Upto z TI TO qs i .ellipsis f1 s.heap (vs.take 0 ++ os.drop 0) 0 h1 := ⟨sb1.1, fun c o c1 _ _ e => sb1.extBut _ _ c1 e, hz1, sb1.extBut _ _ D.TOz hTO, fun k q hk => by
      rw [if_neg (Nat.not_lt_zero _)]
      exact Src.keep (hat k q hk) fun o e => sb1.extBut _ _ (D.itz q (List.mem_of_getElem? hk)) e⟩
    refine wpAny_bind (walk_list (fun l b s' => b = (none, ()) ∧ ∃ j, j ≤ qs.length ∧ l = ((qs.map fun q => Value.ref q.it).zipIdx).drop j ∧ ∃ h, s' = { s with heap := h } ∧ Upto z TI TO qs i .ellipsis f1 s.heap (vs.take j ++ os.drop j) j h)
      (fun a r b s' hI => ?_) (fun b s' hI => ?_) _ _ _ ⟨rfl, 0, Nat.zero_le _, by simp, h1, rfl, u0⟩)
    · obtain ⟨rfl, j, hj, el, h, rfl, u⟩ := hI
      have hjl : j < qs.length := by
        have := congrArg List.length el
        simp at this
        omega
      obtain ⟨q, hq⟩ : ∃ q, qs[j]? = some q := ⟨qs[j], List.getElem?_eq_getElem hjl⟩
      have ea : a = (.ref q.it, j) ∧ r = ((qs.map fun q => Value.ref q.it).zipIdx).drop (j + 1) := by
        have hlen : j < ((qs.map fun q => Value.ref q.it).zipIdx).length := by simpa using hjl
        rw [List.drop_eq_getElem_cons hlen] at el
        injection el with e1 e2
        refine ⟨e1.trans ?_, e2⟩
        have : qs[j] = q := (List.getElem?_eq_some_iff.mp hq).2
        simp [this]
      obtain ⟨rfl, rfl⟩ := ea
      have hm : q ∈ qs := List.mem_of_getElem? hq
      obtain ⟨xs, v, x1, x2, x3⟩ := hv j q hq
      have atq := u.at_ j q hq
      rw [if_neg (Nat.lt_irrefl _)] at atq
      simp only
      refine wpAny_bind (wpAny_onRaise ?_)
      show wpAny _ _ (Builtin.SmallTypes.nextOf (.ref q.it) >>= _) _ _ _
      refine wpAny_bind (draw_item atq (its_now D u hm x1) x3 fun h2 y1 sb2 => wpAny_pure ?_)
      have u2 := drawn D u hq y1 sb2
      refine wpAny_bind (wpAny_seqItems u2.to rfl ?_)
      have hos2 : (vs.take j ++ os.drop j).toArray.size ≤ sizeLine := by
        rw [List.size_toArray, List.length_append, List.length_take, List.length_drop]
        exact Nat.le_trans (show _ ≤ 2000 by omega) (by decide)
      refine wpAny_bind (wpAny_updateSeq u2.to rfl ?_ hos2 (by simp only [Array.size_setIfInBounds]; exact Nat.le_succ_of_le hos2))
      refine wpAny_bind (wpAny_letGo (wpAny_pure ⟨_, rfl, rfl, j + 1, hjl, rfl, _, rfl, ?_⟩))
      have sb3 : Heap.SameBut TO h2 (h2.update TO (Obj.mapSeq fun x => x.setIfInBounds j v)) := Heap.SameBut.update ..
      refine ⟨sb3.1.trans u2.sz, fun c o c1 c2 c3 e => sb3.extBut _ _ c2 (u2.kept c o c1 c2 c3 e), sb3.extBut _ _ D.TOz.symm u2.zat, ?_, fun k p hp => Src.keep (u2.at_ k p hp) fun o e => sb3.extBut _ _ (D.itTO p (List.mem_of_getElem? hp)) e⟩
      show Heap.get? _ TO = _
      rw [Heap.get?_update_self _ u2.to rfl, ← set_next (hvl.trans hos.symm) x2]
      simp [Obj.mapSeq]
    · obtain ⟨rfl, j, hj, el, h, rfl, u⟩ := hI
      have hjl : j = qs.length := by
        have := congrArg List.length el
        simp at this
        omega
      subst hjl
      have ev : vs.take qs.length ++ os.drop qs.length = vs := by rw [List.take_of_length_le (by omega), List.drop_eq_nil_of_le (by omega), List.append_nil]
      have uto := u.to
      rw [ev] at uto
      simp only
      refine wpAny_bind (wpAny_seqItems uto rfl ?_)
      refine wpAny_bind (wpAny_newTuple ?_ (by simp only [List.size_toArray, Array.length_toList]; exact Nat.le_trans (show vs.length ≤ 1000 by omega) (by decide)))
      have e5 : (vs.toArray.toList : List Value) = vs := by simp
      rw [e5]
      have hz6 : ZAt (h.push { cls := .type "tuple", data := .seq vs.toArray }) z TI TO .ellipsis f1 := Heap.get?_push_of_some _ u.zat
      refine wpAny_bind (hand_out hz6 fun h7 hz7 sb7 => wpAny_pure ⟨_, rfl, ?_⟩)
      show Q (.ref h.objs.size) _
      rw [u.sz]
      rw [u.sz] at hz7
      have up : ∀ c o, c ≠ z → h.get? c = some o → h7.get? c = some o := fun c o c1 e => sb7.extBut _ _ c1 (Heap.get?_push_of_some _ e)
      refine hQ h7 ⟨⟨_, _, .inr ⟨_, rfl⟩, hz7⟩, ⟨vs, hvl, up _ _ D.TOz uto⟩, fun k q hk => ?_, ?_, ?_, fun c o c1 c2 c3 e => up c o c1 (u.kept c o c1 c2 c3 e)⟩
      · have q1 := u.at_ k q hk
        rw [if_pos (List.getElem?_eq_some_iff.mp hk).1] at q1
        exact Src.keep q1 fun o e => up _ o (D.itz q (List.mem_of_getElem? hk)) e
      · show Heap.get? _ _ = _
        have hne2 : s.heap.objs.size ≠ z := Nat.ne_of_gt hzlt
        refine sb7.extBut _ _ hne2 ?_
        rw [← u.sz]
        exact Heap.get?_push_size _ rfl
      · rw [sb7.1, Heap.size_push, u.sz]
  · -- a new tuple
    rw [if_neg Bool.false_ne_true]
    obtain ⟨f1', hz'⟩ := hz'
    have u0 : Upto z TI TO qs i f0 f1' s.heap os 0 h' := ⟨sb.1, fun c o c1 _ _ e => sb.extBut _ _ c1 e, hz', sb.extBut _ _ D.TOz hTO, fun k q hk => by
      rw [if_neg (Nat.not_lt_zero _)]
      exact Src.keep (hat k q hk) fun o e => sb.extBut _ _ (D.itz q (List.mem_of_getElem? hk)) e⟩
    simp only [List.forIn_toArray]
    refine wpAny_bind (walk_list (fun l b s' => ∃ j, j ≤ qs.length ∧ l = (qs.map fun q => Value.ref q.it).drop j ∧ b = (none, (vs.take j).toArray) ∧ ∃ h, s' = { s with heap := h } ∧ Upto z TI TO qs i f0 f1' s.heap os j h)
      (fun a r b s' hI => ?_) (fun b s' hI => ?_) _ _ _ ⟨0, Nat.zero_le _, by simp, by simp, h', rfl, u0⟩)
    · obtain ⟨j, hj, el, rfl, h, rfl, u⟩ := hI
      have hjl : j < qs.length := by
        have := congrArg List.length el
        simp at this
        omega
      obtain ⟨q, hq⟩ : ∃ q, qs[j]? = some q := ⟨qs[j], List.getElem?_eq_getElem hjl⟩
      have ea : a = .ref q.it ∧ r = (qs.map fun q => Value.ref q.it).drop (j + 1) := by
        have hlen : j < (qs.map fun q => Value.ref q.it).length := by simpa using hjl
        rw [List.drop_eq_getElem_cons hlen] at el
        injection el with e1 e2
        refine ⟨e1.trans ?_, e2⟩
        have : qs[j] = q := (List.getElem?_eq_some_iff.mp hq).2
        simp [this]
      obtain ⟨rfl, rfl⟩ := ea
      have hm : q ∈ qs := List.mem_of_getElem? hq
      obtain ⟨xs, v, x1, x2, x3⟩ := hv j q hq
      have atq := u.at_ j q hq
      rw [if_neg (Nat.lt_irrefl _)] at atq
      refine wpAny_bind (wpAny_holding ?_)
      show wpAny _ _ (Builtin.SmallTypes.nextOf (.ref q.it) >>= _) _ _ _
      refine wpAny_bind (draw_item atq (its_now D u hm x1) x3 fun h2 y1 sb2 => wpAny_pure ?_)
      refine wpAny_pure ⟨_, rfl, j + 1, hjl, rfl, ?_, h2, rfl, drawn D u hq y1 sb2⟩
      obtain ⟨g1, g2⟩ := List.getElem?_eq_some_iff.mp x2
      rw [List.take_succ_eq_append_getElem g1, g2]
      simp
    · obtain ⟨j, hj, el, rfl, h, rfl, u⟩ := hI
      have hjl : j = qs.length := by
        have := congrArg List.length el
        simp at this
        omega
      subst hjl
      have ev : vs.take qs.length = vs := List.take_of_length_le (by omega)
      simp only [ev]
      refine wpAny_bind (wpAny_newTuple ?_ (Nat.le_trans (show vs.length ≤ 1000 by omega) (by decide)))
      refine wpAny_pure ⟨_, rfl, ?_⟩
      show Q (.ref h.objs.size) _
      rw [u.sz]
      have up : ∀ c o, h.get? c = some o → (h.push { cls := .type "tuple", data := .seq vs.toArray }).get? c = some o := fun c o e => Heap.get?_push_of_some _ e
      refine hQ _ ⟨⟨f0, f1', hw, up _ _ u.zat⟩, ⟨os, hos, up _ _ u.to⟩, fun k q hk => ?_, ?_, ?_, fun c o c1 c2 c3 e => up c o (u.kept c o c1 c2 c3 e)⟩
      · have q1 := u.at_ k q hk
        rw [if_pos (List.getElem?_eq_some_iff.mp hk).1] at q1
        exact Src.keep q1 fun o e => up _ o e
      · show Heap.get? _ _ = _
        rw [← u.sz]
        exact Heap.get?_push_size _ rfl
      · rw [Heap.size_push, u.sz]
theorem zip_end {z TI TO : Addr} {f0 f1 : Value} {qs : List Src} {i j0 : Nat} {os : List Value} {q0 : Src} {xs0 : Array Value} {Q : PySem.Fin → Shared → Prop} (hh : A.handled = none) (D : Apart z TI TO qs) (hw : Owd f0) (hz : ZAt s.heap z TI TO f0 f1) (hTI : TupA s.heap TI (qs.map fun q => .ref q.it))
    (hTO : TupA s.heap TO os) (hn : qs.length ≤ 1000) (hos : os.length = qs.length) (hat : ∀ (k : Nat) (q : Src), qs[k]? = some q → q.at_ s.heap i) (hq0 : qs[j0]? = some q0) (hx0 : q0.its s.heap xs0) (he0 : xs0[i]? = none)
    (hv : ∀ (k : Nat) (q : Src), k < j0 → qs[k]? = some q → ∃ xs v, q.its s.heap xs ∧ xs[i]? = some v)
    (hE : ∀ h' e, Kept z TO qs s.heap h' → (∃ o, h'.get? e = some o ∧ o.cls = .type "StopIteration") → E (.ref e) { s with heap := h' }) :
    wpAny (model prog w) A (Builtin.«zip.__next__» ⟨[.ref z], []⟩) Q E s := by
  have hne : qs ≠ [] := fun e => by subst e; simp at hq0
  have hj0 : j0 < qs.length := (List.getElem?_eq_some_iff.mp hq0).1
  show wpAny _ _ (field (.ref z) 2 >>= _) _ _ _
  refine wpAny_bind (wpAny_field hz rfl (x := .bool false) rfl ?_)
  show wpAny _ _ (field (.ref z) 3 >>= _) _ _ _
  refine wpAny_bind (wpAny_field hz rfl (x := .ref TI) rfl ?_)
  refine wpAny_bind (wpAny_seqItems hTI rfl ?_)
  have he : (qs.map fun q => Value.ref q.it).toArray.isEmpty = false := by
    cases qs with
    | nil => exact absurd rfl hne
    | cons q qs => simp
  have hzlt : z < s.heap.objs.size := Heap.lt_size hz
  have hm0 : q0 ∈ qs := List.mem_of_getElem? hq0
  simp only [he, Bool.false_eq_true, if_false]
  refine wpAny_bind (free_or hw hz ?_ fun h' hz' sb => ?_)
  · rw [if_pos rfl]
    refine wpAny_bind (wpAny_rule ?_)
    refine wpAny_bind (wpAny_field hz rfl (x := .ref TO) rfl ?_)
    refine wpAny_bind (wpAny_setField_rec hz (by simp) fun h1 hz1 sb1 => ?_)
    replace hz1 : ZAt h1 z TI TO .ellipsis f1 := hz1
    have u0 : Upto z TI TO qs i .ellipsis f1 s.heap os 0 h1 := ⟨sb1.1, fun c o c1 _ _ e => sb1.extBut _ _ c1 e, hz1, sb1.extBut _ _ D.TOz hTO, fun k q hk => by
      rw [if_neg (Nat.not_lt_zero _)]
      exact Src.keep (hat k q hk) fun o e => sb1.extBut _ _ (D.itz q (List.mem_of_getElem? hk)) e⟩
    refine wpAny_bind (walk_list (fun l b s' => b = (none, ()) ∧ ∃ j, j ≤ j0 ∧ l = ((qs.map fun q => Value.ref q.it).zipIdx).drop j ∧ ∃ h os', os'.length = qs.length ∧ s' = { s with heap := h } ∧ Upto z TI TO qs i .ellipsis f1 s.heap os' j h)
      (fun a r b s' hI => ?_) (fun b s' hI => ?_) _ _ _ ⟨rfl, 0, Nat.zero_le _, by simp, h1, os, hos, rfl, u0⟩)
    · obtain ⟨rfl, j, hj, el, h, os', hos', rfl, u⟩ := hI
      have hjl : j < qs.length := by omega
      obtain ⟨q, hq⟩ : ∃ q, qs[j]? = some q := ⟨qs[j], List.getElem?_eq_getElem hjl⟩
      have ea : a = (.ref q.it, j) ∧ r = ((qs.map fun q => Value.ref q.it).zipIdx).drop (j + 1) := by
        have hlen : j < ((qs.map fun q => Value.ref q.it).zipIdx).length := by simpa using hjl
        rw [List.drop_eq_getElem_cons hlen] at el
        injection el with e1 e2
        refine ⟨e1.trans ?_, e2⟩
        have : qs[j] = q := (List.getElem?_eq_some_iff.mp hq).2
        simp [this]
      obtain ⟨rfl, rfl⟩ := ea
      have hm : q ∈ qs := List.mem_of_getElem? hq
      have atq := u.at_ j q hq
      rw [if_neg (Nat.lt_irrefl _)] at atq
      simp only
      refine wpAny_bind (wpAny_onRaise ?_)
      show wpAny _ _ (Builtin.SmallTypes.nextOf (.ref q.it) >>= _) _ _ _
      by_cases hjj : j < j0
      · obtain ⟨xs, v, x1, x3⟩ := hv j q hjj hq
        refine wpAny_bind (draw_item atq (its_now D u hm x1) x3 fun h2 y1 sb2 => wpAny_pure ?_)
        have u2 := drawn D u hq y1 sb2
        refine wpAny_bind (wpAny_seqItems u2.to rfl ?_)
        have hos2 : os'.toArray.size ≤ sizeLine := by
          rw [List.size_toArray]
          exact Nat.le_trans (show _ ≤ 2000 by omega) (by decide)
        refine wpAny_bind (wpAny_updateSeq u2.to rfl ?_ hos2 (by simp only [Array.size_setIfInBounds]; exact Nat.le_succ_of_le hos2))
        refine wpAny_bind (wpAny_letGo (wpAny_pure ⟨_, rfl, rfl, j + 1, hjj, rfl, _, os'.set j v, by simp [hos'], rfl, ?_⟩))
        have sb3 : Heap.SameBut TO h2 (h2.update TO (Obj.mapSeq fun x => x.setIfInBounds j v)) := Heap.SameBut.update ..
        refine ⟨sb3.1.trans u2.sz, fun c o c1 c2 c3 e => sb3.extBut _ _ c2 (u2.kept c o c1 c2 c3 e), sb3.extBut _ _ D.TOz.symm u2.zat, ?_, fun k p hp => Src.keep (u2.at_ k p hp) fun o e => sb3.extBut _ _ (D.itTO p (List.mem_of_getElem? hp)) e⟩
        show Heap.get? _ TO = _
        rw [Heap.get?_update_self _ u2.to rfl]
        simp [Obj.mapSeq]
      · have ej : j = j0 := by omega
        subst ej
        rw [hq0] at hq
        cases hq
        refine wpAny_bind (draw_end hh atq (its_now D u hm hx0) he0 fun h2 e sb2 he2 => ?_)
        obtain ⟨oe, hoe, hce⟩ := he2
        have hz2 : ZAt h2 z TI TO .ellipsis f1 := sb2 _ _ (D.itz q0 hm0).symm u.zat
        have hez : e ≠ z := fun x => by subst x; rw [hz2] at hoe; cases hoe; simp at hce
        refine wpAny_setField_rec hz2 (by simp) fun h3 _ sb3 => hE h3 e (fun c o c1 c2 c3 x => sb3.extBut _ _ c1 (sb2 _ _ (c3 q0 hm0) (u.kept c o c1 c2 c3 x))) ⟨oe, sb3.extBut _ _ hez hoe, hce⟩
    · obtain ⟨rfl, j, hj, el, h, _, _, rfl, u⟩ := hI
      exfalso
      have := congrArg List.length el
      simp at this
      omega
  · rw [if_neg Bool.false_ne_true]
    obtain ⟨f1', hz'⟩ := hz'
    have u0 : Upto z TI TO qs i f0 f1' s.heap os 0 h' := ⟨sb.1, fun c o c1 _ _ e => sb.extBut _ _ c1 e, hz', sb.extBut _ _ D.TOz hTO, fun k q hk => by
      rw [if_neg (Nat.not_lt_zero _)]
      exact Src.keep (hat k q hk) fun o e => sb.extBut _ _ (D.itz q (List.mem_of_getElem? hk)) e⟩
    simp only [List.forIn_toArray]
    refine wpAny_bind (walk_list (fun l b s' => ∃ j, j ≤ j0 ∧ l = (qs.map fun q => Value.ref q.it).drop j ∧ b.1 = none ∧ ∃ h, s' = { s with heap := h } ∧ Upto z TI TO qs i f0 f1' s.heap os j h)
      (fun a r b s' hI => ?_) (fun b s' hI => ?_) _ _ _ ⟨0, Nat.zero_le _, by simp, rfl, h', rfl, u0⟩)
    · obtain ⟨j, hj, el, eb, h, rfl, u⟩ := hI
      have hjl : j < qs.length := by omega
      obtain ⟨q, hq⟩ : ∃ q, qs[j]? = some q := ⟨qs[j], List.getElem?_eq_getElem hjl⟩
      have ea : a = .ref q.it ∧ r = (qs.map fun q => Value.ref q.it).drop (j + 1) := by
        have hlen : j < (qs.map fun q => Value.ref q.it).length := by simpa using hjl
        rw [List.drop_eq_getElem_cons hlen] at el
        injection el with e1 e2
        refine ⟨e1.trans ?_, e2⟩
        have : qs[j] = q := (List.getElem?_eq_some_iff.mp hq).2
        simp [this]
      obtain ⟨rfl, rfl⟩ := ea
      have hm : q ∈ qs := List.mem_of_getElem? hq
      have atq := u.at_ j q hq
      rw [if_neg (Nat.lt_irrefl _)] at atq
      refine wpAny_bind (wpAny_holding ?_)
      show wpAny _ _ (Builtin.SmallTypes.nextOf (.ref q.it) >>= _) _ _ _
      by_cases hjj : j < j0
      · obtain ⟨xs, v, x1, x3⟩ := hv j q hjj hq
        refine wpAny_bind (draw_item atq (its_now D u hm x1) x3 fun h2 y1 sb2 => wpAny_pure ?_)
        exact wpAny_pure ⟨_, rfl, j + 1, hjj, rfl, rfl, h2, rfl, drawn D u hq y1 sb2⟩
      · have ej : j = j0 := by omega
        subst ej
        rw [hq0] at hq
        cases hq
        exact wpAny_bind (draw_end hh atq (its_now D u hm hx0) he0 fun h2 e sb2 he2 => hE h2 e (fun c o c1 c2 c3 x => sb2 _ _ (c3 q0 hm0) (u.kept c o c1 c2 c3 x)) he2)
    · obtain ⟨j, hj, el, _, h, rfl, u⟩ := hI
      exfalso
      have := congrArg List.length el
      simp at this
      omega
theorem pyNext_item {z TI TO : Addr} {f0 f1 : Value} {qs : List Src} {i : Nat} {os vs : List Value} {Q : Option Value → Shared → Prop} (D : Apart z TI TO qs) (hw : Owd f0) (hz : ZAt s.heap z TI TO f0 f1) (hTI : TupA s.heap TI (qs.map fun q => .ref q.it)) (hne : qs ≠ [])
    (hTO : TupA s.heap TO os) (hos : os.length = qs.length) (hn : qs.length ≤ 1000) (hat : ∀ (k : Nat) (q : Src), qs[k]? = some q → q.at_ s.heap i) (hvl : vs.length = qs.length)
    (hv : ∀ (k : Nat) (q : Src), qs[k]? = some q → ∃ xs v, q.its s.heap xs ∧ vs[k]? = some v ∧ xs[i]? = some v) (hQ : ∀ h', Next z TI TO qs i vs s.heap h' → Q (some (.ref s.heap.objs.size)) { s with heap := h' }) :
    wpAny (model prog w) A (pyNext (.ref z)) Q E s := by
  have hT : s.TypeIs (.ref z) "zip" := ⟨_, hz, rfl⟩
  unfold pyNext
  exact wpAny_bind (wpAny_attempt (wpAny_callSpecial?_slot (name := Str.ofString "__next__") hT F.slot_zip_next (wpAny_call_entry F.slot_zip_next hT F.entry_zip_next
    (zip_item D hw hz hTI hne hTO hos hn hat hvl hv fun h' N => wpAny_pure (hQ h' N)) (F.args_zip_next_1 _))))
theorem pyNext_end {z TI TO : Addr} {f0 f1 : Value} {qs : List Src} {i j0 : Nat} {os : List Value} {q0 : Src} {xs0 : Array Value} {Q : Option Value → Shared → Prop} (hh : A.handled = none) (D : Apart z TI TO qs) (hw : Owd f0) (hz : ZAt s.heap z TI TO f0 f1) (hTI : TupA s.heap TI (qs.map fun q => .ref q.it))
    (hTO : TupA s.heap TO os) (hn : qs.length ≤ 1000) (hos : os.length = qs.length) (hat : ∀ (k : Nat) (q : Src), qs[k]? = some q → q.at_ s.heap i) (hq0 : qs[j0]? = some q0) (hx0 : q0.its s.heap xs0) (he0 : xs0[i]? = none)
    (hv : ∀ (k : Nat) (q : Src), k < j0 → qs[k]? = some q → ∃ xs v, q.its s.heap xs ∧ xs[i]? = some v) (hQ : ∀ h', Kept z TO qs s.heap h' → Q none { s with heap := h' }) : wpAny (model prog w) A (pyNext (.ref z)) Q E s := by
  have hT : s.TypeIs (.ref z) "zip" := ⟨_, hz, rfl⟩
  unfold pyNext
  refine wpAny_bind (wpAny_attempt (wpAny_callSpecial?_slot (name := Str.ofString "__next__") hT F.slot_zip_next (wpAny_call_entry F.slot_zip_next hT F.entry_zip_next
    (zip_end hh D hw hz hTI hTO hn hos hat hq0 hx0 he0 hv fun h' e hk he => ?_) (F.args_zip_next_1 _))))
  obtain ⟨o, ho, hc⟩ := he
  refine wpAny_bind (wpAny_isInstance (T := "StopIteration") (b := true) ⟨o, ho, hc⟩ isSubtype_stop ?_)
  exact wpAny_pure (hQ _ hk)
/-- ahead of the store -/
theorem let_go {tg : Expr} {z TI TO T : Addr} {f0 f1 : Value} {Q : Unit → Shared → Prop} (hw : Owd f0) (hz : ZAt s.heap z TI TO f0 f1) (hQ : ∀ h', (∃ f0 f1, Owd f0 ∧ ZAt h' z TI TO f0 f1) → Heap.SameBut z s.heap h' → Q () { s with heap := h' }) :
    wpAny (model prog w) A (letOwnedTupleGo tg (.ref z) (.ref T)) Q E s := by
  have same : Q () s := hQ s.heap ⟨_, _, hw, hz⟩ ⟨rfl, fun _ _ => rfl⟩
  have go : wpAny (model prog w) A (do
      let o ← load z
      match o.cls, o.data with
      | .type n, .fields vs =>
        if ["enumerate", "zip", "dict_itemiterator", "dict_reverseitemiterator", "odict_iterator", "itertools.zip_longest", "itertools.pairwise"].contains n && vs[0]? == some (rawInt T) then
          rule "for.unpacks-the-owned-tuple"
          updateField z 0 .none
      | _, _ => pure ()) Q E s := by
    refine wpAny_bind (wpAny_load hz ?_)
    simp only
    split
    · refine wpAny_bind (wpAny_rule ?_)
      show wpAny _ _ (setField (.ref z) 0 .none) Q E s
      exact wpAny_setField_rec hz (by simp) fun h' hz' hs' => hQ h' ⟨_, _, .inl rfl, hz'⟩ hs'
    · exact wpAny_pure same
  unfold letOwnedTupleGo
  cases tg <;> first
    | exact wpAny_pure same
    | exact go
theorem iter_zip {z TI TO : Addr} {f0 f1 : Value} {Q : Value → Shared → Prop} (hz : ZAt s.heap z TI TO f0 f1) (h : Q (.ref z) s) : wpAny (model prog w) A (pyIter (.ref z)) Q E s := by
  have hT : s.TypeIs (.ref z) "zip" := ⟨_, hz, rfl⟩
  refine wpAny_pyIter_slot hT F.slot_zip_iter (wpAny_call_entry F.slot_zip_iter hT F.entry_zip_iter ?_ (F.args_zip_iter_1 _))
  show wpAny _ _ (ret (.ref z)) _ _ s
  exact wpAny_pure ⟨_, rfl, "zip", _, hT, F.slot_zip_next.lookup, h⟩
end
def itObj (tp : Bool) (l : Addr) : Obj := { cls := .type (if tp = true then "tuple_iterator" else "list_iterator"), data := .fields #[.ref l, .int 0 0] }
theorem src_new {tp : Bool} {l : Addr} {h : Heap} {a : Addr} (e : h.get? a = some (itObj tp l)) : (Src.mk tp a l).at_ h 0 := by
  cases tp with
  | true => exact ⟨_, e, rfl, rfl⟩
  | false => exact ⟨_, e, rfl, rfl⟩
def SrcIts (h : Heap) (tp : Bool) (l : Addr) (xs : Array Value) : Prop := if tp = true then h.IsTuple l xs else h.IsList l xs
theorem SrcIts.keep {h h' : Heap} {tp : Bool} {l : Addr} {xs : Array Value} (x : SrcIts h tp l xs) (e : ∀ o, h.get? l = some o → h'.get? l = some o) : SrcIts h' tp l xs := Src.keepI (q := ⟨tp, l, l⟩) x e
section
variable {prog : Program} {w : World} {A : Around} {E : Value → Shared → Prop} {s : Shared}
theorem iter_src {tp : Bool} {l : Addr} {xs : Array Value} {Q : Value → Shared → Prop} (h : SrcIts s.heap tp l xs) (hQ : Q (.ref s.heap.objs.size) { s with heap := s.heap.push (itObj tp l) }) : wpAny (model prog w) A (pyIter (.ref l)) Q E s := by
  cases tp with
  | true => exact wpAny_pyIter_tuple (show s.heap.IsTuple l xs from h) hQ
  | false => exact wpAny_pyIter_list (show s.heap.IsList l xs from h) hQ
end
/-! the heap behind zip(a, b), zip(a, b, c) -/
abbrev zA (h : Heap) (t : Bool) (a : Addr) : Heap := h.push (itObj t a)
abbrev zT (h g : Heap) (l : List Value) : Heap := g.push { cls := .type "tuple", data := .seq l.toArray }
abbrev zZ (h2 h3 h4 : Heap) : Heap := h4.push { cls := .type "zip", data := .fields #[.none, .bool false, .bool false, .ref h2.objs.size, .ref h3.objs.size] }
abbrev l2 (h : Heap) (t1 : Bool) (a : Addr) : List Value := [.ref h.objs.size, .ref (zA h t1 a).objs.size]
abbrev l3 (h : Heap) (t1 t2 : Bool) (a b : Addr) : List Value := [.ref h.objs.size, .ref (zA h t1 a).objs.size, .ref (zA (zA h t1 a) t2 b).objs.size]
abbrev g2 (h : Heap) (t1 t2 : Bool) (a b : Addr) : Heap := zA (zA h t1 a) t2 b
abbrev g3 (h : Heap) (t1 t2 t3 : Bool) (a b c : Addr) : Heap := zA (zA (zA h t1 a) t2 b) t3 c
theorem meets_zip2 (t1 t2 : Bool) (a b : Addr) (xs ys : Array Value) :
    Meets (Builtin.«zip.__new__» ⟨[.type "zip", .ref a, .ref b], []⟩) (fun _ R s => SrcIts s.heap t1 a xs ∧ SrcIts s.heap t2 b ys ∧
      R (.ok (.ret (.ref (zT s.heap (zT s.heap (g2 s.heap t1 t2 a b) (l2 s.heap t1 a)) [.none, .none]).objs.size))) { s with heap := zZ (g2 s.heap t1 t2 a b) (zT s.heap (g2 s.heap t1 t2 a b) (l2 s.heap t1 a)) (zT s.heap (zT s.heap (g2 s.heap t1 t2 a b) (l2 s.heap t1 a)) [.none, .none]) }) :=
  .of_wp fun prog w A R s h => by
    obtain ⟨hp, g, d, tk, os⟩ := s; obtain ⟨h1, h2, h⟩ := h
    have hsub := sub_zip
    have hL1 : SrcIts (Shared.heap ⟨hp, g, d, tk, os⟩) t1 a xs := h1
    have hL2 : SrcIts (Shared.heap ⟨hp.push (itObj t1 a), g, d, tk, os⟩) t2 b ys := h2.keep fun o e => Heap.get?_push_of_some _ e
    wp_walk using iter_src hL1, iter_src hL2
    exact ⟨_, rfl, h⟩
theorem meets_zip3 (t1 t2 t3 : Bool) (a b c : Addr) (xs ys zs : Array Value) :
    Meets (Builtin.«zip.__new__» ⟨[.type "zip", .ref a, .ref b, .ref c], []⟩) (fun _ R s => SrcIts s.heap t1 a xs ∧ SrcIts s.heap t2 b ys ∧ SrcIts s.heap t3 c zs ∧
      R (.ok (.ret (.ref (zT s.heap (zT s.heap (g3 s.heap t1 t2 t3 a b c) (l3 s.heap t1 t2 a b)) [.none, .none, .none]).objs.size))) { s with heap := zZ (g3 s.heap t1 t2 t3 a b c) (zT s.heap (g3 s.heap t1 t2 t3 a b c) (l3 s.heap t1 t2 a b)) (zT s.heap (zT s.heap (g3 s.heap t1 t2 t3 a b c) (l3 s.heap t1 t2 a b)) [.none, .none, .none]) }) :=
  .of_wp fun prog w A R s h => by
    obtain ⟨hp, g, d, tk, os⟩ := s; obtain ⟨h1, h2, h3, h⟩ := h
    have hsub := sub_zip
    have hL1 : SrcIts (Shared.heap ⟨hp, g, d, tk, os⟩) t1 a xs := h1
    have hL2 : SrcIts (Shared.heap ⟨hp.push (itObj t1 a), g, d, tk, os⟩) t2 b ys := h2.keep fun o e => Heap.get?_push_of_some _ e
    have hL3 : SrcIts (Shared.heap ⟨(hp.push (itObj t1 a)).push (itObj t2 b), g, d, tk, os⟩) t3 c zs := h3.keep fun o e => Heap.get?_push_of_some _ (Heap.get?_push_of_some _ e)
    wp_walk using iter_src hL1, iter_src hL2, iter_src hL3
    exact ⟨_, rfl, h⟩
theorem typeCall_zip_3 (a b c : Value) : checkTypeCall "zip" ⟨[a, b, c], []⟩ = pure () := by kernel_rfl
theorem newCall_zip_3 (a b c : Value) : checkBuiltinCall "zip.__new__" ⟨[.type "zip", a, b, c], []⟩ = pure () := by kernel_rfl
theorem args_object_init_4 (a b c d : Value) : argsOk "object.__init__" ⟨[a, b, c, d], []⟩ := by
  unfold argsOk; rw [signature?_of (id := "object.__init__") (n := ['_', '_', 't', 'i', 'n', 'i', '_', '_']) (o := ['t', 'c', 'e', 'j', 'b', 'o']) (by kernel_rfl) F.owner_object]; kernel_rfl
/-- what a call of zip lays -/
structure Laid (qs : List Src) (h h' : Heap) (z : Addr) : Prop where
  zat : ZAt h' z (h.objs.size + qs.length) (h.objs.size + qs.length + 1) .none (.bool false)
  zis : z = h.objs.size + qs.length + 2
  ti : TupA h' (h.objs.size + qs.length) (qs.map fun q => .ref q.it)
  to : ∃ os, os.length = qs.length ∧ TupA h' (h.objs.size + qs.length + 1) os
  at_ : ∀ (k : Nat) (q : Src), qs[k]? = some q → q.it = h.objs.size + k ∧ q.at_ h' 0
  kept : ∀ c o, h.get? c = some o → h'.get? c = some o
section
variable {prog : Program} {w : World} {A : Around} {E : Value → Shared → Prop} {s : Shared}
theorem call_zip2 {t1 t2 : Bool} {a b : Addr} {xs ys : Array Value} {Q : Value → Shared → Prop} (h1 : SrcIts s.heap t1 a xs) (h2 : SrcIts s.heap t2 b ys)
    (hQ : ∀ h' z, Laid [⟨t1, s.heap.objs.size, a⟩, ⟨t2, s.heap.objs.size + 1, b⟩] s.heap h' z → Q (.ref z) { s with heap := h' }) : wpAny (model prog w) A (call (.type "zip") [.ref a, .ref b]) Q E s := by
  refine callType_new F.called_zip (by decide) (F.typeCall_zip_2 _ _) (F.newCall_zip_2 _ _) (fun obj => F.args_object_init_3 obj _ _) F.entry_zip_new (meets_zip2 t1 t2 a b xs ys) ⟨h1, h2, ?_⟩
  have z1 : (zA s.heap t1 a).objs.size = s.heap.objs.size + 1 := Heap.size_push ..
  have z2' : (g2 s.heap t1 t2 a b).objs.size = s.heap.objs.size + 2 := by rw [Heap.size_push, z1]
  generalize hG : g2 s.heap t1 t2 a b = G at z2'
  have up : ∀ c o, s.heap.get? c = some o → G.get? c = some o := fun c o x => by rw [← hG]; exact Heap.get?_push_of_some _ (Heap.get?_push_of_some _ x)
  have e2 : G.get? (zA s.heap t1 a).objs.size = some (itObj t2 b) := by rw [← hG]; exact Heap.get?_push_size _ rfl
  have e1 : G.get? s.heap.objs.size = some (itObj t1 a) := by rw [← hG]; exact Heap.get?_push_of_some _ (Heap.get?_push_size _ rfl)
  rw [z1] at e2
  have el : l2 s.heap t1 a = [.ref s.heap.objs.size, .ref (s.heap.objs.size + 1)] := by
    show [Value.ref s.heap.objs.size, .ref (zA s.heap t1 a).objs.size] = _
    rw [z1]
  show _ ∧ _
  rw [el]
  have z3 : (zT s.heap G [.ref s.heap.objs.size, .ref (s.heap.objs.size + 1)]).objs.size = s.heap.objs.size + 3 := by rw [Heap.size_push, z2']
  generalize hT : zT s.heap G [.ref s.heap.objs.size, .ref (s.heap.objs.size + 1)] = T at z3
  have t1' : T.get? (s.heap.objs.size + 2) = some { cls := .type "tuple", data := .seq [Value.ref s.heap.objs.size, .ref (s.heap.objs.size + 1)].toArray } := by rw [← hT, ← z2']; exact Heap.get?_push_size _ rfl
  have upT : ∀ c o, G.get? c = some o → T.get? c = some o := fun c o x => by rw [← hT]; exact Heap.get?_push_of_some _ x
  have z4 : (zT s.heap T [.none, .none]).objs.size = s.heap.objs.size + 4 := by rw [Heap.size_push, z3]
  generalize hU : zT s.heap T [.none, .none] = U at z4
  have t2' : U.get? (s.heap.objs.size + 3) = some { cls := .type "tuple", data := .seq [Value.none, .none].toArray } := by rw [← hU, ← z3]; exact Heap.get?_push_size _ rfl
  have upU : ∀ c o, T.get? c = some o → U.get? c = some o := fun c o x => by rw [← hU]; exact Heap.get?_push_of_some _ x
  rw [show zZ G T U = U.push { cls := .type "zip", data := .fields #[.none, .bool false, .bool false, .ref (s.heap.objs.size + 2), .ref (s.heap.objs.size + 3)] } by show Heap.push U _ = _; rw [z2', z3]]
  have e5 : (U.push { cls := .type "zip", data := .fields #[.none, .bool false, .bool false, .ref (s.heap.objs.size + 2), .ref (s.heap.objs.size + 3)] }).get? U.objs.size = some _ := Heap.get?_push_size _ rfl
  have upZ : ∀ c o, U.get? c = some o → (U.push { cls := .type "zip", data := .fields #[.none, .bool false, .bool false, .ref (s.heap.objs.size + 2), .ref (s.heap.objs.size + 3)] }).get? c = some o := fun c o x => Heap.get?_push_of_some _ x
  refine ⟨⟨_, e5, rfl⟩, ?_⟩
  rw [z4] at e5 ⊢
  refine hQ _ _ ⟨e5, rfl, upZ _ _ (upU _ _ t1'), ⟨_, rfl, upZ _ _ t2'⟩, fun k q hk => ?_, fun c o x => upZ _ _ (upU _ _ (upT _ _ (up _ _ x)))⟩
  match k, hk with
  | 0, hk => cases hk; exact ⟨rfl, src_new (upZ _ _ (upU _ _ (upT _ _ e1)))⟩
  | 1, hk => cases hk; exact ⟨rfl, src_new (upZ _ _ (upU _ _ (upT _ _ e2)))⟩
  | k + 2, hk => simp at hk
theorem call_zip3 {t1 t2 t3 : Bool} {a b c : Addr} {xs ys zs : Array Value} {Q : Value → Shared → Prop} (h1 : SrcIts s.heap t1 a xs) (h2 : SrcIts s.heap t2 b ys) (h3 : SrcIts s.heap t3 c zs)
    (hQ : ∀ h' z, Laid [⟨t1, s.heap.objs.size, a⟩, ⟨t2, s.heap.objs.size + 1, b⟩, ⟨t3, s.heap.objs.size + 2, c⟩] s.heap h' z → Q (.ref z) { s with heap := h' }) : wpAny (model prog w) A (call (.type "zip") [.ref a, .ref b, .ref c]) Q E s := by
  refine callType_new F.called_zip (by decide) (typeCall_zip_3 _ _ _) (newCall_zip_3 _ _ _) (fun obj => args_object_init_4 obj _ _ _) F.entry_zip_new (meets_zip3 t1 t2 t3 a b c xs ys zs) ⟨h1, h2, h3, ?_⟩
  have z1 : (zA s.heap t1 a).objs.size = s.heap.objs.size + 1 := Heap.size_push ..
  have z2 : (g2 s.heap t1 t2 a b).objs.size = s.heap.objs.size + 2 := by rw [Heap.size_push, z1]
  have z2' : (g3 s.heap t1 t2 t3 a b c).objs.size = s.heap.objs.size + 3 := by rw [Heap.size_push, z2]
  generalize hG : g3 s.heap t1 t2 t3 a b c = G at z2'
  have up : ∀ c o, s.heap.get? c = some o → G.get? c = some o := fun c o x => by rw [← hG]; exact Heap.get?_push_of_some _ (Heap.get?_push_of_some _ (Heap.get?_push_of_some _ x))
  have e3 : G.get? (g2 s.heap t1 t2 a b).objs.size = some (itObj t3 c) := by rw [← hG]; exact Heap.get?_push_size _ rfl
  have e2 : G.get? (zA s.heap t1 a).objs.size = some (itObj t2 b) := by rw [← hG]; exact Heap.get?_push_of_some _ (Heap.get?_push_size _ rfl)
  have e1 : G.get? s.heap.objs.size = some (itObj t1 a) := by rw [← hG]; exact Heap.get?_push_of_some _ (Heap.get?_push_of_some _ (Heap.get?_push_size _ rfl))
  rw [z2] at e3
  rw [z1] at e2
  have el : l3 s.heap t1 t2 a b = [.ref s.heap.objs.size, .ref (s.heap.objs.size + 1), .ref (s.heap.objs.size + 2)] := by
    show [Value.ref s.heap.objs.size, .ref (zA s.heap t1 a).objs.size, .ref (g2 s.heap t1 t2 a b).objs.size] = _
    rw [z1, z2]
  show _ ∧ _
  rw [el]
  have z3 : (zT s.heap G [.ref s.heap.objs.size, .ref (s.heap.objs.size + 1), .ref (s.heap.objs.size + 2)]).objs.size = s.heap.objs.size + 4 := by rw [Heap.size_push, z2']
  generalize hT : zT s.heap G [.ref s.heap.objs.size, .ref (s.heap.objs.size + 1), .ref (s.heap.objs.size + 2)] = T at z3
  have t1' : T.get? (s.heap.objs.size + 3) = some { cls := .type "tuple", data := .seq [Value.ref s.heap.objs.size, .ref (s.heap.objs.size + 1), .ref (s.heap.objs.size + 2)].toArray } := by rw [← hT, ← z2']; exact Heap.get?_push_size _ rfl
  have upT : ∀ c o, G.get? c = some o → T.get? c = some o := fun c o x => by rw [← hT]; exact Heap.get?_push_of_some _ x
  have z4 : (zT s.heap T [.none, .none, .none]).objs.size = s.heap.objs.size + 5 := by rw [Heap.size_push, z3]
  generalize hU : zT s.heap T [.none, .none, .none] = U at z4
  have t2' : U.get? (s.heap.objs.size + 4) = some { cls := .type "tuple", data := .seq [Value.none, .none, .none].toArray } := by rw [← hU, ← z3]; exact Heap.get?_push_size _ rfl
  have upU : ∀ c o, T.get? c = some o → U.get? c = some o := fun c o x => by rw [← hU]; exact Heap.get?_push_of_some _ x
  rw [show zZ G T U = U.push { cls := .type "zip", data := .fields #[.none, .bool false, .bool false, .ref (s.heap.objs.size + 3), .ref (s.heap.objs.size + 4)] } by show Heap.push U _ = _; rw [z2', z3]]
  have e5 : (U.push { cls := .type "zip", data := .fields #[.none, .bool false, .bool false, .ref (s.heap.objs.size + 3), .ref (s.heap.objs.size + 4)] }).get? U.objs.size = some _ := Heap.get?_push_size _ rfl
  have upZ : ∀ c o, U.get? c = some o → (U.push { cls := .type "zip", data := .fields #[.none, .bool false, .bool false, .ref (s.heap.objs.size + 3), .ref (s.heap.objs.size + 4)] }).get? c = some o := fun c o x => Heap.get?_push_of_some _ x
  refine ⟨⟨_, e5, rfl⟩, ?_⟩
  rw [z4] at e5 ⊢
  refine hQ _ _ ⟨e5, rfl, upZ _ _ (upU _ _ t1'), ⟨_, rfl, upZ _ _ t2'⟩, fun k q hk => ?_, fun c o x => upZ _ _ (upU _ _ (upT _ _ (up _ _ x)))⟩
  match k, hk with
  | 0, hk => cases hk; exact ⟨rfl, src_new (upZ _ _ (upU _ _ (upT _ _ e1)))⟩
  | 1, hk => cases hk; exact ⟨rfl, src_new (upZ _ _ (upU _ _ (upT _ _ e2)))⟩
  | 2, hk => cases hk; exact ⟨rfl, src_new (upZ _ _ (upU _ _ (upT _ _ e3)))⟩
  | k + 3, hk => simp at hk
end
end Z9

namespace S9
open PySem PySem.Spec PyProof.Rows L2 Z9
def Sq (K : PySem.W.Frag) (H : Hp) (q : Bool × Addr) (xs : List V) : Prop := if q.1 = true then SqT K H q.2 xs else SqL K H q.2 xs
def Itzn (K : PySem.W.Frag) (qs : List (Bool × Addr)) : It :=
  ⟨fun i H => ∀ (k : Nat) (q : Bool × Addr), qs[k]? = some q → ∃ xs, Sq K H q xs ∧ i < xs.length,
    fun i H v H' => ∃ (T : Addr) (ys : List V), v = .ref T ∧ H T = none ∧ H' = upd H T (.tup ys) ∧ ys.length = qs.length ∧ ∀ (k : Nat) (q : Bool × Addr) (xs : List V), qs[k]? = some q → Sq K H q xs → ∃ y, ys[k]? = some y ∧ xs[i]? = some y,
    fun i H => (∀ (k : Nat) (q : Bool × Addr), qs[k]? = some q → ∃ xs, Sq K H q xs) ∧ ∃ (k : Nat) (q : Bool × Addr) (xs : List V), qs[k]? = some q ∧ Sq K H q xs ∧ xs.length ≤ i⟩
theorem least {p : Nat → Prop} : ∀ n, p n → ∃ j, p j ∧ ∀ k, k < j → ¬ p k := by
  intro n
  induction n using Nat.strongRecOn with
  | ind n ih =>
    intro h
    by_cases e : ∃ k, k < n ∧ p k
    · obtain ⟨k, hk, hp⟩ := e
      exact ih k hk hp
    · exact ⟨n, h, fun k hk hp => e ⟨k, hk, hp⟩⟩
section
variable {X : Cx} {pins : List (Addr × Obj)} {σ : L2.St} {H : Hp} {s : Shared}
theorem sq_its (I : Inv X pins σ H s) {q : Bool × Addr} {xs : List V} (h : Sq X.K H q xs) : ∃ its : List Value, Vals xs its ∧ SrcIts s.heap q.1 q.2 its.toArray ∧ q.2 < s.heap.objs.size := by
  obtain ⟨tp, a⟩ := q
  cases tp with
  | true =>
    obtain ⟨its, rv, p, _⟩ := I.tuple (show SqT X.K H a xs from h)
    refine ⟨its, rv, p, ?_⟩
    obtain ⟨o, e, _⟩ := p
    exact Heap.lt_size e
  | false =>
    obtain ⟨its, rv, p, _⟩ := I.list (show SqL X.K H a xs from h)
    exact ⟨its, rv, p.isList, p.lt⟩
theorem sq_inj (I : Inv X pins σ H s) {q : Bool × Addr} {xs ys : List V} (h : Sq X.K H q xs) (h' : Sq X.K H q ys) : xs = ys := by
  obtain ⟨tp, a⟩ := q
  cases tp with
  | true => exact I.tuple_inj (show SqT X.K H a xs from h) h'
  | false => exact I.list_inj (show SqL X.K H a xs from h) h'
end
/-- the objects of a zip -/
def zfp (z TI TO : Addr) (qs : List Src) : List Addr := z :: TI :: TO :: qs.map (·.it)
def srcOf (q : Src) : Bool × Addr := (q.tp, q.l)
theorem turn_zipn {P : Program} {w : World} {K : PySem.W.Frag} {tg : Expr} {z TI TO : Addr} {qs : List Src} (D : Apart z TI TO qs) (hne : qs ≠ []) (hn : qs.length ≤ 1000) :
    Turn P w K tg (Itzn K (qs.map srcOf)) (zfp z TI TO qs) z (fun i h => (∃ f0 f1, Owd f0 ∧ ZAt h z TI TO f0 f1) ∧ TupA h TI (qs.map fun q => .ref q.it) ∧ (∃ os, os.length = qs.length ∧ TupA h TO os) ∧ ∀ (k : Nat) (q : Src), qs[k]? = some q → q.at_ h i) where
  mem := by simp [zfp]
  obj := fun i h st c hc => by
    obtain ⟨⟨f0, f1, _, hz⟩, hTI, ⟨os, _, hTO⟩, hat⟩ := st
    unfold zfp at hc
    rcases List.mem_cons.mp hc with e | hc
    · subst e; exact ⟨_, hz, fun v q => nomatch q⟩
    rcases List.mem_cons.mp hc with e | hc
    · subst e; exact ⟨_, hTI, fun v q => nomatch q⟩
    rcases List.mem_cons.mp hc with e | hc
    · subst e; exact ⟨_, hTO, fun v q => nomatch q⟩
    obtain ⟨q, hq, rfl⟩ := List.mem_map.mp hc
    obtain ⟨k, hk, e⟩ := List.getElem_of_mem hq
    exact Src.obj (hat k q (by rw [List.getElem?_eq_getElem hk, e]))
  keep := fun i h h' st k => by
    obtain ⟨⟨f0, f1, hw, hz⟩, hTI, ⟨os, hos, hTO⟩, hat⟩ := st
    exact ⟨⟨f0, f1, hw, k z (by simp [zfp]) _ hz⟩, k TI (by simp [zfp]) _ hTI, ⟨os, hos, k TO (by simp [zfp]) _ hTO⟩, fun j q hq => Src.keep (hat j q hq) fun o e => k q.it (by
      unfold zfp
      simp only [List.mem_cons]
      exact .inr (.inr (.inr (List.mem_map.mpr ⟨q, List.mem_of_getElem? hq, rfl⟩)))) o e⟩
  item := by
    intro X hP hw hK hc i pins s σ H E I hf st hg
    subst hP hw hK
    obtain ⟨⟨f0, f1, hw, hz⟩, hTI, ⟨os, hos, hTO⟩, hat⟩ := st
    have hzl : z < s.heap.objs.size := Heap.lt_size hz
    -- the items that come
    have pick : ∀ (k : Nat) (q : Src), qs[k]? = some q → ∃ (xs : List V) (y : V) (its : List Value) (u : Value), Sq X.K H (srcOf q) xs ∧ xs[i]? = some y ∧ q.its s.heap its.toArray ∧ its[i]? = some u ∧ RelV y u := fun k q hq => by
      obtain ⟨xs, h1, h2⟩ := hg k (srcOf q) (by rw [List.getElem?_map, hq]; rfl)
      obtain ⟨its, rv, h3, _⟩ := sq_its I h1
      obtain ⟨u, h4, h5⟩ := rv.get (List.getElem?_eq_getElem h2)
      exact ⟨xs, xs[i], its, u, h1, List.getElem?_eq_getElem h2, h3, h4, h5⟩
    have all : ∀ l : List Src, (∀ q ∈ l, ∃ (xs : List V) (y : V) (its : List Value) (u : Value), Sq X.K H (srcOf q) xs ∧ xs[i]? = some y ∧ q.its s.heap its.toArray ∧ its[i]? = some u ∧ RelV y u) →
        ∃ (ys : List V) (us : List Value), Vals ys us ∧ ys.length = l.length ∧ ∀ (k : Nat) (q : Src), l[k]? = some q → ∃ (xs : List V) (y : V) (its : List Value) (u : Value), Sq X.K H (srcOf q) xs ∧ xs[i]? = some y ∧ ys[k]? = some y ∧ q.its s.heap its.toArray ∧ its[i]? = some u ∧ us[k]? = some u := by
      intro l
      induction l with
      | nil => intro _; exact ⟨[], [], .nil, rfl, fun k q hk => by simp at hk⟩
      | cons a l ih =>
        intro h
        obtain ⟨ys, us, r, hl, h2⟩ := ih fun q hq => h q (List.mem_cons_of_mem _ hq)
        obtain ⟨xs, y, its, u, a1, a2, a3, a4, a5⟩ := h a (List.mem_cons_self ..)
        refine ⟨y :: ys, u :: us, .cons a5 r, by simp [hl], fun k q hk => ?_⟩
        cases k with
        | zero => simp at hk; subst hk; exact ⟨xs, y, its, u, a1, a2, rfl, a3, a4, rfl⟩
        | succ k => simp at hk; obtain ⟨xs, y, its, u, b1, b2, b3, b4, b5, b6⟩ := h2 k q hk; exact ⟨xs, y, its, u, b1, b2, by simpa using b3, b4, b5, by simpa using b6⟩
    obtain ⟨ys, us, ry, hyl, hall⟩ := all qs fun q hq => by
      obtain ⟨k, hk, e⟩ := List.getElem_of_mem hq
      exact pick k q (by rw [List.getElem?_eq_getElem hk, e])
    have hul : us.length = qs.length := ry.length.symm.trans hyl
    refine pyNext_item (vs := us) D hw hz hTI hne hTO hos hn hat hul (fun k q hq => ?_) fun h' N => ?_
    · obtain ⟨xs, y, its, u, b1, b2, b3, b4, b5, b6⟩ := hall k q hq
      exact ⟨its.toArray, u, b4, b6, by simpa using b5⟩
    obtain ⟨g0, g1, hw', hz'⟩ := N.zat
    refine ⟨_, rfl, let_go (s := { s with heap := h' }) hw' hz' fun h'' z'' sb => ?_⟩
    have hT2 : h''.get? s.heap.objs.size = some { cls := .type "tuple", data := .seq us.toArray } := (sb.2 _ (Nat.ne_of_gt hzl)).trans N.new
    have hline : ys.length ≤ sizeLine := by rw [hyl]; exact Nat.le_trans hn (by decide)
    have new : ObjOk X.prog X.w (upd H s.heap.objs.size (.tup ys)) h'' s.heap.objs.size (.tup ys) := ⟨hline, us, ry, ⟨_, hT2, rfl, _, rfl⟩⟩
    have inits : ∀ q ∈ qs, q.it ∈ zfp z TI TO qs := fun q hq => by
      unfold zfp
      simp only [List.mem_cons]
      exact .inr (.inr (.inr (List.mem_map.mpr ⟨q, hq, rfl⟩)))
    have I1 : Inv X pins σ (upd H s.heap.objs.size (.tup ys)) { s with heap := h'' } :=
      I.turnedNew (t' := s.toks) (ch := zfp z TI TO qs) (fun c o hb q => by
        have c1 : c ≠ z := fun e => hb (by rw [e]; simp [zfp])
        have c2 : c ≠ TO := fun e => hb (by rw [e]; simp [zfp])
        exact (sb.2 c c1).trans (N.kept c o c1 c2 (fun q hq e => hb (e ▸ inits q hq)) q)) hf (Nat.le_refl _) new
    refine ⟨.ref s.heap.objs.size, _, I1, rfl, ⟨_, ys, rfl, I.hok.fresh (Nat.le_refl _), rfl, by rw [hyl, List.length_map], fun k q xs hk hx => ?_⟩, ⟨z'', ?_, ?_, fun k q hq => ?_⟩, fun c hcm => ?_⟩
    · rw [List.getElem?_map] at hk
      cases e : qs[k]? with
      | none => rw [e] at hk; cases hk
      | some p =>
        rw [e] at hk
        have hk : srcOf p = q := Option.some.inj hk
        obtain ⟨xs', y, its, u, b1, b2, b3, _⟩ := hall k p e
        rw [hk] at b1
        rw [sq_inj I hx b1]
        exact ⟨y, b3, b2⟩
    · exact (sb.2 _ D.TIz).trans (N.kept _ _ D.TIz D.TITO (fun q hq => (D.itTI q hq).symm) hTI)
    · obtain ⟨os', h1, h2⟩ := N.to
      exact ⟨os', h1, (sb.2 _ D.TOz).trans h2⟩
    · exact Src.keep (N.at_ k q hq) fun o e => (sb.2 _ (D.itz q (List.mem_of_getElem? hq))).trans e
    · have hlt : c < s.heap.objs.size := by
        unfold zfp at hcm
        rcases List.mem_cons.mp hcm with e | hcm
        · rw [e]; exact hzl
        rcases List.mem_cons.mp hcm with e | hcm
        · rw [e]; exact Heap.lt_size hTI
        rcases List.mem_cons.mp hcm with e | hcm
        · rw [e]; exact Heap.lt_size hTO
        obtain ⟨q, hq, rfl⟩ := List.mem_map.mp hcm
        obtain ⟨k, hk, e⟩ := List.getElem_of_mem hq
        obtain ⟨o, e1, _⟩ := Src.obj (hat k q (by rw [List.getElem?_eq_getElem hk, e]))
        exact Heap.lt_size e1
      rw [upd_ne (Nat.ne_of_lt hlt)]
      exact (hf c hcm).1
  done := by
    intro X hP hw hK hc i pins s σ H E I hf st hg
    subst hP hw hK
    obtain ⟨⟨f0, f1, hw, hz⟩, hTI, ⟨os, hos, hTO⟩, hat⟩ := st
    obtain ⟨hall, k, q, xs, hk, hx, hle⟩ := hg
    obtain ⟨j0, ⟨q0, xs0, g1, g2, g3⟩, hmin⟩ := least (p := fun k => ∃ (q : Bool × Addr) (xs : List V), (qs.map srcOf)[k]? = some q ∧ Sq X.K H q xs ∧ xs.length ≤ i) k ⟨q, xs, hk, hx, hle⟩
    rw [List.getElem?_map] at g1
    cases e : qs[j0]? with
    | none => rw [e] at g1; cases g1
    | some p =>
      rw [e] at g1
      have g1 : srcOf p = q0 := Option.some.inj g1
      subst g1
      obtain ⟨its, rv, h3, _⟩ := sq_its I g2
      have he : its.toArray[i]? = none := by
        have := rv.length
        simp
        omega
      refine pyNext_end (I.ok.hd hc) D hw hz hTI hTO hn hos hat e h3 he (fun k q hlt hq => ?_) fun h' hk => ⟨rfl, I.turnedL (t' := s.toks) (ch := zfp z TI TO qs) (fun c o hb q => ?_) hf⟩
      · have hq' : (qs.map srcOf)[k]? = some (srcOf q) := by rw [List.getElem?_map, hq]; rfl
        obtain ⟨xs, hxs⟩ := hall k (srcOf q) hq'
        have hlt2 : i < xs.length := by
          by_cases hh : i < xs.length
          · exact hh
          · exact absurd ⟨srcOf q, xs, hq', hxs, by omega⟩ (hmin k hlt)
        obtain ⟨its, rv, h3, _⟩ := sq_its I hxs
        obtain ⟨u, h4, _⟩ := rv.get (List.getElem?_eq_getElem hlt2)
        exact ⟨its.toArray, u, h3, by simpa using h4⟩
      · exact hk c o (fun e => hb (by rw [e]; simp [zfp])) (fun e => hb (by rw [e]; simp [zfp])) (fun q hq e => hb (by
          rw [e]
          unfold zfp
          simp only [List.mem_cons]
          exact .inr (.inr (.inr (List.mem_map.mpr ⟨q, hq, rfl⟩))))) q
  self := fun A i s Q E st h => by
    obtain ⟨f0, f1, _, hz⟩ := st.1
    exact iter_zip hz h
end S9

namespace S9
open PySem PySem.Spec PyProof.Rows L2 Z9
/-! ### zip -/
section
variable {X : Cx}
def iZipN (K : PySem.W.Frag) (n : Nat) (ta : TA) : TI := fun σ H R => ta σ H fun vs H1 => ∃ qs : List (Bool × Addr), qs.length = n ∧ vs = qs.map (fun q => V.ref q.2) ∧ (∀ q ∈ qs, ∃ xs, Sq K H1 q xs) ∧ R (Itzn K qs) H1
theorem apart_laid {qs : List Src} {h h' : Heap} {z : Addr} (L : Laid qs h h' z) (hl : ∀ q ∈ qs, q.l < h.objs.size) : Apart z (h.objs.size + qs.length) (h.objs.size + qs.length + 1) qs := by
  have at_ : ∀ q ∈ qs, ∃ k, k < qs.length ∧ q.it = h.objs.size + k := fun q hq => by
    obtain ⟨k, hk, e⟩ := List.getElem_of_mem hq
    exact ⟨k, hk, (L.at_ k q (by rw [List.getElem?_eq_getElem hk, e])).1⟩
  have hz : z = h.objs.size + qs.length + 2 := L.zis
  subst hz
  refine ⟨?_, ?_, ?_, fun q hq => ?_, fun q hq => ?_, fun q hq => ?_, fun q hq => ?_, fun q hq => ?_, fun q hq p hp => ?_, ?_⟩
  · exact Nat.ne_of_lt (by omega)
  · exact Nat.ne_of_lt (by omega)
  · exact Nat.ne_of_lt (by omega)
  · obtain ⟨k, hk, e⟩ := at_ q hq
    rw [e]; exact Nat.ne_of_lt (by omega)
  · obtain ⟨k, hk, e⟩ := at_ q hq
    rw [e]; exact Nat.ne_of_lt (by omega)
  · obtain ⟨k, hk, e⟩ := at_ q hq
    rw [e]; exact Nat.ne_of_lt (by omega)
  · exact Nat.ne_of_lt (Nat.lt_of_lt_of_le (hl q hq) (by omega))
  · exact Nat.ne_of_lt (Nat.lt_of_lt_of_le (hl q hq) (by omega))
  · obtain ⟨k, hk, e⟩ := at_ p hp
    rw [e]; exact Nat.ne_of_lt (Nat.lt_of_lt_of_le (hl q hq) (by omega))
  · rw [List.nodup_iff_pairwise_ne, List.pairwise_iff_getElem]
    intro i j hi hj hij e
    rw [List.length_map] at hi hj
    rw [List.getElem_map, List.getElem_map, (L.at_ i _ (List.getElem?_eq_getElem hi)).1, (L.at_ j _ (List.getElem?_eq_getElem hj)).1] at e
    have e : h.objs.size + i = h.objs.size + j := e
    omega
theorem pie_zip {pins : List (Addr × Obj)} {σ : L2.St} {H : Hp} {s : Shared} {tg : Expr} {R : It → Hp → Prop} {qs : List Src} {h' : Heap} {z : Addr} (I : Inv X pins σ H s) (L : Laid qs s.heap h' z) (hl : ∀ q ∈ qs, q.l < s.heap.objs.size) (hne : qs ≠ []) (hn : qs.length ≤ 1000)
    (q : R (Itzn X.K (qs.map srcOf)) H) : wpAny (model X.prog X.w) X.A (pyIter (.ref z)) (PIE X pins σ tg R) X.xe { s with heap := h' } := by
  refine iter_zip L.zat ?_
  have I2 : Inv X pins σ H { s with heap := h' } := I.kept (t' := s.toks) L.kept
  refine ⟨z, _, _, _, H, rfl, I2, turn_zipn (apart_laid L hl) hne hn, ⟨⟨_, _, .inl rfl, L.zat⟩, L.ti, L.to, fun k q hq => (L.at_ k q hq).2⟩, fun b hb => ?_, q⟩
  have hle : s.heap.objs.size ≤ b := by
    unfold zfp at hb
    rcases List.mem_cons.mp hb with e | hb
    · rw [e, L.zis]; show (_ : Nat) ≤ _; omega
    rcases List.mem_cons.mp hb with e | hb
    · rw [e]; show (_ : Nat) ≤ _; omega
    rcases List.mem_cons.mp hb with e | hb
    · rw [e]; show (_ : Nat) ≤ _; omega
    obtain ⟨q, hq, rfl⟩ := List.mem_map.mp hb
    obtain ⟨k, hk, e⟩ := List.getElem_of_mem hq
    rw [(L.at_ k q (by rw [List.getElem?_eq_getElem hk, e])).1]
    show (_ : Nat) ≤ _
    omega
  exact I.fpOk hle (I.hok.fresh hle)
theorem vals_refs {qs : List (Bool × Addr)} {us : List Value} (r : Vals (qs.map fun q => V.ref q.2) us) : us = qs.map fun q => Value.ref q.2 := by
  induction qs generalizing us with
  | nil => cases r; rfl
  | cons q qs ih =>
    cases r with
    | cons a b => rw [ih b]; cases a; rfl
theorem pi_zip2 {tg e e2 : Expr} {ta : TA} {p pos : Pos} (hg : Gl X "zip") (hm : X.mg "zip" = none) (ha : PA X [e, e2] ta)
    (hs : starEach [e, e2] X.env = (false, eval e X.env) :: starEach [e2] X.env := by rfl) (hpl : (backTo pos (starEach [e2] X.env)).any (·.1) = false := by rfl) :
    PI X tg (.Call (.Name "zip" p) [e, e2] [] pos) (iZipN X.K 2 ta) := by
  refine ⟨fun pins s σ H R I h => ?_⟩
  refine Call_ (ld_blt I hg hm boot_zip (callWith_type1 (thn (ha.run pos pins s σ H _ I h) fun us s1 ⟨vs, H1, I1, rv, ⟨qs, hl, ev, hq, hR⟩⟩ => ?_) hs hpl))
  subst ev
  rw [vals_refs rv]
  match qs, hl with
  | [⟨t1, a⟩, ⟨t2, b⟩], _ =>
    obtain ⟨xs, h1⟩ := hq ⟨t1, a⟩ (by simp)
    obtain ⟨ys, h2⟩ := hq ⟨t2, b⟩ (by simp)
    obtain ⟨its1, _, w1, l1⟩ := sq_its I1 h1
    obtain ⟨its2, _, w2, l2⟩ := sq_its I1 h2
    refine call_zip2 w1 w2 fun h' z L => pie_zip I1 L (fun q hq => ?_) (by simp) (by simp) hR
    rcases List.mem_cons.mp hq with e | hq
    · rw [e]; exact l1
    rcases List.mem_cons.mp hq with e | hq
    · rw [e]; exact l2
    cases hq
theorem pi_zip3 {tg e e2 e3 : Expr} {ta : TA} {p pos : Pos} (hg : Gl X "zip") (hm : X.mg "zip" = none) (ha : PA X [e, e2, e3] ta)
    (hs : starEach [e, e2, e3] X.env = (false, eval e X.env) :: starEach [e2, e3] X.env := by rfl) (hpl : (backTo pos (starEach [e2, e3] X.env)).any (·.1) = false := by rfl) :
    PI X tg (.Call (.Name "zip" p) [e, e2, e3] [] pos) (iZipN X.K 3 ta) := by
  refine ⟨fun pins s σ H R I h => ?_⟩
  refine Call_ (ld_blt I hg hm boot_zip (callWith_type1 (thn (ha.run pos pins s σ H _ I h) fun us s1 ⟨vs, H1, I1, rv, ⟨qs, hl, ev, hq, hR⟩⟩ => ?_) hs hpl))
  subst ev
  rw [vals_refs rv]
  match qs, hl with
  | [⟨t1, a⟩, ⟨t2, b⟩, ⟨t3, c⟩], _ =>
    obtain ⟨xs, h1⟩ := hq ⟨t1, a⟩ (by simp)
    obtain ⟨ys, h2⟩ := hq ⟨t2, b⟩ (by simp)
    obtain ⟨zs, h3⟩ := hq ⟨t3, c⟩ (by simp)
    obtain ⟨its1, _, w1, l1⟩ := sq_its I1 h1
    obtain ⟨its2, _, w2, l2⟩ := sq_its I1 h2
    obtain ⟨its3, _, w3, l3⟩ := sq_its I1 h3
    refine call_zip3 w1 w2 w3 fun h' z L => pie_zip I1 L (fun q hq => ?_) (by simp) (by simp) hR
    rcases List.mem_cons.mp hq with e | hq
    · rw [e]; exact l1
    rcases List.mem_cons.mp hq with e | hq
    · rw [e]; exact l2
    rcases List.mem_cons.mp hq with e | hq
    · rw [e]; exact l3
    cases hq
end
/-- where a walked value's items stand, now and later -/
def Stands (K : PySem.W.Frag) (q : Bool × Addr) (l : List D) (lk : List Nat) (r : Rg) (M : Sto) (H : Hp) : Prop := ∀ r1 H1 M1, (∃ t, r1.c = r.c ++ t) → Same (fz r H) (fz r1 H1) → Sta K r1 M1 H1 → (∀ k ∈ lk, M1[k]? = M[k]?) → ∃ xs, Sq K H1 q xs ∧ RpL K (fz r1 H1) l xs
theorem itemsW_stands {K : PySem.W.Frag} {r : Rg} {M : Sto} {H : Hp} {v : V} {w : W} {l : List D} {lk : List Nat} (S : Sta K r M H) (h : RW K r H v w) (e : itemsW M w = some (l, lk)) : ∃ q : Bool × Addr, v = .ref q.2 ∧ (∃ xs, Sq K H q xs) ∧ Stands K q l lk r M H := by
  unfold itemsW at e
  split at e
  · cases e
    simp only [RW, Rp] at h
    obtain ⟨p, xs, rfl, q2, q3⟩ := h
    exact ⟨(false, p), rfl, ⟨xs, .inl (.inl (fz_sub _ _ q2))⟩, fun r1 H1 M1 _ n _ _ => ⟨xs, .inl (.inl (fz_sub _ _ (n _ _ q2))), RpL.mono n q3⟩⟩
  · cases e
    simp only [RW, Rp] at h
    obtain ⟨p, xs, rfl, q2, q3⟩ := h
    exact ⟨(false, p), rfl, ⟨xs, show SqL K H p xs from fz_sub.seq q2⟩, fun r1 H1 M1 _ n _ _ => ⟨xs, show SqL K H1 p xs from fz_sub.seq (n.seq q2), RpL.mono n q3⟩⟩
  · cases e
    simp only [RW, Rp] at h
    obtain ⟨p, xs, rfl, q2, q3⟩ := h
    exact ⟨(true, p), rfl, ⟨xs, show SqT K H p xs from same_t fz_sub q2⟩, fun r1 H1 M1 _ n _ _ => ⟨xs, show SqT K H1 p xs from same_t fz_sub (same_t n q2), RpL.mono n q3⟩⟩
  · rename_i kk
    split at e
    · rename_i l hl
      cases e
      obtain ⟨p, e1, rfl⟩ := h
      obtain ⟨xs, q2, q3⟩ := S.cell kk p _ e1 hl
      refine ⟨(false, p), rfl, ⟨xs, .inl (.inl q2)⟩, fun r1 H1 M1 x2 n S2 hk => ?_⟩
      have hk2 : M1[kk]? = some (.lst l) := (hk kk (by simp)).trans hl
      obtain ⟨t, et⟩ := x2
      have e2 : r1.c[kk]? = some p := by rw [et, List.getElem?_append_left (List.getElem?_eq_some_iff.mp e1).1]; exact e1
      obtain ⟨ys, h1, h2⟩ := S2.cell kk p _ e2 hk2
      exact ⟨ys, .inl (.inl h1), h2⟩
    · cases e
  · cases e
def itemsWs (M : Sto) : List W → Option (List (List D) × List Nat)
  | [] => some ([], [])
  | w :: ws => (itemsW M w).bind fun p => (itemsWs M ws).map fun q => (p.1 :: q.1, p.2 ++ q.2)
theorem itemsWs_stands {K : PySem.W.Frag} {r : Rg} {M : Sto} {H : Hp} (S : Sta K r M H) : ∀ {vs : List V} {ws : List W} {ls : List (List D)} {lk : List Nat}, RWL K r H vs ws → itemsWs M ws = some (ls, lk) →
    ∃ qs : List (Bool × Addr), qs.length = ls.length ∧ vs = qs.map (fun q => V.ref q.2) ∧ (∀ q ∈ qs, ∃ xs, Sq K H q xs) ∧ ∀ (k : Nat) (q : Bool × Addr) (l : List D), qs[k]? = some q → ls[k]? = some l → Stands K q l lk r M H
  | [], ws, ls, lk, h, e => by
    cases (show ws = [] from h)
    cases e
    exact ⟨[], rfl, rfl, fun q hq => absurd hq (by simp), fun k q l hk => by simp at hk⟩
  | v :: vs, ws, ls, lk, h, e => by
    obtain ⟨w, ws', rfl, h1, h2⟩ := h
    simp only [itemsWs, Option.bind_eq_some_iff, Option.map_eq_some_iff] at e
    obtain ⟨⟨l, lk1⟩, e1, ⟨ls', lk2⟩, e2, e3⟩ := e
    cases e3
    obtain ⟨q, rfl, hx, st⟩ := itemsW_stands S h1 e1
    obtain ⟨qs, a1, a2, a3, a4⟩ := itemsWs_stands S h2 e2
    refine ⟨q :: qs, by simp [a1], by rw [a2]; rfl, fun p hp => ?_, fun k p l' hk hl => ?_⟩
    · rcases List.mem_cons.mp hp with e | hp
      · rw [e]; exact hx
      · exact a3 p hp
    · cases k with
      | zero =>
        simp at hk hl
        subst hk
        subst hl
        exact fun r1 H1 M1 x n S2 hh => st r1 H1 M1 x n S2 fun k hk => hh k (List.mem_append_left _ hk)
      | succ k =>
        simp at hk hl
        exact fun r1 H1 M1 x n S2 hh => a4 k p l' hk hl r1 H1 M1 x n S2 fun k hk => hh k (List.mem_append_right _ hk)
/-- the tuples of a zip -/
def zipD : List (List D) → List D
  | [a, b] => List.zipWith (fun x y => D.tup [x, y]) a b
  | [a, b, c] => List.zipWith (fun x (p : D × D) => D.tup [x, p.1, p.2]) a (List.zip b c)
  | _ => []
theorem zipD2 {a b : List D} : zipD [a, b] = List.zipWith (fun x y => D.tup [x, y]) a b := rfl
theorem zipD3 {a b c : List D} : zipD [a, b, c] = List.zipWith (fun x (p : D × D) => D.tup [x, p.1, p.2]) a (List.zip b c) := rfl
/-- l: a zip of ls -/
structure ZipOf (ls : List (List D)) (l : List D) : Prop where
  item : ∀ (i : Nat) (d : D), l[i]? = some d → ∃ ys : List D, d = D.tup ys ∧ ys.length = ls.length ∧ ∀ (k : Nat) (m : List D), ls[k]? = some m → ∃ y, ys[k]? = some y ∧ m[i]? = some y
  end_ : ∀ (i : Nat), l.length ≤ i → ∃ (k : Nat) (m : List D), ls[k]? = some m ∧ m.length ≤ i
theorem zipOf2 (a b : List D) : ZipOf [a, b] (zipD [a, b]) := by
  rw [zipD2]
  refine ⟨fun i d h => ?_, fun i h => ?_⟩
  · rw [List.getElem?_zipWith] at h
    split at h
    · rename_i x y hx hy
      cases h
      refine ⟨_, rfl, rfl, fun k m hk => ?_⟩
      match k, hk with
      | 0, hk => cases hk; exact ⟨x, rfl, hx⟩
      | 1, hk => cases hk; exact ⟨y, rfl, hy⟩
      | k + 2, hk => simp at hk
    · cases h
  · rw [List.length_zipWith] at h
    by_cases hh : a.length ≤ i
    · exact ⟨0, a, rfl, hh⟩
    · exact ⟨1, b, rfl, by omega⟩
theorem zipOf3 (a b c : List D) : ZipOf [a, b, c] (zipD [a, b, c]) := by
  rw [zipD3]
  refine ⟨fun i d h => ?_, fun i h => ?_⟩
  · rw [List.getElem?_zipWith] at h
    split at h
    · rename_i x p hx hp
      cases h
      rw [List.getElem?_zip_eq_some] at hp
      refine ⟨_, rfl, rfl, fun k m hk => ?_⟩
      match k, hk with
      | 0, hk => cases hk; exact ⟨x, rfl, hx⟩
      | 1, hk => cases hk; exact ⟨p.1, rfl, hp.1⟩
      | 2, hk => cases hk; exact ⟨p.2, rfl, hp.2⟩
      | k + 3, hk => simp at hk
    · cases h
  · rw [List.length_zipWith, List.length_zip] at h
    by_cases hh : a.length ≤ i
    · exact ⟨0, a, rfl, hh⟩
    · by_cases h2 : b.length ≤ i
      · exact ⟨1, b, rfl, h2⟩
      · exact ⟨2, c, rfl, by omega⟩
theorem rpl_of {K : PySem.W.Frag} {H : Hp} : ∀ {ds : List D} {vs : List V}, vs.length = ds.length → (∀ (k : Nat) (d : D) (v : V), ds[k]? = some d → vs[k]? = some v → Rp K H d v) → RpL K H ds vs
  | [], vs, hl, h => by
    have : vs = [] := List.eq_nil_of_length_eq_zero hl
    subst this
    exact RpL.nil
  | d :: ds, [], hl, h => by simp at hl
  | d :: ds, v :: vs, hl, h => RpL.cons (h 0 d v rfl rfl) (rpl_of (by simpa using hl) fun k d' v' hd hv => h (k + 1) d' v' (by simpa using hd) (by simpa using hv))
theorem wk_zip {K : PySem.W.Frag} {r : Rg} {M : Sto} {H : Hp} {qs : List (Bool × Addr)} {ls : List (List D)} {lk : List Nat} {l : List D} (hl : qs.length = ls.length) (Z : ZipOf ls l)
    (st : ∀ (k : Nat) (q : Bool × Addr) (m : List D), qs[k]? = some q → ls[k]? = some m → Stands K q m lk r M H) : Wk K (Itzn K qs) l lk r M H := fun r1 H1 M1 x n S hk i => by
  have at_ : ∀ (k : Nat) (q : Bool × Addr), qs[k]? = some q → ∃ m xs, ls[k]? = some m ∧ Sq K H1 q xs ∧ RpL K (fz r1 H1) m xs := fun k q hq => by
    have hk2 : k < ls.length := by rw [← hl]; exact (List.getElem?_eq_some_iff.mp hq).1
    obtain ⟨xs, a, b⟩ := st k q _ hq (List.getElem?_eq_getElem hk2) r1 H1 M1 x n S hk
    exact ⟨_, xs, List.getElem?_eq_getElem hk2, a, b⟩
  refine ⟨fun d hd => ?_, fun hi => ⟨fun k q hq => ?_, ?_⟩⟩
  · obtain ⟨ys, rfl, hy, hys⟩ := Z.item i d hd
    refine ⟨fun k q hq => ?_, fun v H2 ⟨T, vs, e1, hT, e2, hvl, hv⟩ => ?_⟩
    · obtain ⟨m, xs, a1, a2, a3⟩ := at_ k q hq
      obtain ⟨y, b1, b2⟩ := hys k m a1
      obtain ⟨z, b3, _⟩ := a3.get b2
      exact ⟨xs, a2, (List.getElem?_eq_some_iff.mp b3).1⟩
    · subst e1
      subst e2
      refine ⟨same_up hT, rp_tup S hT (rpl_of (by rw [hvl, hl, hy]) fun k d v hd hv2 => ?_)⟩
      have hk2 : k < qs.length := by rw [← hvl]; exact (List.getElem?_eq_some_iff.mp hv2).1
      obtain ⟨m, xs, a1, a2, a3⟩ := at_ k _ (List.getElem?_eq_getElem hk2)
      obtain ⟨y, b1, b2⟩ := hys k m a1
      rw [hd] at b1
      cases b1
      obtain ⟨z, b3, b4⟩ := hv k _ xs (List.getElem?_eq_getElem hk2) a2
      rw [hv2] at b3
      cases b3
      obtain ⟨z', c1, c2⟩ := a3.get b2
      rw [b4] at c1
      cases c1
      exact c2
  · obtain ⟨m, xs, a1, a2, a3⟩ := at_ k q hq
    exact ⟨xs, a2⟩
  · obtain ⟨k, m, e1, e2⟩ := Z.end_ i hi
    have hk2 : k < qs.length := by rw [hl]; exact (List.getElem?_eq_some_iff.mp e1).1
    obtain ⟨m', xs, a1, a2, a3⟩ := at_ k _ (List.getElem?_eq_getElem hk2)
    rw [e1] at a1
    cases a1
    exact ⟨k, _, xs, List.getElem?_eq_getElem hk2, a2, by rw [a3.length]; exact e2⟩
/-! the rules -/
def fZip (fs : FA) : FI := fun δ M => (fs δ M).bind fun ws M1 => R.of M1 ((itemsWs M1 ws).map fun p => (zipD p.1, p.2))
section
variable {X : Cx} {E : XK} {tg e e2 e3 : Expr} {fs : FA} {p pos : Pos}
theorem iws_len {M : Sto} : ∀ {ws : List W} {ls : List (List D)} {lk : List Nat}, itemsWs M ws = some (ls, lk) → ls.length = ws.length
  | [], ls, lk, h => by cases h; rfl
  | w :: ws, ls, lk, h => by
    simp only [itemsWs, Option.bind_eq_some_iff, Option.map_eq_some_iff] at h
    obtain ⟨⟨l, lk1⟩, e1, ⟨ls', lk2⟩, e2, e3⟩ := h
    cases e3
    simp [iws_len e2]
theorem zip_imp {n : Nat} (hz : ∀ ls : List (List D), ls.length = n → ZipOf ls (zipD ls)) (hn : ∀ δ M ws M1, fs δ M = .ok ws M1 → ws.length = n) : ∀ σ H Q, tI X.K E (fZip fs) σ H Q → iZipN X.K n (tA X.K E fs) σ H Q := fun σ H Q ⟨r, δ, M, Ev, S, k⟩ =>
  ⟨r, δ, M, Ev, S, PostI.bind k fun ws M1 vs H1 r1 hok n1 S1 q1 k1 => by
    cases e : itemsWs M1 ws with
    | none => rw [e] at k1; exact k1.elim
    | some z =>
      rw [e] at k1
      obtain ⟨ls, lk⟩ := z
      obtain ⟨qs, a1, a2, a3, a4⟩ := itemsWs_stands S1 q1 e
      have hl : ls.length = n := (iws_len e).trans (hn _ _ _ _ hok)
      exact ⟨qs, a1.trans hl, a2, a3, k1 _ _ r1 Nxt.refl S1 (wk_zip a1 (hz ls hl) a4)⟩⟩
theorem zipOf_2 (ls : List (List D)) (h : ls.length = 2) : ZipOf ls (zipD ls) := by
  match ls, h with
  | [a, b], _ => exact zipOf2 a b
theorem zipOf_3 (ls : List (List D)) (h : ls.length = 3) : ZipOf ls (zipD ls) := by
  match ls, h with
  | [a, b, c], _ => exact zipOf3 a b c
theorem cons_len {f : FE} {g : FA} {n : Nat} (h : ∀ δ M ws M1, g δ M = .ok ws M1 → ws.length = n) : ∀ δ M ws M1, fCons f g δ M = .ok ws M1 → ws.length = n + 1 := fun δ M ws M1 e => by
  unfold fCons at e
  cases e1 : f δ M with
  | bad => rw [e1] at e; cases e
  | ex _ _ => rw [e1] at e; cases e
  | ok w M2 =>
    rw [e1] at e
    have e : (g δ M2).bind _ = _ := e
    cases e2 : g δ M2 with
    | bad => rw [e2] at e; cases e
    | ex _ _ => rw [e2] at e; cases e
    | ok ws2 M3 =>
      rw [e2] at e
      cases e
      simp [h _ _ _ _ e2]
theorem nil_len : ∀ δ M ws M1, fNil δ M = .ok ws M1 → ws.length = 0 := fun δ M ws M1 e => by cases e; rfl
theorem ri_zip2 {f1 f2 : FE} (hg : Gl X "zip") (hm : X.mg "zip" = none) (ha : RA X E [e, e2] (fCons f1 (fCons f2 fNil)))
    (hs : starEach [e, e2] X.env = (false, eval e X.env) :: starEach [e2] X.env := by rfl) (hpl : (backTo pos (starEach [e2] X.env)).any (·.1) = false := by rfl) :
    RI X E tg (.Call (.Name "zip" p) [e, e2] [] pos) (fZip (fCons f1 (fCons f2 fNil))) := pi_imp (pi_zip2 hg hm ha hs hpl) (zip_imp zipOf_2 (cons_len (cons_len nil_len)))
theorem ri_zip3 {f1 f2 f3 : FE} (hg : Gl X "zip") (hm : X.mg "zip" = none) (ha : RA X E [e, e2, e3] (fCons f1 (fCons f2 (fCons f3 fNil))))
    (hs : starEach [e, e2, e3] X.env = (false, eval e X.env) :: starEach [e2, e3] X.env := by rfl) (hpl : (backTo pos (starEach [e2, e3] X.env)).any (·.1) = false := by rfl) :
    RI X E tg (.Call (.Name "zip" p) [e, e2, e3] [] pos) (fZip (fCons f1 (fCons f2 (fCons f3 fNil)))) := pi_imp (pi_zip3 hg hm ha hs hpl) (zip_imp zipOf_3 (cons_len (cons_len (cons_len nil_len))))
/-- enumerate(list) -/
def enumD (l : List D) : List D := l.zipIdx.map fun p => D.tup [.int (p.2 : Nat), p.1]
def listW (M : Sto) : W → Option (List D × List Nat)
  | .d (.tup _) => none
  | w => itemsW M w
def fEnum (fa : FE) : FI := fun δ M => (fa δ M).bind fun w M1 => R.of M1 ((listW M1 w).map fun p => (enumD p.1, p.2))
theorem listW_stands {K : PySem.W.Frag} {r : Rg} {M : Sto} {H : Hp} {v : V} {w : W} {l : List D} {lk : List Nat} (S : Sta K r M H) (h : RW K r H v w) (e : listW M w = some (l, lk)) : ∃ a, v = .ref a ∧ (∃ xs, SqL K H a xs) ∧ Stands K (false, a) l lk r M H := by
  unfold listW at e
  split at e
  · cases e
  · rename_i hne
    unfold itemsW at e
    split at e
    · cases e
      simp only [RW, Rp] at h
      obtain ⟨p, xs, rfl, q2, q3⟩ := h
      exact ⟨p, rfl, ⟨xs, .inl (.inl (fz_sub _ _ q2))⟩, fun r1 H1 M1 _ n _ _ => ⟨xs, .inl (.inl (fz_sub _ _ (n _ _ q2))), RpL.mono n q3⟩⟩
    · cases e
      simp only [RW, Rp] at h
      obtain ⟨p, xs, rfl, q2, q3⟩ := h
      exact ⟨p, rfl, ⟨xs, fz_sub.seq q2⟩, fun r1 H1 M1 _ n _ _ => ⟨xs, show SqL K H1 p xs from fz_sub.seq (n.seq q2), RpL.mono n q3⟩⟩
    · exact absurd rfl (hne _)
    · rename_i kk
      split at e
      · rename_i l hl
        cases e
        obtain ⟨p, e1, rfl⟩ := h
        obtain ⟨xs, q2, q3⟩ := S.cell kk p _ e1 hl
        refine ⟨p, rfl, ⟨xs, .inl (.inl q2)⟩, fun r1 H1 M1 x2 n S2 hk => ?_⟩
        have hk2 : M1[kk]? = some (.lst l) := (hk kk (by simp)).trans hl
        obtain ⟨t, et⟩ := x2
        have e2 : r1.c[kk]? = some p := by rw [et, List.getElem?_append_left (List.getElem?_eq_some_iff.mp e1).1]; exact e1
        obtain ⟨ys, h1, h2⟩ := S2.cell kk p _ e2 hk2
        exact ⟨ys, .inl (.inl h1), h2⟩
      · cases e
    · cases e
theorem enumD_get (l : List D) (i : Nat) : (enumD l)[i]? = (l[i]?).map fun d => D.tup [.int (i : Nat), d] := by
  unfold enumD
  rw [List.getElem?_map, List.getElem?_zipIdx]
  cases l[i]? with
  | none => rfl
  | some d => simp
theorem wk_enum {K : PySem.W.Frag} {r : Rg} {M : Sto} {H : Hp} {a : Addr} {l : List D} {lk : List Nat} (st : Stands K (false, a) l lk r M H) : Wk K (Ite K a) (enumD l) lk r M H := fun r1 H1 M1 x n S hk i => by
  obtain ⟨xs, h1, h2⟩ := st r1 H1 M1 x n S hk
  have h1 : SqL K H1 a xs := h1
  refine ⟨fun d hd => ?_, fun hi => ⟨xs, h1, ?_⟩⟩
  · rw [enumD_get] at hd
    cases e : l[i]? with
    | none => rw [e] at hd; cases hd
    | some y =>
      rw [e] at hd
      cases hd
      obtain ⟨v, hv, hq⟩ := h2.get e
      refine ⟨⟨xs, v, h1, hv⟩, fun z H2 ⟨T, u, e1, hT, e2, hu⟩ => ?_⟩
      subst e1
      subst e2
      have := hu xs h1
      rw [hv] at this
      cases this
      exact ⟨same_up hT, rp_tup S hT (RpL.cons rp_int (RpL.cons hq RpL.nil))⟩
  · unfold enumD at hi
    rw [List.length_map, List.length_zipIdx] at hi
    rw [h2.length]
    exact hi
theorem ri_enum {fa : FE} {tpos : Pos} {elts : List Expr} {kk : Nat} (hg : Gl X "enumerate") (hm : X.mg "enumerate" = none) (ha : RA X E [e] (fCons fa fNil)) (hs : starEach [e] X.env = [(false, eval e X.env)] := by rfl) :
    RI X E (.Tuple elts kk tpos) (.Call (.Name "enumerate" p) [e] [] pos) (fEnum fa) := pi_imp (pi_enum hg hm ha hs) fun σ H Q ⟨r, δ, M, Ev, S, k⟩ => by
  refine ⟨r, δ, M, Ev, S, ?_⟩
  have k2 : PostI X.K E r H ((fCons fa fNil δ M).bind fun ws M1 => R.of M1 (match ws with | [w] => (listW M1 w).map fun p => (enumD p.1, p.2) | _ => none)) Q := by
    revert k
    unfold fEnum fCons fNil
    cases fa δ M with
    | bad => exact fun h => h
    | ex _ _ => exact fun h => h
    | ok w M1 => exact fun h => h
  exact PostI.bind k2 fun ws M1 vs H1 r1 hok n1 S1 q1 k1 => by
    match ws, k1, q1 with
    | [], k1, q1 => exact k1.elim
    | _ :: _ :: _, k1, q1 => exact k1.elim
    | [w], k1, q1 =>
      simp only at k1
      cases e : listW M1 w with
      | none => rw [e] at k1; exact k1.elim
      | some z =>
        rw [e] at k1
        obtain ⟨l, lk⟩ := z
        match vs, q1 with
        | [], q1 => cases q1
        | v :: vs, ⟨w', ws', e', q2, q3⟩ =>
          cases e'
          match vs, q3 with
          | _ :: _, ⟨_, _, e', _⟩ => cases e'
          | [], _ =>
            obtain ⟨a, rfl, ⟨xs, hx⟩, st⟩ := listW_stands S1 q2 e
            exact ⟨a, xs, rfl, hx, k1 _ _ r1 Nxt.refl S1 (wk_enum st)⟩
end
/-! ### sorted of ints -/
def insI (x : Int) : List Int → List Int
  | [] => [x]
  | y :: l => if x ≤ y then x :: y :: l else y :: insI x l
def sortI : List Int → List Int
  | [] => []
  | x :: l => insI x (sortI l)
theorem insI_perm (x : Int) : ∀ l, (insI x l).Perm (x :: l)
  | [] => List.Perm.refl _
  | y :: l => by
    unfold insI
    split
    · exact List.Perm.refl _
    · exact ((insI_perm x l).cons y).trans (List.Perm.swap x y l)
theorem sortI_perm : ∀ l, (sortI l).Perm l
  | [] => List.Perm.refl _
  | x :: l => (insI_perm x (sortI l)).trans ((sortI_perm l).cons x)
theorem insI_sorted (x : Int) : ∀ l : List Int, l.Pairwise (· ≤ ·) → (insI x l).Pairwise (· ≤ ·)
  | [], _ => by simp [insI]
  | y :: l, h => by
    unfold insI
    have h' := List.pairwise_cons.mp h
    split
    · rename_i hx
      refine List.pairwise_cons.mpr ⟨fun z hz => ?_, h⟩
      rcases List.mem_cons.mp hz with e | hz
      · rw [e]; exact hx
      · exact Int.le_trans hx (h'.1 z hz)
    · rename_i hx
      refine List.pairwise_cons.mpr ⟨fun z hz => ?_, insI_sorted x l h'.2⟩
      rcases List.mem_cons.mp ((insI_perm x l).mem_iff.mp hz) with e | hz
      · rw [e]; exact Int.le_of_lt (Int.not_le.mp hx)
      · exact h'.1 z hz
theorem sortI_sorted : ∀ l : List Int, (sortI l).Pairwise (· ≤ ·)
  | [] => List.Pairwise.nil
  | x :: l => insI_sorted x _ (sortI_sorted l)
theorem sortI_uniq {l m : List Int} (h : m.Perm l) (s : m.Pairwise (· ≤ ·)) : m = sortI l := List.Perm.eq_of_pairwise (fun a b _ _ => Int.le_antisymm) s (sortI_sorted l) (h.trans (sortI_perm l).symm)
section
variable {prog : Program} {w : World} {A : Around} {E : Value → Shared → Prop} {s : Shared}
/-- a tuple's items in a list of its own -/
theorem collect_tup {t : Addr} {us : List Value} {Q : List Value → Shared → Prop} (ht : s.heap.IsTuple t us.toArray) (hsz : us.length ≤ sizeLine)
    (h : Q us { s with heap := (s.heap.push (seqObj "list" #[] 0)).update s.heap.objs.size (Obj.mapSeq (· ++ us.toArray)) }) : wpAny (model prog w) A (collect (.ref t)) Q E s := by
  obtain ⟨ob, h1, h2, m, h4⟩ := id ht
  unfold collect
  refine wpAny_bind (wpAny_runValue (codeAny_builtin entry_proto_collect' ?_))
  show wpAny _ _ (do again (.builtin "list.__iadd__" ⟨[← newList [], .ref t], []⟩)) _ _ s
  refine wpAny_bind (wpAny_newList (wpAny_pure ⟨Code.quiet_builtin _ (by decide +kernel), codeAny_builtin entry_list_iadd' ?_⟩))
  show wpAny _ _ (Builtin.List.listExtendWith (.ref s.heap.objs.size) (.ref t) (.ref s.heap.objs.size)) _ _ { s with heap := s.heap.push (seqObj "list" #[] 0) }
  unfold Builtin.List.listExtendWith
  have hg : (s.heap.push (seqObj "list" #[] 0)).get? t = some ob := Heap.get?_push_of_some _ h1
  have hn : (s.heap.push (seqObj "list" #[] 0)).get? s.heap.objs.size = some (seqObj "list" #[] 0) := Heap.get?_push_size _ rfl
  refine wpAny_bind (wpAny_typeOf (T := "tuple") ⟨ob, hg, h2⟩ ?_)
  rw [if_pos (by rw [show (Value.type "tuple" == Value.type "tuple") = true from rfl]; simp)]
  refine wpAny_bind (listItems_at hg h4 ?_)
  refine wpAny_bind (listItems_at (xs := #[]) (n := 0) hn rfl ?_)
  rw [if_neg (by simp)]
  refine wpAny_bind (listUpdate_at (xs := #[]) (n := 0) hn rfl ?_ (Nat.zero_le _) (by
    have : (#[] ++ us.toArray).size = us.length := by simp
    rw [this]
    exact Nat.le_succ_of_le hsz))
  refine wpAny_pure ?_
  show wpAny (model prog w) A (load s.heap.objs.size >>= fun o => match o.data with | .seq xs _ => pure xs.toList | _ => unsupported "internal:collect") Q E { s with heap := (s.heap.push (seqObj "list" #[] 0)).update s.heap.objs.size (Obj.mapSeq (· ++ us.toArray)) }
  refine wpAny_bind (wpAny_load (get?_update_seq hn _) ?_)
  have e : ((#[] : Array Value) ++ us.toArray).toList = us := by simp
  show wpAny _ _ (pure ((#[] : Array Value) ++ us.toArray).toList) Q E _
  rw [e]
  exact wpAny_pure h
theorem sorted_tup {t : Addr} {us : List Value} {ns : List Int} {Q : Value → Shared → Prop} (ht : s.heap.IsTuple t us.toArray) (hI : IntsAre us ns) (hz : us.length ≤ sizeLine)
    (h : ∀ out : List Value, SrtO.Srtd SrtO.ltIv out → SrtO.Stb SrtO.ltIv out us → Q (.ref (s.heap.objs.size + 1)) { s with heap := sortedAll s.heap us out.toArray }) : wpAny (model prog w) A (call (.builtin "sorted") [.ref t]) Q E s := by
  refine Calls.call_function_entry kind_sorted plain_sorted entry_sorted (args_sorted1 _) ?_
  unfold Builtin.«sorted»
  refine wpAny_bind (m := checkCount "sorted" 1 1 _) (wpAny_pure (wpAny_bind (collect_tup ht hz (wpAny_bind (wpAny_newList ?_ hz)))))
  generalize eG : (s.heap.push (seqObj "list" #[] 0)).update s.heap.objs.size (Obj.mapSeq (· ++ us.toArray)) = G
  have hG : G.objs.size = s.heap.objs.size + 1 := by rw [← eG, Heap.size_update, size_push']
  have hL : (G.push (seqObj "list" us.toArray 0)).get? (s.heap.objs.size + 1) = some (seqObj "list" us.toArray 0) := by rw [← hG]; exact Heap.get?_push_size _ rfl
  show wpAny _ _ _ _ _ { s with heap := G.push (seqObj "list" us.toArray 0) }
  rw [hG]
  have fin : ∀ out : List Value, SrtO.Srtd SrtO.ltIv out → SrtO.Stb SrtO.ltIv out us → wpAny (model prog w) A.in1 (pure (Value.ref (s.heap.objs.size + 1))) (fun v s' => ∃ x, Fin.done (.ret v) = .done (.ret x) ∧ Q x s') E { s with heap := sortedHeap (G.push (seqObj "list" us.toArray 0)) (s.heap.objs.size + 1) us out.toArray } := fun out a b => wpAny_pure ⟨_, rfl, by
    have := h out a b
    unfold sortedAll at this
    rw [eG] at this
    exact this⟩
  refine wpAny_bind (wpAny_holding (wpAny_call_entry slot_list_sort ⟨_, hL, rfl⟩ entry_list_sort (SrtO.list_sort_ord SrtO.swo_int hL hz (fun h2 => SrtO.ints_sortable hI h2) fun out a b => ⟨_, rfl, ?_⟩) (args_list_sort _)))
  have := h out a b
  unfold sortedAll at this
  rw [eG] at this
  exact wpAny_pure ⟨_, rfl, this⟩
end
def rSortedT (K : PySem.W.Frag) : List V → Hp → VK → Prop := fun vs H Q => ∃ (a : Addr) (ns : List Int), vs = [V.ref a] ∧ (SqL K H a (ns.map V.int) ∨ SqT K H a (ns.map V.int)) ∧
  ∀ (p : Addr), H p = none → Q (.ref p) (upd H p (.lst ((sortI ns).map V.int)))
theorem cr_sortedT {X : Cx} : CallR X (.builtin "sorted") (rSortedT X.K) := by
  intro pins s σ H vs us Q I r ⟨a, ns, e, h, q⟩
  rcases h with h | h
  · exact cr_sortedI pins s σ H vs us Q I r ⟨a, ns, e, h, fun ns' p h1 h2 hp => by rw [sortI_uniq h1 h2]; exact q p hp⟩
  · subst e
    obtain ⟨its, rv, ht, hz⟩ := I.tuple h
    rw [Vals.ref1 r]
    have hi := rv.ints
    have hl : its.length = ns.length := by rw [← rv.length, List.length_map]
    refine sorted_tup ht hi (by rw [← rv.length]; exact hz) fun out h1 h2 => ?_
    obtain ⟨k1, k2, k3⟩ := SrtO.ints_out hi h1 h2
    obtain ⟨ep, he'⟩ := sortedAll_at s.heap its out.toArray
    have hk : out.map SrtO.iv = sortI ns := sortI_uniq k2 k3
    rw [hk] at k1
    have hlen : ((sortI ns).map V.int).length ≤ sizeLine := by
      rw [List.length_map, (sortI_perm ns).length_eq]
      rw [List.length_map] at hz
      exact hz
    exact ⟨.ref _, upd H (s.heap.objs.size + 1) (.lst ((sortI ns).map V.int)), I.laid (t' := s.toks) (fun _ _ => sortedAll_old) (Nat.le_succ _) ⟨hlen, out, ep, vals_of_ints k1, he'⟩, rfl, q _ (I.hok.fresh (Nat.le_succ _))⟩
def gSorted : List D → Option (List D)
  | [d] => (itsD d).bind fun l => (intsD l).map fun ns => (sortI ns).map D.int
  | _ => none
theorem cn_sorted {K : PySem.W.Frag} : CallN K (rSortedT K) gSorted := fun r M H vs ds l S h e Q q => by
  unfold gSorted at e
  split at e
  · simp only [Option.bind_eq_some_iff, Option.map_eq_some_iff] at e
    obtain ⟨l, e1, ns, e2, rfl⟩ := e
    obtain ⟨v, rfl, h1⟩ := rdl1 h
    obtain ⟨a, xs, rfl, g1, g2⟩ := RD.seq h1 e1
    rw [intsD_of e2] at g2
    rw [g2.ints] at g1
    exact ⟨a, ns, rfl, g1, fun p hp => q _ RpL.of_ints p hp⟩
  · cases e
end S9

namespace S9
open PySem PySem.Spec PyProof.Rows L2
/-! ### defs that are called where nothing is being shown -/
structure FnG (P : Program) (w : World) (K : PySem.W.Frag) (mg : Str → Option Value) (base : Heap) (CX : CXT) (k : Nat) (f : Addr) (fd : FuncData) (ps : List Str) (sp : Sp) : Prop where
  len : ∀ vs H Q E, sp vs H Q E → vs.length = ps.length
  go : ∀ (A : Around) (out : List Env) (s : Shared) (H : Hp) (args : Args) (us : List Value) (vs : List V) (Q : VK) (E : XK), A.guards = some [] → Room k A → Env0 P w K mg base A out s H → BindsTo s fd args (ps.zip us) → Vals vs us → sp vs H Q E →
    codeAny (model P w) A (.call (.ref f) args) (CR CX out P w H s Q E) s
section
variable {P : Program} {w : World} {K : PySem.W.Frag} {mg : Str → Option Value} {base : Heap} {CX : CXT} {k : Nat} {f : Addr} {fd : FuncData} {N ps : List Str} {sp sp' : Sp}
theorem FnG.of (F : FnOk P w K mg base CX k f fd ps sp) : FnG P w K mg base CX k f fd ps sp := ⟨F.len, fun A out s H args us vs Q E _ hr => F.run A out s H args us vs Q E hr⟩
theorem FnG.mono {j : Nat} (F : FnG P w K mg base CX j f fd ps sp) (h : j ≤ k) : FnG P w K mg base CX k f fd ps sp := ⟨F.len, fun A out s H args us vs Q E hg hr => F.go A out s H args us vs Q E hg (hr.mono h)⟩
theorem FnG.imp (F : FnG P w K mg base CX k f fd ps sp) (h : ∀ vs H Q E, sp' vs H Q E → sp vs H Q E) : FnG P w K mg base CX k f fd ps sp' :=
  ⟨fun vs H Q E q => F.len vs H Q E (h _ _ _ _ q), fun A out s H args us vs Q E hg hr he hb hv hs => F.go A out s H args us vs Q E hg hr he hb hv (h _ _ _ _ hs)⟩
/-- a def by its body -/
theorem fng_of {name qual : Str} {params : Arguments} {bd : List Stmt} {scope : Scope} {dV kV doc pm cdv ct oc : Value} {an od : Option Addr} {osl : Array (Option Value)} (lk : K.lookup f = some ⟨oc, od, .func (PySem.W.fnOf name qual params bd scope dV kV doc pm an cdv ct), osl⟩)
    (hc : PySem.W.codeIn K cdv qual = true) (S : FnScope N ps scope) (len : ∀ vs H Q E, sp vs H Q E → vs.length = ps.length)
    (bdy : ∀ (A : Around) (out : List Env) (s : Shared) (H : Hp) (vs : List V) (Q : VK) (E : XK), A.guards = some [] → Room k (A.deeper (envOfC qual scope s.heap.objs.size f cdv)) → sp vs H Q E →
      ∃ t, PSs (cxOf CX P w K mg base N qual scope f cdv A out s H E) bd t ∧ t { nx := fun _ H' => Q .non H', rt := Q } (L2.start N vs) H) : FnG P w K mg base CX (k + 1) f (PySem.W.fnOf name qual params bd scope dV kV doc pm an cdv ct) ps sp := by
  refine ⟨len, fun A out s H args us vs Q E hg hr z hb r hsp => ?_⟩
  have hl := len _ _ _ _ hsp
  have kin : K.In s.heap := z.mod.kin.keeps fun b o e => (z.bs b o e).1
  have nol : s.heap.NoLimit := z.mod.nolimit.keeps fun b o e => (z.bs b o e).1
  have kinds : ∀ y ∈ ps.zip us, scope.names.lookup y.1 = some .local ∨ (scope.names.lookup y.1 = some .cell ∧ ((cellsFrom (s.heap.objs.size + 1) scope.names []).lookup y.1).isSome = true) := by
    rintro ⟨n, v⟩ hy
    exact (S.par n (List.of_mem_zip hy).1).imp id fun q => ⟨q, PySem.W.cellsFrom_some _ _ _ (.inl q)⟩
  refine codeAny_call_function hr.depth (kin _ _ lk) rfl S.co S.gen rfl (PySem.W.codeRec_of kin hc) (hb _ _ _ _ (wpAny_newFunctionEnv_cells S.kind kinds fun env e1 s1 x => ?_))
  subst e1
  refine ⟨nol.keeps x.toInCall.keep, codeAny_func ?_⟩
  obtain ⟨t, ht, hq⟩ := bdy A out s H vs Q E hg (hr.deeper _) hsp
  have J0 : Inv (cxOf CX P w K mg base N qual scope f cdv A out s H E) [] (L2.start N vs) H s1 := inv_start S hr.hd z hl r x
  refine wpAny_mono (ht.run [] s1 (L2.start N vs) H _ J0 hq) (fun fl s2 hs => ?_) fun _ _ h => h
  match fl, hs with
  | .ret u, ⟨v, σ2, H2, J, rv, q⟩ => exact ⟨v, H2, J.os, J.bare, J.base, J.hok, rv, q⟩
  | .next, ⟨σ2, H2, J, q⟩ => exact ⟨.non, H2, J.os, J.bare, J.base, J.hok, rfl, q⟩
  | .brk, ⟨_, _, _, q⟩ => exact False.elim q
  | .cont, ⟨_, _, _, q⟩ => exact False.elim q
theorem gokN {x qual : Str} {st : Stmt} (F : Fun K x qual st f fd) (S : FnScope N ps (defScope st)) (len : ∀ vs H Q E, sp vs H Q E → vs.length = ps.length)
    (bdy : ∀ (cdv : Value) (A : Around) (out : List Env) (s : Shared) (H : Hp) (vs : List V) (Q : VK) (E : XK), A.guards = some [] → Room k (A.deeper (envOfC qual (defScope st) s.heap.objs.size f cdv)) → sp vs H Q E →
      ∃ t, PSs (cxOf CX P w K mg base N qual (defScope st) f cdv A out s H E) (defBody st) t ∧ t { nx := fun _ H' => Q .non H', rt := Q } (L2.start N vs) H) : FnG P w K mg base CX (k + 1) f fd ps sp := by
  obtain ⟨oc, od, kV, doc, pm, an, cdv, ct, osl, rfl, lk, hc⟩ := F.ex
  exact fng_of lk hc S len (bdy cdv)
/-- by its body: any value; a new list -/
theorem g_body {x qual : Str} {st : Stmt} {g : FS} (F : Fun K x qual st f fd) (S : FnScope N ps (defScope st))
    (bdy : ∀ (cdv : Value) (A : Around) (out : List Env) (s : Shared) (H : Hp) (E : XK), A.guards = some [] → Room k (A.deeper (envOfC qual (defScope st) s.heap.objs.size f cdv)) →
      RSs (cxOf CX0 P w K mg base N qual (defScope st) f cdv A out s H E).nox E0 (defBody st) g) : FnG P w K mg base CX0 (k + 1) f fd ps (sp0 K ps.length (body N.length g)) :=
  gokN F S (fun vs H Q E ⟨r, M, ws, hl, q, _⟩ => (RWL.length q).trans hl) fun cdv A out s H vs Q E hg hr ⟨r, M, ws, hl, q, T, h⟩ => ⟨_, (bdy cdv A out s H E hg hr).nox, r, _, M, env_start q, T, fin_post h T.len⟩
theorem gn_body {x qual : Str} {st : Stmt} {g : FS} (F : Fun K x qual st f fd) (S : FnScope N ps (defScope st))
    (bdy : ∀ (cdv : Value) (A : Around) (out : List Env) (s : Shared) (H : Hp) (E : XK), A.guards = some [] → Room k (A.deeper (envOfC qual (defScope st) s.heap.objs.size f cdv)) →
      RSs (cxOf CX0 P w K mg base N qual (defScope st) f cdv A out s H E).nox E0 (defBody st) g) : FnG P w K mg base CX0 (k + 1) f fd ps (spN K ps.length (bodyN N.length g)) :=
  gokN F S (fun vs H Q E ⟨r, M, ws, hl, q, _⟩ => (RWL.length q).trans hl) fun cdv A out s H vs Q E hg hr ⟨r, M, ws, hl, q, T, h⟩ => ⟨_, (bdy cdv A out s H E hg hr).nox, r, _, M, env_start q, T, finN_post h T.len⟩
theorem g_imp {n : Nat} {φ ψ : FF} (h : ∀ ws M, ψ ws M = .bad ∨ φ ws M = ψ ws M) (F : FnG P w K mg base CX0 k f fd ps (sp0 K n φ)) : FnG P w K mg base CX0 k f fd ps (sp0 K n ψ) :=
  F.imp fun vs H Q E ⟨r, M, ws, hl, q, T, hp⟩ => ⟨r, M, ws, hl, q, T, (h ws M).elim (fun e => by rw [e] at hp; exact hp.elim) fun e => by rw [e]; exact hp⟩
theorem gn_imp {n : Nat} {φ ψ : List W → Sto → R (List D)} (h : ∀ ws M, ψ ws M = .bad ∨ φ ws M = ψ ws M) (F : FnG P w K mg base CX0 k f fd ps (spN K n φ)) : FnG P w K mg base CX0 k f fd ps (spN K n ψ) :=
  F.imp fun vs H Q E ⟨r, M, ws, hl, q, T, hp⟩ => ⟨r, M, ws, hl, q, T, (h ws M).elim (fun e => by rw [e] at hp; exact hp.elim) fun e => by rw [e]; exact hp⟩
end
/-! ### calls -/
section
variable {X : Cx} {CX : CXT} {k : Nat} {f : Addr} {fd : FuncData} {ps : List Str} {sp : Sp} {E E' : XK} {x : Str} {p pos : Pos} {e : Expr} {es : List Expr} {t : TA} {fs : FA} {n : Nat} {φ : FF} {ψ : List W → Sto → R (List D)}
theorem run_g {pins : List (Addr × Obj)} {σ : L2.St} {H : Hp} {s : Shared} {Q : VK} {us : List Value} {vs : List V} (F : FnG X.prog X.w X.K X.mg X.base CX k f fd ps sp) (hg : X.A.guards = some []) (hr : Room k X.A) (hb : Binds X.K fd ps []) (hx : Passes CX X E)
    (I : Inv X pins σ H s) (r : Vals vs us) (h : sp vs H Q E) : wpAny (model X.prog X.w) X.A (call (.ref f) us) (EP X pins σ Q) X.xe s := by
  have hl : us.length = ps.length := r.length.symm.trans (F.len _ _ _ _ h)
  have hb2 := hb s us I.kIn (by rw [List.append_nil]; exact hl)
  rw [List.append_nil] at hb2
  refine wpAny_call (codeAny_mono (F.go X.A X.stack s H ⟨us, []⟩ us vs Q E hg hr I.env0 hb2 r h) fun z s2 hq => ?_)
  match z, hq with
  | .error e, hq => exact hx pins σ H s e s2 I hq
  | .ok (.ret u), hq => exact I.after hq
  | .ok .next, hq => exact False.elim hq
  | .ok .brk, hq => exact False.elim hq
  | .ok .cont, hq => exact False.elim hq
theorem pe_g (F : FnG X.prog X.w X.K X.mg X.base CX k f fd ps sp) (gd : X.A.guards = some []) (hr : Room k X.A) (hg : Gl X x) (hm : X.mg x = some (.ref f)) (hk : PySem.W.keepIn X.K (.ref f) = true) (hb : Binds X.K fd ps []) (hx : Passes CX X E)
    (ha : PA X (e :: es) t) (hdb : (x == ("__debug__" : Str)) = false) (he : starEach (e :: es) X.env = (false, eval e X.env) :: starEach es X.env) (hpl : (backTo pos (starEach es X.env)).any (·.1) = false) :
    PE X (.Call (.Name x p) (e :: es) [] pos) (tCall sp [] E t) :=
  ⟨fun pins s σ H Q I h => wpAny_Call_Name_kw (ld_glob I hg hm (PySem.W.callWith_K (h₀ := X.base) I.ok.mod.kin hk (thn (ha.run pos pins s σ H _ I h) fun us s1 ⟨vs, H1, I1, r, q⟩ => ⟨I1.kIn, run_g F gd hr hb hx I1 r (by have q : sp (vs ++ []) H1 Q E := q; rw [List.append_nil] at q; exact q)⟩) he hpl) hdb)⟩
theorem pe_g0 (F : FnG X.prog X.w X.K X.mg X.base CX k f fd ps sp) (gd : X.A.guards = some []) (hr : Room k X.A) (hg : Gl X x) (hm : X.mg x = some (.ref f)) (hk : PySem.W.keepIn X.K (.ref f) = true) (hb : Binds X.K fd ps []) (hx : Passes CX X E)
    (hdb : (x == ("__debug__" : Str)) = false) : PE X (.Call (.Name x p) [] [] pos) (tCall sp [] E tNil) :=
  ⟨fun pins s σ H Q I h => wpAny_Call_Name_kw (ld_glob I hg hm (PySem.W.callWith_K0 I.kIn hk (run_g (us := []) (vs := []) F gd hr hb hx I .nil h)) hdb)⟩
theorem re_g (F : FnG X.prog X.w X.K X.mg X.base CX k f fd ps (sp0 X.K n φ)) (gd : X.A.guards = some []) (hr : Room k X.A) (hg : Gl X x) (hm : X.mg x = some (.ref f)) (hk : PySem.W.keepIn X.K (.ref f) = true) (hb : Binds X.K fd ps []) (hx : Passes CX X E')
    (ha : RA X E (e :: es) fs) (hdb : (x == ("__debug__" : Str)) = false := by decide) (he : starEach (e :: es) X.env = (false, eval e X.env) :: starEach es X.env := by rfl) (hpl : (backTo pos (starEach es X.env)).any (·.1) = false := by rfl) :
    RE X E (.Call (.Name x p) (e :: es) [] pos) (fCall0 n φ fs) := pe_imp (pe_g F gd hr hg hm hk hb hx ha hdb he hpl) call0_imp
theorem rn_g (F : FnG X.prog X.w X.K X.mg X.base CX k f fd ps (spN X.K n ψ)) (gd : X.A.guards = some []) (hr : Room k X.A) (hg : Gl X x) (hm : X.mg x = some (.ref f)) (hk : PySem.W.keepIn X.K (.ref f) = true) (hb : Binds X.K fd ps []) (hx : Passes CX X E')
    (ha : RA X E (e :: es) fs) (hdb : (x == ("__debug__" : Str)) = false := by decide) (he : starEach (e :: es) X.env = (false, eval e X.env) :: starEach es X.env := by rfl) (hpl : (backTo pos (starEach es X.env)).any (·.1) = false := by rfl) :
    RN X E (.Call (.Name x p) (e :: es) [] pos) (fCallN n ψ fs) := pe_imp (pe_g F gd hr hg hm hk hb hx ha hdb he hpl) callN_imp
end
/-! ### repr -/
def reprOk (p : PyData) : Bool := p.showable && (!p.hasDict && (decide (p.depth ≤ 60) && decide (p.shown.length ≤ 1000000)))
def rRepr (K : PySem.W.Frag) : List V → Hp → VK → Prop := fun vs H Q => ∃ v p, vs = [v] ∧ L2.Dp K H v p ∧ reprOk p = true ∧ Q (.str p.shown) H
theorem reprOk_of {p : PyData} (h : reprOk p = true) : p.showable = true ∧ p.hasDict = false ∧ p.depth ≤ 60 ∧ p.shown.length ≤ 1000000 := by
  unfold reprOk at h
  simp only [Bool.and_eq_true, Bool.not_eq_true', decide_eq_true_eq] at h
  exact ⟨h.1, h.2.1, h.2.2.1, h.2.2.2⟩
theorem cr_repr {X : Cx} (gd : X.A.guards = some []) (hu : X.A.units + 64 < cLine) : CallR X (.builtin "repr") (rRepr X.K) := by
  intro pins s σ H vs us Q I r ⟨v, p, e, hd, ho, q⟩
  subst e
  obtain ⟨u, rfl, rv⟩ : ∃ u, us = [u] ∧ RelV v u := by
    cases r with
    | cons a b => cases b; exact ⟨_, rfl, a⟩
  obtain ⟨h1, h2, h3, h4⟩ := reprOk_of ho
  have h5 : p.shown.length ≤ sizeLine := Nat.le_trans h4 (by decide)
  obtain ⟨as, rd⟩ := L2.Dp.reads I p v u hd rv
  cases hd with
  | non => cases rv; exact PySem.P.repr_of_none ⟨.str _, H, I.kept fun _ _ h => h, ⟨_, rfl⟩, q⟩
  | bl b => cases rv; exact PySem.P.repr_of_bool ⟨.str _, H, I.kept fun _ _ h => h, ⟨_, rfl⟩, q⟩
  | int i =>
    obtain ⟨t, rfl⟩ := rv
    exact PySem.P.repr_of_int (by simpa only [PyData.showable, decide_eq_true_eq] using h1) ⟨.str _, H, I.kept fun _ _ h => h, ⟨_, rfl⟩, q⟩
  | str x =>
    obtain ⟨t, rfl⟩ := rv
    exact PySem.P.repr_of_str ⟨.str _, H, I.kept fun _ _ h => h, ⟨_, rfl⟩, q⟩ h5
  | lst _ _ =>
    cases rv
    exact repr_of_reads' rd h1 (PyData.noDict_hsm h2) gd (by omega) (fun _ _ h => h) (fun h' u tk hk => ⟨.str _, H, I.kept hk, ⟨_, rfl⟩, q⟩) h5
  | tup _ _ =>
    cases rv
    exact repr_of_reads' rd h1 (PyData.noDict_hsm h2) gd (by omega) (fun _ _ h => h) (fun h' u tk hk => ⟨.str _, H, I.kept hk, ⟨_, rfl⟩, q⟩) h5
def gRepr : List D → Option D
  | [d] => d.toP.bind fun p => if reprOk p = true then some (.str p.shown) else none
  | _ => none
theorem cd_repr {K : PySem.W.Frag} : CallD K (rRepr K) gRepr := fun r M H vs ds d S h e Q q => by
  unfold gRepr at e
  split at e
  · simp only [Option.bind_eq_some_iff] at e
    obtain ⟨p, e1, e2⟩ := e
    split at e2
    · rename_i ho
      cases e2
      obtain ⟨v, rfl, h1⟩ := rdl1 h
      exact ⟨v, p, rfl, RD.dp h1 e1, ho, q _ H (Same.refl _) rp_str⟩
    · cases e2
  · cases e
end S9

namespace S9
open PySem PySem.Spec PyProof.Rows L2
/-! ### the law's own call -/
/-- what is wanted behind the law's call -/
abbrev Told (h : Heap) (os : OsState) (r : Result) (s' : Shared) : Prop := r = .ok (.ret (.bool true)) ∧ OldK h s'.heap ∧ s'.os = os ∧ AllBare s'.gens
section
variable {P : Program} {w : World} {K : PySem.W.Frag} {mg mb : Str → Option Value} {k : Nat} {fa a : Addr} {fd : FuncData} {x : Str} {sp : Sp} {s : Shared} {vs : List Value} {ns : List Int}
/-- .. from a heap in which at most the script is seen -/
theorem told_at (kin : K.In s.heap) (nsg : s.heap.Ns mainGlobals mg) (nsb : s.heap.Ns builtinsNs mb) (bb : ∀ y : Str, y ≠ "__name__" → mb y = bootBuiltins y) (nol : s.heap.NoLimit) (gen : s.gens = #[])
    (obj : s.heap.get? a = some { cls := .type "list", data := .seq vs.toArray }) (room : Room k callerA) (F : ∀ base : Heap, K.In base → base.Ns mainGlobals mg → FnG P w K mg base CX0 k fa fd [x] sp) (bnd : ∀ (s : Shared) (u : Value), BindsTo s fd ⟨[u], []⟩ [(x, u)])
    (H : Hp) (only : Only H) (hok : HOk P w H s.heap) (just : ∀ b, H b ≠ none → b = a) (nok : H a ≠ none → K.lookup a = none) (h : sp [.ref a] H (fun v _ => v = .bl true) fun _ _ _ => False) :
    codeAny (model P w) callerA (.call (.ref fa) ⟨[.ref a], []⟩) (Told s.heap s.os) s := by
  have hid : ∀ {b : Addr} {o : Obj}, s.heap.get? b = some o → H b = none → (hidT s.heap H).get? b = some o := fun e n => hidT_get e n
  have off : ∀ {b : Addr} {o : Obj}, (∀ u, H b = some u → b = a → False) → s.heap.get? b = some o → (hidT s.heap H).get? b = some o := fun {b o} g e => hid e (by
    cases q : H b with
    | none => rfl
    | some u => exact (g u q (just b (by rw [q]; simp))).elim)
  have ns' : ∀ {b : Addr} {m : Str → Option Value}, s.heap.Ns b m → (hidT s.heap H).Ns b m := fun {b m} ⟨o, es, ep, e, d, r⟩ => ⟨o, es, ep, off (fun u q eb => by
    subst eb
    rw [obj] at e
    cases e
    exact nomatch d) e, d, r⟩
  have kin' : K.In (hidT s.heap H) := fun b o e => off (fun u q eb => by
    subst eb
    rw [nok (by rw [q]; simp)] at e
    cases e) (kin b o e)
  have modl : Mod K mg (hidT s.heap H) := ⟨kin', ns' nsg, ⟨mb, ns' nsb, bb⟩, let ⟨mc, h1, h2⟩ := nol; ⟨mc, ns' h1, h2⟩⟩
  have env : Env0 P w K mg (hidT s.heap H) callerA [] s H := ⟨rfl, modl, fun _ _ e => of_hidT e, Nat.le_of_eq (hidT_size _ _), trivial, fun b hb => absurd (show b ∈ ([] : List Addr) from hb) List.not_mem_nil, hok, .of_eq gen⟩
  refine codeAny_mono ((F _ kin' (ns' nsg)).go callerA [] s H ⟨[.ref a], []⟩ [.ref a] [.ref a] _ _ rfl room env (bnd s (.ref a)) (.cons rfl .nil) h) fun r s2 hr => ?_
  match r, hr with
  | .error e, hr => exact False.elim hr
  | .ok .next, hr => exact False.elim hr
  | .ok .brk, hr => exact False.elim hr
  | .ok .cont, hr => exact False.elim hr
  | .ok (.ret u), ⟨v, H2, os, bare, un, hok2, rv, q⟩ =>
    have q : v = .bl true := q
    subst q
    obtain rfl : u = Value.bool true := rv
    refine ⟨rfl, OldK.of_keep fun b o e => ?_, os, bare⟩
    rcases only b with z | ⟨ob, xs, z⟩
    · exact un.keep b o e z (fun y => nomatch y) (by simp)
    · obtain ⟨e2, _⟩ := hok2 b _ (un.frzs b ob _ z)
      obtain ⟨e1, _⟩ := hok b _ z
      rw [e] at e1
      cases e1
      exact e2
theorem told (kin : K.In s.heap) (nsg : s.heap.Ns mainGlobals mg) (nsb : s.heap.Ns builtinsNs mb) (bb : ∀ y : Str, y ≠ "__name__" → mb y = bootBuiltins y) (nol : s.heap.NoLimit) (gen : s.gens = #[])
    (obj : s.heap.get? a = some { cls := .type "list", data := .seq vs.toArray }) (hin : IntsAre vs ns) (short : ns.length ≤ sizeLine) (room : Room k callerA) (F : ∀ base : Heap, K.In base → base.Ns mainGlobals mg → FnG P w K mg base CX0 k fa fd [x] sp)
    (bnd : ∀ (s : Shared) (u : Value), BindsTo s fd ⟨[u], []⟩ [(x, u)]) (h : ∀ H : Hp, Only H → SqL K H a (ns.map V.int) → sp [.ref a] H (fun v _ => v = .bl true) fun _ _ _ => False) : codeAny (model P w) callerA (.call (.ref fa) ⟨[.ref a], []⟩) (Told s.heap s.os) s := by
  have rv := vals_ints hin
  cases hk : K.lookup a with
  | some o =>
    have e := kin a o hk
    rw [obj] at e
    cases e
    have only : Only fun _ => none := fun _ => .inl rfl
    refine told_at kin nsg nsb bb nol gen obj room F bnd (fun _ => none) only (fun b u z => nomatch z) (fun b z => absurd rfl z) (fun z => absurd rfl z) (h _ only (.inr ⟨_, vs.toArray, _, hk, rfl, rfl, rfl, ?_, by simpa using rv⟩))
    rw [List.size_toArray, hin.length]
    exact short
  | none =>
    have at_ : (fun b => if b = a then some (HO.frz { cls := .type "list", data := .seq vs.toArray } (.lst (ns.map V.int))) else none : Hp) a = some (.frz { cls := .type "list", data := .seq vs.toArray } (.lst (ns.map V.int))) := if_pos rfl
    have else_ : ∀ b, b ≠ a → (fun b => if b = a then some (HO.frz { cls := .type "list", data := .seq vs.toArray } (.lst (ns.map V.int))) else none : Hp) b = none := fun b n => if_neg n
    revert at_ else_
    generalize (fun b => if b = a then some (HO.frz { cls := .type "list", data := .seq vs.toArray } (.lst (ns.map V.int))) else none : Hp) = H
    intro at_ else_
    have only : Only H := fun b => if e : b = a then .inr ⟨_, _, e ▸ at_⟩ else .inl (else_ b e)
    refine told_at kin nsg nsb bb nol gen obj room F bnd H only (fun b u z => ?_) (fun b z => Decidable.by_contra fun n => z (else_ b n)) (fun _ => hk) (h _ only (.inl (.inr ⟨_, at_⟩)))
    by_cases e : b = a
    · subst e
      rw [at_] at z
      cases z
      exact ⟨obj, by rw [List.length_map]; exact short, vs, _, rv, obj⟩
    · rw [else_ b e] at z
      cases z
end
/-- the walk of a law by its def's promise -/
theorem walk_g {l : PySem.W.OpenLaw} {n k : Nat} {q : Program} {loose : List Str} {XP : (Str → Option Value) → Heap → Prop} {YP : World → Heap → Prop} {d : DefRec} {K : Params → PySem.W.Frag} {sp : PySem.W.Frag → Sp} {x : Str}
    (hn : l.most = some n) (hn2 : n ≤ sizeLine) (hdf : d.params.defaults = []) (hr : Room k callerA) (hY : ∀ (w : World) (h : Heap), YP w h → (K w.params).In h)
    (F : ∀ (w : World) (mg : Str → Option Value) (fa : Addr) (h : Heap), (K w.params).In h → h.Ns mainGlobals mg → mg d.name = some (.ref fa) →
      ∃ fd : FuncData, (∀ (s : Shared) (u : Value), BindsTo s fd ⟨[u], []⟩ [(x, u)]) ∧ ∀ base : Heap, (K w.params).In base → base.Ns mainGlobals mg → FnG l.prog w (K w.params) mg base CX0 k fa fd [x] (sp (K w.params)))
    (hsp : ∀ (K : PySem.W.Frag) (H : Hp) (a : Addr) (ns : List Int), ns.length ≤ n → (∀ k ∈ ns, Builtin.Int.intBits k ≤ 1048576) → Only H → SqL K H a (ns.map V.int) → sp K [.ref a] H (fun v _ => v = .bl true) fun _ _ _ => False) :
    PySem.W.WalkO q loose XP YP l.row.toRowW d [] (fun f vs => PySem.call f vs) := by
  refine Att.attach_callB hn hdf fun w s₀ s₁ mg mb fa o pm cd doc a vs ns G Y _ _ _ hmg obj hin hlen bits gen => ?_
  obtain ⟨fd, hb, hF⟩ := F w mg fa _ (hY w _ Y) G.T.g hmg
  exact told (hY w _ Y) G.T.g G.T.b G.T.builtins G.T.nolimit gen obj hin (Nat.le_trans hlen hn2) hr hF hb fun H hO hS => hsp _ H a ns hlen bits hO hS
/-- .. by plain sums over the data -/
theorem told_of {φ : FF} (h : ∀ ns : List Int, ns.length ≤ 63 → (∀ k ∈ ns, Builtin.Int.intBits k ≤ 1048576) → ∃ M, φ [.d (.frl (ns.map D.int))] [] = .ok (.d (.bl true)) M) (K : PySem.W.Frag) (H : Hp) (a : Addr) (ns : List Int) (h1 : ns.length ≤ 63)
    (h2 : ∀ k ∈ ns, Builtin.Int.intBits k ≤ 1048576) (_ : Only H) (h3 : SqL K H a (ns.map V.int)) : sp0 K 1 φ [.ref a] H (fun v _ => v = .bl true) fun _ _ _ => False := by
  obtain ⟨M, e⟩ := h ns h1 h2
  have hz : fz ⟨[], []⟩ H = H := by
    funext b
    exact fz_out (fun z => by rcases z with z | z <;> cases z)
  refine ⟨⟨[], []⟩, [], [.d (.frl (ns.map D.int))], rfl, RWL.cons ?_ RWL.nil, ⟨rfl, ⟨List.nodup_nil, List.nodup_nil⟩, fun _ z => absurd z List.not_mem_nil, fun _ z => absurd z List.not_mem_nil, fun k b c z => by simp at z⟩, ?_⟩
  · show Rp K (fz ⟨[], []⟩ H) (.frl (ns.map D.int)) (.ref a)
    rw [hz]
    simp only [Rp]
    exact ⟨a, _, rfl, h3, RpL.of_ints⟩
  · rw [e]
    intro v H' r' _ _ q
    simpa only [relW, RW, Rp] using q
end S9

namespace S9
open PySem PySem.Spec PyProof.Rows L2
section
variable {X : Cx} {E : XK} {a b c : Expr} {fs : FA} {i j l : Nat} {x y z : Str} {px py pz pt pos : Pos} {kt : Nat} {k2 : Nat} {pt2 : Pos}
theorem rs_par (hc : X.calm = true) (hN : X.N.Nodup) (hi : X.N[i]? = some x) (hj : X.N[j]? = some y) (hij : i ≠ j) (hx : X.env.scope.names.lookup x = some .local) (hy : X.env.scope.names.lookup y = some .local) (ha : RA X E [a, b] fs)
    (hw : swappedStores [.Tuple [.Name x px, .Name y py] kt pt] (.Tuple [a, b] k2 pt2) X.env = pure (some [x, y]) := by rfl) (hs : swapsWithSole [.Tuple [.Name x px, .Name y py] kt pt] (.Tuple [a, b] k2 pt2) pos.line X.env = pure false := by rfl) :
    RS X E (.Assign [.Tuple [.Name x px, .Name y py] kt pt] (.Tuple [a, b] k2 pt2) pos) (sPar i j fs) := ps_imp (ps_par hc hN hi hj hij hx hy ha hw hs) fun D σ H ⟨r, δ, M, Ev, S, k⟩ =>
  ⟨r, δ, M, Ev, S, PostS.bind k fun ws M1 vs H1 r1 _ n1 S1 q1 k1 => by
    match ws, k1, q1 with
    | [], k1, _ => exact k1.elim
    | [_], k1, _ => exact k1.elim
    | _ :: _ :: _ :: _, k1, _ => exact k1.elim
    | [v, w], k1, q1 =>
      match vs, q1 with
      | [], q1 => cases q1
      | [_], ⟨_, _, e, _, q⟩ => cases e; cases q
      | _ :: _ :: _ :: _, ⟨_, _, e, _, ⟨_, _, e2, _, q⟩⟩ => cases e; cases e2; obtain ⟨_, _, e3, _⟩ := q; cases e3
      | [v1, w1], ⟨_, _, e, h1, ⟨_, _, e2, h2, _⟩⟩ =>
        cases e
        cases e2
        exact ⟨v1, w1, rfl, k1 _ H1 r1 Nxt.refl S1 (((Ev.mono n1).set h1).set h2)⟩⟩
def sPar3 (i j l : Nat) (fs : FA) : FS := fun δ M => (fs δ M).bind fun ws M1 => match ws with
  | [u, v, w] => .ok (.nx (((δ.set i (some u)).set j (some v)).set l (some w))) M1
  | _ => .bad
theorem rwl_3 {K : PySem.W.Frag} {r : Rg} {H : Hp} {vs : List V} {a b c : W} (h : RWL K r H vs [a, b, c]) : ∃ x y z, vs = [x, y, z] ∧ RW K r H x a ∧ RW K r H y b ∧ RW K r H z c := by
  have hl := h.length
  match vs, hl, h with
  | [x, y, z], _, ⟨_, _, e, h1, ⟨_, _, e2, h2, ⟨_, _, e3, h3, _⟩⟩⟩ =>
    cases e
    cases e2
    cases e3
    exact ⟨x, y, z, rfl, h1, h2, h3⟩
theorem rs_par3 (hc : X.calm = true) (hN : X.N.Nodup) (hi : X.N[i]? = some x) (hj : X.N[j]? = some y) (hl : X.N[l]? = some z) (hij : i ≠ j) (hil : i ≠ l) (hjl : j ≠ l) (hx : X.env.scope.names.lookup x = some .local) (hy : X.env.scope.names.lookup y = some .local) (hz : X.env.scope.names.lookup z = some .local) (ha : RA X E [a, b, c] fs)
    (hw : swappedStores [.Tuple [.Name x px, .Name y py, .Name z pz] kt pt] (.Tuple [a, b, c] k2 pt2) X.env = pure (some [x, y, z]) := by rfl) (hs : swapsWithSole [.Tuple [.Name x px, .Name y py, .Name z pz] kt pt] (.Tuple [a, b, c] k2 pt2) pos.line X.env = pure false := by rfl) :
    RS X E (.Assign [.Tuple [.Name x px, .Name y py, .Name z pz] kt pt] (.Tuple [a, b, c] k2 pt2) pos) (sPar3 i j l fs) := ps_imp (ps_par3 hc hN hi hj hl hij hil hjl hx hy hz ha hw hs) fun D σ H ⟨r, δ, M, Ev, S, k⟩ =>
  ⟨r, δ, M, Ev, S, PostS.bind k fun ws M1 vs H1 r1 _ n1 S1 q1 k1 => by
    match ws, k1, q1 with
    | [], k1, _ => exact k1.elim
    | [_], k1, _ => exact k1.elim
    | [_, _], k1, _ => exact k1.elim
    | _ :: _ :: _ :: _ :: _, k1, _ => exact k1.elim
    | [u, v, w], k1, q1 =>
      obtain ⟨x1, y1, z1, rfl, h1, h2, h3⟩ := rwl_3 q1
      exact ⟨x1, y1, z1, rfl, k1 _ H1 r1 Nxt.refl S1 ((((Ev.mono n1).set h1).set h2).set h3)⟩⟩
end
end S9

set_option maxHeartbeats 1000000
namespace S9
open PySem PySem.Spec PyProof.Rows L2 Z9
/-! ### enumerate of a list or a tuple, any target -/
abbrev enObj (it : Addr) : Obj := { cls := .type "enumerate", data := .fields #[.none, .bool false, .ref it, rawInt 0, .none, .none] }
theorem src_obj {h : Heap} {t : Bool} {a : Addr} {xs : Array Value} (x : SrcIts h t a xs) : ∃ o, h.get? a = some o ∧ o.cls = .type (if t = true then "tuple" else "list") := by
  cases t with
  | true => obtain ⟨o, h1, h2, _⟩ := (show h.IsTuple a xs from x); exact ⟨o, h1, h2⟩
  | false => obtain ⟨o, h1, h2, _⟩ := (show h.IsList a xs from x); exact ⟨o, h1, h2⟩
theorem meets_enum (t : Bool) (a : Addr) (xs : Array Value) (dct : Option Addr) (dt : Data) (sl : Array (Option Value)) :
    Meets (Builtin.«enumerate.__new__» ⟨[.type "enumerate", .ref a], []⟩) (fun _ R s => s.heap.get? a = some { cls := .type (if t = true then "tuple" else "list"), dict := dct, data := dt, slots := sl } ∧ SrcIts s.heap t a xs ∧
      R (.ok (.ret (.ref (zA s.heap t a).objs.size))) { s with heap := (zA s.heap t a).push (enObj s.heap.objs.size) }) :=
  .of_wp fun prog w A R s h => by
    obtain ⟨hp, g, d, tk, os⟩ := s; obtain ⟨hl, hs, h⟩ := h
    have hsub := sub_enumerate
    have hL : SrcIts (Shared.heap ⟨hp, g, d, tk, os⟩) t a xs := hs
    cases t with
    | true =>
      have hl : hp.get? a = some { cls := .type "tuple", dict := dct, data := dt, slots := sl } := hl
      wp_walk using AutoSeq1.wpAny_loadPart' hl
      refine wpAny_stack_any fun st => wpAny_pure ?_
      split
      · rename_i c _ _ _ _ _
        cases (c == Value.type "enumerate")
        · wp_walk using AutoSeq1.wpAny_loadPart' hl, iter_src hL
          exact ⟨_, rfl, h⟩
        · wp_walk using AutoSeq1.wpAny_loadPart' hl, iter_src hL
          exact ⟨_, rfl, h⟩
      · wp_walk using AutoSeq1.wpAny_loadPart' hl, iter_src hL
        exact ⟨_, rfl, h⟩
    | false =>
      have hl : hp.get? a = some { cls := .type "list", dict := dct, data := dt, slots := sl } := hl
      wp_walk using AutoSeq1.wpAny_loadPart' hl
      refine wpAny_stack_any fun st => wpAny_pure ?_
      split
      · rename_i c _ _ _ _ _
        cases (c == Value.type "enumerate")
        · wp_walk using AutoSeq1.wpAny_loadPart' hl, iter_src hL
          exact ⟨_, rfl, h⟩
        · wp_walk using AutoSeq1.wpAny_loadPart' hl, iter_src hL
          exact ⟨_, rfl, h⟩
      · wp_walk using AutoSeq1.wpAny_loadPart' hl, iter_src hL
        exact ⟨_, rfl, h⟩
section
variable {prog : Program} {w : World} {A : Around} {E : Value → Shared → Prop} {s : Shared}
theorem call_enum {t : Bool} {a : Addr} {xs : Array Value} {Q : Value → Shared → Prop} (hs : SrcIts s.heap t a xs)
    (h : ∀ h', IsEnum h' (s.heap.objs.size + 1) s.heap.objs.size 0 .none → (Src.mk t s.heap.objs.size a).at_ h' 0 → (∀ b o, s.heap.get? b = some o → h'.get? b = some o) → Q (.ref (s.heap.objs.size + 1)) { s with heap := h' }) :
    wpAny (model prog w) A (call (.type "enumerate") [.ref a]) Q E s := by
  obtain ⟨⟨c, dct, dt, sl⟩, hl, hc⟩ := src_obj hs
  have hc : c = .type (if t = true then "tuple" else "list") := hc
  subst hc
  refine callType_new F.called_enumerate (by decide) (F.typeCall_enumerate_1 _) (F.newCall_enumerate_1 _) (fun obj => F.args_object_init_2 obj _) F.entry_enumerate_new (meets_enum t a xs dct dt sl) ⟨hl, hs, ?_⟩
  have z1 : (zA s.heap t a).objs.size = s.heap.objs.size + 1 := Heap.size_push ..
  have e0 : (zA s.heap t a).get? s.heap.objs.size = some (itObj t a) := Heap.get?_push_size _ rfl
  have up0 : ∀ b o, s.heap.get? b = some o → (zA s.heap t a).get? b = some o := fun b o x => Heap.get?_push_of_some _ x
  generalize zA s.heap t a = G at z1 e0 up0
  have e1 : (G.push (enObj s.heap.objs.size)).get? G.objs.size = some (enObj s.heap.objs.size) := Heap.get?_push_size _ rfl
  have up1 : ∀ b o, G.get? b = some o → (G.push (enObj s.heap.objs.size)).get? b = some o := fun b o x => Heap.get?_push_of_some _ x
  show _ ∧ _
  refine ⟨⟨_, e1, rfl⟩, ?_⟩
  rw [z1] at e1 ⊢
  exact h _ e1 (src_new (up1 _ _ e0)) fun b o x => up1 _ _ (up0 _ _ x)
end
/-- a source as the library's draws -/
theorem draws_src {prog : Program} {w : World} {A : Around} (hh : A.handled = none) (q : Src) (hne : q.it ≠ q.l) (xs : Array Value) : Draws prog w A q.it [q.it, q.l] xs.size (fun i v => xs[i]? = some v) (fun i h => q.at_ h i ∧ q.its h xs) where
  live := fun i h st => let ⟨o, e, _⟩ := Src.obj st.1; ⟨o, e⟩
  frame := fun i h h' st k => ⟨Src.keep st.1 fun o e => k q.it (by simp) o e, Src.keepI st.2 fun o e => k q.l (by simp) o e⟩
  item := fun i s Q E hi st hQ => draw_item st.1 st.2 (Array.getElem?_eq_getElem hi) fun h' a sb => hQ _ h' s.toks (Array.getElem?_eq_getElem hi) ⟨a, Src.keepI st.2 fun o e => (sb.2 _ (Ne.symm hne)).trans e⟩ sb
  done := fun s Q E st hE => draw_end hh st.1 st.2 (Array.getElem?_eq_none (Nat.le_refl _)) hE
def Iten (K : PySem.W.Frag) (q : Bool × Addr) : It :=
  ⟨fun i H => ∃ (xs : List V) (x : V), Sq K H q xs ∧ xs[i]? = some x, fun i H v H' => ∃ T x, v = .ref T ∧ H T = none ∧ H' = upd H T (.tup [.int (i : Nat), x]) ∧ ∀ xs, Sq K H q xs → xs[i]? = some x, fun i H => ∃ xs : List V, Sq K H q xs ∧ xs.length ≤ i⟩
theorem turn_en {P : Program} {w : World} {K : PySem.W.Frag} {elts : List Expr} {kk : Nat} {tpos : Pos} {e : Addr} (q : Src) (hne : e ≠ q.it) (hnl : e ≠ q.l) (hil : q.it ≠ q.l) :
    Turn P w K (.Tuple elts kk tpos) (Iten K (srcOf q)) [e, q.it] e (fun i h => (∃ old, IsEnum h e q.it ((i : Nat) : Int) old) ∧ q.at_ h i) where
  mem := by simp
  obj := fun i h st b hb => by
    obtain ⟨⟨old, he⟩, hq⟩ := st
    rcases List.mem_cons.mp hb with z | hb
    · rw [z]; exact ⟨_, he, fun v q => nomatch q⟩
    · rw [List.mem_singleton.mp hb]; exact Src.obj hq
  keep := fun i h h' st k => let ⟨⟨old, he⟩, hi⟩ := st; ⟨⟨old, k e (by simp) _ he⟩, Src.keep hi fun o x => k q.it (by simp) o x⟩
  item := by
    intro X hP hw hK hc i pins s σ H E I hf st hg
    subst hP hw hK
    obtain ⟨⟨old, he⟩, hit⟩ := st
    obtain ⟨xs, x, hq, hx⟩ := hg
    obtain ⟨its, rv, hsrc, _⟩ := sq_its I hq
    obtain ⟨u, hu, ru⟩ := rv.get hx
    have hel : e < s.heap.objs.size := Heap.lt_size he
    have hil2 : q.it < s.heap.objs.size := by obtain ⟨_, z, _⟩ := Src.obj hit; exact Heap.lt_size z
    have hlt : i < its.toArray.size := by simpa using (List.getElem?_eq_some_iff.mp hu).1
    refine wpAny_pyNext_enum_itemD (draws_src (A := X.A.in1) (I.ok.hd hc) q hil its.toArray) he ⟨hit, hsrc⟩ hlt hne (by simp [hne, hnl]) fun y h' tk hy ho st' hT hsz hk => ?_
    have : y = u := by
      rw [List.getElem?_toArray, hu] at hy
      exact (Option.some.inj hy).symm
    subst this
    refine ⟨_, rfl, wpAny_letOwnedTupleGo_enum (s := { s with heap := h', toks := tk + 1 }) ho fun h'' he' sb => ?_⟩
    have hT2 := (sb.2 _ (Nat.ne_of_gt hel)).trans hT
    have new : ObjOk X.prog X.w (upd H s.heap.objs.size (.tup [.int (i : Nat), x])) h'' s.heap.objs.size (.tup [.int (i : Nat), x]) := ⟨by show 2 ≤ sizeLine; decide, [.int i tk, y], .cons ⟨_, rfl⟩ (.cons ru .nil), ⟨_, hT2, rfl, _, rfl⟩⟩
    have I1 : Inv X pins σ (upd H s.heap.objs.size (.tup [.int (i : Nat), x])) { s with heap := h'', toks := tk + 1 } :=
      I.turnedNew (ch := [e, q.it]) (fun b ob hb z => (sb.2 b (fun y => hb (by simp [y]))).trans (hk b ob (fun y => hb (by simp [y])) (fun y => hb (by simp [y])) z)) hf (Nat.le_refl _) new
    refine ⟨.ref s.heap.objs.size, _, I1, rfl, ⟨_, x, rfl, I.hok.fresh (Nat.le_refl _), rfl, fun ys hy => by rw [sq_inj I hy hq]; exact hx⟩, ⟨⟨y, ?_⟩, Src.keep st'.1 fun o z => (sb.2 q.it (Ne.symm hne)).trans z⟩, fun b hb => ?_⟩
    · have e1 : ((i + 1 : Nat) : Int) = (i : Int) + 1 := by omega
      rw [e1]; exact he'
    · have hb' : b < s.heap.objs.size := by
        rcases List.mem_cons.mp hb with z | hb
        · rw [z]; exact hel
        · rw [List.mem_singleton.mp hb]; exact hil2
      rw [upd_ne (Nat.ne_of_lt hb')]
      exact (hf b hb).1
  done := by
    intro X hP hw hK hc i pins s σ H E I hf st hg
    subst hP hw hK
    obtain ⟨⟨old, he⟩, hit⟩ := st
    obtain ⟨xs, hq, hx⟩ := hg
    obtain ⟨its, rv, hsrc, _⟩ := sq_its I hq
    have hl := rv.length
    have ty : s.TypeIs (.ref e) "enumerate" := ⟨_, he, rfl⟩
    have none_ : its.toArray[i]? = none := Array.getElem?_eq_none (by simp; omega)
    obtain ⟨f0, f1, f2, f3, f4, f5⟩ := hf q.it (by simp)
    unfold pyNext
    refine wpAny_bind (wpAny_attempt (wpAny_callSpecial?_slot (name := Str.ofString "__next__") ty F.slot_enumerate_next (wpAny_call_entry F.slot_enumerate_next ty F.entry_enumerate_next ?_ (F.args_enumerate_next_1 _))))
    show wpAny _ _ (field (.ref e) 2 >>= _) _ _ _
    refine wpAny_bind (wpAny_field he rfl (x := .ref q.it) rfl (wpAny_bind (draw_end (I.ok.hd hc) hit hsrc none_ fun h' x eb ⟨o, ho, hcl⟩ => ?_)))
    refine wpAny_bind (wpAny_isInstance (T := "StopIteration") (b := true) ⟨o, ho, hcl⟩ isSubtype_stop (wpAny_pure ?_))
    exact ⟨rfl, I.turned (t' := s.toks) (fun b o hb z => eb b o hb z) f0 f1 f3 f4 f5⟩
  self := fun A i s Q E st h => let ⟨⟨_, he⟩, _⟩ := st; wpAny_pyIter_enum he h
end S9

namespace S9
open PySem PySem.Spec PyProof.Rows L2 Z9
/-! ### enumerate -/
section
variable {X : Cx} {E : XK} {tg e : Expr} {fa : FE} {p pos tpos : Pos} {elts : List Expr} {kk : Nat}
def iEnA (K : PySem.W.Frag) (ta : TA) : TI := fun σ H R => ta σ H fun vs H1 => ∃ q : Bool × Addr, vs = [V.ref q.2] ∧ (∃ xs, Sq K H1 q xs) ∧ R (Iten K q) H1
theorem pi_enA {ta : TA} (hg : Gl X "enumerate") (hm : X.mg "enumerate" = none) (ha : PA X [e] ta) (hs : starEach [e] X.env = [(false, eval e X.env)]) : PI X (.Tuple elts kk tpos) (.Call (.Name "enumerate" p) [e] [] pos) (iEnA X.K ta) := by
  refine ⟨fun pins s σ H R I h => ?_⟩
  refine Call_ (ld_blt I hg hm boot_enumerate (callWith_type1 (thn (ha.run pos pins s σ H _ I h) fun us s1 ⟨vs, H1, I1, rv, ⟨q, ev, ⟨xs, hx⟩, hR⟩⟩ => ?_) hs rfl))
  subst ev
  rw [Vals.ref1 rv]
  obtain ⟨t, a⟩ := q
  obtain ⟨its, _, hsrc, hlt⟩ := sq_its I1 hx
  refine call_enum hsrc fun h' he hit hk => wpAny_pyIter_enum he ?_
  have I2 : Inv X pins σ H1 { s1 with heap := h' } := I1.kept (t' := s1.toks) hk
  have hlt : a < s1.heap.objs.size := hlt
  refine ⟨s1.heap.objs.size + 1, [s1.heap.objs.size + 1, s1.heap.objs.size], _, _, H1, rfl, I2, turn_en (e := s1.heap.objs.size + 1) ⟨t, s1.heap.objs.size, a⟩ (Nat.succ_ne_self _) (Nat.ne_of_gt (Nat.lt_succ_of_lt hlt)) (Nat.ne_of_gt hlt), ⟨⟨.none, he⟩, hit⟩, fun b hb => ?_, hR⟩
  have hle : s1.heap.objs.size ≤ b := by
    rcases List.mem_cons.mp hb with z | hb
    · rw [z]; exact Nat.le_succ _
    · rw [List.mem_singleton.mp hb]; exact Nat.le_refl _
  exact I1.fpOk hle (I1.hok.fresh hle)
def fEnumA (fa : FE) : FI := fun δ M => (fa δ M).bind fun w M1 => R.of M1 ((itemsW M1 w).map fun p => (enumD p.1, p.2))
theorem wk_enA {K : PySem.W.Frag} {r : Rg} {M : Sto} {H : Hp} {q : Bool × Addr} {l : List D} {lk : List Nat} (st : Stands K q l lk r M H) : Wk K (Iten K q) (enumD l) lk r M H := fun r1 H1 M1 x n S hk i => by
  obtain ⟨xs, h1, h2⟩ := st r1 H1 M1 x n S hk
  refine ⟨fun d hd => ?_, fun hi => ⟨xs, h1, ?_⟩⟩
  · rw [enumD_get] at hd
    cases e : l[i]? with
    | none => rw [e] at hd; cases hd
    | some y =>
      rw [e] at hd
      cases hd
      obtain ⟨v, hv, hq⟩ := h2.get e
      refine ⟨⟨xs, v, h1, hv⟩, fun z H2 ⟨T, u, e1, hT, e2, hu⟩ => ?_⟩
      subst e1
      subst e2
      have := hu xs h1
      rw [hv] at this
      cases this
      exact ⟨same_up hT, rp_tup S hT (RpL.cons rp_int (RpL.cons hq RpL.nil))⟩
  · unfold enumD at hi
    rw [List.length_map, List.length_zipIdx] at hi
    rw [h2.length]
    exact hi
theorem ri_enumA (hg : Gl X "enumerate") (hm : X.mg "enumerate" = none) (ha : RA X E [e] (fCons fa fNil)) (hs : starEach [e] X.env = [(false, eval e X.env)] := by rfl) :
    RI X E (.Tuple elts kk tpos) (.Call (.Name "enumerate" p) [e] [] pos) (fEnumA fa) := pi_imp (pi_enA hg hm ha hs) fun σ H Q ⟨r, δ, M, Ev, S, k⟩ => by
  refine ⟨r, δ, M, Ev, S, ?_⟩
  have k2 : PostI X.K E r H ((fCons fa fNil δ M).bind fun ws M1 => R.of M1 (match ws with | [w] => (itemsW M1 w).map fun p => (enumD p.1, p.2) | _ => none)) Q := by
    revert k
    unfold fEnumA fCons fNil
    cases fa δ M with
    | bad => exact fun h => h
    | ex _ _ => exact fun h => h
    | ok w M1 => exact fun h => h
  exact PostI.bind k2 fun ws M1 vs H1 r1 hok n1 S1 q1 k1 => by
    match ws, k1, q1 with
    | [], k1, q1 => exact k1.elim
    | _ :: _ :: _, k1, q1 => exact k1.elim
    | [w], k1, q1 =>
      simp only at k1
      cases e : itemsW M1 w with
      | none => rw [e] at k1; exact k1.elim
      | some z =>
        rw [e] at k1
        obtain ⟨l, lk⟩ := z
        match vs, q1 with
        | [], q1 => cases q1
        | v :: vs, ⟨w', ws', e', q2, q3⟩ =>
          cases e'
          match vs, q3 with
          | _ :: _, ⟨_, _, e', _⟩ => cases e'
          | [], _ =>
            obtain ⟨q, rfl, hx, st⟩ := itemsW_stands S1 q2 e
            exact ⟨q, rfl, hx, k1 _ _ r1 Nxt.refl S1 (wk_enA st)⟩
end
/-! ### what is never reached -/
def sBad : FS := fun _ _ => .bad
def fBad : FE := fun _ _ => .bad
theorem rs_bad {X : Cx} {E : XK} {st : Stmt} : RS X E st sBad := ⟨fun pins s σ H D I ⟨r, δ, M, Ev, S, k⟩ => k.elim⟩
theorem re_bad {X : Cx} {E : XK} {e : Expr} : RE X E e fBad := ⟨fun pins s σ H Q I ⟨r, δ, M, Ev, S, k⟩ => k.elim⟩
/-! ### names of built-in types, isinstance -/
section
variable {X : Cx} {E : XK} {pos : Pos} {K : PySem.W.Frag}
theorem re_ty {x : Str} {T : String} (hg : Gl X x) (hm : X.mg x = none) (hv : bootBuiltins x = some (.type T)) (hn : x ≠ "__name__" := by decide) (hd : (x == ("__debug__" : Str)) = false := by decide) : RE X E (.Name x pos) (fC (.ty T)) :=
  re_c (v := .ty T) (pe_bltn hg hm hv rfl hn hd) fun _ => by simp only [Rp]
def tyD : D → Option String
  | .non => some "NoneType"
  | .bl _ => some "bool"
  | .int _ => some "int"
  | .str _ => some "str"
  | .tup _ => some "tuple"
  | .lst _ => some "list"
  | .frl _ => some "list"
  | .dct _ _ => some "dict"
  | _ => none
theorem tyx_t {H : Hp} {a : Addr} {xs : List V} (h : SqT K H a xs) : TyX K H (.ref a) (.type "tuple") := by
  rcases h with (h | ⟨o, h⟩) | ⟨o, its, n, h1, h2, _⟩
  · exact .base (.tup h)
  · exact .fTuple h
  · exact .kTuple h1 h2
theorem tyx_l {H : Hp} {a : Addr} {xs : List V} (h : SqL K H a xs) : TyX K H (.ref a) (.type "list") := by
  rcases h with (h | ⟨o, h⟩) | ⟨o, its, n, h1, h2, _⟩
  · exact .base (.lst h)
  · exact .base (.frz h)
  · exact .kList h1 h2
theorem RD.tyx {r : Rg} {H : Hp} {d : D} {v : V} {T : String} (h : RD K r H v d) (e : tyD d = some T) : TyX K H v (.type T) := by
  cases d with
  | non => cases e; simp only [RD, Rp] at h; subst h; exact .base .non
  | bl b => cases e; simp only [RD, Rp] at h; subst h; exact .base (.bl b)
  | int b => cases e; simp only [RD, Rp] at h; subst h; exact .base (.int b)
  | str b => cases e; simp only [RD, Rp] at h; subst h; exact .base (.str b)
  | tup l =>
    cases e
    simp only [RD, Rp] at h
    obtain ⟨a, xs, rfl, h1, _⟩ := h
    exact tyx_t (same_t fz_sub h1)
  | lst l =>
    cases e
    obtain ⟨a, xs, rfl, h1, _⟩ := h
    exact .base (.lst h1)
  | frl l =>
    cases e
    simp only [RD, Rp] at h
    obtain ⟨a, xs, rfl, h1, _⟩ := h
    exact tyx_l (fz_sub.seq h1)
  | dct ks l =>
    cases e
    obtain ⟨a, kvs, rfl, h1, _⟩ := h
    exact .base (.dK h1)
  | ins _ _ _ => cases e
  | ty _ => cases e
  | cls _ => cases e
def gIsi : List D → Option D
  | [d, .ty n] => (tyD d).bind fun m => (kitB m n).map D.bl
  | _ => none
theorem cd_isi : CallD K (rIsi K) gIsi := fun r M H vs ds d S h e Q q => by
  unfold gIsi at e
  split at e
  · simp only [Option.bind_eq_some_iff, Option.map_eq_some_iff] at e
    obtain ⟨m, e1, b, e2, rfl⟩ := e
    obtain ⟨v, u, rfl, h1, h2⟩ := rdl2 h
    simp only [RD, Rp] at h2
    subst h2
    exact ⟨v, _, _, _, b, rfl, .ty _, RD.tyx h1 e1, kit_ty e2, q _ H (Same.refl _) rp_bl⟩
  · cases e
/-- what isinstance tells by the kinds -/
theorem isi_int (d : D) : gIsi [d, .ty "int"] = (tyD d).map fun m => D.bl (m == "int" || m == "bool") := by cases d <;> rfl
theorem isi_bool (d : D) : gIsi [d, .ty "bool"] = (tyD d).map fun m => D.bl (m == "bool") := by cases d <;> rfl
theorem isi_str (d : D) : gIsi [d, .ty "str"] = (tyD d).map fun m => D.bl (m == "str") := by cases d <;> rfl
theorem isi_tuple (d : D) : gIsi [d, .ty "tuple"] = (tyD d).map fun m => D.bl (m == "tuple") := by cases d <;> rfl
theorem isi_list (d : D) : gIsi [d, .ty "list"] = (tyD d).map fun m => D.bl (m == "list") := by cases d <;> rfl
theorem isi_dict (d : D) : gIsi [d, .ty "dict"] = (tyD d).map fun m => D.bl (m == "dict") := by cases d <;> rfl
/-! is None, in -/
def isN (d : D) : Bool := match d with
  | .non => true
  | _ => false
theorem isN_v {r : Rg} {H : Hp} {d : D} {v : V} (h : RD K r H v d) : decide (v = .non) = isN d := by
  cases d with
  | non => simp only [RD, Rp] at h; subst h; rfl
  | bl b => simp only [RD, Rp] at h; subst h; rfl
  | int b => simp only [RD, Rp] at h; subst h; rfl
  | str b => simp only [RD, Rp] at h; subst h; rfl
  | tup l => simp only [RD, Rp] at h; obtain ⟨a, xs, rfl, _⟩ := h; rfl
  | lst l => obtain ⟨a, xs, rfl, _⟩ := h; rfl
  | frl l => simp only [RD, Rp] at h; obtain ⟨a, xs, rfl, _⟩ := h; rfl
  | dct ks l => obtain ⟨a, xs, rfl, _⟩ := h; rfl
  | ins _ _ _ => simp only [RD, Rp] at h; obtain ⟨a, dx, fs, rfl, _⟩ := h; rfl
  | ty _ => simp only [RD, Rp] at h; subst h; rfl
  | cls _ => simp only [RD, Rp] at h; subst h; rfl
def gIsN : D → D → Option D
  | a, .non => some (.bl (isN a))
  | _, _ => none
def gNotN : D → D → Option D
  | a, .non => some (.bl (!isN a))
  | _, _ => none
theorem od_isN : OpD K (fun x y H Q => y = .non ∧ Q (.bl (decide (x = .non))) H) gIsN := fun r M H x y d1 d2 d S h1 h2 e Q q => by
  unfold gIsN at e
  split at e
  · cases e
    simp only [RD, Rp] at h2
    exact ⟨h2, by rw [isN_v h1]; exact q _ H (Same.refl _) rp_bl⟩
  · cases e
theorem od_notN : OpD K (fun x y H Q => y = .non ∧ Q (.bl (!decide (x = .non))) H) gNotN := fun r M H x y d1 d2 d S h1 h2 e Q q => by
  unfold gNotN at e
  split at e
  · cases e
    simp only [RD, Rp] at h2
    exact ⟨h2, by rw [isN_v h1]; exact q _ H (Same.refl _) rp_bl⟩
  · cases e
def flatD : D → Option V
  | .non => some .non
  | .bl b => some (.bl b)
  | .int i => some (.int i)
  | .str x => some (.str x)
  | _ => none
def flatsD : List D → Option (List V)
  | [] => some []
  | d :: l => (flatD d).bind fun v => (flatsD l).map fun vs => v :: vs
theorem flat_rd {r : Rg} {H : Hp} {d : D} {v u : V} (h : RD K r H v d) (e : flatD d = some u) : v = u ∧ flatV u = true := by
  cases d <;> simp only [flatD, Option.some.injEq] at e <;> first | cases e | skip
  all_goals simp only [RD, Rp] at h
  all_goals exact ⟨h, rfl⟩
theorem flat_rp {H : Hp} {d : D} {v u : V} (h : Rp K H d v) (e : flatD d = some u) : v = u ∧ flatV u = true := by
  cases d <;> simp only [flatD, Option.some.injEq] at e <;> first | cases e | skip
  all_goals simp only [Rp] at h
  all_goals exact ⟨h, rfl⟩
theorem flats_rp {H : Hp} : ∀ {l : List D} {vs us : List V}, RpL K H l vs → flatsD l = some us → vs = us ∧ us.all flatV = true
  | [], vs, us, h, e => by simp only [RpL, flatsD, Option.some.injEq] at h e; subst h; subst e; exact ⟨rfl, rfl⟩
  | d :: l, vs, us, h, e => by
    simp only [RpL, flatsD, Option.bind_eq_some_iff, Option.map_eq_some_iff] at h e
    obtain ⟨x, t, rfl, h1, h2⟩ := h
    obtain ⟨v, e1, ws, e2, rfl⟩ := e
    obtain ⟨rfl, f1⟩ := flat_rp h1 e1
    obtain ⟨rfl, f2⟩ := flats_rp h2 e2
    exact ⟨rfl, by simp [f1, f2]⟩
def gInB (neg : Bool) (a b : D) : Option D := (itsD b).bind fun l => (flatsD l).bind fun vs => (flatD a).map fun v => .bl (if neg then !inV v vs else inV v vs)
theorem od_in (neg : Bool) : OpD K (rIn K neg) (gInB neg) := fun r M H x y d1 d2 d S h1 h2 e Q q => by
  unfold gInB at e
  simp only [Option.bind_eq_some_iff, Option.map_eq_some_iff] at e
  obtain ⟨l, e1, vs, e2, v, e3, rfl⟩ := e
  obtain ⟨a, xs, rfl, g1, g2⟩ := RD.seq h2 e1
  obtain ⟨rfl, f2⟩ := flats_rp g2 e2
  obtain ⟨rfl, f1⟩ := flat_rd h1 e3
  exact ⟨a, xs, rfl, g1, f1, f2, q _ H (Same.refl _) rp_bl⟩
end
/-! ### a tuple of the module -/
theorem rp_ktup {K : PySem.W.Frag} {H : Hp} {a : Addr} {l : List D} {vs : List V} {its : List Value} {dd : Option Addr} {n : Nat} {sl : Array (Option Value)} (h : K.lookup a = some ⟨.type "tuple", dd, .seq its.toArray n, sl⟩) (hs : its.length ≤ sizeLine) (rv : Vals vs its) (q : RpL K H l vs) :
    Rp K H (.tup l) (.ref a) := by
  simp only [Rp]
  exact ⟨a, vs, rfl, .inr ⟨_, its.toArray, n, h, rfl, rfl, by simpa using hs, by simpa using rv⟩, q⟩
end S9

namespace S9
open PySem PySem.Spec PyProof.Rows L2
/-! ### fields -/
def lookF {A : Type} (f : Str) : List Str → List A → Option A
  | n :: ns, a :: l => if f == n then some a else lookF f ns l
  | _, _ => none
def putNs (f : Str) : List Str → List Str
  | [] => [f]
  | g :: r => if g = f then g :: r else g :: putNs f r
def putWs {A : Type} (f : Str) (w : A) : List Str → List A → List A
  | g :: r, x :: l => if g = f then w :: l else x :: putWs f w r l
  | _, _ => [w]
section
variable {K : PySem.W.Frag} {r : Rg} {H : Hp}
theorem lookF_rp {f : Str} : ∀ {fs : List (Str × V)} {l : List D} {d : D}, RpL K H l (fs.map (·.2)) → lookF f (fs.map (·.1)) l = some d → ∃ v, fs.lookup f = some v ∧ Rp K H d v
  | [], l, d, h, e => by cases l <;> cases e
  | (g, x) :: fs, [], d, h, e => by cases e
  | (g, x) :: fs, a :: l, d, h, e => by
    simp only [List.map_cons, RpL] at h
    obtain ⟨y, t, e1, h1, h2⟩ := h
    cases e1
    simp only [List.map_cons, lookF] at e
    unfold List.lookup
    cases hfg : (f == g) with
    | true => rw [hfg] at e; cases e; exact ⟨x, rfl, h1⟩
    | false => rw [hfg] at e; exact lookF_rp h2 e
theorem lookF_rw {f : Str} : ∀ {fs : List (Str × V)} {l : List W} {d : W}, RWL K r H (fs.map (·.2)) l → lookF f (fs.map (·.1)) l = some d → ∃ v, fs.lookup f = some v ∧ RW K r H v d
  | [], l, d, h, e => by cases l <;> cases e
  | (g, x) :: fs, [], d, h, e => by cases e
  | (g, x) :: fs, a :: l, d, h, e => by
    obtain ⟨y, t, e1, h1, h2⟩ := h
    cases e1
    simp only [List.map_cons, lookF] at e
    unfold List.lookup
    cases hfg : (f == g) with
    | true => rw [hfg] at e; cases e; exact ⟨x, rfl, h1⟩
    | false => rw [hfg] at e; exact lookF_rw h2 e
theorem put_ns {f : Str} {y : V} : ∀ fs : List (Str × V), (putF f y fs).map (·.1) = putNs f (fs.map (·.1))
  | [] => rfl
  | (g, x) :: fs => by
    unfold putF
    simp only [List.map_cons, putNs]
    split
    · rfl
    · simp only [List.map_cons, put_ns fs]
theorem put_ws {f : Str} {y : V} {w : W} (hw : RW K r H y w) : ∀ {fs : List (Str × V)} {l : List W}, RWL K r H (fs.map (·.2)) l → RWL K r H ((putF f y fs).map (·.2)) (putWs f w (fs.map (·.1)) l)
  | [], l, h => by
    cases (show l = [] from h)
    exact RWL.cons hw RWL.nil
  | (g, x) :: fs, l, h => by
    obtain ⟨z, t, rfl, h1, h2⟩ := h
    unfold putF
    simp only [List.map_cons, putWs]
    split
    · exact RWL.cons hw h2
    · exact RWL.cons h1 (put_ws hw h2)
end
def fldW (M : Sto) (C : Addr) (f : Str) : W → Option W
  | .d (.ins C' ns l) => if C' = C then (lookF f ns l).map W.d else none
  | .loc k => match M[k]? with
    | some (.ins C' ns ws) => if C' = C then lookF f ns ws else none
    | _ => none
  | _ => none
def fFld (C : Addr) (f : Str) (fo : FE) : FE := fun δ M => (fo δ M).bind fun w M1 => R.of M1 (fldW M1 C f w)
section
variable {X : Cx} {E : XK} {pos pos' : Pos} {o e : Expr} {fo fe : FE} {C : Addr} {f : Str}
theorem re_fld (hc : Cls X.K C) (hn : NoAttr X.K C f) (ho : RE X E o fo) (hb : attributeBase o f X.env (eval o X.env) = eval o X.env := by rfl) : RE X E (.Attribute o f pos) (fFld C f fo) := pe_imp (pe_fld ho hb) fun σ H Q ⟨r, δ, M, Ev, S, k⟩ =>
  ⟨r, δ, M, Ev, S, Post.bind k fun w M1 v H1 r1 _ n1 S1 q1 k1 => by
    obtain ⟨u, e, k2⟩ := Post.of k1
    unfold fldW at e
    split at e
    · rename_i C' ns l _
      split at e
      · rename_i hC
        subst hC
        simp only [Option.map_eq_some_iff] at e
        obtain ⟨d, e1, rfl⟩ := e
        simp only [relW, RW, Rp] at q1
        obtain ⟨a, dx, fs, rfl, g1, rfl, g2⟩ := q1
        obtain ⟨x, e2, g3⟩ := lookF_rp g2 e1
        exact ⟨a, C', dx, fs, x, rfl, fz_sub _ _ g1, hc, hn, e2, k2 x H1 r1 Nxt.refl S1 g3⟩
      · cases e
    · rename_i kk _
      split at e
      · rename_i C' ns ws hk
        split at e
        · rename_i hC
          subst hC
          obtain ⟨a, e1, rfl⟩ := q1
          obtain ⟨dx, fs, g1, rfl, g2⟩ := S1.cell kk a _ e1 hk
          obtain ⟨x, e2, g3⟩ := lookF_rw g2 e
          exact ⟨a, C', dx, fs, x, rfl, g1, hc, hn, e2, k2 x H1 r1 Nxt.refl S1 g3⟩
        · cases e
      · cases e
    · cases e⟩
/-- o.f = w -/
def putC (C : Addr) (f : Str) (o : W) (w : W) (M : Sto) : R Unit := match o with
  | .loc k => match M[k]? with
    | some (.ins C' ns ws) => if C' = C ∧ ns.length < 1000 then .ok () (M.set k (.ins C (putNs f ns) (putWs f w ns ws))) else .bad
    | _ => .bad
  | _ => .bad
theorem put_ok {K : PySem.W.Frag} {r : Rg} {M M' : Sto} {H : Hp} {o w : W} {vo vw : V} (S : Sta K r M H) (ho : RW K r H vo o) (hw : RW K r H vw w) (h : putC C f o w M = .ok () M') :
    ∃ a dx fs, vo = .ref a ∧ H a = some (.ins C dx fs) ∧ fs.length < 1000 ∧ Nxt r H r (upd H a (.ins C dx (putF f vw fs))) ∧ Sta K r M' (upd H a (.ins C dx (putF f vw fs))) := by
  unfold putC at h
  split at h
  · rename_i k
    split at h
    · rename_i C' ns ws hk
      split at h
      · rename_i hC
        obtain ⟨rfl, hl⟩ := hC
        cases h
        obtain ⟨a, e1, rfl⟩ := ho
        obtain ⟨dx, fs, g1, rfl, g2⟩ := S.cell k a _ e1 hk
        have hfz : fz r (upd H a (.ins C' dx (putF f vw fs))) = fz r H := fz_cell (.inl (List.mem_of_getElem? e1))
        have up : ∀ {v : V} {w : W}, RW K r H v w → RW K r (upd H a (.ins C' dx (putF f vw fs))) v w := fun {v w} q => by
          cases w with
          | d y => show Rp K (fz r _) y v; rw [hfz]; exact q
          | loc j => exact q
        have upl : ∀ {vs : List V} {ws : List W}, RWL K r H vs ws → RWL K r (upd H a (.ins C' dx (putF f vw fs))) vs ws := by
          intro vs
          induction vs with
          | nil => intro ws h; exact h
          | cons v vs ih => intro ws h; obtain ⟨w, ws', e, h1, h2⟩ := h; exact ⟨w, ws', e, up h1, ih h2⟩
        obtain ⟨n2, S2⟩ := S.put (o := .ins C' dx (putF f vw fs)) (c := .ins C' (putNs f (fs.map (·.1))) (putWs f w (fs.map (·.1)) ws)) e1 ⟨dx, putF f vw fs, upd_same, put_ns fs, upl (put_ws hw g2)⟩
        exact ⟨a, dx, fs, rfl, g1, by simpa using hl, n2, S2⟩
      · cases h
    · cases h
  · cases h
def sFldS (C : Addr) (f : Str) (fo fe : FE) : FS := fun δ M => (fe δ M).bind fun w M1 => (fo δ M1).bind fun o M2 => (putC C f o w M2).bind fun _ M3 => .ok (.nx δ) M3
theorem put_cases {M : Sto} (x : R Unit) : x = .bad ∨ (∃ M', x = .ok () M') ∨ ∃ e M', x = .ex e M' := by
  cases x with
  | bad => exact .inl rfl
  | ok a M' => exact .inr (.inl ⟨M', rfl⟩)
  | ex e M' => exact .inr (.inr ⟨e, M', rfl⟩)
theorem putC_noex {o w : W} {M : Sto} : putC C f o w M = .bad ∨ ∃ M', putC C f o w M = .ok () M' := by
  unfold putC
  split
  · split
    · split
      · exact .inr ⟨_, rfl⟩
      · exact .inl rfl
    · exact .inl rfl
  · exact .inl rfl
theorem rs_fld (hc : Cls X.K C) (hn : NoAttr X.K C f) (ho : RE X E o fo) (he : RE X E e fe) (hs : swapsWith e (some (.Attribute o f pos')) pos.line X.env = pure false := by rfl) : RS X E (.Assign [.Attribute o f pos'] e pos) (sFldS C f fo fe) :=
  ps_imp (ps_fld ho he hs) fun D σ H ⟨r, δ, M, Ev, S, k⟩ => ⟨r, δ, M, Ev, S, PostS.bind k fun w M1 v H1 r1 _ n1 S1 q1 k1 => ⟨r1, δ, M1, Ev.mono n1, S1, PostS.bind k1 fun o M2 vo H2 r2 _ n2 S2 q2 k2 => by
    rcases putC_noex (C := C) (f := f) (o := o) (w := w) (M := M2) with e | ⟨M3, e⟩
    · rw [e] at k2; exact k2.elim
    · rw [e] at k2
      obtain ⟨a, dx, fs, rfl, g1, g2, n3, S3⟩ := put_ok S2 q2 (RW.mono n2 q1) e
      exact ⟨a, C, dx, fs, rfl, g1, hc, hn, g2, k2 σ _ r2 n3 S3 (((Ev.mono n1).mono n2).mono n3)⟩⟩⟩
end
/-! ### targets that may change the store -/
abbrev FH := D → DEnv → Sto → R DEnv
def PostH (K : PySem.W.Frag) (r : Rg) (H : Hp) : R DEnv → (L2.St → Hp → Prop) → Prop
  | .ok δ M', Q => ∀ σ' H' r', Nxt r H r' H' → Sta K r' M' H' → EnvR K r' H' σ' δ → Q σ' H'
  | _, _ => False
def tH (K : PySem.W.Frag) (h : FH) : TG := fun v σ H Q => ∃ r δ M d, EnvR K r H σ δ ∧ Sta K r M H ∧ Rp K (fz r H) d v ∧ PostH K r H (h d δ M) Q
abbrev RH (X : Cx) (tg : Expr) (h : FH) : Prop := PG X tg (tH X.K h)
abbrev FHs := List D → DEnv → Sto → R DEnv
def tHs (K : PySem.W.Frag) (h : FHs) : TGs := fun vs σ H Q => ∃ r δ M l, EnvR K r H σ δ ∧ Sta K r M H ∧ RpL K (fz r H) l vs ∧ PostH K r H (h l δ M) Q
abbrev RHs (X : Cx) (tg : List Expr) (h : FHs) : Prop := PGs X tg (tHs X.K h)
theorem PostH.nxt {K : PySem.W.Frag} {r r1 : Rg} {H H1 : Hp} {x : R DEnv} {Q : L2.St → Hp → Prop} (n : Nxt r H r1 H1) (h : PostH K r H x Q) : PostH K r1 H1 x Q := by
  cases x with
  | bad => exact h
  | ex e M => exact h
  | ok δ M => exact fun σ' H' r' n' S E => h σ' H' r' (n.trans n') S E
def hNm (i : Nat) : FH := fun d δ M => .ok (δ.set i (some (.d d))) M
def hNl : FHs := fun l δ M => match l with
  | [] => .ok δ M
  | _ => .bad
def hCn (h : FH) (hs : FHs) : FHs := fun l δ M => match l with
  | d :: l => (h d δ M).bind fun δ1 M1 => hs l δ1 M1
  | [] => .bad
def hTp (n : Nat) (hs : FHs) : FH := fun d δ M => match d with
  | .tup l => if l.length = n then hs l δ M else .bad
  | _ => .bad
/-- o.f as a target; the object is read at the names as they stand -/
def hFld (C : Addr) (f : Str) (fo : FE) : FH := fun d δ M => (fo δ M).noEx.bind fun o M1 => (putC C f o (.d d) M1).bind fun _ M2 => .ok δ M2
section
variable {X : Cx} {pos : Pos} {h : FH} {hs : FHs} {o : Expr} {fo : FE} {C : Addr} {f : Str}
theorem rh_name {i : Nat} {x : Str} (hN : X.N.Nodup) (hi : X.N[i]? = some x) (hx : Loc X.env.scope x) (hf : X.fn x = true ∨ X.env.scope.names.lookup x = some .local := by first | exact .inl rfl | exact .inr rfl | assumption) : RH X (.Name x pos) (hNm i) :=
  pg_imp (pg_name hN hi hx hf) fun v σ H Q ⟨r, δ, M, d, Ev, S, q, k⟩ => k _ H r Nxt.refl S (Ev.set q)
theorem rhs_nil : RHs X [] hNl := pgs_imp pgs_nil fun v σ H Q ⟨r, δ, M, l, Ev, S, q, k⟩ => by
  cases l with
  | nil =>
    simp only [RpL] at q
    exact ⟨q, k σ H r Nxt.refl S Ev⟩
  | cons d l => exact k.elim
theorem rhs_cons {e : Expr} {es : List Expr} (h1 : RH X e h) (h2 : RHs X es hs) (hst : (assignEach (e :: es) X.env).map (·.2) = assign e X.env :: (assignEach es X.env).map (·.2) := by rfl) : RHs X (e :: es) (hCn h hs) :=
  pgs_imp (pgs_cons h1 h2 hst) fun v σ H Q ⟨r, δ, M, l, Ev, S, q, k⟩ => by
    cases l with
    | nil => exact k.elim
    | cons d l =>
      simp only [RpL] at q
      obtain ⟨x, t, rfl, q1, q2⟩ := q
      refine ⟨x, t, rfl, r, δ, M, d, Ev, S, q1, ?_⟩
      have k : PostH X.K r H ((h d δ M).bind fun δ1 M1 => hs l δ1 M1) Q := k
      revert k
      cases h d δ M with
      | bad => exact fun k => k.elim
      | ex e M => exact fun k => k.elim
      | ok δ1 M1 => exact fun k σ' H' r' n S' E' => ⟨r', δ1, M1, l, E', S', RpL.mono n.same q2, PostH.nxt n k⟩
theorem rh_tup {es : List Expr} {k n : Nat} (hc : X.calm = true) (hg : RHs X es hs) (hn : (assignEach es X.env).length = n := by rfl) (hst : (assignEach es X.env).findIdx? (·.1) = none := by rfl) : RH X (.Tuple es k pos) (hTp n hs) :=
  pg_imp (pg_tup hc hg hn hst) fun v σ H Q ⟨r, δ, M, d, Ev, S, q, k⟩ => by
    unfold hTp at k
    split at k
    · split at k
      · rename_i l hl
        simp only [Rp] at q
        obtain ⟨a, xs, rfl, q1, q2⟩ := q
        exact ⟨a, xs, rfl, same_t fz_sub q1, by rw [q2.length]; exact hl, r, δ, M, l, Ev, S, q2, k⟩
      · exact k.elim
    · exact k.elim
def gFldT (K : PySem.W.Frag) (ta : TE) (f : Str) : TG := fun v σ H Q => ta σ H fun x H1 => ∃ a C dx fs, x = .ref a ∧ H1 a = some (.ins C dx fs) ∧ Cls K C ∧ NoAttr K C f ∧ fs.length < 1000 ∧ Q σ (upd H1 a (.ins C dx (putF f v fs)))
theorem pg_fldT {ta : TE} (ho : PE X o ta) : PG X (.Attribute o f pos) (gFldT X.K ta f) := by
  refine ⟨fun pins s σ H v u Q I rv h => ?_⟩
  rw [assign_Attribute]
  refine wpAny_bind (wpAny_holding (thn (ho.run pins s σ H _ I h) fun ov s1 ⟨x, H1, I1, rx, a, C, dx, fs, ex, ea, c, n, l, q⟩ => ?_))
  subst ex
  obtain rfl : ov = Value.ref a := rx
  exact wpAny_bind (wpAny_standAt (wpAny_bind (wpAny_holding (setattr_ok I1 ea c n l rv fun s3 I3 => wpAny_release ⟨σ, _, I3, q⟩))))
theorem rh_fld (hc : Cls X.K C) (hn : NoAttr X.K C f) (ho : RE X E0 o fo) : RH X (.Attribute o f pos) (hFld C f fo) := pg_imp (pg_fldT ho) fun v σ H Q ⟨r, δ, M, d, Ev, S, q, k⟩ => by
  refine ⟨r, δ, M, Ev, S, ?_⟩
  unfold hFld at k
  revert k
  cases fo δ M with
  | bad => exact fun k => k
  | ex e M1 => exact fun k => k.elim
  | ok w M1 =>
    intro k vo H1 r1 n1 S1 q1
    have k : PostH X.K r H ((putC C f w (.d d) M1).bind fun _ M2 => .ok δ M2) Q := k
    rcases putC_noex (C := C) (f := f) (o := w) (w := .d d) (M := M1) with e | ⟨M3, e⟩
    · rw [e] at k; exact k.elim
    · rw [e] at k
      obtain ⟨a, dx, fs, rfl, g1, g2, n3, S3⟩ := put_ok S1 q1 (show RW X.K r1 H1 v (.d d) from Rp.mono n1.same q) e
      exact ⟨a, C, dx, fs, rfl, g1, hc, hn, g2, k σ _ r1 (n1.trans n3) S3 ((Ev.mono n1).mono n3)⟩
variable {E : XK} {a : Expr} {fa : FE}
def sAsgH (h : FH) (fa : FE) : FS := fun δ M => (fa δ M).bind fun w M1 => (R.of M1 (fr w)).bind fun d M2 => (h d δ M2).noEx.bind fun δ1 M3 => .ok (.nx δ1) M3
theorem rs_asgH {tg : Expr} (he : RE X E a fa) (hg : RH X tg h) (hs : swapsWithSole [tg] a pos.line X.env = pure false := by rfl) (hw : swappedStores [tg] a X.env = pure none := by rfl)
    (h1 : (assignEach [tg] X.env).map (·.2) = [assign tg X.env] := by rfl) : RS X E (.Assign [tg] a pos) (sAsgH h fa) := ps_imp (ps_asg he hg hs hw h1) fun D σ H ⟨r, δ, M, Ev, S, k⟩ =>
  ⟨r, δ, M, Ev, S, PostS.bind k fun w M1 v H1 r1 _ n1 S1 q1 k1 => by
    cases e : fr w with
    | none => rw [e] at k1; exact k1.elim
    | some d =>
      rw [e] at k1
      have k1 : PostS X.K E r1 H1 ((h d δ M1).noEx.bind fun δ1 M3 => .ok (.nx δ1) M3) D := k1
      refine ⟨r1, δ, M1, d, Ev.mono n1, S1, RW.fr q1 e, ?_⟩
      revert k1
      cases h d δ M1 with
      | bad => exact fun k => k
      | ex e M2 => exact fun k => k.elim
      | ok δ1 M2 => exact fun k σ' H' r' n S E => k σ' H' r' n S E⟩
end
/-! ### a new instance, frozen when its __init__ is done -/
def frzI (n : Nat) (M : Sto) : R W := match cutM n M with
  | none => .bad
  | some M1 => match M[n]? with
    | some (.ins C ns ws) => match frs9 ws with
      | some ds => .ok (.d (.ins C ns ds)) M1
      | none => .bad
    | _ => .bad
def mkK (n : Nat) : W → Sto → R W
  | .d .non, M => frzI n M
  | _, _ => .bad
def fMake (C : Addr) (n : Nat) (φ : FF) (fs : FA) : FE := fun δ M => (fs δ M).bind fun ws M1 => if ws.length + 1 = n then (φ (.loc M1.length :: ws) (M1 ++ [.ins C [] []])).noEx.bind (mkK M1.length) else .bad
section
variable {K : PySem.W.Frag} {r r3 : Rg} {M M2 : Sto} {H H3 : Hp}
theorem frzI_post {E : XK} {x : Addr} {Q : VK} (n3 : Nxt r H r3 H3) (S3 : Sta K r3 M2 H3) (hx : r3.c[r.c.length]? = some x) (h : Post K E r H (relW K) (frzI r.c.length M2) Q) : Q (.ref x) H3 := by
  unfold frzI at h
  cases hc : cutM r.c.length M2 with
  | none => rw [hc] at h; exact h.elim
  | some M1 =>
    rw [hc] at h
    simp only at h
    have hle : r.c.length ≤ r3.c.length := Nat.le_of_lt (List.getElem?_eq_some_iff.mp hx).1
    have S2 := S3.cut hle hc
    rw [nxt_cut n3] at S2
    split at h
    · rename_i C ns ws hm
      split at h
      · rename_i ds hd
        obtain ⟨dx, fs, g1, g2, g3⟩ := S3.cell _ _ _ hx hm
        have less : Same (fz r3 H3) (fz r H3) := fz_less (fun a z => n3.has z) (Same.refl _)
        refine h (.ref x) H3 r n3.cut S2 ?_
        show Rp K (fz r H3) (.ins C ns ds) (.ref x)
        simp only [Rp]
        refine ⟨x, dx, fs, rfl, ?_, g2, RpL.mono less (RWL.frs g3 hd)⟩
        rw [fz_out]
        · exact g1
        · rintro (z | z)
          · obtain ⟨t, et⟩ := n3.ext
            obtain ⟨j, hj, e4⟩ := List.getElem_of_mem z
            have e5 : r3.c[j]? = some x := by rw [et, List.getElem?_append_left hj, List.getElem?_eq_getElem hj, e4]
            have := nd_ix S3.nd.1 e5 hx
            omega
          · exact S3.dj x (n3.eu ▸ z) (List.mem_of_getElem? hx)
      · exact h.elim
    · exact h.elim
end
section
variable {X : Cx} {CX : CXT} {k n : Nat} {C f : Addr} {fd : FuncData} {ps : List Str} {sp : Sp} {E E' : XK} {x : Str} {p pos : Pos} {e : Expr} {es : List Expr} {t : TA} {fs : FA} {φ : FF} {dvs : List V} {ds : List Value}
theorem run_mk {pins : List (Addr × Obj)} {σ : L2.St} {H : Hp} {s : Shared} {Q : VK} {us : List Value} {vs : List V} (M : Mk X.K C f) (F : FnG X.prog X.w X.K X.mg X.base CX k f fd ps sp) (gd : X.A.guards = some []) (hr : Room (k + 1) X.A) (hb : Binds X.K fd ps ds) (hd : Vals dvs ds) (hx : Passes CX X E)
    (I : Inv X pins σ H s) (r : Vals vs us) (h : ∀ y dx, H y = none → H dx = none → dx ≠ y → sp (.ref y :: (vs ++ dvs)) (upd (upd H dx (.own y)) y (.ins C dx [])) (fun v H2 => v = .non ∧ Q (.ref y) H2) E) :
    wpAny (model X.prog X.w) X.A (call (.ref C) us) (EP X pins σ Q) X.xe s := by
  have q := h (s.heap.objs.size + 1) s.heap.objs.size (I.hok.fresh (Nat.le_succ _)) (I.hok.fresh (Nat.le_refl _)) (Nat.ne_of_lt (Nat.lt_succ_self _))
  have J := Inv.made (C := C) I
  have rv : Vals (V.ref (s.heap.objs.size + 1) :: (vs ++ dvs)) (Value.ref (s.heap.objs.size + 1) :: (us ++ ds)) := .cons rfl (r.append hd)
  have len : (Value.ref (s.heap.objs.size + 1) :: us ++ ds).length = ps.length := (rv.length.symm.trans (F.len _ _ _ _ q))
  have gd2 : (X.A.under (.builtin "type.__call__" ⟨.ref C :: us, []⟩)).guards = some [] := by
    have : (X.A.under (.builtin "type.__call__" ⟨.ref C :: us, []⟩)).guards = X.A.guards := by
      have hni : ¬ ("type.__call__" ∈ guardIds) := by decide +kernel
      cases hg : X.A.guards <;> simp [Around.under, pushGuards, Code.guards, Code.isGuard, hg, hni]
    rw [this]; exact gd
  refine wpAny_call (make_map (f := f) I.kIn M.makes M.init (beq_iff_eq.mp M.fn) (codeAny_mono (F.go _ X.stack _ _ ⟨Value.ref (s.heap.objs.size + 1) :: us, []⟩ (Value.ref (s.heap.objs.size + 1) :: (us ++ ds)) _ _ E gd2 (hr.make C us []) (J.env0.make C us []) (hb _ (Value.ref (s.heap.objs.size + 1) :: us) J.kIn len) rv q) fun z s2 hz => ?_))
  match z, hz with
  | .error e, hz => exact hx pins σ _ _ e s2 J hz
  | .ok (.ret u), hz =>
    obtain ⟨v, H2, I3, rv3, ev, q3⟩ := J.after hz
    subst ev
    exact ⟨rv3, ⟨V.ref (s.heap.objs.size + 1), H2, I3, rfl, q3⟩⟩
  | .ok .next, hz => exact False.elim hz
  | .ok .brk, hz => exact False.elim hz
  | .ok .cont, hz => exact False.elim hz
def tMk (C : Addr) (sp : Sp) (dvs : List V) (E : XK) (t : TA) : TE := fun σ H Q => t σ H fun vs H1 => ∀ y dx, H1 y = none → H1 dx = none → dx ≠ y → sp (.ref y :: (vs ++ dvs)) (upd (upd H1 dx (.own y)) y (.ins C dx [])) (fun v H2 => v = .non ∧ Q (.ref y) H2) E
theorem pe_mk (M : Mk X.K C f) (F : FnG X.prog X.w X.K X.mg X.base CX k f fd ps sp) (gd : X.A.guards = some []) (hr : Room (k + 1) X.A) (hg : Gl X x) (hm : X.mg x = some (.ref C)) (hb : Binds X.K fd ps ds) (hd : Vals dvs ds) (hx : Passes CX X E) (ha : PA X (e :: es) t)
    (hdb : (x == ("__debug__" : Str)) = false) (he : starEach (e :: es) X.env = (false, eval e X.env) :: starEach es X.env) (hpl : (backTo pos (starEach es X.env)).any (·.1) = false) : PE X (.Call (.Name x p) (e :: es) [] pos) (tMk C sp dvs E t) :=
  ⟨fun pins s σ H Q I h => wpAny_Call_Name_kw (ld_glob I hg hm (PySem.W.callWith_K (h₀ := X.base) I.ok.mod.kin M.kp (thn (ha.run pos pins s σ H _ I h) fun us s1 ⟨vs, H1, I1, r, q⟩ => ⟨I1.kIn, run_mk M F gd hr hb hd hx I1 r q⟩) he hpl) hdb)⟩
/-- what stands for the defaults that are filled in -/
structure Dfl (K : PySem.W.Frag) (dvs : List V) (dw : List D) : Prop where
  rp : ∀ H, RpL K H dw dvs
def withD (φ : FF) (dw : List D) : FF := fun ws M => φ (ws ++ dw.map W.d) M
theorem rwl_append {K : PySem.W.Frag} {r : Rg} {H : Hp} {dw : List D} : ∀ {vs : List V} {ws : List W} {us : List V}, RWL K r H vs ws → RpL K (fz r H) dw us → RWL K r H (vs ++ us) (ws ++ dw.map W.d)
  | [], ws, us, h, q => by
    cases (show ws = [] from h)
    have : ∀ {dw : List D} {us : List V}, RpL K (fz r H) dw us → RWL K r H us (dw.map W.d) := by
      intro dw
      induction dw with
      | nil => intro us q; simp only [RpL] at q; subst q; exact RWL.nil
      | cons d l ih =>
        intro us q
        simp only [RpL] at q
        obtain ⟨x, t, rfl, h1, h2⟩ := q
        exact RWL.cons h1 (ih h2)
    exact this q
  | v :: vs, ws, us, h, q => by
    obtain ⟨w, ws', rfl, h1, h2⟩ := h
    exact RWL.cons h1 (rwl_append h2 q)
theorem mk_imp {dw : List D} (hdw : Dfl X.K dvs dw) : ∀ σ H Q, tR X.K E (fMake C n (withD φ dw) fs) σ H Q → tMk C (sp0 X.K (n + dw.length) φ) dvs E' (tA X.K E fs) σ H Q := fun σ H Q ⟨r, δ, M, Ev, S, k⟩ =>
  ⟨r, δ, M, Ev, S, Post.bind k fun ws M1 vs H1 r1 _ n1 S1 q1 k1 => by
    split at k1
    · rename_i hl
      intro y dx hy hdx hne
      have s1 : Same H1 (upd H1 dx (.own y)) := same_up hdx
      have hy2 : (upd H1 dx (.own y)) y = none := by rw [upd_ne (Ne.symm hne)]; exact hy
      have S2 := sta_new (o := .ins C dx []) (c := .ins C [] []) (S1.more s1) hy2 ⟨dx, [], upd_same, rfl, RWL.nil⟩
      have n2 : Nxt r1 H1 (r1.add y) (upd (upd H1 dx (.own y)) y (.ins C dx [])) := (Nxt.more s1).trans (nxt_new hy2)
      have hix : (r1.add y).c[M1.length]? = some y := by rw [← S1.len]; simp [Rg.add]
      refine ⟨r1.add y, M1 ++ [.ins C [] []], (.loc M1.length :: ws) ++ dw.map W.d, by simp; omega, ?_, S2, ?_⟩
      · exact rwl_append (vs := V.ref y :: vs) (RWL.cons ⟨y, hix, rfl⟩ (RWL.mono n2 q1)) (hdw.rp _)
      · have k2 : Post X.K E r1 H1 (relW X.K) ((φ ((.loc M1.length :: ws) ++ dw.map W.d) (M1 ++ [.ins C [] []])).noEx.bind (mkK M1.length)) Q := k1
        revert k2
        cases φ ((.loc M1.length :: ws) ++ dw.map W.d) (M1 ++ [.ins C [] []]) with
        | bad => exact fun h => h
        | ex e M2 => exact fun h => h.elim
        | ok w M2 =>
          intro k2 v H3 r3 n3 S3 q3
          have k2 : Post X.K E r1 H1 (relW X.K) (mkK M1.length w M2) Q := k2
          unfold mkK at k2
          split at k2
          · refine ⟨by simpa only [relW, RW, Rp] using q3, ?_⟩
            rw [← S1.len] at k2 hix
            obtain ⟨t, et⟩ := n3.ext
            exact frzI_post (n2.trans n3) S3 (by rw [et, List.getElem?_append_left (List.getElem?_eq_some_iff.mp hix).1]; exact hix) k2
          · exact k2.elim
    · exact k1.elim⟩
theorem re_mk {dw : List D} (hdw : Dfl X.K dvs dw) (M : Mk X.K C f) (F : FnG X.prog X.w X.K X.mg X.base CX k f fd ps (sp0 X.K (n + dw.length) φ)) (gd : X.A.guards = some []) (hr : Room (k + 1) X.A) (hg : Gl X x) (hm : X.mg x = some (.ref C)) (hb : Binds X.K fd ps ds) (hd : Vals dvs ds) (hx : Passes CX X E') (ha : RA X E (e :: es) fs)
    (hdb : (x == ("__debug__" : Str)) = false := by decide) (he : starEach (e :: es) X.env = (false, eval e X.env) :: starEach es X.env := by rfl) (hpl : (backTo pos (starEach es X.env)).any (·.1) = false := by rfl) : RE X E (.Call (.Name x p) (e :: es) [] pos) (fMake C n (withD φ dw) fs) :=
  pe_imp (pe_mk M F gd hr hg hm hb hd hx ha hdb he hpl) (mk_imp hdw)
end
end S9

namespace S9
open PySem PySem.Spec PyProof.Rows L2
/-! ### a tuple turned about -/
section
variable {prog : Program} {w : World} {A : Around} {E : Value → Shared → Prop} {s : Shared}
theorem fm_map {α β : Type} {f : α → Option β} {g : α → β} : ∀ {l : List α}, (∀ x ∈ l, f x = some (g x)) → l.filterMap f = l.map g
  | [], _ => rfl
  | a :: l, h => by
    rw [List.filterMap_cons, h a (List.mem_cons_self ..), List.map_cons, fm_map fun x hx => h x (List.mem_cons_of_mem _ hx)]
theorem rev_pick (us : List Value) : ((List.range us.length).filterMap fun (k : Nat) => us.toArray[(((us.length : Int) - 1) + (k : Int) * (-1)).toNat]?).toArray = us.reverse.toArray := by
  congr 1
  apply List.ext_getElem?
  intro i
  have h : ((List.range us.length).filterMap fun (k : Nat) => us.toArray[(((us.length : Int) - 1) + (k : Int) * (-1)).toNat]?) = (List.range us.length).map fun k => us.getD (us.length - 1 - k) .none := by
    apply fm_map
    intro k hk
    have hk : k < us.length := by simpa using hk
    have e : (((us.length : Int) - 1) + (k : Int) * (-1)).toNat = us.length - 1 - k := by omega
    have h2 : us.length - 1 - k < us.length := by omega
    rw [e]
    simp [h2]
  rw [h]
  by_cases hi : i < us.length
  · have h2 : us.length - 1 - i < us.length := by omega
    rw [List.getElem?_map, List.getElem?_range hi, List.getElem?_reverse hi]
    simp [h2]
  · rw [List.getElem?_eq_none (by simp; omega), List.getElem?_eq_none (by simp; omega)]
theorem getItem_rev {t sl : Addr} {us : List Value} {u : Tok} {Q : Value → Shared → Prop} (ht : IsTup s.heap t us.toArray) (hs : s.heap.IsSliceOf sl .none .none (.int (-1) u)) (hsz : us.length ≤ sizeLine)
    (h : Q (.ref s.heap.objs.size) { s with heap := s.heap.push { cls := .type "tuple", data := .seq us.reverse.toArray } }) : wpAny (model prog w) A (getItem (.ref t) (.ref sl)) Q E s := by
  obtain ⟨os, h1, h2, h3⟩ := id hs
  have ty : s.TypeIs (.ref sl) "slice" := ⟨os, h1, h2⟩
  have fits : sizeOk (.seq us.reverse.toArray) := by
    show us.reverse.toArray.size ≤ sizeLine
    simpa using hsz
  unfold getItem
  try with_reducible refine wpAny_holding ?_
  first | refine wpAny_bind (wpAny_pure ?_) | skip
  refine wpAny_bind (wpAny_sequenceKey ht.typeIs (by decide) (wpAny_bind (wpAny_callSpecial?_slot (name := Str.ofString "__getitem__") ht.typeIs slot_tuple_getitem (wpAny_call_entry slot_tuple_getitem ht.typeIs entry_tuple_getitem ?_ (args_tuple_getitem _ _)))))
  show wpAny _ _ (Builtin.Tuple.tupleItemsOf (.ref t) >>= _) _ _ s
  refine wpAny_bind (tupleItemsOf_ ht (wpAny_bind (wpAny_typeOf ty ?_)))
  rw [if_pos (by decide)]
  unfold Builtin.Slice.sliceApplied Builtin.Slice.sliceFields
  refine wpAny_bind (wpAny_bind (wpAny_bind (wpAny_field h1 h3 (x := .none) rfl (wpAny_bind (wpAny_field h1 h3 (x := .none) rfl (wpAny_bind (wpAny_field h1 h3 (x := .int (-1) u) rfl (wpAny_pure ?_))))))))
  refine wpAny_bind (slicePart_int ?_)
  show wpAny _ _ (if ((-1 : Int) == 0) = true then _ else _) _ _ s
  rw [if_neg (by decide)]
  refine wpAny_bind (slicePart_none (wpAny_bind (slicePart_none (wpAny_bind (wpAny_pure ?_)))))
  show wpAny _ _ (pure (((us.toArray.size : Int) - 1), (-1 : Int), Builtin.Slice.slicePlaces ((us.toArray.size : Int) - 1) (-1) (-1))) _ _ s
  refine wpAny_pure ?_
  have places : Builtin.Slice.slicePlaces ((us.length : Int) - 1) (-1) (-1) = us.length := by
    unfold Builtin.Slice.slicePlaces
    have hn : ¬ ((-1 : Int) > 0) := by decide
    rw [if_neg hn]
    by_cases h0 : (us.length : Int) - 1 > -1
    · rw [if_pos h0]
      rw [show (- -1 : Int) = 1 from rfl, Int.ediv_one]
      omega
    · rw [if_neg h0]
      omega
  show wpAny _ _ (if (((us.toArray.size : Int) - 1) == 0 && (-1 : Int) == 1 && (Builtin.Slice.slicePlaces ((us.toArray.size : Int) - 1) (-1) (-1)) == us.toArray.size) = true then _ else _) _ _ s
  have no1 : ¬ ((((us.toArray.size : Int) - 1) == 0 && (-1 : Int) == 1 && (Builtin.Slice.slicePlaces ((us.toArray.size : Int) - 1) (-1) (-1)) == us.toArray.size) = true) := by
    have : ((-1 : Int) == 1) = false := rfl
    rw [this, Bool.and_false, Bool.false_and]
    exact Bool.false_ne_true
  rw [if_neg no1, List.size_toArray, places, rev_pick]
  first
    | exact wpAny_bind (m := Builtin.Tuple.tupleExact _) (wpAny_newObj_type (wpAny_pure ⟨_, rfl, wpAny_pure h⟩) fits)
    | exact wpAny_bind (m := Builtin.Tuple.tupleExact _) (wpAny_newObj_type (wpAny_bind (wpAny_pure (wpAny_pure ⟨_, rfl, wpAny_pure h⟩))) fits)
    | exact wpAny_bind (wpAny_bind (m := Builtin.Tuple.tupleExact _) (wpAny_newObj_type (wpAny_pure (wpAny_pure ⟨_, rfl, wpAny_pure h⟩)) fits))
    | exact wpAny_bind (wpAny_bind (m := Builtin.Tuple.tupleExact _) (wpAny_newObj_type (wpAny_pure ⟨_, rfl, wpAny_pure h⟩) fits))
end
section
variable {X : Cx} {E : XK} {a b : Expr} {fa fb : FE} {te ts : TE} {p2 pos : Pos}
def tRev (K : PySem.W.Frag) (te ts : TE) : TE := fun σ H Q => te σ H fun x H1 => ts σ H1 fun y H2 => y = .int (-1) ∧ ∃ p xs, x = .ref p ∧ SqT K H2 p xs ∧ ∀ l, H2 l = none → Q (.ref l) (upd H2 l (.tup xs.reverse))
theorem pe_rev (he : PE X a te) (hs : PE X b ts) : PE X (.Subscript a (.Slice none none (some b) p2) pos) (tRev X.K te ts) := by
  refine ⟨fun pins s σ H Q I h => ?_⟩
  refine Subscript_ (thn (he.run pins s σ H _ I h) fun v s1 ⟨x, H1, I1, r1, q1⟩ => ?_)
  refine wpAny_Slice ?_
  rw [evalPart_none]
  refine wpAny_pure (wpAny_pure ?_)
  rw [evalPart_some]
  refine thn (hs.run pins s1 σ H1 _ I1 q1) fun u s2 ⟨y, H2, I2, r2, q2⟩ => ?_
  obtain ⟨ey, p, xs, rfl, hx, q⟩ := q2
  subst ey
  obtain ⟨tk, rfl⟩ := r2
  cases r1
  have I3 : Inv X pins σ H2 { s2 with heap := s2.heap.push { cls := .type "slice", data := .fields #[.none, .none, .int (-1) tk] } } := I2.kept (t' := s2.toks) fun b ob z => Heap.get?_push_of_some _ z
  obtain ⟨its, rv, ht, hz⟩ := I3.tuple hx
  refine tail_any (ops := [.ref p, .ref s2.heap.objs.size]) ht.typeIs slot_tuple_getitem.lookup (getItem_rev ht (Heap.IsSliceOf.new ..) (by rw [← rv.length]; exact hz) ?_) (by with_unfolding_all rfl)
  have new := I3.hok.fresh (Nat.le_refl _)
  have hlen : xs.reverse.length ≤ sizeLine := by rw [List.length_reverse]; exact hz
  have rr : Vals xs.reverse its.reverse := by
    have : ∀ {xs : List V} {us : List Value}, Vals xs us → Vals xs.reverse us.reverse := by
      intro xs us r
      induction r with
      | nil => exact .nil
      | cons a b ih => rw [List.reverse_cons, List.reverse_cons]; exact ih.append (.cons a .nil)
    exact this rv
  generalize hG : s2.heap.push { cls := .type "slice", data := .fields #[.none, .none, .int (-1) tk] } = G at I3 new
  have at_ : (G.push { cls := .type "tuple", data := .seq its.reverse.toArray }).get? G.objs.size = some { cls := .type "tuple", data := .seq its.reverse.toArray } := Heap.get?_push_size _ rfl
  have I4 := I3.laid (h' := G.push { cls := .type "tuple", data := .seq its.reverse.toArray }) (t' := s2.toks) (fun _ _ z => Heap.get?_push_of_some _ z) (Nat.le_refl _) (o := .tup xs.reverse) ⟨hlen, its.reverse, rr, ⟨_, at_, rfl, _, rfl⟩⟩
  exact ⟨.ref _, _, I4, rfl, q _ new⟩
def revD : D → D → Option D
  | .tup l, .int i => if i = -1 then some (.tup l.reverse) else none
  | _, _ => none
theorem re_rev (ha : RE X E a fa) (hb : RE X E b fb) : RE X E (.Subscript a (.Slice none none (some b) p2) pos) (fOp revD fa fb) := pe_imp (pe_rev ha hb) fun σ H Q ⟨r, δ, M, Ev, S, k⟩ =>
  ⟨r, δ, M, Ev, S, Post.bind k fun w1 M1 v1 H1 r1 _ n1 S1 q1 k1 => ⟨r1, δ, M1, Ev.mono n1, S1, Post.bind k1 fun w2 M2 v2 H2 r2 _ n2 S2 q2 k2 => by
    cases e : ((rd M2 w1).bind fun x' => (rd M2 w2).map fun y' => (x', y')) with
    | none => rw [e] at k2; exact k2.elim
    | some z =>
      rw [e] at k2
      obtain ⟨e1, e2⟩ := rd2 e
      obtain ⟨x1, y1⟩ := z
      obtain ⟨u, h1, k3⟩ := Post.of (show Post _ _ _ _ _ (R.of M2 ((revD x1 y1).map W.d)) _ from k2)
      simp only [Option.map_eq_some_iff] at h1
      obtain ⟨d, hd, rfl⟩ := h1
      have g1 := (RW.mono n2 q1).rd S2 e1
      have g2 := RW.rd S2 q2 e2
      unfold revD at hd
      split at hd
      · split at hd
        · rename_i hi
          cases hd
          subst hi
          simp only [RD, Rp] at g1 g2
          obtain ⟨p, xs, rfl, g3, g4⟩ := g1
          exact ⟨g2, p, xs, rfl, same_t fz_sub g3, fun l hl => k3 _ _ r2 (Nxt.more (same_up hl)) (S2.more (same_up hl)) (rp_tup S2 hl g4.reverse)⟩
        · cases hd
      · cases hd⟩⟩
end
/-! ### defs with defaults -/
section
variable {P : Program} {w : World} {K : PySem.W.Frag} {mg : Str → Option Value} {base : Heap} {CX : CXT} {k : Nat} {f : Addr} {fd : FuncData} {N ps : List Str} {x qual : Str} {st : Stmt} {dvs : List V} {kws : List (Str × V)}
abbrev FunE (K : PySem.W.Frag) (x qual : Str) (st : Stmt) (dvs : List V) (kws : List (Str × V)) (f : Addr) (fd : FuncData) : Prop := FunD K x qual (defArgs st) (defBody st) (defScope st) dvs kws f fd
theorem ge_body {g : FS} (F : FunE K x qual st dvs kws f fd) (S : FnScope N ps (defScope st))
    (bdy : ∀ (cdv : Value) (A : Around) (out : List Env) (s : Shared) (H : Hp) (E : XK), A.guards = some [] → Room k (A.deeper (envOfC qual (defScope st) s.heap.objs.size f cdv)) →
      RSs (cxOf CX0 P w K mg base N qual (defScope st) f cdv A out s H E).nox E0 (defBody st) g) : FnG P w K mg base CX0 (k + 1) f fd ps (sp0 K ps.length (body N.length g)) := by
  obtain ⟨oc, od, dV, kV, doc, pm, an, cdv, ct, osl, rfl, lk, hc, _, _⟩ := F.ex
  exact fng_of lk hc S (fun vs H Q E ⟨r, M, ws, hl, q, _⟩ => (RWL.length q).trans hl) fun A out s H vs Q E hg hr ⟨r, M, ws, hl, q, T, h⟩ => ⟨_, (bdy cdv A out s H E hg hr).nox, r, _, M, env_start q, T, fin_post h T.len⟩
end
/-! ### constants of the module -/
section
variable {X : Cx} {E : XK} {pos : Pos} {x : Str}
theorem re_globI {i : Int} (hg : Gl X x) (h : ∃ t, X.mg x = some (.int i t)) (hd : (x == ("__debug__" : Str)) = false := by decide) : RE X E (.Name x pos) (fC (.int i)) := by
  obtain ⟨t, h⟩ := h
  exact re_glob (v := .int i) hg h ⟨t, rfl⟩ (fun _ => rp_int) hd
theorem re_globS {i : Str} (hg : Gl X x) (h : ∃ t, X.mg x = some (.str i t)) (hd : (x == ("__debug__" : Str)) = false := by decide) : RE X E (.Name x pos) (fC (.str i)) := by
  obtain ⟨t, h⟩ := h
  exact re_glob (v := .str i) hg h ⟨t, rfl⟩ (fun _ => rp_str) hd
theorem re_globA {d : D} (hg : Gl X x) (h : ∃ a, X.mg x = some (.ref a) ∧ ∀ H, Rp X.K H d (.ref a)) (hd : (x == ("__debug__" : Str)) = false := by decide) : RE X E (.Name x pos) (fC d) := by
  obtain ⟨a, h, q⟩ := h
  exact re_glob (v := .ref a) hg h rfl q hd
end
/-- a tuple of texts as it stands in the module -/
theorem ktup_strs {K : PySem.W.Frag} {a : Addr} {its : List Value} {xs : List Str} {dd : Option Addr} {n : Nat} {sl : Array (Option Value)} (h : K.lookup a = some ⟨.type "tuple", dd, .seq its.toArray n, sl⟩) (hs : xs.length ≤ 1000) (hv : Vals (xs.map V.str) its) (H : Hp) :
    Rp K H (.tup (xs.map D.str)) (.ref a) := rp_ktup h (by rw [← hv.length, List.length_map]; exact line_of hs) hv RpL.of_strs
theorem vals_strs2 {x y : Str} {t u : Tok} : Vals ([x, y].map V.str) [.str x t, .str y u] := .cons ⟨t, rfl⟩ (.cons ⟨u, rfl⟩ .nil)
theorem vals_strs3 {x y z : Str} {t u v : Tok} : Vals ([x, y, z].map V.str) [.str x t, .str y u, .str z v] := .cons ⟨t, rfl⟩ (.cons ⟨u, rfl⟩ (.cons ⟨v, rfl⟩ .nil))
/-- no defaults are filled in -/
theorem dfl_nil {K : PySem.W.Frag} : Dfl K [] [] := ⟨fun _ => RpL.nil⟩
/-- the empty tuple of the module as a default -/
theorem dfl_unit {K : PySem.W.Frag} {a : Addr} {dd : Option Addr} {n : Nat} {sl : Array (Option Value)} (h : K.lookup a = some ⟨.type "tuple", dd, .seq #[] n, sl⟩) : Dfl K [.ref a] [.tup []] :=
  ⟨fun H => RpL.cons (rp_ktup (its := []) h (Nat.zero_le _) .nil RpL.nil) RpL.nil⟩
theorem FunD_full {K : PySem.W.Frag} {x qual : Str} {params : Arguments} {bd : List Stmt} {scope : Scope} {dvs : List V} {kws : List (Str × V)} {f : Addr} {fd : FuncData} {ps : List Str} (F : FunD K x qual params bd scope dvs kws f fd) (hd : dvs ≠ [])
    (h : ∀ (T : Addr) (kV doc pm : Value) (an : Option Addr) (cdv ct : Value) (us its : List Value), us.length = ps.length → its.length = dvs.length →
      ∃ k, bindArgs (PySem.W.fnOf x qual params bd scope (.ref T) kV doc pm an cdv ct) ⟨us, []⟩ = seqItems? (.ref T) >>= k ∧ k (some its.toArray) = pure (ps.zip us)) : Binds K fd ps [] := by
  obtain ⟨ds, hv, hb⟩ := F.binds1 (ps := ps) ps.length dvs.length hd (by omega) fun T kV doc pm an cdv ct us its hu hi => by
    obtain ⟨k, e1, e2⟩ := h T kV doc pm an cdv ct us its hu hi
    exact ⟨k, e1, by rw [e2, ← hi, List.drop_length, List.append_nil]⟩
  rw [List.drop_length] at hv
  cases hv
  exact hb
/-- a promise whatever the classes' addresses are -/
def spA (K : PySem.W.Frag) (n : Nat) (Φ : (Nat → Addr) → FF) : Sp := fun vs H Q E => ∀ κ, sp0 K n (Φ κ) vs H Q E
theorem g_all {P : Program} {w : World} {K : PySem.W.Frag} {mg : Str → Option Value} {base : Heap} {k n : Nat} {f : Addr} {fd : FuncData} {ps : List Str} {Φ : (Nat → Addr) → FF} {κ : Nat → Addr} (F : FnG P w K mg base CX0 k f fd ps (sp0 K n (Φ κ))) : FnG P w K mg base CX0 k f fd ps (spA K n Φ) := F.imp fun _ _ _ _ h => h κ
theorem told_ofA {Φ : (Nat → Addr) → FF} (h : ∀ (κ : Nat → Addr) (ns : List Int), ns.length ≤ 63 → (∀ k ∈ ns, Builtin.Int.intBits k ≤ 1048576) → ∃ M, Φ κ [.d (.frl (ns.map D.int))] [] = .ok (.d (.bl true)) M) (K : PySem.W.Frag) (H : Hp) (a : Addr) (ns : List Int) (h1 : ns.length ≤ 63)
    (h2 : ∀ k ∈ ns, Builtin.Int.intBits k ≤ 1048576) (h4 : Only H) (h3 : SqL K H a (ns.map V.int)) : spA K 1 Φ [.ref a] H (fun v _ => v = .bl true) fun _ _ _ => False := fun κ => told_of (h κ) K H a ns h1 h2 h4 h3
end S9

namespace S9
open PySem PySem.Spec PyProof.Rows L2
/-! ### a, b = (x, y) where a tuple is made -/
section
variable {X : Cx} {E : XK} {a b c : Expr} {fs : FA} {i j l : Nat} {x y z : Str} {px py pz pt pos : Pos} {kt k2 : Nat} {pt2 : Pos}
theorem sq_new {K : PySem.W.Frag} {H : Hp} {p : Addr} {vs : List V} : SqT K (upd H p (.tup vs)) p vs := .inl (.inl upd_same)
theorem rwl_2 {K : PySem.W.Frag} {r : Rg} {H : Hp} {vs : List V} {a b : W} (h : RWL K r H vs [a, b]) : ∃ x y, vs = [x, y] ∧ RW K r H x a ∧ RW K r H y b := by
  have hl := h.length
  match vs, hl, h with
  | [x, y], _, ⟨_, _, e, h1, ⟨_, _, e2, h2, _⟩⟩ =>
    cases e
    cases e2
    exact ⟨x, y, rfl, h1, h2⟩
theorem rs_parT (hc : X.calm = true) (hN : X.N.Nodup) (hi : X.N[i]? = some x) (hj : X.N[j]? = some y) (hx : Loc X.env.scope x) (hy : Loc X.env.scope y) (ha : RA X E [a, b] fs)
    (hs : swapsWithSole [.Tuple [.Name x px, .Name y py] kt pt] (.Tuple [a, b] k2 pt2) pos.line X.env = pure false := by rfl) (hw : swappedStores [.Tuple [.Name x px, .Name y py] kt pt] (.Tuple [a, b] k2 pt2) X.env = pure none := by rfl)
    (hfx : X.fn x = true ∨ X.env.scope.names.lookup x = some .local := by first | exact .inl rfl | exact .inr rfl | assumption) (hfy : X.fn y = true ∨ X.env.scope.names.lookup y = some .local := by first | exact .inl rfl | exact .inr rfl | assumption) :
    RS X E (.Assign [.Tuple [.Name x px, .Name y py] kt pt] (.Tuple [a, b] k2 pt2) pos) (sPar i j fs) := ps_imp (ps_asg (pe_tup ha) (pg_tup hc (pgs_cons (pg_name hN hi hx hfx) (pgs_cons (pg_name hN hj hy hfy) pgs_nil))) hs hw) fun D σ H ⟨r, δ, M, Ev, S, k⟩ =>
  ⟨r, δ, M, Ev, S, PostS.bind k fun ws M1 vs H1 r1 _ n1 S1 q1 k1 => by
    match ws, k1, q1 with
    | [], k1, _ => exact k1.elim
    | [_], k1, _ => exact k1.elim
    | _ :: _ :: _ :: _, k1, _ => exact k1.elim
    | [v, w], k1, q1 =>
      obtain ⟨v1, w1, rfl, h1, h2⟩ := rwl_2 q1
      refine ⟨by show (2 : Nat) ≤ sizeLine; decide, fun p hp => ?_⟩
      have n2 : Nxt r1 H1 r1 (upd H1 p (.tup [v1, w1])) := Nxt.more (same_up hp)
      exact ⟨p, _, rfl, sq_new, rfl, v1, [w1], rfl, w1, [], rfl, rfl, k1 _ _ r1 n2 (S1.more (same_up hp)) ((((Ev.mono n1).mono n2).set (RW.mono n2 h1)).set (RW.mono n2 h2))⟩⟩
end
end S9

namespace S9
open PySem PySem.Spec PyProof.Rows L2
/-! ### plain lemmas: how the functions of the data are worked out -/
@[simp] theorem R.of_none {A : Type} {M : Sto} : (R.of M (none : Option A)) = .bad := rfl
@[simp] theorem R.noEx_ok {A : Type} {a : A} {M : Sto} : (R.ok a M).noEx = .ok a M := rfl
@[simp] theorem rd_d {M : Sto} {x : D} : rd M (.d x) = some x := rfl
@[simp] theorem fr_d {x : D} : fr (.d x) = some x := rfl
theorem rd_lst {M : Sto} {k : Nat} {l : List D} (h : M[k]? = some (.lst l)) : rd M (.loc k) = some (.lst l) := by unfold rd; simp only [h]
section
variable {δ : DEnv} {M M1 M2 M3 : Sto} {fa fb fc : FE} {w w1 w2 : W} {d d1 d2 d3 : D}
theorem v_var {i : Nat} (h : δ[i]? = some (some w)) : fVar i δ M = .ok w M := by unfold fVar; simp only [h]
theorem v_op {g : D → D → Option D} (ha : fa δ M = .ok w1 M1) (hb : fb δ M1 = .ok w2 M2) (h1 : rd M2 w1 = some d1) (h2 : rd M2 w2 = some d2) (hg : g d1 d2 = some d) : fOp g fa fb δ M = .ok (.d d) M2 := by
  simp only [fOp, f2, ha, hb, h1, h2, hg, R.bind_ok, Option.bind_some, Option.map_some, R.of_some]
theorem v_opN {g : D → D → Option (List D)} {l : List D} (ha : fa δ M = .ok w1 M1) (hb : fb δ M1 = .ok w2 M2) (h1 : rd M2 w1 = some d1) (h2 : rd M2 w2 = some d2) (hg : g d1 d2 = some l) : fOpN g fa fb δ M = .ok l M2 := by
  simp only [fOpN, f2, ha, hb, h1, h2, hg, R.bind_ok, Option.bind_some, Option.map_some, R.of_some]
end
@[simp] theorem gSub_int {i j : Int} : gSub (.int i) (.int j) = some (.int (i - j)) := rfl
@[simp] theorem gAdd_int {i j : Int} : gAdd (.int i) (.int j) = some (.int (i + j)) := rfl
theorem gAdd_tup {a b : List D} (h : a.length + b.length ≤ 100000) : gAdd (.tup a) (.tup b) = some (.tup (a ++ b)) := by
  simp [gAdd, gI, gAddS, gAddT, h]
theorem gMul_int {i j : Int} (h : i.natAbs.log2 + j.natAbs.log2 < 1000000) : gMul (.int i) (.int j) = some (.int (i * j)) := by simp [gMul, gIc, cMul, h]
theorem gMod_int {i j : Int} (h : 0 < j) : gMod (.int i) (.int j) = some (.int (i % j)) := by simp [gMod, gIc, cPos, h]
theorem gDiv_int {i j : Int} (h : 0 < j) (h2 : j.natAbs.log2 < 9000) : gDiv (.int i) (.int j) = some (.int (i / j)) := by simp [gDiv, gIc, cDiv, h, h2]
theorem gPow_int {i j : Int} (h : 0 ≤ j) (h2 : (Builtin.Int.intBits i : Int) * j ≤ 2 ^ 27) : gPow (.int i) (.int j) = some (.int (i ^ j.toNat)) := by simp only [gPow, gIc, cPow, h, h2, decide_true, Bool.and_self]
@[simp] theorem gLt_int {i j : Int} : gLt (.int i) (.int j) = some (.bl (decide (i < j))) := rfl
@[simp] theorem gLe_int {i j : Int} : gLe (.int i) (.int j) = some (.bl (decide (i ≤ j))) := rfl
@[simp] theorem gGt_int {i j : Int} : gGt (.int i) (.int j) = some (.bl (decide (j < i))) := rfl
@[simp] theorem gGe_int {i j : Int} : gGe (.int i) (.int j) = some (.bl (decide (j ≤ i))) := rfl
@[simp] theorem gEq_int {i j : Int} : gEq (.int i) (.int j) = some (.bl (decide (i = j))) := rfl
@[simp] theorem gNe_int {i j : Int} : gNe (.int i) (.int j) = some (.bl (!decide (i = j))) := rfl
@[simp] theorem gEq_bl {i j : Bool} : gEq (.bl i) (.bl j) = some (.bl (decide (i = j))) := rfl
@[simp] theorem gNe_bl {i j : Bool} : gNe (.bl i) (.bl j) = some (.bl (!decide (i = j))) := rfl
@[simp] theorem gEq_str {i j : Str} : gEq (.str i) (.str j) = some (.bl (decide (i = j))) := rfl
@[simp] theorem gNe_str {i j : Str} : gNe (.str i) (.str j) = some (.bl (!decide (i = j))) := rfl
@[simp] theorem tru_bl {b : Bool} : tru (.d (.bl b)) = some b := rfl
/-! bits -/
theorem log2_lt {n k : Nat} (hk : 0 < k) (h : n < 2 ^ k) : n.log2 < k := by
  by_cases e : n = 0
  · subst e; simpa using hk
  · exact (Nat.log2_lt e).mpr h
theorem log2_lt' {i : Int} {k : Nat} (hk : 0 < k) (h1 : -(2 : Int) ^ k < i) (h2 : i < (2 : Int) ^ k) : i.natAbs.log2 < k := log2_lt hk (by
  have e : ((2 ^ k : Nat) : Int) = (2 : Int) ^ k := by simp
  omega)
theorem bits_le {i : Int} {k : Nat} (hk : 0 < k) (h1 : -(2 : Int) ^ k < i) (h2 : i < (2 : Int) ^ k) : Builtin.Int.intBits i ≤ k := by
  unfold Builtin.Int.intBits
  split
  · exact Nat.zero_le _
  · exact log2_lt' hk h1 h2
theorem mulOk {i j : Int} {a b : Nat} (ha : 0 < a) (hb : 0 < b) (hab : a + b ≤ 1000000) (h1 : -(2 : Int) ^ a < i) (h2 : i < (2 : Int) ^ a) (h3 : -(2 : Int) ^ b < j) (h4 : j < (2 : Int) ^ b) : gMul (.int i) (.int j) = some (.int (i * j)) := by
  have := log2_lt' ha h1 h2
  have := log2_lt' hb h3 h4
  exact gMul_int (by omega)
theorem divOk {i j : Int} {b : Nat} (hb : 0 < b) (hb2 : b ≤ 9000) (h3 : 0 < j) (h4 : j < (2 : Int) ^ b) : gDiv (.int i) (.int j) = some (.int (i / j)) := by
  have := log2_lt' hb (by have : (0 : Int) < 2 ^ b := Int.pow_pos (by decide); omega) h4
  exact gDiv_int h3 (by omega)
theorem powOk {i : Int} {a j : Nat} (ha : 0 < a) (haj : a * j ≤ 100000000) (h1 : -(2 : Int) ^ a < i) (h2 : i < (2 : Int) ^ a) : gPow (.int i) (.int (j : Nat)) = some (.int (i ^ j)) := by
  have hb := bits_le ha h1 h2
  have e := gPow_int (i := i) (j := (j : Nat)) (by omega) (by
    have h3 : Builtin.Int.intBits i * j ≤ a * j := Nat.mul_le_mul_right j hb
    have h4 : (Builtin.Int.intBits i : Int) * (j : Nat) = ((Builtin.Int.intBits i * j : Nat) : Int) := (Int.natCast_mul _ _).symm
    rw [h4]
    have : ((Builtin.Int.intBits i * j : Nat) : Int) ≤ ((100000000 : Nat) : Int) := Int.ofNat_le.mpr (Nat.le_trans h3 haj)
    have e2 : (2 : Int) ^ 27 = 134217728 := by decide
    omega)
  rw [e]
  simp
/-! places -/
end S9

namespace S9
open PySem PySem.Spec PyProof.Rows L2
/-! ### drawing from a pot -/
noncomputable def g_take0 : FS :=
  (sSeq (sIf (fB (fOp gGt (fOp gIx (fVar 0) (fC (.int 0))) (fC (.int 0))))
      (sSeq (sSet 2 (fOp gMod (fOp gIx (fVar 0) (fC (.int 0))) (fVar 1)))
      (sSeq (sSetI (fVar 0) (fC (.int 0)) (fOp gDiv (fOp gIx (fVar 0) (fC (.int 0))) (fVar 1)))
      (sRet (fVar 2))))
      sNil)
    (sSeq (sSetI (fVar 0) (fC (.int 2)) (fOp gAdd (fOp gIx (fVar 0) (fC (.int 2))) (fC (.int 1))))
    (sSeq (sSet 3 (fOp gIx (fFro (fLst (fCons (fC (.int 2305843009213693951)) (fCons (fC (.int 999999999989)) (fCons (fC (.int 1000000000039)) (fCons (fC (.int 67280421310721)) fNil)))))) (fOp gMod (fOp gIx (fVar 0) (fC (.int 2))) (fC (.int 4)))))
    (sSeq (sSet 4 (fOp gMod (fOp gAdd (fOp gAdd (fOp gIx (fVar 0) (fC (.int 1))) (fOp gMul (fOp gMul (fC (.int 7919)) (fOp gIx (fVar 0) (fC (.int 2)))) (fOp gIx (fVar 0) (fC (.int 2))))) (fOp gMul (fC (.int 65537)) (fOp gIx (fVar 0) (fC (.int 2))))) (fVar 3)))
    (sSeq (sSet 4 (fOp gMod (fOp gPow (fVar 4) (fC (.int 5))) (fVar 3)))
    (sRet (fOp gMod (fOp gAdd (fOp gDiv (fVar 4) (fC (.int 4099))) (fOp gMul (fOp gDiv (fVar 4) (fC (.int 1000003))) (fC (.int 7)))) (fVar 1))))))))
noncomputable def f_take0 : FF := body 5 g_take0
/-- a pot that has been drawn from at most c times -/
def Pot (c : Nat) (l : List D) : Prop := ∃ g m n : Int, l = [.int g, .int m, .int n] ∧ 0 ≤ g ∧ 0 ≤ m ∧ m < 4611686018427387904 ∧ 0 ≤ n ∧ n ≤ (c : Int)
theorem Pot.mono {c d : Nat} {l : List D} (h : Pot c l) (e : c ≤ d) : Pot d l := by
  obtain ⟨g, m, n, rfl, h1, h2, h3, h4, h5⟩ := h
  exact ⟨g, m, n, rfl, h1, h2, h3, h4, by omega⟩
theorem fin_d {n : Nat} {x : D} {M : Sto} (h : M.length ≤ n) : fin n (.ok (.rt (.d x)) M) = .ok (.d x) M := by
  simp only [fin, fin1, cutM, h, if_true]
theorem ix0 {a b c : D} : gIx (.lst [a, b, c]) (.int 0) = some a := rfl
theorem ix1 {a b c : D} : gIx (.lst [a, b, c]) (.int 1) = some b := rfl
theorem ix2 {a b c : D} : gIx (.lst [a, b, c]) (.int 2) = some c := rfl
theorem ix4 {a b c d : D} {i : Int} (h1 : 0 ≤ i) (h2 : i < 4) : ∃ p, gIx (.lst [a, b, c, d]) (.int i) = some p ∧ (p = a ∨ p = b ∨ p = c ∨ p = d) := by
  have : i = 0 ∨ i = 1 ∨ i = 2 ∨ i = 3 := by omega
  rcases this with rfl | rfl | rfl | rfl
  · exact ⟨a, rfl, .inl rfl⟩
  · exact ⟨b, rfl, .inr (.inl rfl)⟩
  · exact ⟨c, rfl, .inr (.inr (.inl rfl))⟩
  · exact ⟨d, rfl, .inr (.inr (.inr rfl))⟩
theorem take_spec {M : Sto} {k : Nat} {c : Nat} {l : List D} {many : Int} (hM : M[k]? = some (.lst l)) (hp : Pot c l) (hc : c ≤ 1000000) (h1 : 0 < many) (h2 : many < 2 ^ 250) :
    ∃ (x : Int) (l' : List D), f_take0 [.loc k, .d (.int many)] M = .ok (.d (.int x)) (M.set k (.lst l')) ∧ Pot (c + 1) l' ∧ 0 ≤ x ∧ x < many := by
  obtain ⟨g, m, n, rfl, hg, hm0, hm1, hn0, hn1⟩ := hp
  have hk : k < M.length := (List.getElem?_eq_some_iff.mp hM).1
  have hrd : rd M (.loc k) = some (.lst [.int g, .int m, .int n]) := rd_lst hM
  have hmod : ∀ i, gMod (.int i) (.int many) = some (.int (i % many)) := fun i => gMod_int h1
  unfold f_take0 body
  show ∃ x l', fin M.length (g_take0 [some (.loc k), some (.d (.int many)), none, none, none] M) = _ ∧ _
  by_cases hgp : 0 < g
  · refine ⟨g % many, [.int (g / many), .int m, .int n], ?_, ⟨_, _, _, rfl, Int.ediv_nonneg hg (by omega), hm0, hm1, hn0, by push_cast; omega⟩, Int.emod_nonneg _ (by omega), Int.emod_lt_of_pos _ h1⟩
    have hdiv : gDiv (.int g) (.int many) = some (.int (g / many)) := divOk (b := 250) (by decide) (by decide) h1 h2
    unfold g_take0
    simp only [sSeq, sIf, fB, fOp, f2, fVar, fC, List.getElem?_cons_zero, List.getElem?_cons_succ, R.bind_ok, hrd, rd_d, Option.bind_some, Option.map_some, R.of_some, ix0, gGt_int, tru_bl, hgp, decide_true, R.thenS, sSet, hmod, sSetI, hdiv, setC, fr_d, intW, hM, List.set_cons_zero, List.set_cons_succ, sRet]
    have e : ixN [D.int g, D.int m, D.int n].length 0 = some 0 := rfl
    simp only [e, R.bind_ok, List.set_cons_zero]
    exact fin_d (by simp)
  · have hg0 : g = 0 := by omega
    subst hg0
    have hM2 : (M.set k (.lst [.int 0, .int m, .int (n + 1)]))[k]? = some (.lst [.int 0, .int m, .int (n + 1)]) := by rw [List.getElem?_set_self hk]
    have hrd2 : rd (M.set k (.lst [.int 0, .int m, .int (n + 1)])) (.loc k) = some (.lst [.int 0, .int m, .int (n + 1)]) := rd_lst hM2
    have hm4 : gMod (.int (n + 1)) (.int 4) = some (.int ((n + 1) % 4)) := gMod_int (by decide)
    obtain ⟨p, hp, hpv⟩ := ix4 (a := .int 2305843009213693951) (b := .int 999999999989) (c := .int 1000000000039) (d := .int 67280421310721) (Int.emod_nonneg (n + 1) (by decide)) (Int.emod_lt_of_pos (n + 1) (by decide))
    obtain ⟨q, rfl, hq0, hq1⟩ : ∃ q : Int, p = .int q ∧ 0 < q ∧ q < 4611686018427387904 := by
      rcases hpv with rfl | rfl | rfl | rfl
      · exact ⟨_, rfl, by decide, by decide⟩
      · exact ⟨_, rfl, by decide, by decide⟩
      · exact ⟨_, rfl, by decide, by decide⟩
      · exact ⟨_, rfl, by decide, by decide⟩
    have hqm : ∀ i, gMod (.int i) (.int q) = some (.int (i % q)) := fun i => gMod_int hq0
    have hn2 : n + 1 < 2 ^ 40 := by omega
    have e1 : gMul (.int 7919) (.int (n + 1)) = some (.int (7919 * (n + 1))) := mulOk (a := 40) (b := 40) (by decide) (by decide) (by decide) (by decide) (by decide) (by omega) (by omega)
    have e2 : gMul (.int (7919 * (n + 1))) (.int (n + 1)) = some (.int (7919 * (n + 1) * (n + 1))) := mulOk (a := 60) (b := 40) (by decide) (by decide) (by decide) (by omega) (by omega) (by omega) (by omega)
    have e3 : gMul (.int 65537) (.int (n + 1)) = some (.int (65537 * (n + 1))) := mulOk (a := 40) (b := 40) (by decide) (by decide) (by decide) (by decide) (by decide) (by omega) (by omega)
    generalize ht : (m + 7919 * (n + 1) * (n + 1) + 65537 * (n + 1)) % q = t
    have ht0 : 0 ≤ t := by rw [← ht]; exact Int.emod_nonneg _ (by omega)
    have ht1 : t < q := by rw [← ht]; exact Int.emod_lt_of_pos _ hq0
    have e4 : gPow (.int t) (.int 5) = some (.int (t ^ 5)) := powOk (a := 62) (j := 5) (by decide) (by decide) (by omega) (by omega)
    generalize hu : t ^ 5 % q = u
    have hu0 : 0 ≤ u := by rw [← hu]; exact Int.emod_nonneg _ (by omega)
    have hu1 : u < q := by rw [← hu]; exact Int.emod_lt_of_pos _ hq0
    have e5 : gDiv (.int u) (.int 4099) = some (.int (u / 4099)) := divOk (b := 40) (by decide) (by decide) (by decide) (by decide)
    have e6 : gDiv (.int u) (.int 1000003) = some (.int (u / 1000003)) := divOk (b := 40) (by decide) (by decide) (by decide) (by decide)
    have e7 : gMul (.int (u / 1000003)) (.int 7) = some (.int (u / 1000003 * 7)) := mulOk (a := 62) (b := 40) (by decide) (by decide) (by decide) (by omega) (by omega) (by decide) (by decide)
    refine ⟨(u / 4099 + u / 1000003 * 7) % many, [.int 0, .int m, .int (n + 1)], ?_, ⟨_, _, _, rfl, by decide, hm0, hm1, by omega, by push_cast; omega⟩, Int.emod_nonneg _ (by omega), Int.emod_lt_of_pos _ h1⟩
    unfold g_take0
    have ee : ixN [D.int 0, D.int m, D.int n].length 2 = some 2 := rfl
    have e3' : ixN 3 2 = some 2 := rfl
    simp only [sSeq, sIf, fB, fOp, f2, fVar, fC, List.getElem?_cons_zero, List.getElem?_cons_succ, R.bind_ok, hrd, hrd2, rd_d, Option.bind_some, Option.map_some, R.of_some, ix0, ix1, ix2, gGt_int, tru_bl, hgp, decide_false, R.thenS, sSet, hmod, sSetI, setC, fr_d, intW, hM, hM2, List.set_cons_zero, List.set_cons_succ, sRet, sNil, ee, gAdd_int,
      fFro, fLst, fCons, fNil, frs9, List.length_cons, List.length_nil, hm4, hp, e1, e2, e3, e4, e5, e6, e7, hqm, ht, hu]
    simp only [Nat.zero_add, Nat.reduceAdd, Nat.reduceLeDiff, if_true, e3', R.bind_ok, R.thenS, R.of_some, List.getElem?_cons_zero, List.getElem?_cons_succ, List.set_cons_zero, List.set_cons_succ, hrd2, rd_d, Option.bind_some, Option.map_some, hp, e1, e2, e3, e4, e5, e6, e7, hqm, ht, hu, hmod, ix0, ix1, ix2, gAdd_int, hm4]
    refine fin_d ?_
    rw [List.length_set]
    exact Nat.le_refl _
end S9

namespace S9
open PySem PySem.Spec PyProof.Rows L2
/-! ### loops and comprehensions by what each turn does -/
theorem lkR_ok {A : Type} {lk : List Nat} {M0 M : Sto} {x : R A} (h : lkOk lk M0 M) : lkR lk M0 M x = x := by unfold lkR; exact if_pos h
theorem lkOk_nil {M0 M : Sto} : lkOk [] M0 M := fun _ h => absurd h List.not_mem_nil
theorem lkOk_self {lk : List Nat} {M : Sto} : lkOk lk M M := fun _ _ => rfl
theorem for_inv {lk : List Nat} {M0 : Sto} {g : FG} {fb : FS} (J : Nat → DEnv → Sto → Prop) : ∀ (l : List D) (i0 : Nat) {δ : DEnv} {M : Sto},
    (∀ i d δ M, l[i]? = some d → J (i0 + i) δ M → ∃ δ1 δ2 M2, g d δ = some δ1 ∧ (fb δ1 M = .ok (.nx δ2) M2 ∨ fb δ1 M = .ok (.ct δ2) M2) ∧ lkOk lk M0 M2 ∧ J (i0 + i + 1) δ2 M2) → J i0 δ M →
    ∃ δ' M', forF lk M0 g fb l δ M = .ok (.nx δ') M' ∧ J (i0 + l.length) δ' M'
  | [], i0, δ, M, _, h0 => ⟨δ, M, rfl, h0⟩
  | d :: l, i0, δ, M, step, h0 => by
    obtain ⟨δ1, δ2, M2, e1, e2, e3, e4⟩ := step 0 d δ M rfl h0
    obtain ⟨δ', M', e5, e6⟩ := for_inv J l (i0 + 1) (δ := δ2) (M := M2) (fun i d' δ M hd hJ => by
      have := step (i + 1) d' δ M (by simpa using hd) (by rw [show i0 + (i + 1) = i0 + 1 + i by omega]; exact hJ)
      rw [show i0 + (i + 1) = i0 + 1 + i by omega] at this
      exact this) e4
    refine ⟨δ', M', ?_, by rw [List.length_cons, show i0 + (l.length + 1) = i0 + 1 + l.length by omega]; exact e6⟩
    unfold forF
    rcases e2 with e2 | e2 <;> simp only [e1, e2, lkR_ok e3, e5]
theorem lc_inv {lk : List Nat} {M0 : Sto} {g : FG} {ft : FT} {fe : FE} {δ : DEnv} (J : Nat → Sto → Prop) (P : Nat → D → Prop) : ∀ (l : List D) (i0 : Nat) {M : Sto},
    (∀ i d M, l[i]? = some d → J (i0 + i) M → ∃ δ1 x M2, g d δ = some δ1 ∧ ft δ1 M = .ok true M ∧ fe δ1 M = .ok (.d x) M2 ∧ lkOk lk M0 M2 ∧ J (i0 + i + 1) M2 ∧ P (i0 + i) x) → J i0 M →
    ∃ r M', lcF lk M0 g ft fe δ l M = .ok r M' ∧ r.length = l.length ∧ J (i0 + l.length) M' ∧ ∀ i x, r[i]? = some x → P (i0 + i) x
  | [], i0, M, _, h0 => ⟨[], M, rfl, rfl, h0, fun i x h => by simp at h⟩
  | d :: l, i0, M, step, h0 => by
    obtain ⟨δ1, x, M2, e1, e2, e3, e4, e5, e6⟩ := step 0 d M rfl h0
    obtain ⟨r, M', e7, e8, e9, e10⟩ := lc_inv J P l (i0 + 1) (M := M2) (fun i d' M hd hJ => by
      have := step (i + 1) d' M (by simpa using hd) (by rw [show i0 + (i + 1) = i0 + 1 + i by omega]; exact hJ)
      rw [show i0 + (i + 1) = i0 + 1 + i by omega] at this
      exact this) e5
    refine ⟨x :: r, M', ?_, by simp [e8], by rw [List.length_cons, show i0 + (l.length + 1) = i0 + 1 + l.length by omega]; exact e9, fun i y hy => ?_⟩
    · unfold lcF
      simp only [e1, e2, e3, R.noEx_ok, R.bind_ok, fr_d, R.of_some, lkR_ok e4, e7]
    · cases i with
      | zero => simp at hy; subst hy; exact e6
      | succ i => rw [show i0 + (i + 1) = i0 + 1 + i by omega]; exact e10 i y (by simpa using hy)
/-- each item by itself -/
theorem lc_of {α : Type} {lk : List Nat} {g : FG} {ft : FT} {fe : FE} {δ : DEnv} {M : Sto} (E F : α → D) : ∀ (zs : List α), (∀ z ∈ zs, ∃ δ1, g (E z) δ = some δ1 ∧ ft δ1 M = .ok true M ∧ fe δ1 M = .ok (.d (F z)) M) → lcF lk M g ft fe δ (zs.map E) M = .ok (zs.map F) M
  | [], _ => rfl
  | z :: zs, h => by
    obtain ⟨δ1, e1, e2, e3⟩ := h z (List.mem_cons_self ..)
    have ih := lc_of (lk := lk) (g := g) (ft := ft) (fe := fe) (δ := δ) (M := M) E F zs fun y hy => h y (List.mem_cons_of_mem _ hy)
    simp only [List.map_cons]
    unfold lcF
    simp only [e1, e2, e3, R.noEx_ok, R.bind_ok, fr_d, R.of_some, lkR_ok lkOk_self, ih]
/-- .. some of them -/
theorem lc_if {α : Type} {lk : List Nat} {g : FG} {ft : FT} {fe : FE} {δ : DEnv} {M : Sto} (E F : α → D) (p : α → Bool) : ∀ (zs : List α), (∀ z ∈ zs, ∃ δ1, g (E z) δ = some δ1 ∧ ft δ1 M = .ok (p z) M ∧ (p z = true → fe δ1 M = .ok (.d (F z)) M)) → lcF lk M g ft fe δ (zs.map E) M = .ok ((zs.filter p).map F) M
  | [], _ => rfl
  | z :: zs, h => by
    obtain ⟨δ1, e1, e2, e3⟩ := h z (List.mem_cons_self ..)
    have ih := lc_if (lk := lk) (g := g) (ft := ft) (fe := fe) (δ := δ) (M := M) E F p zs fun y hy => h y (List.mem_cons_of_mem _ hy)
    simp only [List.map_cons]
    unfold lcF
    cases hp : p z with
    | true =>
      rw [hp] at e2 e3
      simp only [e1, e2, e3 rfl, R.noEx_ok, R.bind_ok, fr_d, R.of_some, lkR_ok lkOk_self, ih, List.filter_cons, hp, if_true, List.map_cons]
    | false =>
      rw [hp] at e2
      simp only [e1, e2, R.noEx_ok, R.bind_ok, lkR_ok lkOk_self, ih, List.filter_cons, hp]
      rfl
/-- a loop that changes nothing but its own names, each turn the same -/
theorem for_same {α : Type} {lk : List Nat} {g : FG} {fb : FS} {M : Sto} (E : α → D) (T : α → DEnv → DEnv) (J : DEnv → Prop) : ∀ (zs : List α) {δ : DEnv}, (∀ z ∈ zs, ∀ δ, J δ → ∃ δ1, g (E z) δ = some δ1 ∧ fb δ1 M = .ok (.nx (T z δ)) M ∧ J (T z δ)) → J δ →
    ∃ δ', forF lk M g fb (zs.map E) δ M = .ok (.nx δ') M ∧ J δ'
  | [], δ, _, h0 => ⟨δ, rfl, h0⟩
  | z :: zs, δ, h, h0 => by
    obtain ⟨δ1, e1, e2, e3⟩ := h z (List.mem_cons_self ..) δ h0
    obtain ⟨δ', e4, e5⟩ := for_same (lk := lk) E T J zs (fun y hy => h y (List.mem_cons_of_mem _ hy)) e3
    refine ⟨δ', ?_, e5⟩
    simp only [List.map_cons]
    unfold forF
    simp only [e1, e2, lkR_ok lkOk_self, e4]
/-! lists of ints -/
abbrev tupI (a : List Int) : D := .tup (a.map D.int)
abbrev lstI (a : List Int) : D := .lst (a.map D.int)
theorem zip2_ints : ∀ a b : List Int, zipD [a.map D.int, b.map D.int] = (List.zip a b).map fun p => .tup [.int p.1, .int p.2]
  | [], b => by simp [zipD2]
  | a :: as, [] => by simp [zipD2]
  | a :: as, b :: bs => by
    have ih := zip2_ints as bs
    rw [zipD2] at ih ⊢
    simp only [List.map_cons, List.zipWith_cons_cons, List.zip_cons_cons, ih]
theorem zip3_ints : ∀ a b c : List Int, zipD [a.map D.int, b.map D.int, c.map D.int] = (List.zip a (List.zip b c)).map fun p => .tup [.int p.1, .int p.2.1, .int p.2.2]
  | [], b, c => by simp [zipD3]
  | a :: as, [], c => by simp [zipD3]
  | a :: as, b :: bs, [] => by simp [zipD3]
  | a :: as, b :: bs, c :: cs => by
    have ih := zip3_ints as bs cs
    rw [zipD3] at ih ⊢
    simp only [List.map_cons, List.zipWith_cons_cons, List.zip_cons_cons, ih]
theorem intsD_map' {α : Type} (f : α → Int) (l : List α) : intsD (l.map fun x => D.int (f x)) = some (l.map f) := by
  have := intsD_map (l.map f)
  rw [List.map_map] at this
  exact this
theorem blsD_map' {α : Type} (f : α → Bool) (l : List α) : blsD (l.map fun x => D.bl (f x)) = some (l.map f) := by
  have := blsD_map (l.map f)
  rw [List.map_map] at this
  exact this
theorem itW_t {M : Sto} {l : List D} : itemsW M (.d (.tup l)) = some (l, []) := rfl
theorem itW_l {M : Sto} {l : List D} : itemsW M (.d (.lst l)) = some (l, []) := rfl
theorem itW_c {M : Sto} {k : Nat} {l : List D} (h : M[k]? = some (.lst l)) : itemsW M (.loc k) = some (l, [k]) := by unfold itemsW; simp only [h]
end S9

namespace S9
open PySem PySem.Spec PyProof.Rows L2
/-! ### repr: what can be shown -/
structure Shw (B k : Nat) (p : PyData) : Prop where
  sh : p.showable = true
  nd : p.hasDict = false
  dp : p.depth ≤ k
  ln : p.shown.length ≤ B
theorem Shw.ok {B k : Nat} {p : PyData} (h : Shw B k p) (h1 : B ≤ 1000000) (h2 : k ≤ 60) : reprOk p = true := by
  unfold reprOk
  simp only [h.sh, h.nd, Bool.not_false, Bool.true_and, Bool.and_eq_true, decide_eq_true_eq]
  exact ⟨Nat.le_trans h.dp h2, Nat.le_trans h.ln h1⟩
theorem Shw.mono {B k B' k' : Nat} {p : PyData} (h : Shw B k p) (h1 : B ≤ B') (h2 : k ≤ k') : Shw B' k' p := ⟨h.sh, h.nd, Nat.le_trans h.dp h2, Nat.le_trans h.ln h1⟩
theorem shw_bl {b : Bool} : Shw 5 0 (.bool b) := ⟨by simp only [PyData.showable], by simp only [PyData.hasDict], by simp only [PyData.depth]; exact Nat.le_refl _, by cases b <;> decide⟩
theorem shw_non : Shw 5 0 .none := ⟨by simp only [PyData.showable], by simp only [PyData.hasDict], by simp only [PyData.depth]; exact Nat.le_refl _, by decide⟩
theorem shw_int {i : Int} {m : Nat} (hm : 0 < m) (hm2 : m < 1920) (h : i.natAbs.log2 < m) : Shw (m + 1) 0 (.int i) := ⟨by simp only [PyData.showable, decide_eq_true_eq]; omega, by simp only [PyData.hasDict], by simp only [PyData.depth]; exact Nat.le_refl _, by
  have e := int_text_length_le hm h
  simp only [PyData.shown]
  rw [PySem.ofString_length]
  exact e⟩
theorem all_show {xs : List PyData} (h : ∀ x ∈ xs, x.showable = true) : PyData.showableAll xs = true := by
  induction xs with
  | nil => simp only [PyData.showableAll]
  | cons x xs ih => simp only [PyData.showableAll, h x (List.mem_cons_self ..), ih fun y hy => h y (List.mem_cons_of_mem _ hy), Bool.and_self]
theorem all_dict {xs : List PyData} (h : ∀ x ∈ xs, x.hasDict = false) : PyData.hasDictAll xs = false := by
  induction xs with
  | nil => simp only [PyData.hasDictAll]
  | cons x xs ih => simp only [PyData.hasDictAll, h x (List.mem_cons_self ..), ih fun y hy => h y (List.mem_cons_of_mem _ hy), Bool.or_self]
theorem all_depth {xs : List PyData} {k : Nat} (h : ∀ x ∈ xs, x.depth ≤ k) : PyData.depthAll xs ≤ k := by
  induction xs with
  | nil => simp only [PyData.depthAll]; exact Nat.zero_le _
  | cons x xs ih => simp only [PyData.depthAll]; exact Nat.max_le.mpr ⟨h x (List.mem_cons_self ..), ih fun y hy => h y (List.mem_cons_of_mem _ hy)⟩
theorem all_len {xs : List PyData} {B : Nat} (h : ∀ x ∈ xs, x.shown.length ≤ B) : ((PyData.shownAll xs).map (·.length)).sum ≤ B * xs.length ∧ (PyData.shownAll xs).length = xs.length := by
  induction xs with
  | nil => simp [PyData.shownAll]
  | cons x xs ih =>
    obtain ⟨h1, h2⟩ := ih fun y hy => h y (List.mem_cons_of_mem _ hy)
    have h3 := h x (List.mem_cons_self ..)
    simp only [PyData.shownAll, List.map_cons, List.sum_cons, List.length_cons, h2, and_true, Nat.mul_succ]
    omega
theorem shw_list {xs : List PyData} {B k : Nat} (h : ∀ x ∈ xs, Shw B k x) : Shw ((B + 2) * xs.length + 3) (k + 1) (.list xs) := ⟨by simp only [PyData.showable]; exact all_show fun x hx => (h x hx).sh, by simp only [PyData.hasDict]; exact all_dict fun x hx => (h x hx).nd,
  by simp only [PyData.depth]; exact Nat.succ_le_succ (all_depth fun x hx => (h x hx).dp), by
    obtain ⟨h1, h2⟩ := all_len fun x hx => (h x hx).ln
    have h3 := listText_len_le (PyData.shownAll xs)
    simp only [PyData.shown]
    rw [Nat.add_mul]
    omega⟩
theorem shw_tup {xs : List PyData} {B k : Nat} (h : ∀ x ∈ xs, Shw B k x) : Shw ((B + 2) * xs.length + 3) (k + 1) (.tuple xs) := ⟨by simp only [PyData.showable]; exact all_show fun x hx => (h x hx).sh, by simp only [PyData.hasDict]; exact all_dict fun x hx => (h x hx).nd,
  by simp only [PyData.depth]; exact Nat.succ_le_succ (all_depth fun x hx => (h x hx).dp), by
    obtain ⟨h1, h2⟩ := all_len fun x hx => (h x hx).ln
    have h3 := tupleText_len_le (PyData.shownAll xs)
    simp only [PyData.shown]
    rw [Nat.add_mul]
    omega⟩
theorem toPs_map {α : Type} (f : α → D) (p : α → PyData) (h : ∀ a, (f a).toP = some (p a)) (l : List α) : D.toPs (l.map f) = some (l.map p) := by
  induction l with
  | nil => simp only [List.map_nil, D.toPs]
  | cons a l ih => simp only [List.map_cons, D.toPs, h, ih, Option.bind_some, Option.map_some]
theorem toPs_ints (l : List Int) : D.toPs (l.map D.int) = some (l.map PyData.int) := toPs_map _ _ (fun a => by simp only [D.toP]) l
theorem toPs_bls (l : List Bool) : D.toPs (l.map D.bl) = some (l.map PyData.bool) := toPs_map _ _ (fun a => by simp only [D.toP]) l
theorem toP_tupI (l : List Int) : (tupI l).toP = some (.tuple (l.map PyData.int)) := by simp only [tupI, D.toP, toPs_ints, Option.map_some]
theorem toP_lstI (l : List Int) : (lstI l).toP = some (.list (l.map PyData.int)) := by simp only [lstI, D.toP, toPs_ints, Option.map_some]
theorem gRepr_of {d : D} {p : PyData} {B k : Nat} (h : d.toP = some p) (r : Shw B k p) (h1 : B ≤ 1000000) (h2 : k ≤ 60) : gRepr [d] = some (.str p.shown) := by
  unfold gRepr
  simp only [h, Option.bind_some, r.ok h1 h2, if_true]
/-- a whole number of at most 300 bits -/
theorem shw_small {i : Int} (h1 : -(2 : Int) ^ 300 < i) (h2 : i < 2 ^ 300) : Shw 301 0 (.int i) := shw_int (by decide) (by decide) (log2_lt' (by decide) h1 h2)
/-! == of tuples of ints -/
theorem eqvAll_ints : ∀ a b : List Int, PyData.eqvAll (a.map PyData.int) (b.map PyData.int) = decide (a = b)
  | [], [] => by simp [PyData.eqvAll]
  | [], b :: bs => by simp [PyData.eqvAll]
  | a :: as, [] => by simp [PyData.eqvAll]
  | a :: as, b :: bs => by
    have ih := eqvAll_ints as bs
    simp only [List.map_cons, PyData.eqvAll, ih, PyData.eqv, List.cons.injEq]
    by_cases h : a = b <;> simp [h]
theorem canLay_ints : ∀ a : List Int, PyData.canLayAll0 (a.map PyData.int) = true
  | [] => by simp [PyData.canLayAll0]
  | a :: as => by simp [PyData.canLayAll0, PyData.canLay0, canLay_ints as]
theorem depth_ints : ∀ a : List Int, PyData.depthAll (a.map PyData.int) = 0
  | [] => by simp [PyData.depthAll]
  | a :: as => by simp [PyData.depthAll, PyData.depth, depth_ints as]
theorem shaped_tup (a : List Int) : SeqAt.shaped (.tuple (a.map PyData.int)) = true := by
  simp [SeqAt.shaped, PyData.canLay0, canLay_ints, PyData.depth, depth_ints]
theorem gEq_tupI (a b : List Int) : gEq (tupI a) (tupI b) = some (.bl (decide (a = b))) := by
  have e : eqS (tupI a) (tupI b) = none := rfl
  simp only [gEq, eqD, e, Option.orElse_none, eqP, toP_tupI, Option.bind_some, shaped_tup, and_self, if_true, Option.map_some, PyData.eqv, eqvAll_ints]
theorem gNe_tupI (a b : List Int) : gNe (tupI a) (tupI b) = some (.bl (!decide (a = b))) := by
  have e : eqS (tupI a) (tupI b) = none := rfl
  simp only [gNe, eqD, e, Option.orElse_none, eqP, toP_tupI, Option.bind_some, shaped_tup, and_self, if_true, Option.map_some, PyData.eqv, eqvAll_ints]
end S9

namespace S9
open PySem PySem.Spec PyProof.Rows L2
/-! ### stores with a pot -/
def Flat (M : Sto) : Prop := ∀ c ∈ M, ∃ l, c = Cell.lst l
theorem Flat.all {M : Sto} (h : Flat M) (n : Nat) : M.all (Cell.clo n) = true := List.all_eq_true.mpr fun c hc => by
  obtain ⟨l, rfl⟩ := h c hc
  rfl
theorem Flat.set {M : Sto} (h : Flat M) (k : Nat) (l : List D) : Flat (M.set k (.lst l)) := fun c hc => by
  rcases List.mem_or_eq_of_mem_set hc with h1 | h1
  · exact h c h1
  · exact ⟨l, h1⟩
theorem Flat.add {M : Sto} (h : Flat M) (l : List D) : Flat (M ++ [.lst l]) := fun c hc => by
  rcases List.mem_append.mp hc with h1 | h1
  · exact h c h1
  · exact ⟨l, List.mem_singleton.mp h1⟩
/-- M: M0, the pot at k drawn from, behind it ext -/
def Adv (M0 : Sto) (k c : Nat) (ext M : Sto) : Prop := ∃ l, M = M0.set k (.lst l) ++ ext ∧ Pot c l
theorem Adv.mono {M0 M ext : Sto} {k c d : Nat} (h : Adv M0 k c ext M) (e : c ≤ d) : Adv M0 k d ext M := by
  obtain ⟨l, h1, h2⟩ := h
  exact ⟨l, h1, h2.mono e⟩
theorem Adv.len {M0 M ext : Sto} {k c : Nat} (h : Adv M0 k c ext M) : M.length = M0.length + ext.length := by
  obtain ⟨l, rfl, _⟩ := h
  rw [List.length_append, List.length_set]
theorem Adv.more {M0 M ext x : Sto} {k c : Nat} (h : Adv M0 k c ext M) : Adv M0 k c (ext ++ x) (M ++ x) := by
  obtain ⟨l, rfl, h2⟩ := h
  exact ⟨l, by rw [List.append_assoc], h2⟩
theorem Adv.ext1 {M0 M : Sto} {k c : Nat} {d : Cell} (h : Adv M0 k c [d] M) : M[M0.length]? = some d := by
  obtain ⟨l, rfl, h2⟩ := h
  rw [List.getElem?_append_right (by rw [List.length_set]; exact Nat.le_refl _), List.length_set, Nat.sub_self]
  rfl
theorem Adv.put1 {M0 M : Sto} {k c : Nat} {d e : Cell} (h : Adv M0 k c [d] M) : Adv M0 k c [e] (M.set M0.length e) := by
  obtain ⟨l, rfl, h2⟩ := h
  refine ⟨l, ?_, h2⟩
  rw [List.set_append_right _ _ (by rw [List.length_set]; exact Nat.le_refl _), List.length_set, Nat.sub_self]
  rfl
theorem take_adv {M0 M ext : Sto} {k c : Nat} {many : Int} (h : Adv M0 k c ext M) (hk : k < M0.length) (hc : c ≤ 1000000) (h1 : 0 < many) (h2 : many < 2 ^ 250) :
    ∃ (x : Int) (M' : Sto), f_take0 [.loc k, .d (.int many)] M = .ok (.d (.int x)) M' ∧ Adv M0 k (c + 1) ext M' ∧ 0 ≤ x ∧ x < many := by
  obtain ⟨l, rfl, hp⟩ := h
  have hM : (M0.set k (.lst l) ++ ext)[k]? = some (.lst l) := by rw [List.getElem?_append_left (by rw [List.length_set]; exact hk), List.getElem?_set_self hk]
  obtain ⟨x, l', e1, e2, e3, e4⟩ := take_spec hM hp hc h1 h2
  refine ⟨x, _, e1, ⟨l', ?_, e2⟩, e3, e4⟩
  rw [List.set_append_left _ _ (by rw [List.length_set]; exact hk), List.set_set]
/-- what is left of the store behind a call -/
theorem fin_ext {M1 ext : Sto} {n : Nat} {x : D} (hf : Flat M1) (hn : M1.length = n) : fin n (.ok (.rt (.d x)) (M1 ++ ext)) = .ok (.d x) M1 := by
  subst hn
  simp only [fin, fin1, cutM]
  by_cases h : (M1 ++ ext).length ≤ M1.length
  · have : ext = [] := by
      rw [List.length_append] at h
      exact List.eq_nil_of_length_eq_zero (by omega)
    subst this
    simp
  · rw [if_neg h, List.take_left, if_pos (hf.all _)]
theorem fin_loc {M1 : Sto} {n : Nat} {l : List D} (hf : Flat M1) (hn : M1.length = n) : fin n (.ok (.rt (.loc n)) (M1 ++ [.lst l])) = .ok (.d (.lst l)) M1 := by
  subst hn
  simp only [fin, fin1, cutM]
  rw [if_neg (by simp), List.take_left, if_pos (hf.all _)]
  simp
theorem finN_loc {M1 : Sto} {n : Nat} {l : List D} (hf : Flat M1) (hn : M1.length = n) : finN n (.ok (.rt (.loc n)) (M1 ++ [.lst l])) = .ok l M1 := by
  subst hn
  simp only [finN, cutM]
  rw [if_neg (by simp), List.take_left, if_pos (hf.all _)]
  simp
theorem Adv.fin {M0 M ext : Sto} {k c n : Nat} {x : D} (h : Adv M0 k c ext M) (hf : Flat M0) (hn : M0.length = n) : ∃ M', S9.fin n (.ok (.rt (.d x)) M) = .ok (.d x) M' ∧ Adv M0 k c [] M' := by
  obtain ⟨l, rfl, hp⟩ := h
  exact ⟨_, fin_ext (hf.set k l) (by rw [List.length_set]; exact hn), l, by rw [List.append_nil], hp⟩
theorem Adv.finL {M0 M : Sto} {k c n : Nat} {l : List D} (h : Adv M0 k c [.lst l] M) (hf : Flat M0) (hn : M0.length = n) : ∃ M', S9.fin n (.ok (.rt (.loc n)) M) = .ok (.d (.lst l)) M' ∧ Adv M0 k c [] M' := by
  obtain ⟨p, rfl, hp⟩ := h
  exact ⟨_, fin_loc (hf.set k p) (by rw [List.length_set]; exact hn), p, by rw [List.append_nil], hp⟩
theorem gLen_lst {l : List D} : gLen [.lst l] = some (.int l.length) := rfl
theorem gLen_tup {l : List D} : gLen [.tup l] = some (.int l.length) := rfl
theorem gLen_frl {l : List D} : gLen [.frl l] = some (.int l.length) := rfl
/-- all are ints with a property -/
theorem ints_of {P : Int → Prop} : ∀ r : List D, (∀ (i : Nat) (x : D), r[i]? = some x → ∃ v : Int, x = .int v ∧ P v) → ∃ s : List Int, r = s.map D.int ∧ ∀ x ∈ s, P x
  | [], _ => ⟨[], rfl, fun x h => by simp at h⟩
  | d :: r, h => by
    obtain ⟨v, rfl, hv⟩ := h 0 d rfl
    obtain ⟨s, rfl, hs⟩ := ints_of r fun i x hx => h (i + 1) x (by simpa using hx)
    exact ⟨v :: s, rfl, fun x hx => by
      rcases List.mem_cons.mp hx with e | hx
      · rw [e]; exact hv
      · exact hs x hx⟩
theorem rgD_len {lo : Int} {n : Nat} : (rgD lo n).length = n := by unfold rgD; simp
theorem rgD_get {lo : Int} {n i : Nat} {d : D} (h : (rgD lo n)[i]? = some d) : d = .int (lo + i) ∧ i < n := by
  unfold rgD at h
  rw [List.getElem?_map] at h
  cases e : (List.range n)[i]? with
  | none => rw [e] at h; cases h
  | some j =>
    rw [e] at h
    cases h
    obtain ⟨h1, h2⟩ := List.getElem?_eq_some_iff.mp e
    rw [List.length_range] at h1
    rw [List.getElem_range] at h2
    subst h2
    exact ⟨rfl, h1⟩
theorem rng_ok {n : Nat} (h : n ≤ 1000000) (M : Sto) : rngR (0, (n : Int)) M = .ok (rgD 0 n, []) M := by
  unfold rngR
  have : rngC (0, (n : Int)) = true := by
    unfold rngC
    simp only [Bool.and_eq_true, decide_eq_true_eq]
    omega
  rw [this]
  simp
theorem v_app {fo fe : FE} {δ : DEnv} {M M2 : Sto} {n : Nat} {l0 l : List D} {x : D} (h1 : fo δ M = .ok (.loc n) M) (h2 : M[n]? = some (.lst l0)) (h3 : fe δ M = .ok (.d x) M2) (h4 : M2[n]? = some (.lst l)) (h5 : l.length ≤ 100000) :
    sApp fo fe δ M = .ok (.nx δ) (M2.set n (.lst (l ++ [x]))) := by
  unfold sApp appC
  simp only [h1, R.bind_ok, h2, h3, fr_d, h4, h5, if_true]
theorem v_call0 {n : Nat} {φ : FF} {fs : FA} {δ : DEnv} {M M1 M2 : Sto} {ws : List W} {w : W} (h1 : fs δ M = .ok ws M1) (h2 : ws.length = n) (h3 : φ ws M1 = .ok w M2) : fCall0 n φ fs δ M = .ok w M2 := by
  unfold fCall0
  simp only [h1, R.bind_ok, h2, if_true, h3, R.noEx_ok]
/-! slices at a place -/
theorem cut_to {l : List D} {a : Nat} (h : a ≤ l.length) : cutD l none (some (a : Int)) = l.take a := by
  unfold cutD
  rw [HT.sIx_none, HT.sIx_nat, Nat.min_eq_left h]
  simp
theorem cut_from {l : List D} {a : Nat} (h : a ≤ l.length) : cutD l (some (a : Int)) none = l.drop a := by
  unfold cutD
  rw [HT.sIx_none, HT.sIx_nat, Nat.min_eq_left h]
  exact List.take_of_length_le (by simp)
theorem cut_mid {l : List D} {a b : Nat} (h : b ≤ l.length) (h2 : a ≤ b) : cutD l (some (a : Int)) (some (b : Int)) = (l.drop a).take (b - a) := by
  unfold cutD
  rw [HT.sIx_nat, HT.sIx_nat, Nat.min_eq_left h, Nat.min_eq_left (Nat.le_trans h2 h)]
/-- a loop that leaves the store as it is -/
theorem for_ex {α : Type} {lk : List Nat} {g : FG} {fb : FS} {M : Sto} (E : α → D) (J : DEnv → Prop) : ∀ (zs : List α) {δ : DEnv}, (∀ z ∈ zs, ∀ δ, J δ → ∃ δ1 δ2, g (E z) δ = some δ1 ∧ fb δ1 M = .ok (.nx δ2) M ∧ J δ2) → J δ →
    ∃ δ', forF lk M g fb (zs.map E) δ M = .ok (.nx δ') M ∧ J δ'
  | [], δ, _, h0 => ⟨δ, rfl, h0⟩
  | z :: zs, δ, h, h0 => by
    obtain ⟨δ1, δ2, e1, e2, e3⟩ := h z (List.mem_cons_self ..) δ h0
    obtain ⟨δ', e4, e5⟩ := for_ex (lk := lk) E J zs (fun y hy => h y (List.mem_cons_of_mem _ hy)) e3
    refine ⟨δ', ?_, e5⟩
    simp only [List.map_cons]
    unfold forF
    simp only [e1, e2, lkR_ok lkOk_self, e4]
theorem enum_map {α : Type} (E : α → D) (l : List α) : enumD (l.map E) = l.zipIdx.map fun p => D.tup [.int (p.2 : Nat), E p.1] := by
  unfold enumD
  rw [List.zipIdx_map, List.map_map]
  rfl
theorem Adv.new {M : Sto} {l : List D} {c : Nat} (h : Pot c l) : Adv (M ++ [.lst l]) M.length c [] (M ++ [.lst l]) := by
  refine ⟨l, ?_, h⟩
  rw [List.set_append_right _ _ (Nat.le_refl _), Nat.sub_self, List.append_nil]
  rfl
theorem Adv.flat {M0 M : Sto} {k c : Nat} (h : Adv M0 k c [] M) (hf : Flat M0) : Flat M := by
  obtain ⟨l, rfl, _⟩ := h
  rw [List.append_nil]
  exact hf.set k l
theorem v_callN {n : Nat} {φ : List W → Sto → R (List D)} {fs : FA} {δ : DEnv} {M M1 M2 : Sto} {ws : List W} {l : List D} (h1 : fs δ M = .ok ws M1) (h2 : ws.length = n) (h3 : φ ws M1 = .ok l M2) : fCallN n φ fs δ M = .ok l M2 := by
  unfold fCallN
  simp only [h1, R.bind_ok, h2, if_true, h3, R.noEx_ok]
end S9

namespace S9
open PySem PySem.Spec PyProof.Rows L2
/-! ### what the laws draw: one of some, a standing, tops, the pot -/
noncomputable def g_of0 : FS :=
  (sRet (fOp gIx (fVar 1) (fCall0 2 f_take0 (fCons (fVar 0) (fCons (fCB gLen (fCons (fVar 1) fNil)) fNil)))))
noncomputable def f_of0 : FF := body 2 g_of0
noncomputable def g_standing0 : FS :=
  (sRet (fCB gTuple (fCons (fFro (fLc (fSeqI (fVar 1)) (gNm 2) tYesF (fCall0 2 f_take0 (fCons (fVar 0) (fCons (fOp gAdd (fVar 2) (fC (.int 1))) fNil))) [2])) fNil)))
noncomputable def f_standing0 : FF := body 3 g_standing0
noncomputable def g_tops0 : FS :=
  (sSeq (sSet 1 (fNew (fLst fNil)))
    (sSeq (sFor (fRng1 (fCons (fOp gAdd (fC (.int 2)) (fCall0 2 f_take0 (fCons (fVar 0) (fCons (fC (.int 11)) fNil)))) fNil)) (gNm 2)
      (sSeq (sSet 3 (fOp gAdd (fOp gMul (fCall0 2 f_take0 (fCons (fVar 0) (fCons (fOp gPow (fC (.int 10)) (fC (.int 15))) fNil))) (fOp gPow (fC (.int 10)) (fC (.int 15)))) (fCall0 2 f_take0 (fCons (fVar 0) (fCons (fOp gPow (fC (.int 10)) (fC (.int 15))) fNil)))))
      (sApp (fVar 1) (fCall0 2 f_of0 (fCons (fVar 0) (fCons (fFro (fLst (fCons (fC (.int 0)) (fCons (fC (.int 1)) (fCons (fC (.int 2)) (fCons (fC (.int 9)) (fCons (fVar 3) (fCons (fOp gSub (fOp gPow (fC (.int 10)) (fC (.int 30))) (fC (.int 1))) fNil)))))))) fNil))))))
    (sRet (fCB gTuple (fCons (fVar 1) fNil)))))
noncomputable def f_tops0 : FF := body 4 g_tops0
noncomputable def g_pot0 : FS :=
  (sSeq (sSet 2 (fIf (fB (fOp gLt (fVar 1) (fCB gLen (fCons (fVar 0) fNil)))) (fOp gIx (fVar 0) (fVar 1)) (fOp gAdd (fOp gMul (fC (.int 7)) (fVar 1)) (fC (.int 3)))))
    (sSeq (sSet 3 (fOp gMul (fOp gMod (fCB gAbs (fCons (fVar 2) fNil)) (fOp gPow (fOp gPow (fC (.int 10)) (fC (.int 60))) (fC (.int 5)))) (fCB gInt (fCons (fOp gGe (fCB gAbs (fCons (fVar 2) fNil)) (fOp gPow (fC (.int 10)) (fC (.int 18)))) fNil))))
    (sRet (fNew (fLst (fCons (fVar 3) (fCons (fOp gMod (fOp gMul (fOp gAdd (fOp gAdd (fOp gMod (fVar 2) (fC (.int 2305843009213693951))) (fOp gMul (fOp gMul (fC (.int 7919)) (fVar 1)) (fVar 1))) (fC (.int 17))) (fC (.int 48271))) (fC (.int 2305843009213693921))) (fCons (fC (.int 0)) fNil))))))))
noncomputable def fn_pot0 : List W → Sto → R (List D) := bodyN 4 g_pot0
theorem v_set {i : Nat} {fe : FE} {δ : DEnv} {M M2 : Sto} {w : W} (h : fe δ M = .ok w M2) : sSet i fe δ M = .ok (.nx (δ.set i (some w))) M2 := by
  unfold sSet
  simp only [h, R.bind_ok]
section
variable {M0 M ext : Sto} {k c : Nat}
theorem of_adv {l : List D} (h : Adv M0 k c ext M) (hk : k < M0.length) (hc : c ≤ 1000000) (h1 : l ≠ []) (h2 : l.length ≤ 1000) :
    ∃ (x : D) (M' : Sto), f_of0 [.loc k, .d (.lst l)] M = .ok (.d x) M' ∧ Adv M0 k (c + 1) ext M' ∧ x ∈ l := by
  have hpos : 0 < l.length := List.length_pos_iff.mpr h1
  obtain ⟨x, M', e1, e2, e3, e4⟩ := take_adv (many := (l.length : Nat)) h hk hc (by omega) (Int.lt_of_le_of_lt (show (l.length : Int) ≤ 1000 by omega) (by decide))
  obtain ⟨j, rfl⟩ : ∃ j : Nat, x = (j : Int) := ⟨x.toNat, by omega⟩
  have hx : j < l.length := by omega
  refine ⟨l[j], M', ?_, e2, List.getElem_mem hx⟩
  have hix : gIx (.lst l) (.int (j : Int)) = some l[j] := atI_nat (List.getElem?_eq_getElem hx)
  unfold f_of0 body g_of0
  show fin M.length (sRet _ [some (.loc k), some (.d (.lst l))] M) = _
  have hrd : rd M' (.loc k) = rd M' (.loc k) := rfl
  simp only [sSeq, sSet, sRet, sIf, sFor, sNil, sPar, sApp, fB, fOrT, fAndT, fNotT, fAnd, fOr, fNot, fIf, fOp, f2, fC, fVar, fCB, fCN, fCons, fNil, fFro, fNew, fLst, fTup, frs9, fCall0, fCallN, fOpN, fUn, fSl, fSlN, oNone, oSome, intW, fSeqI, List.getElem?_cons_zero, List.getElem?_cons_succ, R.bind_ok, R.noEx_ok, rds, rd_d, fr_d, itW_t, itW_l, Option.bind_some, Option.map_some, R.of_some, List.set_cons_zero, List.set_cons_succ, List.length_cons, List.length_nil, Nat.zero_add, Nat.reduceAdd, Nat.reduceLeDiff, if_true, R.thenS, tru_bl, gSub_int, gAdd_int, gEq_int, gNe_int, gEq_bl, gNe_bl, gEq_str, gNe_str, gLt_int, gLe_int, gGt_int, gGe_int, List.nil_append, List.append_nil, decide_true, decide_false, Bool.not_true, Bool.not_false, gLen_lst, e1, hix]
  refine fin_d ?_
  rw [e2.len, h.len]
  exact Nat.le_refl _
/-- within the tops -/
def Within (tops s : List Int) : Prop := s.length = tops.length ∧ ∀ (i : Nat) (a t : Int), s[i]? = some a → tops[i]? = some t → 0 ≤ a ∧ a ≤ t
theorem standing_adv {tops : List Int} (h : Adv M0 k c ext M) (hk : k < M0.length) (hc : c + tops.length ≤ 1000000) (ht : ∀ t ∈ tops, 0 ≤ t ∧ t < 2 ^ 200) (hl : tops.length ≤ 1000) :
    ∃ (s : List Int) (M' : Sto), f_standing0 [.loc k, .d (tupI tops)] M = .ok (.d (tupI s)) M' ∧ Adv M0 k (c + tops.length) ext M' ∧ Within tops s := by
  unfold f_standing0 body g_standing0
  have hit : (tops.map D.int).length ≤ 100000 := by rw [List.length_map]; omega
  obtain ⟨r, M', e1, e2, e3, e4⟩ := lc_inv (lk := []) (M0 := M) (g := gNm 2) (ft := tYesF) (fe := fCall0 2 f_take0 (fCons (fVar 0) (fCons (fOp gAdd (fVar 2) (fC (.int 1))) fNil))) (δ := [some (.loc k), some (.d (tupI tops)), none]) (fun i M => Adv M0 k (c + i) ext M) (fun i x => ∃ v t : Int, x = .int v ∧ tops[i]? = some t ∧ 0 ≤ v ∧ v ≤ t) (tops.map D.int) 0 (M := M) (fun i d M1 hd hJ => by
    rw [List.getElem?_map, Option.map_eq_some_iff] at hd
    obtain ⟨t, ht1, rfl⟩ := hd
    have hi := (List.getElem?_eq_some_iff.mp ht1).1
    have hs := ht t (List.mem_of_getElem? ht1)
    rw [Nat.zero_add] at hJ
    obtain ⟨x, M2, g1, g2, g3, g4⟩ := take_adv (many := t + 1) hJ hk (by omega) (by omega) (Int.lt_of_le_of_lt (show t + 1 ≤ 2 ^ 200 by omega) (by decide))
    refine ⟨[some (.loc k), some (.d (tupI tops)), some (.d (.int t))], .int x, M2, rfl, rfl, ?_, lkOk_nil, ?_, x, t, rfl, by rw [Nat.zero_add]; exact ht1, g3, by omega⟩
    · simp only [sSeq, sSet, sRet, sIf, sFor, sNil, sPar, sApp, fB, fOrT, fAndT, fNotT, fAnd, fOr, fNot, fIf, fOp, f2, fC, fVar, fCB, fCN, fCons, fNil, fFro, fNew, fLst, fTup, frs9, fCall0, fCallN, fOpN, fUn, fSl, fSlN, oNone, oSome, intW, fSeqI, List.getElem?_cons_zero, List.getElem?_cons_succ, R.bind_ok, R.noEx_ok, rds, rd_d, fr_d, itW_t, itW_l, Option.bind_some, Option.map_some, R.of_some, List.set_cons_zero, List.set_cons_succ, List.length_cons, List.length_nil, Nat.zero_add, Nat.reduceAdd, Nat.reduceLeDiff, if_true, R.thenS, tru_bl, gSub_int, gAdd_int, gEq_int, gNe_int, gEq_bl, gNe_bl, gEq_str, gNe_str, gLt_int, gLe_int, gGt_int, gGe_int, List.nil_append, List.append_nil, decide_true, decide_false, Bool.not_true, Bool.not_false, g1]
    · rw [Nat.zero_add]; exact g2) h
  obtain ⟨s, rfl, hs⟩ := ints_of (P := fun _ => True) r fun i x hx => by obtain ⟨v, t, e, _⟩ := e4 i x hx; exact ⟨v, e, trivial⟩
  rw [List.length_map, List.length_map] at e2
  rw [List.length_map, Nat.zero_add] at e3
  refine ⟨s, M', ?_, e3, e2, fun i a t ha htt => by
    obtain ⟨v, t', e5, e6, e7, e8⟩ := e4 i (.int a) (by rw [List.getElem?_map, ha]; rfl)
    rw [Nat.zero_add, htt] at e6
    cases e5
    cases e6
    exact ⟨e7, e8⟩⟩
  generalize fCall0 2 f_take0 (fCons (fVar 0) (fCons (fOp gAdd (fVar 2) (fC (.int 1))) fNil)) = fe at e1 ⊢
  show fin M.length (sRet _ [some (.loc k), some (.d (tupI tops)), none] M) = _
  simp only [sSeq, sSet, sRet, sIf, sFor, sNil, sPar, sApp, fB, fOrT, fAndT, fNotT, fAnd, fOr, fNot, fIf, fOp, f2, fC, fVar, fCB, fCN, fCons, fNil, fFro, fNew, fLst, fTup, frs9, fCall0, fCallN, fOpN, fUn, fSl, fSlN, oNone, oSome, intW, fSeqI, List.getElem?_cons_zero, List.getElem?_cons_succ, R.bind_ok, R.noEx_ok, rds, rd_d, fr_d, itW_t, itW_l, Option.bind_some, Option.map_some, R.of_some, List.set_cons_zero, List.set_cons_succ, List.length_cons, List.length_nil, Nat.zero_add, Nat.reduceAdd, Nat.reduceLeDiff, if_true, R.thenS, tru_bl, gSub_int, gAdd_int, gEq_int, gNe_int, gEq_bl, gNe_bl, gEq_str, gNe_str, gLt_int, gLe_int, gGt_int, gGe_int, List.nil_append, List.append_nil, decide_true, decide_false, Bool.not_true, Bool.not_false, fLc, hit, wipeD, e1, gTuple, itsD]
  refine fin_d ?_
  rw [e3.len, h.len]
  exact Nat.le_refl _
end
def TopOk (x : Int) : Prop := 0 ≤ x ∧ x ≤ 999999999999999999999999999999
theorem tops_adv {M0 M : Sto} {k c : Nat} (h : Adv M0 k c [] M) (hf : Flat M0) (hk : k < M0.length) (hc : c ≤ 100000) :
    ∃ (tops : List Int) (M' : Sto), f_tops0 [.loc k] M = .ok (.d (tupI tops)) M' ∧ Adv M0 k (c + 40) [] M' ∧ (∀ t ∈ tops, TopOk t) ∧ tops.length ≤ 12 ∧ 2 ≤ tops.length := by
  unfold f_tops0 body g_tops0
  have hn : M.length = M0.length := by rw [h.len]; rfl
  have h0 : Adv M0 k c [.lst []] (M ++ [.lst []]) := by have := h.more (x := [.lst []]); rwa [List.nil_append] at this
  obtain ⟨x, M1, e1, a1, x0, x1⟩ := take_adv (many := 11) h0 hk (by omega) (by decide) (by decide)
  obtain ⟨m, rfl⟩ : ∃ m : Nat, x = (m : Int) := ⟨x.toNat, by omega⟩
  have hm : m < 11 := by omega
  obtain ⟨fb, hfb⟩ : ∃ fb : FS, fb = (sSeq (sSet 3 (fOp gAdd (fOp gMul (fCall0 2 f_take0 (fCons (fVar 0) (fCons (fOp gPow (fC (.int 10)) (fC (.int 15))) fNil))) (fOp gPow (fC (.int 10)) (fC (.int 15)))) (fCall0 2 f_take0 (fCons (fVar 0) (fCons (fOp gPow (fC (.int 10)) (fC (.int 15))) fNil)))))
      (sApp (fVar 1) (fCall0 2 f_of0 (fCons (fVar 0) (fCons (fFro (fLst (fCons (fC (.int 0)) (fCons (fC (.int 1)) (fCons (fC (.int 2)) (fCons (fC (.int 9)) (fCons (fVar 3) (fCons (fOp gSub (fOp gPow (fC (.int 10)) (fC (.int 30))) (fC (.int 1))) fNil)))))))) fNil))))) := ⟨_, rfl⟩
  have p15 : gPow (.int 10) (.int 15) = some (.int 1000000000000000) := rfl
  have p30 : gPow (.int 10) (.int 30) = some (.int 1000000000000000000000000000000) := rfl
  obtain ⟨δ', M', e2, found, a2, l2, s2, u, v, hδ⟩ := for_inv (lk := []) (M0 := M1) (g := gNm 2) (fb := fb) (fun i δ M => ∃ found : List Int, Adv M0 k (c + 1 + 3 * i) [.lst (found.map D.int)] M ∧ found.length = i ∧ (∀ t ∈ found, TopOk t) ∧ ∃ u v, δ = [some (.loc k), some (.loc M0.length), u, v]) (rgD 0 (2 + m)) 0 (δ := [some (.loc k), some (.loc M0.length), none, none]) (M := M1) (fun i d δ M hd ⟨found, ha, hl, hs, u, v, hδ⟩ => by
    subst hδ
    obtain ⟨rfl, hi⟩ := rgD_get hd
    rw [Nat.zero_add] at ha hl
    obtain ⟨x1, M2, g1, b1, c1, d1⟩ := take_adv (many := 1000000000000000) ha hk (by omega) (by decide) (by decide)
    obtain ⟨x2, M3, g2, b2, c2, d2⟩ := take_adv (many := 1000000000000000) b1 hk (by omega) (by decide) (by decide)
    obtain ⟨y, M4, g3, b3, hy⟩ := of_adv (l := [.int 0, .int 1, .int 2, .int 9, .int (x1 * 1000000000000000 + x2), .int (1000000000000000000000000000000 - 1)]) b2 hk (by omega) (by simp) (by simp)
    obtain ⟨t, rfl, ht⟩ : ∃ t : Int, y = .int t ∧ TopOk t := by
      simp only [List.mem_cons, List.not_mem_nil, or_false] at hy
      unfold TopOk
      rcases hy with rfl | rfl | rfl | rfl | rfl | rfl
      · exact ⟨_, rfl, by decide, by decide⟩
      · exact ⟨_, rfl, by decide, by decide⟩
      · exact ⟨_, rfl, by decide, by decide⟩
      · exact ⟨_, rfl, by decide, by decide⟩
      · exact ⟨_, rfl, by omega, by omega⟩
      · exact ⟨_, rfl, by decide, by decide⟩
    have hmul : gMul (.int x1) (.int 1000000000000000) = some (.int (x1 * 1000000000000000)) := mulOk (a := 60) (b := 60) (by decide) (by decide) (by decide) (by omega) (by omega) (by decide) (by decide)
    have hset : sSet 3 (fOp gAdd (fOp gMul (fCall0 2 f_take0 (fCons (fVar 0) (fCons (fOp gPow (fC (.int 10)) (fC (.int 15))) fNil))) (fOp gPow (fC (.int 10)) (fC (.int 15)))) (fCall0 2 f_take0 (fCons (fVar 0) (fCons (fOp gPow (fC (.int 10)) (fC (.int 15))) fNil))))
        [some (.loc k), some (.loc M0.length), some (.d (.int (0 + (i : Int)))), v] M = .ok (.nx [some (.loc k), some (.loc M0.length), some (.d (.int (0 + (i : Int)))), some (.d (.int (x1 * 1000000000000000 + x2)))]) M3 := by
          simp only [sSeq, sSet, sRet, sIf, sFor, sNil, sPar, sApp, fB, fOrT, fAndT, fNotT, fAnd, fOr, fNot, fIf, fOp, f2, fC, fVar, fCB, fCN, fCons, fNil, fFro, fNew, fLst, fTup, frs9, fCall0, fCallN, fOpN, fUn, fSl, fSlN, oNone, oSome, intW, fSeqI, List.getElem?_cons_zero, List.getElem?_cons_succ, R.bind_ok, R.noEx_ok, rds, rd_d, fr_d, itW_t, itW_l, Option.bind_some, Option.map_some, R.of_some, List.set_cons_zero, List.set_cons_succ, List.length_cons, List.length_nil, Nat.zero_add, Nat.reduceAdd, Nat.reduceLeDiff, if_true, R.thenS, tru_bl, gSub_int, gAdd_int, gEq_int, gNe_int, gEq_bl, gNe_bl, gEq_str, gNe_str, gLt_int, gLe_int, gGt_int, gGe_int, List.nil_append, List.append_nil, decide_true, decide_false, Bool.not_true, Bool.not_false, p15, g1, g2, hmul]
    have happ := v_app (fo := fVar 1) (fe := fCall0 2 f_of0 (fCons (fVar 0) (fCons (fFro (fLst (fCons (fC (.int 0)) (fCons (fC (.int 1)) (fCons (fC (.int 2)) (fCons (fC (.int 9)) (fCons (fVar 3) (fCons (fOp gSub (fOp gPow (fC (.int 10)) (fC (.int 30))) (fC (.int 1))) fNil)))))))) fNil)))
      (δ := [some (.loc k), some (.loc M0.length), some (.d (.int (0 + (i : Int)))), some (.d (.int (x1 * 1000000000000000 + x2)))]) (M := M3) (n := M0.length) rfl b2.ext1 (x := .int t) (by
        simp only [sSeq, sSet, sRet, sIf, sFor, sNil, sPar, sApp, fB, fOrT, fAndT, fNotT, fAnd, fOr, fNot, fIf, fOp, f2, fC, fVar, fCB, fCN, fCons, fNil, fFro, fNew, fLst, fTup, frs9, fCall0, fCallN, fOpN, fUn, fSl, fSlN, oNone, oSome, intW, fSeqI, List.getElem?_cons_zero, List.getElem?_cons_succ, R.bind_ok, R.noEx_ok, rds, rd_d, fr_d, itW_t, itW_l, Option.bind_some, Option.map_some, R.of_some, List.set_cons_zero, List.set_cons_succ, List.length_cons, List.length_nil, Nat.zero_add, Nat.reduceAdd, Nat.reduceLeDiff, if_true, R.thenS, tru_bl, gSub_int, gAdd_int, gEq_int, gNe_int, gEq_bl, gNe_bl, gEq_str, gNe_str, gLt_int, gLe_int, gGt_int, gGe_int, List.nil_append, List.append_nil, decide_true, decide_false, Bool.not_true, Bool.not_false, p30, g3]) b3.ext1 (by rw [List.length_map, hl]; omega)
    refine ⟨[some (.loc k), some (.loc M0.length), some (.d (.int (0 + (i : Int)))), v], [some (.loc k), some (.loc M0.length), some (.d (.int (0 + (i : Int)))), some (.d (.int (x1 * 1000000000000000 + x2)))], M4.set M0.length (.lst (found.map D.int ++ [.int t])), rfl, .inl ?_, lkOk_nil, found ++ [t], ?_, by rw [List.length_append, hl, List.length_singleton, Nat.zero_add], ?_, _, _, rfl⟩
    · rw [hfb]
      show (sSet 3 _ [some (.loc k), some (.loc M0.length), some (.d (.int (0 + (i : Int)))), v] M).thenS _ = _
      rw [hset]
      exact happ
    · have := b3.put1 (e := .lst ((found ++ [t]).map D.int))
      rw [List.map_append] at this ⊢
      exact this.mono (by omega)
    · intro z hz
      rcases List.mem_append.mp hz with h | h
      · exact hs z h
      · rw [List.mem_singleton.mp h]; exact ht) ⟨[], by simpa using a1.mono (by omega), rfl, fun z hz => by simp at hz, _, _, rfl⟩
  rw [rgD_len, Nat.zero_add] at a2 l2
  obtain ⟨M5, e5, a5⟩ := a2.fin (x := .tup (found.map D.int)) hf hn.symm
  refine ⟨found, M5, ?_, a5.mono (by omega), s2, by omega, by omega⟩
  subst hδ
  have hr : rngR (0, ((2 + m : Nat) : Int)) M1 = .ok (rgD 0 (2 + m), []) M1 := rng_ok (by omega) M1
  rw [← hfb]
  show fin M.length (sSeq _ _ [some (.loc k), none, none, none] M) = _
  have hrd : rd M' (.loc M0.length) = some (.lst (found.map D.int)) := rd_lst a2.ext1
  have hc1 : (2 : Int) + (m : Int) = ((2 + m : Nat) : Int) := by omega
  simp only [sSeq, sSet, sRet, sIf, sFor, sNil, sPar, sApp, fB, fOrT, fAndT, fNotT, fAnd, fOr, fNot, fIf, fOp, f2, fC, fVar, fCB, fCN, fCons, fNil, fFro, fNew, fLst, fTup, frs9, fCall0, fCallN, fOpN, fUn, fSl, fSlN, oNone, oSome, intW, fSeqI, List.getElem?_cons_zero, List.getElem?_cons_succ, R.bind_ok, R.noEx_ok, rds, rd_d, fr_d, itW_t, itW_l, Option.bind_some, Option.map_some, R.of_some, List.set_cons_zero, List.set_cons_succ, List.length_cons, List.length_nil, Nat.zero_add, Nat.reduceAdd, Nat.reduceLeDiff, if_true, R.thenS, tru_bl, gSub_int, gAdd_int, gEq_int, gNe_int, gEq_bl, gNe_bl, gEq_str, gNe_str, gLt_int, gLe_int, gGt_int, gGe_int, List.nil_append, List.append_nil, decide_true, decide_false, Bool.not_true, Bool.not_false, fRng1, hn, e1, rngW1, hc1, hr, e2, hrd, gTuple, itsD]
  rw [← hn]
  exact e5
theorem pot_spec {ns : List Int} {k : Nat} {M : Sto} (hf : Flat M) (hk : k < 3) (hns : ns.length ≤ 63) : ∃ l, fn_pot0 [.d (.frl (ns.map D.int)), .d (.int (k : Int))] M = .ok l M ∧ Pot 0 l := by
  unfold fn_pot0 bodyN g_pot0
  have hlen : gLen [.frl (ns.map D.int)] = some (.int (ns.length : Int)) := by rw [gLen_frl, List.length_map]
  have q1 : gMul (.int 7) (.int (k : Int)) = some (.int (7 * k)) := mulOk (a := 10) (b := 10) (by decide) (by decide) (by decide) (by decide) (by decide) (by omega) (by omega)
  have p60 : gPow (.int 10) (.int 60) = some (.int (10 ^ 60)) := rfl
  have p300 : gPow (.int (10 ^ 60)) (.int 5) = some (.int ((10 ^ 60) ^ 5)) := rfl
  have p18 : gPow (.int 10) (.int 18) = some (.int (10 ^ 18)) := rfl
  -- the cell
  obtain ⟨x, hx⟩ : ∃ x : Int, fIf (fB (fOp gLt (fVar 1) (fCB gLen (fCons (fVar 0) fNil)))) (fOp gIx (fVar 0) (fVar 1)) (fOp gAdd (fOp gMul (fC (.int 7)) (fVar 1)) (fC (.int 3))) [some (.d (.frl (ns.map D.int))), some (.d (.int (k : Int))), none, none] M = .ok (.d (.int x)) M := by
    by_cases h : (k : Int) < ns.length
    · have hk2 : k < ns.length := by omega
      have hix : gIx (.frl (ns.map D.int)) (.int (k : Int)) = some (.int ns[k]) := by
        show atI (ns.map D.int) (k : Int) = _
        rw [atI_nat (v := .int ns[k]) (by rw [List.getElem?_map, List.getElem?_eq_getElem hk2]; rfl)]
      refine ⟨ns[k], ?_⟩
      simp only [sSeq, sSet, sRet, sIf, sFor, sNil, sPar, sApp, fB, fOrT, fAndT, fNotT, fAnd, fOr, fNot, fIf, fOp, f2, fC, fVar, fCB, fCN, fCons, fNil, fFro, fNew, fLst, fTup, frs9, fCall0, fCallN, fOpN, fUn, fSl, fSlN, oNone, oSome, intW, fSeqI, List.getElem?_cons_zero, List.getElem?_cons_succ, R.bind_ok, R.noEx_ok, rds, rd_d, fr_d, itW_t, itW_l, Option.bind_some, Option.map_some, R.of_some, List.set_cons_zero, List.set_cons_succ, List.length_cons, List.length_nil, Nat.zero_add, Nat.reduceAdd, Nat.reduceLeDiff, if_true, R.thenS, tru_bl, gSub_int, gAdd_int, gEq_int, gNe_int, gEq_bl, gNe_bl, gEq_str, gNe_str, gLt_int, gLe_int, gGt_int, gGe_int, List.nil_append, List.append_nil, decide_true, decide_false, Bool.not_true, Bool.not_false, hlen, h, hix]
    · refine ⟨7 * k + 3, ?_⟩
      simp only [sSeq, sSet, sRet, sIf, sFor, sNil, sPar, sApp, fB, fOrT, fAndT, fNotT, fAnd, fOr, fNot, fIf, fOp, f2, fC, fVar, fCB, fCN, fCons, fNil, fFro, fNew, fLst, fTup, frs9, fCall0, fCallN, fOpN, fUn, fSl, fSlN, oNone, oSome, intW, fSeqI, List.getElem?_cons_zero, List.getElem?_cons_succ, R.bind_ok, R.noEx_ok, rds, rd_d, fr_d, itW_t, itW_l, Option.bind_some, Option.map_some, R.of_some, List.set_cons_zero, List.set_cons_succ, List.length_cons, List.length_nil, Nat.zero_add, Nat.reduceAdd, Nat.reduceLeDiff, if_true, R.thenS, tru_bl, gSub_int, gAdd_int, gEq_int, gNe_int, gEq_bl, gNe_bl, gEq_str, gNe_str, gLt_int, gLe_int, gGt_int, gGe_int, List.nil_append, List.append_nil, decide_true, decide_false, Bool.not_true, Bool.not_false, hlen, h, q1]
  have habs : gAbs [.int x] = some (.int (if x < 0 then -x else x)) := rfl
  generalize hy : (if x < 0 then -x else x) = y at habs
  have hy0 : 0 ≤ y := by rw [← hy]; split <;> omega
  have m1 : gMod (.int y) (.int ((10 ^ 60) ^ 5)) = some (.int (y % (10 ^ 60) ^ 5)) := gMod_int (by decide)
  generalize hz : y % (10 ^ 60) ^ 5 = z at m1
  have hz0 : 0 ≤ z := by rw [← hz]; exact Int.emod_nonneg _ (by decide)
  have hz1 : z < (10 ^ 60) ^ 5 := by rw [← hz]; exact Int.emod_lt_of_pos _ (by decide)
  have hz2 : z < 2 ^ 1000 := Int.lt_trans hz1 (by decide)
  have hint : gInt [.bl (decide ((10 : Int) ^ 18 ≤ y))] = some (.int (b2n (decide ((10 : Int) ^ 18 ≤ y)))) := rfl
  have hb : 0 ≤ b2n (decide ((10 : Int) ^ 18 ≤ y)) ∧ b2n (decide ((10 : Int) ^ 18 ≤ y)) < 2 := by
    unfold b2n
    split <;> decide
  generalize b2n (decide ((10 : Int) ^ 18 ≤ y)) = b at hint hb
  have q2 : gMul (.int z) (.int b) = some (.int (z * b)) := mulOk (a := 1000) (b := 2) (by decide) (by decide) (by decide) (Int.lt_of_lt_of_le (show -(2 : Int) ^ 1000 < 0 by decide) hz0) hz2 (by omega) (by omega)
  have m2 : gMod (.int x) (.int 2305843009213693951) = some (.int (x % 2305843009213693951)) := gMod_int (by decide)
  have hu0 : 0 ≤ x % 2305843009213693951 := Int.emod_nonneg _ (by decide)
  have hu1 : x % 2305843009213693951 < 2305843009213693951 := Int.emod_lt_of_pos _ (by decide)
  generalize x % 2305843009213693951 = u at m2 hu0 hu1
  have q3 : gMul (.int 7919) (.int (k : Int)) = some (.int (7919 * k)) := mulOk (a := 20) (b := 10) (by decide) (by decide) (by decide) (by decide) (by decide) (by omega) (by omega)
  have q4 : gMul (.int (7919 * k)) (.int (k : Int)) = some (.int (7919 * k * k)) := mulOk (a := 20) (b := 10) (by decide) (by decide) (by decide) (by omega) (by omega) (by omega) (by omega)
  have hkk : 0 ≤ (k : Int) * k ∧ (k : Int) * k ≤ 4 := by
    have : k = 0 ∨ k = 1 ∨ k = 2 := by omega
    rcases this with rfl | rfl | rfl <;> decide
  have hk4 : (7919 : Int) * k * k = 7919 * (k * k) := Int.mul_assoc ..
  have q5 : gMul (.int (u + 7919 * k * k + 17)) (.int 48271) = some (.int ((u + 7919 * k * k + 17) * 48271)) := by
    rw [hk4]
    exact mulOk (a := 70) (b := 20) (by decide) (by decide) (by decide) (by omega) (by omega) (by decide) (by decide)
  have m3 : gMod (.int ((u + 7919 * k * k + 17) * 48271)) (.int 2305843009213693921) = some (.int ((u + 7919 * k * k + 17) * 48271 % 2305843009213693921)) := gMod_int (by decide)
  refine ⟨[.int (z * b), .int ((u + 7919 * k * k + 17) * 48271 % 2305843009213693921), .int 0], ?_, _, _, _, rfl, Int.mul_nonneg hz0 hb.1, Int.emod_nonneg _ (by decide), Int.lt_trans (Int.emod_lt_of_pos _ (by decide)) (by decide), by decide, by decide⟩
  generalize fIf (fB (fOp gLt (fVar 1) (fCB gLen (fCons (fVar 0) fNil)))) (fOp gIx (fVar 0) (fVar 1)) (fOp gAdd (fOp gMul (fC (.int 7)) (fVar 1)) (fC (.int 3))) = fi at hx ⊢
  show finN M.length (sSeq _ _ [some (.d (.frl (ns.map D.int))), some (.d (.int (k : Int))), none, none] M) = _
  simp only [sSeq, sSet, sRet, sIf, sFor, sNil, sPar, sApp, fB, fOrT, fAndT, fNotT, fAnd, fOr, fNot, fIf, fOp, f2, fC, fVar, fCB, fCN, fCons, fNil, fFro, fNew, fLst, fTup, frs9, fCall0, fCallN, fOpN, fUn, fSl, fSlN, oNone, oSome, intW, fSeqI, List.getElem?_cons_zero, List.getElem?_cons_succ, R.bind_ok, R.noEx_ok, rds, rd_d, fr_d, itW_t, itW_l, Option.bind_some, Option.map_some, R.of_some, List.set_cons_zero, List.set_cons_succ, List.length_cons, List.length_nil, Nat.zero_add, Nat.reduceAdd, Nat.reduceLeDiff, if_true, R.thenS, tru_bl, gSub_int, gAdd_int, gEq_int, gNe_int, gEq_bl, gNe_bl, gEq_str, gNe_str, gLt_int, gLe_int, gGt_int, gGe_int, List.nil_append, List.append_nil, decide_true, decide_false, Bool.not_true, Bool.not_false, hx, habs, p60, p300, p18, m1, hint, q2, m2, q3, q4, q5, m3]
  exact finN_loc hf rfl
end S9

namespace S9
open PySem PySem.Spec PyProof.Rows L2
/-! ### plans: what the package's own looks tell -/
noncomputable def g_is_whole0 : FS :=
  (sRet (fAnd (fCB gIsi (fCons (fVar 0) (fCons (fC (.ty "int")) fNil))) (fNot (fCB gIsi (fCons (fVar 0) (fCons (fC (.ty "bool")) fNil))))))
noncomputable def f_is_whole0 : FF := body 1 g_is_whole0
noncomputable def g_is_within0 : FS :=
  (sRet (fAnd (fCall0 1 f_is_whole0 (fCons (fVar 0) fNil)) (fChain gLe gLe (fVar 1) (fVar 0) (fVar 2))))
noncomputable def f_is_within0 : FF := body 3 g_is_within0
noncomputable def g_is_side_of0 : FS :=
  (sSeq (sIf (fOrT (fNotT (fB (fCB gIsi (fCons (fVar 1) (fCons (fC (.ty "tuple")) fNil))))) (fB (fOp gNe (fCB gLen (fCons (fVar 1) fNil)) (fC (.int 3)))))
      (sRet (fC (.bl false)))
      sNil)
    (sSeq (sAsg (gTp 3 (gCn (gNm 2) (gCn (gNm 3) (gCn (gNm 4) gNl)))) (fVar 1))
    (sSeq (sIf (fOrT (fNotT (fB (fCall0 3 f_is_within0 (fCons (fVar 2) (fCons (fC (.int 0)) (fCons (fOp gSub (fCB gLen (fCons (fVar 0) fNil)) (fC (.int 1))) fNil)))))) (fOrT (fNotT (fB (fCB gIsi (fCons (fVar 3) (fCons (fC (.ty "str")) fNil))))) (fB (fOp (gInB true) (fVar 3) (fC (.tup [D.str "from", D.str "to"]))))))
      (sRet (fC (.bl false)))
      sNil)
    (sRet (fCall0 3 f_is_within0 (fCons (fVar 4) (fCons (fC (.int 0)) (fCons (fOp gIx (fVar 0) (fVar 2)) fNil))))))))
noncomputable def f_is_side_of0 : FF := body 5 g_is_side_of0
noncomputable def g_is_rule_of0 : FS :=
  (sRet (fAnd (fCB gIsi (fCons (fVar 1) (fCons (fC (.ty "tuple")) fNil))) (fAnd (fOp gEq (fCB gLen (fCons (fVar 1) fNil)) (fC (.int 2))) (fCB gAll (fCons (fFro (fLc (fSeqI (fVar 1)) (gNm 2) tYesF (fCall0 2 f_is_side_of0 (fCons (fVar 0) (fCons (fVar 2) fNil))) [2])) fNil)))))
noncomputable def f_is_rule_of0 : FF := body 3 g_is_rule_of0
noncomputable def g_are_tops0 : FS :=
  (sSeq (sIf (fOrT (fNotT (fB (fCB gIsi (fCons (fVar 0) (fCons (fC (.ty "tuple")) fNil))))) (fNotT (fB (fChain gLe gLe (fC (.int 1)) (fCB gLen (fCons (fVar 0) fNil)) (fC (.int 12))))))
      (sRet (fC (.bl false)))
      sNil)
    (sRet (fCB gAll (fCons (fFro (fLc (fSeqI (fVar 0)) (gNm 1) tYesF (fCall0 3 f_is_within0 (fCons (fVar 1) (fCons (fC (.int 0)) (fCons (fOp gSub (fC (.int 1000000000000000000000000000000)) (fC (.int 1))) fNil)))) [1])) fNil))))
noncomputable def f_are_tops0 : FF := body 2 g_are_tops0
noncomputable def g_are_rules0 : FS :=
  (sRet (fAnd (fCB gIsi (fCons (fVar 1) (fCons (fC (.ty "tuple")) fNil))) (fAnd (fOp gLe (fCB gLen (fCons (fVar 1) fNil)) (fC (.int 40))) (fCB gAll (fCons (fFro (fLc (fSeqI (fVar 1)) (gNm 2) tYesF (fCall0 2 f_is_rule_of0 (fCons (fVar 0) (fCons (fVar 2) fNil))) [2])) fNil)))))
noncomputable def f_are_rules0 : FF := body 3 g_are_rules0
noncomputable def g_Plan____init__0 (κ : Nat → Addr) : FS :=
  (sSeq (sIf (fNotT (fB (fCall0 1 f_are_tops0 (fCons (fVar 1) fNil))))
      sBad
      sNil)
    (sSeq (sIf (fNotT (fB (fCall0 2 f_are_rules0 (fCons (fVar 1) (fCons (fVar 2) fNil)))))
      sBad
      sNil)
    (sAsgH (hTp 2 (hCn (hFld (κ 0) "tops" (fVar 0)) (hCn (hFld (κ 0) "rules" (fVar 0)) hNl))) (fTup (fCons (fVar 1) (fCons (fVar 2) fNil))))))
noncomputable def f_Plan____init__0 (κ : Nat → Addr) : FF := body 3 (g_Plan____init__0 κ)
noncomputable def g_is_in0 : FS :=
  (sSeq (sAsg (gTp 3 (gCn (gNm 2) (gCn (gNm 3) (gCn (gNm 4) gNl)))) (fVar 0))
    (sRet (fIf (fB (fOp gEq (fVar 3) (fC (.str "from")))) (fOp gGe (fOp gIx (fVar 1) (fVar 2)) (fVar 4)) (fOp gLe (fOp gIx (fVar 1) (fVar 2)) (fVar 4)))))
noncomputable def f_is_in0 : FF := body 5 g_is_in0
noncomputable def g_broken0 (κ : Nat → Addr) : FS :=
  (sRet (fCB gTuple (fCons (fFro (fLc (fEnumA (fFld (κ 0) "rules" (fVar 0))) (gTp 2 (gCn (gNm 2) (gCn (gNm 3) gNl))) (fNotT (fB (fCB gAny (fCons (fFro (fLc (fSeqI (fVar 3)) (gNm 4) tYesF (fCall0 2 f_is_in0 (fCons (fVar 4) (fCons (fVar 1) fNil))) [4])) fNil)))) (fVar 2) [2, 3])) fNil)))
noncomputable def f_broken0 (κ : Nat → Addr) : FF := body 5 (g_broken0 κ)
noncomputable def g_is_good0 (κ : Nat → Addr) : FS :=
  (sRet (fCB gAll (fCons (fFro (fLc (fSeqI (fFld (κ 0) "rules" (fVar 0))) (gTp 2 (gCn (gNm 2) (gCn (gNm 3) gNl))) tYesF (fOr (fCall0 2 f_is_in0 (fCons (fVar 2) (fCons (fVar 1) fNil))) (fCall0 2 f_is_in0 (fCons (fVar 3) (fCons (fVar 1) fNil)))) [2, 3])) fNil)))
noncomputable def f_is_good0 (κ : Nat → Addr) : FF := body 4 (g_is_good0 κ)

abbrev Side := Nat × Bool × Int
abbrev Rule := Side × Side
def wordOf (b : Bool) : Str := if b then "from" else "to"
def sideD (s : Side) : D := .tup [.int s.1, .str (wordOf s.2.1), .int s.2.2]
def ruleD (r : Rule) : D := .tup [sideD r.1, sideD r.2]
def rulesD (R : List Rule) : D := .tup (R.map ruleD)
def planD (κ : Nat → Addr) (tops : List Int) (R : List Rule) : D := .ins (κ 0) ["tops", "rules"] [tupI tops, rulesD R]
def isIn (s : Side) (st : List Int) : Bool := if s.2.1 then decide (s.2.2 ≤ st.getD s.1 0) else decide (st.getD s.1 0 ≤ s.2.2)
def SideOk (tops : List Int) (s : Side) : Prop := ∃ t, tops[s.1]? = some t ∧ 0 ≤ s.2.2 ∧ s.2.2 ≤ t
def RuleOk (tops : List Int) (r : Rule) : Prop := SideOk tops r.1 ∧ SideOk tops r.2
theorem word_from (b : Bool) : decide (wordOf b = "from") = b := by cases b <;> decide
theorem ix_nat {l : List D} {j : Nat} {d : D} (h : l[j]? = some d) : gIx (.tup l) (.int (j : Int)) = some d := atI_nat h
theorem ix_int {s : List Int} {j : Nat} (h : j < s.length) : gIx (tupI s) (.int (j : Int)) = some (.int (s.getD j 0)) := by
  rw [ix_nat (d := .int s[j]) (by rw [List.getElem?_map, List.getElem?_eq_getElem h]; rfl)]
  simp [h]
theorem is_in_spec (s : Side) (st : List Int) (h : s.1 < st.length) (M : Sto) : f_is_in0 [.d (sideD s), .d (tupI st)] M = .ok (.d (.bl (isIn s st))) M := by
  obtain ⟨th, b, pl⟩ := s
  have hix := ix_int (j := th) h
  unfold f_is_in0 body g_is_in0
  show fin M.length (sSeq _ _ [some (.d (sideD (th, b, pl))), some (.d (tupI st)), none, none, none] M) = _
  have hw := word_from b
  have e : gTp 3 (gCn (gNm 2) (gCn (gNm 3) (gCn (gNm 4) gNl))) (sideD (th, b, pl)) [some (.d (sideD (th, b, pl))), some (.d (tupI st)), none, none, none] = some [some (.d (sideD (th, b, pl))), some (.d (tupI st)), some (.d (.int th)), some (.d (.str (wordOf b))), some (.d (.int pl))] := rfl
  unfold isIn
  cases b with
  | true =>
    simp only [sAsg, sSeq, sSet, sRet, sIf, sFor, sNil, sPar, sApp, fB, fOrT, fAndT, fNotT, fAnd, fOr, fNot, fIf, fOp, f2, fC, fVar, fCB, fCN, fCons, fNil, fFro, fNew, fLst, fTup, frs9, fCall0, fCallN, fOpN, fUn, fSl, fSlN, oNone, oSome, intW, fSeqI, List.getElem?_cons_zero, List.getElem?_cons_succ, S9.R.bind_ok, S9.R.noEx_ok, rds, rd_d, fr_d, itW_t, itW_l, Option.bind_some, Option.map_some, S9.R.of_some, List.set_cons_zero, List.set_cons_succ, List.length_cons, List.length_nil, Nat.zero_add, Nat.reduceAdd, Nat.reduceLeDiff, if_true, S9.R.thenS, tru_bl, gSub_int, gAdd_int, gEq_int, gNe_int, gEq_bl, gNe_bl, gEq_str, gNe_str, gLt_int, gLe_int, gGt_int, gGe_int, List.nil_append, List.append_nil, decide_true, decide_false, Bool.not_true, Bool.not_false, e, hw, hix]
    exact fin_d (Nat.le_refl _)
  | false =>
    simp only [sAsg, sSeq, sSet, sRet, sIf, sFor, sNil, sPar, sApp, fB, fOrT, fAndT, fNotT, fAnd, fOr, fNot, fIf, fOp, f2, fC, fVar, fCB, fCN, fCons, fNil, fFro, fNew, fLst, fTup, frs9, fCall0, fCallN, fOpN, fUn, fSl, fSlN, oNone, oSome, intW, fSeqI, List.getElem?_cons_zero, List.getElem?_cons_succ, S9.R.bind_ok, S9.R.noEx_ok, rds, rd_d, fr_d, itW_t, itW_l, Option.bind_some, Option.map_some, S9.R.of_some, List.set_cons_zero, List.set_cons_succ, List.length_cons, List.length_nil, Nat.zero_add, Nat.reduceAdd, Nat.reduceLeDiff, if_true, S9.R.thenS, tru_bl, gSub_int, gAdd_int, gEq_int, gNe_int, gEq_bl, gNe_bl, gEq_str, gNe_str, gLt_int, gLe_int, gGt_int, gGe_int, List.nil_append, List.append_nil, decide_true, decide_false, Bool.not_true, Bool.not_false, e, hw, hix]
    exact fin_d (Nat.le_refl _)
def isBad (R : Rule) (st : List Int) : Bool := !(isIn R.1 st || isIn R.2 st)
def brokenL (R : List Rule) (st : List Int) : List Int := (R.zipIdx.filter fun p => isBad p.1 st).map fun p => (p.2 : Int)
def RulesIn (n : Nat) (R : List Rule) : Prop := ∀ r ∈ R, r.1.1 < n ∧ r.2.1 < n
theorem look_rules {κ : Nat → Addr} {tops : List Int} {R : List Rule} {M : Sto} : fldW M (κ 0) "rules" (.d (planD κ tops R)) = some (.d (rulesD R)) := by
  unfold fldW planD
  simp only [if_true]
  rfl
theorem look_tops {κ : Nat → Addr} {tops : List Int} {R : List Rule} {M : Sto} : fldW M (κ 0) "tops" (.d (planD κ tops R)) = some (.d (tupI tops)) := by
  unfold fldW planD
  simp only [if_true]
  rfl
theorem good_spec (κ : Nat → Addr) (tops : List Int) (R : List Rule) (st : List Int) (hR : RulesIn st.length R) (hl : R.length ≤ 1000) (M : Sto) :
    f_is_good0 κ [.d (planD κ tops R), .d (tupI st)] M = .ok (.d (.bl (R.all fun r => !isBad r st))) M := by
  unfold f_is_good0 body g_is_good0
  have hsz : (R.map ruleD).length ≤ 100000 := by rw [List.length_map]; omega
  obtain ⟨fe, hfe⟩ : ∃ fe : FE, fe = (fOr (fCall0 2 f_is_in0 (fCons (fVar 2) (fCons (fVar 1) fNil))) (fCall0 2 f_is_in0 (fCons (fVar 3) (fCons (fVar 1) fNil)))) := ⟨_, rfl⟩
  have hl := lc_of (lk := []) (g := gTp 2 (gCn (gNm 2) (gCn (gNm 3) gNl))) (ft := tYesF) (fe := fe) (δ := [some (.d (planD κ tops R)), some (.d (tupI st)), none, none]) (M := M) ruleD (fun r => D.bl (!isBad r st)) R (fun r hr => by
    obtain ⟨h1, h2⟩ := hR r hr
    refine ⟨[some (.d (planD κ tops R)), some (.d (tupI st)), some (.d (sideD r.1)), some (.d (sideD r.2))], rfl, rfl, ?_⟩
    have c1 := is_in_spec r.1 st h1 M
    have c2 := is_in_spec r.2 st h2 M
    unfold isBad
    rw [hfe]
    cases hb : isIn r.1 st with
    | true => rw [hb] at c1; simp only [sSeq, sSet, sRet, sIf, sFor, sNil, sPar, sApp, fB, fOrT, fAndT, fNotT, fAnd, fOr, fNot, fIf, fOp, f2, fC, fVar, fCB, fCN, fCons, fNil, fFro, fNew, fLst, fTup, frs9, fCall0, fCallN, fOpN, fUn, fSl, fSlN, oNone, oSome, intW, fSeqI, List.getElem?_cons_zero, List.getElem?_cons_succ, S9.R.bind_ok, S9.R.noEx_ok, rds, rd_d, fr_d, itW_t, itW_l, Option.bind_some, Option.map_some, S9.R.of_some, List.set_cons_zero, List.set_cons_succ, List.length_cons, List.length_nil, Nat.zero_add, Nat.reduceAdd, Nat.reduceLeDiff, if_true, S9.R.thenS, tru_bl, gSub_int, gAdd_int, gEq_int, gNe_int, gEq_bl, gNe_bl, gEq_str, gNe_str, gLt_int, gLe_int, gGt_int, gGe_int, List.nil_append, List.append_nil, decide_true, decide_false, Bool.not_true, Bool.not_false, c1, Bool.true_or]
    | false =>
      rw [hb] at c1
      cases hc : isIn r.2 st with
      | true => rw [hc] at c2; simp only [sSeq, sSet, sRet, sIf, sFor, sNil, sPar, sApp, fB, fOrT, fAndT, fNotT, fAnd, fOr, fNot, fIf, fOp, f2, fC, fVar, fCB, fCN, fCons, fNil, fFro, fNew, fLst, fTup, frs9, fCall0, fCallN, fOpN, fUn, fSl, fSlN, oNone, oSome, intW, fSeqI, List.getElem?_cons_zero, List.getElem?_cons_succ, S9.R.bind_ok, S9.R.noEx_ok, rds, rd_d, fr_d, itW_t, itW_l, Option.bind_some, Option.map_some, S9.R.of_some, List.set_cons_zero, List.set_cons_succ, List.length_cons, List.length_nil, Nat.zero_add, Nat.reduceAdd, Nat.reduceLeDiff, if_true, S9.R.thenS, tru_bl, gSub_int, gAdd_int, gEq_int, gNe_int, gEq_bl, gNe_bl, gEq_str, gNe_str, gLt_int, gLe_int, gGt_int, gGe_int, List.nil_append, List.append_nil, decide_true, decide_false, Bool.not_true, Bool.not_false, c1, c2, Bool.or_true]
      | false => rw [hc] at c2; simp only [sSeq, sSet, sRet, sIf, sFor, sNil, sPar, sApp, fB, fOrT, fAndT, fNotT, fAnd, fOr, fNot, fIf, fOp, f2, fC, fVar, fCB, fCN, fCons, fNil, fFro, fNew, fLst, fTup, frs9, fCall0, fCallN, fOpN, fUn, fSl, fSlN, oNone, oSome, intW, fSeqI, List.getElem?_cons_zero, List.getElem?_cons_succ, S9.R.bind_ok, S9.R.noEx_ok, rds, rd_d, fr_d, itW_t, itW_l, Option.bind_some, Option.map_some, S9.R.of_some, List.set_cons_zero, List.set_cons_succ, List.length_cons, List.length_nil, Nat.zero_add, Nat.reduceAdd, Nat.reduceLeDiff, if_true, S9.R.thenS, tru_bl, gSub_int, gAdd_int, gEq_int, gNe_int, gEq_bl, gNe_bl, gEq_str, gNe_str, gLt_int, gLe_int, gGt_int, gGe_int, List.nil_append, List.append_nil, decide_true, decide_false, Bool.not_true, Bool.not_false, c1, c2, Bool.or_false])
  rw [← hfe]
  show fin M.length (sRet _ [some (.d (planD κ tops R)), some (.d (tupI st)), none, none] M) = _
  have e : itemsW M (.d (rulesD R)) = some (R.map ruleD, []) := rfl
  simp only [sSeq, sSet, sRet, sIf, sFor, sNil, sPar, sApp, fB, fOrT, fAndT, fNotT, fAnd, fOr, fNot, fIf, fOp, f2, fC, fVar, fCB, fCN, fCons, fNil, fFro, fNew, fLst, fTup, frs9, fCall0, fCallN, fOpN, fUn, fSl, fSlN, oNone, oSome, intW, fSeqI, List.getElem?_cons_zero, List.getElem?_cons_succ, S9.R.bind_ok, S9.R.noEx_ok, rds, rd_d, fr_d, itW_t, itW_l, Option.bind_some, Option.map_some, S9.R.of_some, List.set_cons_zero, List.set_cons_succ, List.length_cons, List.length_nil, Nat.zero_add, Nat.reduceAdd, Nat.reduceLeDiff, if_true, S9.R.thenS, tru_bl, gSub_int, gAdd_int, gEq_int, gNe_int, gEq_bl, gNe_bl, gEq_str, gNe_str, gLt_int, gLe_int, gGt_int, gGe_int, List.nil_append, List.append_nil, decide_true, decide_false, Bool.not_true, Bool.not_false, fLc, fFld, look_rules, e, hsz, wipeD, hl, gAll, lstOf, blsD_map']
  rw [fin_d (Nat.le_refl _), List.all_map]
  rfl
theorem broken_spec (κ : Nat → Addr) (tops : List Int) (R : List Rule) (st : List Int) (hR : RulesIn st.length R) (hl : R.length ≤ 1000) (M : Sto) :
    f_broken0 κ [.d (planD κ tops R), .d (tupI st)] M = .ok (.d (tupI (brokenL R st))) M := by
  unfold f_broken0 body g_broken0
  have hsz : (enumD (R.map ruleD)).length ≤ 100000 := by unfold enumD; rw [List.length_map, List.length_zipIdx, List.length_map]; omega
  obtain ⟨ft, hft⟩ : ∃ ft : FT, ft = (fNotT (fB (fCB gAny (fCons (fFro (fLc (fSeqI (fVar 3)) (gNm 4) tYesF (fCall0 2 f_is_in0 (fCons (fVar 4) (fCons (fVar 1) fNil))) [4])) fNil)))) := ⟨_, rfl⟩
  have hl := lc_if (lk := []) (g := gTp 2 (gCn (gNm 2) (gCn (gNm 3) gNl))) (ft := ft) (fe := fVar 2) (δ := [some (.d (planD κ tops R)), some (.d (tupI st)), none, none, none]) (M := M) (fun p : Rule × Nat => D.tup [.int (p.2 : Nat), ruleD p.1]) (fun p => D.int (p.2 : Nat)) (fun p => isBad p.1 st) R.zipIdx (fun p hp => by
    obtain ⟨r, j⟩ := p
    obtain ⟨h1, h2⟩ := hR r (List.mem_of_getElem? (List.mem_zipIdx_iff_getElem?.mp hp))
    refine ⟨[some (.d (planD κ tops R)), some (.d (tupI st)), some (.d (.int (j : Nat))), some (.d (ruleD r)), none], rfl, ?_, fun _ => rfl⟩
    have c1 := is_in_spec r.1 st h1 M
    have c2 := is_in_spec r.2 st h2 M
    have hin := lc_of (lk := []) (g := gNm 4) (ft := tYesF) (fe := fCall0 2 f_is_in0 (fCons (fVar 4) (fCons (fVar 1) fNil))) (δ := [some (.d (planD κ tops R)), some (.d (tupI st)), some (.d (.int (j : Nat))), some (.d (ruleD r)), none]) (M := M) sideD (fun s => D.bl (isIn s st)) [r.1, r.2] (fun s hs => by
      refine ⟨[some (.d (planD κ tops R)), some (.d (tupI st)), some (.d (.int (j : Nat))), some (.d (ruleD r)), some (.d (sideD s))], rfl, rfl, ?_⟩
      have hlt : s.1 < st.length := by
        rcases List.mem_cons.mp hs with e | hs
        · rw [e]; exact h1
        · rw [List.mem_singleton.mp hs]; exact h2
      have c := is_in_spec s st hlt M
      simp only [sSeq, sSet, sRet, sIf, sFor, sNil, sPar, sApp, fB, fOrT, fAndT, fNotT, fAnd, fOr, fNot, fIf, fOp, f2, fC, fVar, fCB, fCN, fCons, fNil, fFro, fNew, fLst, fTup, frs9, fCall0, fCallN, fOpN, fUn, fSl, fSlN, oNone, oSome, intW, fSeqI, List.getElem?_cons_zero, List.getElem?_cons_succ, S9.R.bind_ok, S9.R.noEx_ok, rds, rd_d, fr_d, itW_t, itW_l, Option.bind_some, Option.map_some, S9.R.of_some, List.set_cons_zero, List.set_cons_succ, List.length_cons, List.length_nil, Nat.zero_add, Nat.reduceAdd, Nat.reduceLeDiff, if_true, S9.R.thenS, tru_bl, gSub_int, gAdd_int, gEq_int, gNe_int, gEq_bl, gNe_bl, gEq_str, gNe_str, gLt_int, gLe_int, gGt_int, gGe_int, List.nil_append, List.append_nil, decide_true, decide_false, Bool.not_true, Bool.not_false, c])
    have e : itemsW M (.d (ruleD r)) = some ([r.1, r.2].map sideD, []) := rfl
    have hs2 : ([r.1, r.2].map sideD).length ≤ 100000 := by simp
    rw [hft]
    generalize fCall0 2 f_is_in0 (fCons (fVar 4) (fCons (fVar 1) fNil)) = fe at hin ⊢
    simp only [sSeq, sSet, sRet, sIf, sFor, sNil, sPar, sApp, fB, fOrT, fAndT, fNotT, fAnd, fOr, fNot, fIf, fOp, f2, fC, fVar, fCB, fCN, fCons, fNil, fFro, fNew, fLst, fTup, frs9, fCall0, fCallN, fOpN, fUn, fSl, fSlN, oNone, oSome, intW, fSeqI, List.getElem?_cons_zero, List.getElem?_cons_succ, S9.R.bind_ok, S9.R.noEx_ok, rds, rd_d, fr_d, itW_t, itW_l, Option.bind_some, Option.map_some, S9.R.of_some, List.set_cons_zero, List.set_cons_succ, List.length_cons, List.length_nil, Nat.zero_add, Nat.reduceAdd, Nat.reduceLeDiff, if_true, S9.R.thenS, tru_bl, gSub_int, gAdd_int, gEq_int, gNe_int, gEq_bl, gNe_bl, gEq_str, gNe_str, gLt_int, gLe_int, gGt_int, gGe_int, List.nil_append, List.append_nil, decide_true, decide_false, Bool.not_true, Bool.not_false, fLc, e, hs2, wipeD, hin, gAny, lstOf, blsD_map']
    unfold isBad
    simp)
  rw [← enum_map] at hl
  rw [← hft]
  show fin M.length (sRet _ [some (.d (planD κ tops R)), some (.d (tupI st)), none, none, none] M) = _
  have e : itemsW M (.d (rulesD R)) = some (R.map ruleD, []) := rfl
  simp only [sSeq, sSet, sRet, sIf, sFor, sNil, sPar, sApp, fB, fOrT, fAndT, fNotT, fAnd, fOr, fNot, fIf, fOp, f2, fC, fVar, fCB, fCN, fCons, fNil, fFro, fNew, fLst, fTup, frs9, fCall0, fCallN, fOpN, fUn, fSl, fSlN, oNone, oSome, intW, fSeqI, List.getElem?_cons_zero, List.getElem?_cons_succ, S9.R.bind_ok, S9.R.noEx_ok, rds, rd_d, fr_d, itW_t, itW_l, Option.bind_some, Option.map_some, S9.R.of_some, List.set_cons_zero, List.set_cons_succ, List.length_cons, List.length_nil, Nat.zero_add, Nat.reduceAdd, Nat.reduceLeDiff, if_true, S9.R.thenS, tru_bl, gSub_int, gAdd_int, gEq_int, gNe_int, gEq_bl, gNe_bl, gEq_str, gNe_str, gLt_int, gLe_int, gGt_int, gGe_int, List.nil_append, List.append_nil, decide_true, decide_false, Bool.not_true, Bool.not_false, fLc, fFld, look_rules, fEnumA, e, hsz, wipeD, hl, gTuple, itsD]
  rw [fin_d (Nat.le_refl _)]
  unfold brokenL tupI
  rw [List.map_map]
  rfl
/-! the package's look at tops and rules -/
theorem whole_spec (i : Int) (M : Sto) : f_is_whole0 [.d (.int i)] M = .ok (.d (.bl true)) M := by
  unfold f_is_whole0 body g_is_whole0
  show fin M.length (sRet _ [some (.d (.int i))] M) = _
  have e1 : gIsi [.int i, .ty "int"] = some (.bl true) := isi_int _
  have e2 : gIsi [.int i, .ty "bool"] = some (.bl false) := isi_bool _
  simp only [sSeq, sSet, sRet, sIf, sFor, sNil, sPar, sApp, fB, fOrT, fAndT, fNotT, fAnd, fOr, fNot, fIf, fOp, f2, fC, fVar, fCB, fCN, fCons, fNil, fFro, fNew, fLst, fTup, frs9, fCall0, fCallN, fOpN, fUn, fSl, fSlN, oNone, oSome, intW, fSeqI, List.getElem?_cons_zero, List.getElem?_cons_succ, S9.R.bind_ok, S9.R.noEx_ok, rds, rd_d, fr_d, itW_t, itW_l, Option.bind_some, Option.map_some, S9.R.of_some, List.set_cons_zero, List.set_cons_succ, List.length_cons, List.length_nil, Nat.zero_add, Nat.reduceAdd, Nat.reduceLeDiff, if_true, S9.R.thenS, tru_bl, gSub_int, gAdd_int, gEq_int, gNe_int, gEq_bl, gNe_bl, gEq_str, gNe_str, gLt_int, gLe_int, gGt_int, gGe_int, List.nil_append, List.append_nil, decide_true, decide_false, Bool.not_true, Bool.not_false, e1, e2]
  exact fin_d (Nat.le_refl _)
theorem within_spec (i lo hi : Int) (M : Sto) : f_is_within0 [.d (.int i), .d (.int lo), .d (.int hi)] M = .ok (.d (.bl (decide (lo ≤ i) && decide (i ≤ hi)))) M := by
  unfold f_is_within0 body g_is_within0
  show fin M.length (sRet _ [some (.d (.int i)), some (.d (.int lo)), some (.d (.int hi))] M) = _
  have e1 := whole_spec i M
  cases h1 : decide (lo ≤ i) <;> simp only [sSeq, sSet, sRet, sIf, sFor, sNil, sPar, sApp, fB, fOrT, fAndT, fNotT, fAnd, fOr, fNot, fIf, fOp, f2, fC, fVar, fCB, fCN, fCons, fNil, fFro, fNew, fLst, fTup, frs9, fCall0, fCallN, fOpN, fUn, fSl, fSlN, oNone, oSome, intW, fSeqI, List.getElem?_cons_zero, List.getElem?_cons_succ, S9.R.bind_ok, S9.R.noEx_ok, rds, rd_d, fr_d, itW_t, itW_l, Option.bind_some, Option.map_some, S9.R.of_some, List.set_cons_zero, List.set_cons_succ, List.length_cons, List.length_nil, Nat.zero_add, Nat.reduceAdd, Nat.reduceLeDiff, if_true, S9.R.thenS, tru_bl, gSub_int, gAdd_int, gEq_int, gNe_int, gEq_bl, gNe_bl, gEq_str, gNe_str, gLt_int, gLe_int, gGt_int, gGe_int, List.nil_append, List.append_nil, decide_true, decide_false, Bool.not_true, Bool.not_false, fChain, e1, h1, Bool.true_and, Bool.false_and] <;> exact fin_d (Nat.le_refl _)
theorem tops_spec (tops : List Int) (h1 : 1 ≤ tops.length) (h2 : tops.length ≤ 12) (ht : ∀ t ∈ tops, TopOk t) (M : Sto) : f_are_tops0 [.d (tupI tops)] M = .ok (.d (.bl true)) M := by
  unfold f_are_tops0 body g_are_tops0
  have hit : (tops.map D.int).length ≤ 100000 := by rw [List.length_map]; omega
  obtain ⟨fe, hfe⟩ : ∃ fe : FE, fe = fCall0 3 f_is_within0 (fCons (fVar 1) (fCons (fC (.int 0)) (fCons (fOp gSub (fC (.int 1000000000000000000000000000000)) (fC (.int 1))) fNil))) := ⟨_, rfl⟩
  have hl := lc_of (lk := []) (g := gNm 1) (ft := tYesF) (fe := fe) (δ := [some (.d (tupI tops)), none]) (M := M) D.int (fun _ => D.bl true) tops (fun t htt => by
    refine ⟨[some (.d (tupI tops)), some (.d (.int t))], rfl, rfl, ?_⟩
    have e := within_spec t 0 (1000000000000000000000000000000 - 1) M
    have := ht t htt
    unfold TopOk at this
    rw [decide_eq_true (show (0 : Int) ≤ t from this.1), decide_eq_true (show t ≤ 1000000000000000000000000000000 - 1 by omega)] at e
    rw [hfe]
    simp only [sSeq, sSet, sRet, sIf, sFor, sNil, sPar, sApp, fB, fOrT, fAndT, fNotT, fAnd, fOr, fNot, fIf, fOp, f2, fC, fVar, fCB, fCN, fCons, fNil, fFro, fNew, fLst, fTup, frs9, fCall0, fCallN, fOpN, fUn, fSl, fSlN, oNone, oSome, intW, fSeqI, List.getElem?_cons_zero, List.getElem?_cons_succ, S9.R.bind_ok, S9.R.noEx_ok, rds, rd_d, fr_d, itW_t, itW_l, Option.bind_some, Option.map_some, S9.R.of_some, List.set_cons_zero, List.set_cons_succ, List.length_cons, List.length_nil, Nat.zero_add, Nat.reduceAdd, Nat.reduceLeDiff, if_true, S9.R.thenS, tru_bl, gSub_int, gAdd_int, gEq_int, gNe_int, gEq_bl, gNe_bl, gEq_str, gNe_str, gLt_int, gLe_int, gGt_int, gGe_int, List.nil_append, List.append_nil, decide_true, decide_false, Bool.not_true, Bool.not_false, e, Bool.and_self])
  rw [← hfe]
  show fin M.length (sSeq _ _ [some (.d (tupI tops)), none] M) = _
  have e1 : gIsi [tupI tops, .ty "tuple"] = some (.bl true) := isi_tuple _
  have e2 : gLen [tupI tops] = some (.int (tops.length : Int)) := by rw [gLen_tup, List.length_map]
  have e3 : decide ((1 : Int) ≤ (tops.length : Int)) = true := decide_eq_true (by omega)
  have e4 : decide ((tops.length : Int) ≤ 12) = true := decide_eq_true (by omega)
  have ea : blsD (tops.map fun _ => D.bl true) = some (tops.map fun _ => true) := blsD_map' (fun _ => true) tops
  have eb : (tops.map fun _ => true).all id = true := by simp
  simp only [sSeq, sSet, sRet, sIf, sFor, sNil, sPar, sApp, fB, fOrT, fAndT, fNotT, fAnd, fOr, fNot, fIf, fOp, f2, fC, fVar, fCB, fCN, fCons, fNil, fFro, fNew, fLst, fTup, frs9, fCall0, fCallN, fOpN, fUn, fSl, fSlN, oNone, oSome, intW, fSeqI, List.getElem?_cons_zero, List.getElem?_cons_succ, S9.R.bind_ok, S9.R.noEx_ok, rds, rd_d, fr_d, itW_t, itW_l, Option.bind_some, Option.map_some, S9.R.of_some, List.set_cons_zero, List.set_cons_succ, List.length_cons, List.length_nil, Nat.zero_add, Nat.reduceAdd, Nat.reduceLeDiff, if_true, S9.R.thenS, tru_bl, gSub_int, gAdd_int, gEq_int, gNe_int, gEq_bl, gNe_bl, gEq_str, gNe_str, gLt_int, gLe_int, gGt_int, gGe_int, List.nil_append, List.append_nil, decide_true, decide_false, Bool.not_true, Bool.not_false, fChain, e1, e2, e3, e4, fLc, hit, wipeD, hl, gAll, lstOf, ea, eb]
  exact fin_d (Nat.le_refl _)
theorem side_spec (tops : List Int) (s : Side) (h : SideOk tops s) (M : Sto) : f_is_side_of0 [.d (tupI tops), .d (sideD s)] M = .ok (.d (.bl true)) M := by
  obtain ⟨th, b, pl⟩ := s
  obtain ⟨t, h1, h2, h3⟩ := h
  have h1 : tops[th]? = some t := h1
  have hlt := (List.getElem?_eq_some_iff.mp h1).1
  unfold f_is_side_of0 body g_is_side_of0
  show fin M.length (sSeq _ _ [some (.d (tupI tops)), some (.d (sideD (th, b, pl))), none, none, none] M) = _
  have e1 : gIsi [sideD (th, b, pl), .ty "tuple"] = some (.bl true) := isi_tuple _
  have e2 : gLen [sideD (th, b, pl)] = some (.int 3) := rfl
  have e3 : decide ((3 : Int) = 3) = true := rfl
  have e4 : gTp 3 (gCn (gNm 2) (gCn (gNm 3) (gCn (gNm 4) gNl))) (sideD (th, b, pl)) [some (.d (tupI tops)), some (.d (sideD (th, b, pl))), none, none, none] = some [some (.d (tupI tops)), some (.d (sideD (th, b, pl))), some (.d (.int th)), some (.d (.str (wordOf b))), some (.d (.int pl))] := rfl
  have e5 : gLen [tupI tops] = some (.int (tops.length : Int)) := by rw [gLen_tup, List.length_map]
  have e6 := within_spec (th : Int) 0 ((tops.length : Int) - 1) M
  rw [decide_eq_true (show (0 : Int) ≤ (th : Int) by omega), decide_eq_true (show (th : Int) ≤ (tops.length : Int) - 1 by omega), Bool.and_self] at e6
  have e7 : gIsi [.str (wordOf b), .ty "str"] = some (.bl true) := isi_str _
  have e8 : gInB true (.str (wordOf b)) (.tup [D.str "from", D.str "to"]) = some (.bl false) := by cases b <;> rfl
  have e9 : gIx (tupI tops) (.int (th : Int)) = some (.int t) := ix_nat (by rw [List.getElem?_map, h1]; rfl)
  have e10 := within_spec pl 0 t M
  rw [decide_eq_true h2, decide_eq_true h3, Bool.and_self] at e10
  simp only [sAsg, sSeq, sSet, sRet, sIf, sFor, sNil, sPar, sApp, fB, fOrT, fAndT, fNotT, fAnd, fOr, fNot, fIf, fOp, f2, fC, fVar, fCB, fCN, fCons, fNil, fFro, fNew, fLst, fTup, frs9, fCall0, fCallN, fOpN, fUn, fSl, fSlN, oNone, oSome, intW, fSeqI, List.getElem?_cons_zero, List.getElem?_cons_succ, S9.R.bind_ok, S9.R.noEx_ok, rds, rd_d, fr_d, itW_t, itW_l, Option.bind_some, Option.map_some, S9.R.of_some, List.set_cons_zero, List.set_cons_succ, List.length_cons, List.length_nil, Nat.zero_add, Nat.reduceAdd, Nat.reduceLeDiff, if_true, S9.R.thenS, tru_bl, gSub_int, gAdd_int, gEq_int, gNe_int, gEq_bl, gNe_bl, gEq_str, gNe_str, gLt_int, gLe_int, gGt_int, gGe_int, List.nil_append, List.append_nil, decide_true, decide_false, Bool.not_true, Bool.not_false, e1, e2, e3, e4, e5, e6, e7, e8, e9, e10]
  exact fin_d (Nat.le_refl _)
theorem rule_spec (tops : List Int) (r : Rule) (h : RuleOk tops r) (M : Sto) : f_is_rule_of0 [.d (tupI tops), .d (ruleD r)] M = .ok (.d (.bl true)) M := by
  unfold f_is_rule_of0 body g_is_rule_of0
  obtain ⟨fe, hfe⟩ : ∃ fe : FE, fe = fCall0 2 f_is_side_of0 (fCons (fVar 0) (fCons (fVar 2) fNil)) := ⟨_, rfl⟩
  have hin := lc_of (lk := []) (g := gNm 2) (ft := tYesF) (fe := fe) (δ := [some (.d (tupI tops)), some (.d (ruleD r)), none]) (M := M) sideD (fun _ => D.bl true) [r.1, r.2] (fun s hs => by
    refine ⟨[some (.d (tupI tops)), some (.d (ruleD r)), some (.d (sideD s))], rfl, rfl, ?_⟩
    have hok : SideOk tops s := by
      rcases List.mem_cons.mp hs with e | hs
      · rw [e]; exact h.1
      · rw [List.mem_singleton.mp hs]; exact h.2
    have c := side_spec tops s hok M
    rw [hfe]
    simp only [sSeq, sSet, sRet, sIf, sFor, sNil, sPar, sApp, fB, fOrT, fAndT, fNotT, fAnd, fOr, fNot, fIf, fOp, f2, fC, fVar, fCB, fCN, fCons, fNil, fFro, fNew, fLst, fTup, frs9, fCall0, fCallN, fOpN, fUn, fSl, fSlN, oNone, oSome, intW, fSeqI, List.getElem?_cons_zero, List.getElem?_cons_succ, S9.R.bind_ok, S9.R.noEx_ok, rds, rd_d, fr_d, itW_t, itW_l, Option.bind_some, Option.map_some, S9.R.of_some, List.set_cons_zero, List.set_cons_succ, List.length_cons, List.length_nil, Nat.zero_add, Nat.reduceAdd, Nat.reduceLeDiff, if_true, S9.R.thenS, tru_bl, gSub_int, gAdd_int, gEq_int, gNe_int, gEq_bl, gNe_bl, gEq_str, gNe_str, gLt_int, gLe_int, gGt_int, gGe_int, List.nil_append, List.append_nil, decide_true, decide_false, Bool.not_true, Bool.not_false, c])
  rw [← hfe]
  show fin M.length (sRet _ [some (.d (tupI tops)), some (.d (ruleD r)), none] M) = _
  have e1 : gIsi [ruleD r, .ty "tuple"] = some (.bl true) := isi_tuple _
  have e2 : gLen [ruleD r] = some (.int 2) := rfl
  have e3 : decide ((2 : Int) = 2) = true := rfl
  have e : itemsW M (.d (ruleD r)) = some ([r.1, r.2].map sideD, []) := rfl
  have hs2 : ([r.1, r.2].map sideD).length ≤ 100000 := by simp
  have ea : gAll [.lst ([r.1, r.2].map fun _ => D.bl true)] = some (.bl true) := rfl
  simp only [sSeq, sSet, sRet, sIf, sFor, sNil, sPar, sApp, fB, fOrT, fAndT, fNotT, fAnd, fOr, fNot, fIf, fOp, f2, fC, fVar, fCB, fCN, fCons, fNil, fFro, fNew, fLst, fTup, frs9, fCall0, fCallN, fOpN, fUn, fSl, fSlN, oNone, oSome, intW, fSeqI, List.getElem?_cons_zero, List.getElem?_cons_succ, S9.R.bind_ok, S9.R.noEx_ok, rds, rd_d, fr_d, itW_t, itW_l, Option.bind_some, Option.map_some, S9.R.of_some, List.set_cons_zero, List.set_cons_succ, List.length_cons, List.length_nil, Nat.zero_add, Nat.reduceAdd, Nat.reduceLeDiff, if_true, S9.R.thenS, tru_bl, gSub_int, gAdd_int, gEq_int, gNe_int, gEq_bl, gNe_bl, gEq_str, gNe_str, gLt_int, gLe_int, gGt_int, gGe_int, List.nil_append, List.append_nil, decide_true, decide_false, Bool.not_true, Bool.not_false, e1, e2, e3, fLc, e, hs2, wipeD, hin, ea]
  exact fin_d (Nat.le_refl _)
theorem rules_spec (tops : List Int) (R : List Rule) (h : ∀ r ∈ R, RuleOk tops r) (hl : R.length ≤ 40) (M : Sto) : f_are_rules0 [.d (tupI tops), .d (rulesD R)] M = .ok (.d (.bl true)) M := by
  unfold f_are_rules0 body g_are_rules0
  obtain ⟨fe, hfe⟩ : ∃ fe : FE, fe = fCall0 2 f_is_rule_of0 (fCons (fVar 0) (fCons (fVar 2) fNil)) := ⟨_, rfl⟩
  have hin := lc_of (lk := []) (g := gNm 2) (ft := tYesF) (fe := fe) (δ := [some (.d (tupI tops)), some (.d (rulesD R)), none]) (M := M) ruleD (fun _ => D.bl true) R (fun r hr => by
    refine ⟨[some (.d (tupI tops)), some (.d (rulesD R)), some (.d (ruleD r))], rfl, rfl, ?_⟩
    have c := rule_spec tops r (h r hr) M
    rw [hfe]
    simp only [sSeq, sSet, sRet, sIf, sFor, sNil, sPar, sApp, fB, fOrT, fAndT, fNotT, fAnd, fOr, fNot, fIf, fOp, f2, fC, fVar, fCB, fCN, fCons, fNil, fFro, fNew, fLst, fTup, frs9, fCall0, fCallN, fOpN, fUn, fSl, fSlN, oNone, oSome, intW, fSeqI, List.getElem?_cons_zero, List.getElem?_cons_succ, S9.R.bind_ok, S9.R.noEx_ok, rds, rd_d, fr_d, itW_t, itW_l, Option.bind_some, Option.map_some, S9.R.of_some, List.set_cons_zero, List.set_cons_succ, List.length_cons, List.length_nil, Nat.zero_add, Nat.reduceAdd, Nat.reduceLeDiff, if_true, S9.R.thenS, tru_bl, gSub_int, gAdd_int, gEq_int, gNe_int, gEq_bl, gNe_bl, gEq_str, gNe_str, gLt_int, gLe_int, gGt_int, gGe_int, List.nil_append, List.append_nil, decide_true, decide_false, Bool.not_true, Bool.not_false, c])
  rw [← hfe]
  show fin M.length (sRet _ [some (.d (tupI tops)), some (.d (rulesD R)), none] M) = _
  have e1 : gIsi [rulesD R, .ty "tuple"] = some (.bl true) := isi_tuple _
  have e2 : gLen [rulesD R] = some (.int (R.length : Int)) := by unfold rulesD; rw [gLen_tup, List.length_map]
  have e3 : decide ((R.length : Int) ≤ 40) = true := decide_eq_true (by omega)
  have e : itemsW M (.d (rulesD R)) = some (R.map ruleD, []) := rfl
  have hs2 : (R.map ruleD).length ≤ 100000 := by rw [List.length_map]; omega
  have ea : blsD (R.map fun _ => D.bl true) = some (R.map fun _ => true) := blsD_map' (fun _ => true) R
  have eb : (R.map fun _ => true).all id = true := by simp
  simp only [sSeq, sSet, sRet, sIf, sFor, sNil, sPar, sApp, fB, fOrT, fAndT, fNotT, fAnd, fOr, fNot, fIf, fOp, f2, fC, fVar, fCB, fCN, fCons, fNil, fFro, fNew, fLst, fTup, frs9, fCall0, fCallN, fOpN, fUn, fSl, fSlN, oNone, oSome, intW, fSeqI, List.getElem?_cons_zero, List.getElem?_cons_succ, S9.R.bind_ok, S9.R.noEx_ok, rds, rd_d, fr_d, itW_t, itW_l, Option.bind_some, Option.map_some, S9.R.of_some, List.set_cons_zero, List.set_cons_succ, List.length_cons, List.length_nil, Nat.zero_add, Nat.reduceAdd, Nat.reduceLeDiff, if_true, S9.R.thenS, tru_bl, gSub_int, gAdd_int, gEq_int, gNe_int, gEq_bl, gNe_bl, gEq_str, gNe_str, gLt_int, gLe_int, gGt_int, gGe_int, List.nil_append, List.append_nil, decide_true, decide_false, Bool.not_true, Bool.not_false, e1, e2, e3, fLc, e, hs2, wipeD, hin, gAll, lstOf, ea, eb]
  exact fin_d (Nat.le_refl _)
/-- Plan(tops, rules) -/
structure PlanOk (tops : List Int) (R : List Rule) : Prop where
  l1 : 1 ≤ tops.length
  l2 : tops.length ≤ 12
  ht : ∀ t ∈ tops, TopOk t
  hr : ∀ r ∈ R, RuleOk tops r
  hl : R.length ≤ 40
theorem plan_spec (κ : Nat → Addr) {tops : List Int} {R : List Rule} (h : PlanOk tops R) {M : Sto} (hf : Flat M) {fs : FA} {δ : DEnv} {M0 : Sto} (ha : fs δ M0 = .ok [.d (tupI tops), .d (rulesD R)] M) :
    fMake (κ 0) 3 (withD (f_Plan____init__0 κ) []) fs δ M0 = .ok (.d (planD κ tops R)) M := by
  have c1 := fun M => tops_spec tops h.l1 h.l2 h.ht M
  have c2 := fun M => rules_spec tops R h.hr h.hl M
  have hin : f_Plan____init__0 κ [.loc M.length, .d (tupI tops), .d (rulesD R)] (M ++ [.ins (κ 0) [] []]) = .ok (.d .non) (M ++ [.ins (κ 0) ["tops", "rules"] [.d (tupI tops), .d (rulesD R)]]) := by
    unfold f_Plan____init__0 body g_Plan____init__0
    show fin (M ++ [Cell.ins (κ 0) [] []]).length (sSeq _ _ [some (.loc M.length), some (.d (tupI tops)), some (.d (rulesD R))] (M ++ [.ins (κ 0) [] []])) = _
    have at1 : ∀ c : Cell, (M ++ [c])[M.length]? = some c := fun c => by rw [List.getElem?_append_right (Nat.le_refl _), Nat.sub_self]; rfl
    have put1 : ∀ c d : Cell, (M ++ [c]).set M.length d = M ++ [d] := fun c d => by rw [List.set_append_right _ _ (Nat.le_refl _), Nat.sub_self]; rfl
    have p1 : putC (κ 0) "tops" (.loc M.length) (.d (tupI tops)) (M ++ [.ins (κ 0) [] []]) = .ok () (M ++ [.ins (κ 0) ["tops"] [.d (tupI tops)]]) := by
      unfold putC
      simp only [at1, List.length_nil]
      rw [if_pos ⟨trivial, by decide⟩, put1]
      rfl
    have p2 : putC (κ 0) "rules" (.loc M.length) (.d (rulesD R)) (M ++ [.ins (κ 0) ["tops"] [.d (tupI tops)]]) = .ok () (M ++ [.ins (κ 0) ["tops", "rules"] [.d (tupI tops), .d (rulesD R)]]) := by
      unfold putC
      simp only [at1]
      rw [if_pos ⟨trivial, by decide⟩, put1]
      rfl
    simp only [sAsgH, hTp, hCn, hFld, hNl, sSeq, sSet, sRet, sIf, sFor, sNil, sPar, sApp, fB, fOrT, fAndT, fNotT, fAnd, fOr, fNot, fIf, fOp, f2, fC, fVar, fCB, fCN, fCons, fNil, fFro, fNew, fLst, fTup, frs9, fCall0, fCallN, fOpN, fUn, fSl, fSlN, oNone, oSome, intW, fSeqI, List.getElem?_cons_zero, List.getElem?_cons_succ, S9.R.bind_ok, S9.R.noEx_ok, rds, rd_d, fr_d, itW_t, itW_l, Option.bind_some, Option.map_some, S9.R.of_some, List.set_cons_zero, List.set_cons_succ, List.length_cons, List.length_nil, Nat.zero_add, Nat.reduceAdd, Nat.reduceLeDiff, if_true, S9.R.thenS, tru_bl, gSub_int, gAdd_int, gEq_int, gNe_int, gEq_bl, gNe_bl, gEq_str, gNe_str, gLt_int, gLe_int, gGt_int, gGe_int, List.nil_append, List.append_nil, decide_true, decide_false, Bool.not_true, Bool.not_false, c1, c2, p1, p2]
    simp only [fin, fin1, cutM]
    rw [if_pos (by simp)]
  unfold fMake withD
  simp only [ha, S9.R.bind_ok, List.length_cons, List.length_nil, List.map_nil, List.append_nil]
  have e : (if (0 + 1 + 1 + 1 : Nat) = 3 then (f_Plan____init__0 κ [.loc M.length, .d (tupI tops), .d (rulesD R)] (M ++ [.ins (κ 0) [] []])).noEx.bind (mkK M.length) else .bad) = .ok (.d (planD κ tops R)) M := by
    rw [if_pos rfl, hin]
    show mkK M.length (.d .non) _ = _
    unfold mkK frzI cutM
    simp only
    have at1 : ∀ c : Cell, (M ++ [c])[M.length]? = some c := fun c => by rw [List.getElem?_append_right (Nat.le_refl _), Nat.sub_self]; rfl
    rw [if_neg (by simp), List.take_left, if_pos (hf.all _)]
    simp only [at1]
    rfl
  exact e
end S9

namespace K03
open PySem PySem.Spec PyProof.Rows L2 S9
/-- _law_pot(_law_script, _law_k): 0 _law_script, 1 _law_k, 2 _law_cell, 3 _law_great -/
noncomputable def g__law_pot : FS :=
  (sSeq (sSet 2 (fIf (fB (fOp gLt (fVar 1) (fCB gLen (fCons (fVar 0) fNil)))) (fOp gIx (fVar 0) (fVar 1)) (fOp gAdd (fOp gMul (fC (.int 7)) (fVar 1)) (fC (.int 3)))))
    (sSeq (sSet 3 (fOp gMul (fOp gMod (fCB gAbs (fCons (fVar 2) fNil)) (fOp gPow (fOp gPow (fC (.int 10)) (fC (.int 60))) (fC (.int 5)))) (fCB gInt (fCons (fOp gGe (fCB gAbs (fCons (fVar 2) fNil)) (fOp gPow (fC (.int 10)) (fC (.int 18)))) fNil))))
    (sRet (fNew (fLst (fCons (fVar 3) (fCons (fOp gMod (fOp gMul (fOp gAdd (fOp gAdd (fOp gMod (fVar 2) (fC (.int 2305843009213693951))) (fOp gMul (fOp gMul (fC (.int 7919)) (fVar 1)) (fVar 1))) (fC (.int 17))) (fC (.int 48271))) (fC (.int 2305843009213693921))) (fCons (fC (.int 0)) fNil))))))))
noncomputable def fn__law_pot : List W → Sto → R (List D) := bodyN 4 g__law_pot
/-- _law_take(_law_pot_here, _law_many): 0 _law_pot_here, 1 _law_many, 2 _law_digit, 3 _law_prime, 4 _law_mixed -/
noncomputable def g__law_take : FS :=
  (sSeq (sIf (fB (fOp gGt (fOp gIx (fVar 0) (fC (.int 0))) (fC (.int 0))))
      (sSeq (sSet 2 (fOp gMod (fOp gIx (fVar 0) (fC (.int 0))) (fVar 1)))
      (sSeq (sSetI (fVar 0) (fC (.int 0)) (fOp gDiv (fOp gIx (fVar 0) (fC (.int 0))) (fVar 1)))
      (sRet (fVar 2))))
      sNil)
    (sSeq (sSetI (fVar 0) (fC (.int 2)) (fOp gAdd (fOp gIx (fVar 0) (fC (.int 2))) (fC (.int 1))))
    (sSeq (sSet 3 (fOp gIx (fFro (fLst (fCons (fC (.int 2305843009213693951)) (fCons (fC (.int 999999999989)) (fCons (fC (.int 1000000000039)) (fCons (fC (.int 67280421310721)) fNil)))))) (fOp gMod (fOp gIx (fVar 0) (fC (.int 2))) (fC (.int 4)))))
    (sSeq (sSet 4 (fOp gMod (fOp gAdd (fOp gAdd (fOp gIx (fVar 0) (fC (.int 1))) (fOp gMul (fOp gMul (fC (.int 7919)) (fOp gIx (fVar 0) (fC (.int 2)))) (fOp gIx (fVar 0) (fC (.int 2))))) (fOp gMul (fC (.int 65537)) (fOp gIx (fVar 0) (fC (.int 2))))) (fVar 3)))
    (sSeq (sSet 4 (fOp gMod (fOp gPow (fVar 4) (fC (.int 5))) (fVar 3)))
    (sRet (fOp gMod (fOp gAdd (fOp gDiv (fVar 4) (fC (.int 4099))) (fOp gMul (fOp gDiv (fVar 4) (fC (.int 1000003))) (fC (.int 7)))) (fVar 1))))))))
noncomputable def f__law_take : FF := body 5 g__law_take
/-- _law_of(_law_pot_here, _law_some): 0 _law_pot_here, 1 _law_some -/
noncomputable def g__law_of : FS :=
  (sRet (fOp gIx (fVar 1) (fCall0 2 f__law_take (fCons (fVar 0) (fCons (fCB gLen (fCons (fVar 1) fNil)) fNil)))))
noncomputable def f__law_of : FF := body 2 g__law_of
/-- _law_wide_tops(_law_pot_here): 0 _law_pot_here, 1 _law_found, 2 _law_thing, 3 _law_great -/
noncomputable def g__law_wide_tops : FS :=
  (sSeq (sSet 1 (fNew (fLst fNil)))
    (sSeq (sFor (fRng1 (fCons (fOp gAdd (fC (.int 2)) (fCall0 2 f__law_take (fCons (fVar 0) (fCons (fC (.int 11)) fNil)))) fNil)) (gNm 2)
      (sSeq (sSet 3 (fOp gAdd (fOp gMul (fCall0 2 f__law_take (fCons (fVar 0) (fCons (fOp gPow (fC (.int 10)) (fC (.int 15))) fNil))) (fOp gPow (fC (.int 10)) (fC (.int 15)))) (fCall0 2 f__law_take (fCons (fVar 0) (fCons (fOp gPow (fC (.int 10)) (fC (.int 15))) fNil)))))
      (sApp (fVar 1) (fCall0 2 f__law_of (fCons (fVar 0) (fCons (fFro (fLst (fCons (fC (.int 0)) (fCons (fC (.int 1)) (fCons (fC (.int 2)) (fCons (fC (.int 9)) (fCons (fVar 3) (fCons (fOp gSub (fOp gPow (fC (.int 10)) (fC (.int 30))) (fC (.int 1))) fNil)))))))) fNil))))))
    (sRet (fCB gTuple (fCons (fVar 1) fNil)))))
noncomputable def f__law_wide_tops : FF := body 4 g__law_wide_tops
/-- _law_side_in(_law_pot_here, _law_tops, _law_standing_here): 0 _law_pot_here, 1 _law_tops, 2 _law_standing_here, 3 _law_thing -/
noncomputable def g__law_side_in : FS :=
  (sSeq (sSet 3 (fCall0 2 f__law_take (fCons (fVar 0) (fCons (fCB gLen (fCons (fVar 1) fNil)) fNil))))
    (sSeq (sIf (fB (fOp gEq (fCall0 2 f__law_take (fCons (fVar 0) (fCons (fC (.int 2)) fNil))) (fC (.int 0))))
      (sRet (fTup (fCons (fVar 3) (fCons (fC (.str "from")) (fCons (fCall0 2 f__law_take (fCons (fVar 0) (fCons (fOp gAdd (fOp gIx (fVar 2) (fVar 3)) (fC (.int 1))) fNil))) fNil)))))
      sNil)
    (sRet (fTup (fCons (fVar 3) (fCons (fC (.str "to")) (fCons (fOp gAdd (fOp gIx (fVar 2) (fVar 3)) (fCall0 2 f__law_take (fCons (fVar 0) (fCons (fOp gAdd (fOp gSub (fOp gIx (fVar 1) (fVar 3)) (fOp gIx (fVar 2) (fVar 3))) (fC (.int 1))) fNil)))) fNil)))))))
noncomputable def f__law_side_in : FF := body 4 g__law_side_in
/-- _law_rules(_law_pot_here, _law_tops, _law_one, _law_two, _law_many): 0 _law_pot_here, 1 _law_tops, 2 _law_one, 3 _law_two, 4 _law_many, 5 _law_found, 6 _law_turn, 7 _law_both -/
noncomputable def g__law_rules : FS :=
  (sSeq (sSet 5 (fNew (fLst fNil)))
    (sSeq (sFor (fRng1 (fCons (fVar 4) fNil)) (gNm 6)
      (sSeq (sSet 7 (fTup (fCons (fCall0 3 f__law_side_in (fCons (fVar 0) (fCons (fVar 1) (fCons (fVar 2) fNil)))) (fCons (fCall0 3 f__law_side_in (fCons (fVar 0) (fCons (fVar 1) (fCons (fVar 3) fNil)))) fNil))))
      (sApp (fVar 5) (fIf (fB (fOp gEq (fCall0 2 f__law_take (fCons (fVar 0) (fCons (fC (.int 2)) fNil))) (fC (.int 0)))) (fOp revD (fVar 7) (fUn gNeg (fC (.int 1)))) (fVar 7)))))
    (sRet (fCB gTuple (fCons (fVar 5) fNil)))))
noncomputable def f__law_rules : FF := body 8 g__law_rules
/-- _law_standing(_law_pot_here, _law_tops): 0 _law_pot_here, 1 _law_tops, 2 _law_top -/
noncomputable def g__law_standing : FS :=
  (sRet (fCB gTuple (fCons (fFro (fLc (fSeqI (fVar 1)) (gNm 2) tYesF (fCall0 2 f__law_take (fCons (fVar 0) (fCons (fOp gAdd (fVar 2) (fC (.int 1))) fNil))) [2])) fNil)))
noncomputable def f__law_standing : FF := body 3 g__law_standing
/-- _law_any_side(_law_pot_here, _law_tops): 0 _law_pot_here, 1 _law_tops, 2 _law_thing -/
noncomputable def g__law_any_side : FS :=
  (sSeq (sSet 2 (fCall0 2 f__law_take (fCons (fVar 0) (fCons (fCB gLen (fCons (fVar 1) fNil)) fNil))))
    (sRet (fTup (fCons (fVar 2) (fCons (fCall0 2 f__law_of (fCons (fVar 0) (fCons (fFro (fLst (fCons (fC (.str "from")) (fCons (fC (.str "to")) fNil)))) fNil))) (fCons (fCall0 2 f__law_take (fCons (fVar 0) (fCons (fOp gAdd (fOp gIx (fVar 1) (fVar 2)) (fC (.int 1))) fNil))) fNil))))))
noncomputable def f__law_any_side : FF := body 3 g__law_any_side
/-- is_in(side, standing): 0 side, 1 standing, 2 thing, 3 word, 4 place -/
noncomputable def g_is_in : FS :=
  (sSeq (sAsg (gTp 3 (gCn (gNm 2) (gCn (gNm 3) (gCn (gNm 4) gNl)))) (fVar 0))
    (sRet (fIf (fB (fOp gEq (fVar 3) (fC (.str "from")))) (fOp gGe (fOp gIx (fVar 1) (fVar 2)) (fVar 4)) (fOp gLe (fOp gIx (fVar 1) (fVar 2)) (fVar 4)))))
noncomputable def f_is_in : FF := body 5 g_is_in
/-- broken(plan, standing): 0 plan, 1 standing, 2 k, 3 sides, 4 side -/
noncomputable def g_broken (κ : Nat → Addr) : FS :=
  (sRet (fCB gTuple (fCons (fFro (fLc (fEnumA (fFld (κ 0) "rules" (fVar 0))) (gTp 2 (gCn (gNm 2) (gCn (gNm 3) gNl))) (fNotT (fB (fCB gAny (fCons (fFro (fLc (fSeqI (fVar 3)) (gNm 4) tYesF (fCall0 2 f_is_in (fCons (fVar 4) (fCons (fVar 1) fNil))) [4])) fNil)))) (fVar 2) [2, 3])) fNil)))
noncomputable def f_broken (κ : Nat → Addr) : FF := body 5 (g_broken κ)
/-- is_good(plan, standing): 0 plan, 1 standing, 2 one, 3 other -/
noncomputable def g_is_good (κ : Nat → Addr) : FS :=
  (sRet (fCB gAll (fCons (fFro (fLc (fSeqI (fFld (κ 0) "rules" (fVar 0))) (gTp 2 (gCn (gNm 2) (gCn (gNm 3) gNl))) tYesF (fOr (fCall0 2 f_is_in (fCons (fVar 2) (fCons (fVar 1) fNil))) (fCall0 2 f_is_in (fCons (fVar 3) (fCons (fVar 1) fNil)))) [2, 3])) fNil)))
noncomputable def f_is_good (κ : Nat → Addr) : FF := body 4 (g_is_good κ)
/-- _law_at_sides(_law_pot_here, _law_tops, _law_standing_here, _law_rule): 0 _law_pot_here, 1 _law_tops, 2 _law_standing_here, 3 _law_rule, 4 _law_found, 5 _law_thing, 6 _law_word, 7 _law_place -/
noncomputable def g__law_at_sides : FS :=
  (sSeq (sSet 4 (fNew (fCN gList (fCons (fVar 2) fNil))))
    (sSeq (sFor (fSeqI (fVar 3)) (gTp 3 (gCn (gNm 5) (gCn (gNm 6) (gCn (gNm 7) gNl))))
      (sSetI (fVar 4) (fVar 5) (fCB (gI2 min2) (fCons (fOp gIx (fVar 1) (fVar 5)) (fCons (fCB (gI2 max2) (fCons (fC (.int 0)) (fCons (fOp gSub (fOp gAdd (fVar 7) (fCall0 2 f__law_take (fCons (fVar 0) (fCons (fC (.int 3)) fNil)))) (fC (.int 1))) fNil))) fNil)))))
    (sRet (fCB gTuple (fCons (fVar 4) fNil)))))
noncomputable def f__law_at_sides : FF := body 8 g__law_at_sides
/-- _law_is_in(_law_side, _law_standing_here): 0 _law_side, 1 _law_standing_here, 2 _law_thing, 3 _law_word, 4 _law_place -/
noncomputable def g__law_is_in : FS :=
  (sSeq (sAsg (gTp 3 (gCn (gNm 2) (gCn (gNm 3) (gCn (gNm 4) gNl)))) (fVar 0))
    (sRet (fIf (fB (fOp gEq (fVar 3) (fC (.str "from")))) (fOp gGe (fOp gIx (fVar 1) (fVar 2)) (fVar 4)) (fOp gLe (fOp gIx (fVar 1) (fVar 2)) (fVar 4)))))
noncomputable def f__law_is_in : FF := body 5 g__law_is_in
/-- _law_right(_law_plan, _law_standing_here): 0 _law_plan, 1 _law_standing_here, 2 _law_rule, 3 _law_side, 4 _law_due, 5 _law_number, 6 _law_one, 7 _law_two -/
noncomputable def g__law_right (κ : Nat → Addr) : FS :=
  (sSeq (sFor (fSeqI (fFld (κ 0) "rules" (fVar 0))) (gNm 2)
      (sFor (fSeqI (fVar 2)) (gNm 3)
        (sIf (fB (fOp gNe (fCB gRepr (fCons (fCall0 2 f_is_in (fCons (fVar 3) (fCons (fVar 1) fNil))) fNil)) (fCB gRepr (fCons (fCall0 2 f__law_is_in (fCons (fVar 3) (fCons (fVar 1) fNil))) fNil))))
          (sRet (fC (.bl false)))
          sNil)))
    (sSeq (sSet 4 (fNew (fLst fNil)))
    (sSeq (sFor (fEnumA (fFld (κ 0) "rules" (fVar 0))) (gTp 2 (gCn (gNm 5) (gCn (gTp 2 (gCn (gNm 6) (gCn (gNm 7) gNl))) gNl)))
      (sIf (fAndT (fNotT (fB (fCall0 2 f__law_is_in (fCons (fVar 6) (fCons (fVar 1) fNil))))) (fNotT (fB (fCall0 2 f__law_is_in (fCons (fVar 7) (fCons (fVar 1) fNil))))))
        (sApp (fVar 4) (fVar 5))
        sNil))
    (sRet (fOp gEq (fCB gRepr (fCons (fFro (fLst (fCons (fCall0 2 (f_broken κ) (fCons (fVar 0) (fCons (fVar 1) fNil))) (fCons (fCall0 2 (f_is_good κ) (fCons (fVar 0) (fCons (fVar 1) fNil))) fNil)))) fNil)) (fCB gRepr (fCons (fFro (fLst (fCons (fCB gTuple (fCons (fVar 4) fNil)) (fCons (fOp gEq (fVar 4) (fFro (fLst fNil))) fNil)))) fNil)))))))
noncomputable def f__law_right (κ : Nat → Addr) : FF := body 8 (g__law_right κ)
/-- is_whole(thing): 0 thing -/
noncomputable def g_is_whole : FS :=
  (sRet (fAnd (fCB gIsi (fCons (fVar 0) (fCons (fC (.ty "int")) fNil))) (fNot (fCB gIsi (fCons (fVar 0) (fCons (fC (.ty "bool")) fNil))))))
noncomputable def f_is_whole : FF := body 1 g_is_whole
/-- is_within(thing, low, high): 0 thing, 1 low, 2 high -/
noncomputable def g_is_within : FS :=
  (sRet (fAnd (fCall0 1 f_is_whole (fCons (fVar 0) fNil)) (fChain gLe gLe (fVar 1) (fVar 0) (fVar 2))))
noncomputable def f_is_within : FF := body 3 g_is_within
/-- are_tops(thing): 0 thing, 1 top -/
noncomputable def g_are_tops : FS :=
  (sSeq (sIf (fOrT (fNotT (fB (fCB gIsi (fCons (fVar 0) (fCons (fC (.ty "tuple")) fNil))))) (fNotT (fB (fChain gLe gLe (fC (.int 1)) (fCB gLen (fCons (fVar 0) fNil)) (fC (.int 12))))))
      (sRet (fC (.bl false)))
      sNil)
    (sRet (fCB gAll (fCons (fFro (fLc (fSeqI (fVar 0)) (gNm 1) tYesF (fCall0 3 f_is_within (fCons (fVar 1) (fCons (fC (.int 0)) (fCons (fOp gSub (fC (.int 1000000000000000000000000000000)) (fC (.int 1))) fNil)))) [1])) fNil))))
noncomputable def f_are_tops : FF := body 2 g_are_tops
/-- is_side_of(tops, thing): 0 tops, 1 thing, 2 number, 3 word, 4 place -/
noncomputable def g_is_side_of : FS :=
  (sSeq (sIf (fOrT (fNotT (fB (fCB gIsi (fCons (fVar 1) (fCons (fC (.ty "tuple")) fNil))))) (fB (fOp gNe (fCB gLen (fCons (fVar 1) fNil)) (fC (.int 3)))))
      (sRet (fC (.bl false)))
      sNil)
    (sSeq (sAsg (gTp 3 (gCn (gNm 2) (gCn (gNm 3) (gCn (gNm 4) gNl)))) (fVar 1))
    (sSeq (sIf (fOrT (fNotT (fB (fCall0 3 f_is_within (fCons (fVar 2) (fCons (fC (.int 0)) (fCons (fOp gSub (fCB gLen (fCons (fVar 0) fNil)) (fC (.int 1))) fNil)))))) (fOrT (fNotT (fB (fCB gIsi (fCons (fVar 3) (fCons (fC (.ty "str")) fNil))))) (fB (fOp (gInB true) (fVar 3) (fC (.tup [D.str "from", D.str "to"]))))))
      (sRet (fC (.bl false)))
      sNil)
    (sRet (fCall0 3 f_is_within (fCons (fVar 4) (fCons (fC (.int 0)) (fCons (fOp gIx (fVar 0) (fVar 2)) fNil))))))))
noncomputable def f_is_side_of : FF := body 5 g_is_side_of
/-- is_rule_of(tops, thing): 0 tops, 1 thing, 2 side -/
noncomputable def g_is_rule_of : FS :=
  (sRet (fAnd (fCB gIsi (fCons (fVar 1) (fCons (fC (.ty "tuple")) fNil))) (fAnd (fOp gEq (fCB gLen (fCons (fVar 1) fNil)) (fC (.int 2))) (fCB gAll (fCons (fFro (fLc (fSeqI (fVar 1)) (gNm 2) tYesF (fCall0 2 f_is_side_of (fCons (fVar 0) (fCons (fVar 2) fNil))) [2])) fNil)))))
noncomputable def f_is_rule_of : FF := body 3 g_is_rule_of
/-- are_rules(tops, thing): 0 tops, 1 thing, 2 rule -/
noncomputable def g_are_rules : FS :=
  (sRet (fAnd (fCB gIsi (fCons (fVar 1) (fCons (fC (.ty "tuple")) fNil))) (fAnd (fOp gLe (fCB gLen (fCons (fVar 1) fNil)) (fC (.int 40))) (fCB gAll (fCons (fFro (fLc (fSeqI (fVar 1)) (gNm 2) tYesF (fCall0 2 f_is_rule_of (fCons (fVar 0) (fCons (fVar 2) fNil))) [2])) fNil)))))
noncomputable def f_are_rules : FF := body 3 g_are_rules
/-- Plan____init__(self, tops, rules): 0 self, 1 tops, 2 rules -/
noncomputable def g_Plan____init__ (κ : Nat → Addr) : FS :=
  (sSeq (sIf (fNotT (fB (fCall0 1 f_are_tops (fCons (fVar 1) fNil))))
      sBad
      sNil)
    (sSeq (sIf (fNotT (fB (fCall0 2 f_are_rules (fCons (fVar 1) (fCons (fVar 2) fNil)))))
      sBad
      sNil)
    (sAsgH (hTp 2 (hCn (hFld (κ 0) "tops" (fVar 0)) (hCn (hFld (κ 0) "rules" (fVar 0)) hNl))) (fTup (fCons (fVar 1) (fCons (fVar 2) fNil))))))
noncomputable def f_Plan____init__ (κ : Nat → Addr) : FF := body 3 (g_Plan____init__ κ)
/-- law(_law_script): 0 _law_script, 1 _law_k, 2 _law_pot_here, 3 _law_tops, 4 _law_one, 5 _law_two, 6 _law_rules_here, 7 _law_more, 8 _law_plan, 9 _law_some, 10 _law_turn, 11 _law_standing_here -/
noncomputable def g_law (κ : Nat → Addr) : FS :=
  (sSeq (sFor (fRng1 (fCons (fCB (gI2 max2) (fCons (fC (.int 1)) (fCons (fCB (gI2 min2) (fCons (fC (.int 3)) (fCons (fCB gLen (fCons (fVar 0) fNil)) fNil))) fNil))) fNil)) (gNm 1)
      (sSeq (sSet 2 (fNew (fCallN 2 fn__law_pot (fCons (fVar 0) (fCons (fVar 1) fNil)))))
      (sSeq (sSet 3 (fCall0 1 f__law_wide_tops (fCons (fVar 2) fNil)))
      (sSeq (sPar 4 5 (fCons (fCall0 2 f__law_standing (fCons (fVar 2) (fCons (fVar 3) fNil))) (fCons (fCall0 2 f__law_standing (fCons (fVar 2) (fCons (fVar 3) fNil))) fNil)))
      (sSeq (sSet 6 (fCall0 5 f__law_rules (fCons (fVar 2) (fCons (fVar 3) (fCons (fVar 4) (fCons (fVar 5) (fCons (fCall0 2 f__law_take (fCons (fVar 2) (fCons (fC (.int 17)) fNil))) fNil)))))))
      (sSeq (sSetN 7 (fLc (fRng1 (fCons (fCall0 2 f__law_take (fCons (fVar 2) (fCons (fC (.int 5)) fNil))) fNil)) (gNm 10) tYesF (fTup (fCons (fCall0 2 f__law_any_side (fCons (fVar 2) (fCons (fVar 3) fNil))) (fCons (fCall0 2 f__law_any_side (fCons (fVar 2) (fCons (fVar 3) fNil))) fNil))) [10]) false)
      (sSeq (sIf (fOrT (fB (fOp gNe (fCall0 2 (f_broken κ) (fCons (fMake (κ 0) 3 (withD (f_Plan____init__ κ) []) (fCons (fVar 3) (fCons (fVar 6) fNil))) (fCons (fVar 4) fNil))) (fTup fNil))) (fNotT (fB (fCall0 2 (f_is_good κ) (fCons (fMake (κ 0) 3 (withD (f_Plan____init__ κ) []) (fCons (fVar 3) (fCons (fVar 6) fNil))) (fCons (fVar 5) fNil))))))
        (sRet (fC (.bl false)))
        sNil)
      (sSeq (sPar 8 9 (fCons (fMake (κ 0) 3 (withD (f_Plan____init__ κ) []) (fCons (fVar 3) (fCons (fOp gAdd (fVar 6) (fCB gTuple (fCons (fVar 7) fNil))) fNil))) (fCons (fNew (fLst (fCons (fVar 4) (fCons (fVar 5) (fCons (fCall0 2 f__law_standing (fCons (fVar 2) (fCons (fVar 3) fNil))) (fCons (fCall0 2 f__law_standing (fCons (fVar 2) (fCons (fVar 3) fNil))) fNil)))))) fNil)))
      (sSeq (sFor (fRng1 (fCons (fOp gMul (fC (.int 6)) (fCB gInt (fCons (fOp gNe (fFld (κ 0) "rules" (fVar 8)) (fTup fNil)) fNil))) fNil)) (gNm 10)
        (sApp (fVar 9) (fCall0 4 f__law_at_sides (fCons (fVar 2) (fCons (fVar 3) (fCons (fCall0 2 f__law_of (fCons (fVar 2) (fCons (fFro (fSlN gSlL (fVar 9) oNone (oSome (fC (.int 4))))) fNil))) (fCons (fCall0 2 f__law_of (fCons (fVar 2) (fCons (fFld (κ 0) "rules" (fVar 8)) fNil))) fNil)))))))
      (sIf (fNotT (fB (fCB gAll (fCons (fFro (fLc (fSeqI (fVar 9)) (gNm 11) tYesF (fCall0 2 (f__law_right κ) (fCons (fVar 8) (fCons (fVar 11) fNil))) [11])) fNil))))
        (sRet (fC (.bl false)))
        sNil))))))))))
    (sRet (fC (.bl true))))
noncomputable def f_law (κ : Nat → Addr) : FF := body 12 (g_law κ)
end K03

namespace K03
open PySem PySem.Spec PyProof.Rows L2 S9
theorem take_eq : f__law_take = f_take0 := rfl
theorem of_eq : f__law_of = f_of0 := rfl
theorem standing_eq : f__law_standing = f_standing0 := rfl
theorem tops_eq : f__law_wide_tops = f_tops0 := rfl
theorem pot_eq : fn__law_pot = fn_pot0 := rfl
theorem in_eq : f_is_in = f_is_in0 := rfl
theorem in_eq2 : f__law_is_in = f_is_in0 := rfl
theorem init_eq : f_Plan____init__ = f_Plan____init__0 := rfl
theorem broken_eq : f_broken = f_broken0 := rfl
theorem good_eq : f_is_good = f_is_good0 := rfl
theorem topok_small {t : Int} (h : TopOk t) : 0 ≤ t ∧ t < 2 ^ 200 := by unfold TopOk at h; omega
theorem within_get {tops s : List Int} (h : Within tops s) {i : Nat} {t : Int} (ht : tops[i]? = some t) : ∃ a, s[i]? = some a ∧ 0 ≤ a ∧ a ≤ t := by
  have hi := (List.getElem?_eq_some_iff.mp ht).1
  have hs : i < s.length := by rw [h.1]; exact hi
  exact ⟨s[i], List.getElem?_eq_getElem hs, h.2 i _ t (List.getElem?_eq_getElem hs) ht⟩
theorem getD_some {s : List Int} {i : Nat} {a : Int} (h : s[i]? = some a) : s.getD i 0 = a := by simp [h]
section
variable {M0 M ext : Sto} {k c : Nat}
/-- a side in which the standing lies -/
theorem side_in_adv {tops st : List Int} (h : Adv M0 k c ext M) (hk : k < M0.length) (hc : c ≤ 100000) (ht : ∀ t ∈ tops, TopOk t) (hl : 1 ≤ tops.length) (hl2 : tops.length ≤ 12) (hw : Within tops st) :
    ∃ (s : Side) (M' : Sto), f__law_side_in [.loc k, .d (tupI tops), .d (tupI st)] M = .ok (.d (sideD s)) M' ∧ Adv M0 k (c + 3) ext M' ∧ SideOk tops s ∧ isIn s st = true := by
  unfold f__law_side_in body g__law_side_in
  obtain ⟨x, M1, e1, a1, x0, x1⟩ := take_adv (many := (tops.length : Int)) h hk (by omega) (by omega) (Int.lt_of_le_of_lt (show (tops.length : Int) ≤ 12 by omega) (by decide))
  obtain ⟨th, rfl⟩ : ∃ th : Nat, x = (th : Int) := ⟨x.toNat, by omega⟩
  have hth : th < tops.length := by omega
  obtain ⟨t, htt⟩ : ∃ t, tops[th]? = some t := ⟨_, List.getElem?_eq_getElem hth⟩
  obtain ⟨a, haa, a0, at_⟩ := within_get hw htt
  have tok := ht t (List.mem_of_getElem? htt)
  unfold TopOk at tok
  have hlen : gLen [tupI tops] = some (.int (tops.length : Int)) := by rw [gLen_tup, List.length_map]
  have ix1 : gIx (tupI tops) (.int (th : Int)) = some (.int t) := ix_nat (by rw [List.getElem?_map, htt]; rfl)
  have ix2 : gIx (tupI st) (.int (th : Int)) = some (.int a) := ix_nat (by rw [List.getElem?_map, haa]; rfl)
  obtain ⟨y, M2, e2, a2, y0, y1⟩ := take_adv (many := 2) a1 hk (by omega) (by decide) (by decide)
  rw [take_eq]
  show ∃ s M', fin M.length (sSeq _ _ [some (.loc k), some (.d (tupI tops)), some (.d (tupI st)), none] M) = _ ∧ _
  by_cases hy : y = 0
  · obtain ⟨z, M3, e3, a3, z0, z1⟩ := take_adv (many := a + 1) a2 hk (by omega) (by omega) (Int.lt_of_le_of_lt (show a + 1 ≤ 2 ^ 200 by omega) (by decide))
    refine ⟨(th, true, z), M3, ?_, a3.mono (by omega), ⟨t, htt, z0, show z ≤ t by omega⟩, ?_⟩
    · have hd : decide (y = 0) = true := decide_eq_true hy
      simp only [sSeq, sSet, sRet, sIf, sFor, sNil, sPar, sApp, fB, fOrT, fAndT, fNotT, fAnd, fOr, fNot, fIf, fOp, f2, fC, fVar, fCB, fCN, fCons, fNil, fFro, fNew, fLst, fTup, frs9, fCall0, fCallN, fOpN, fUn, fSl, fSlN, oNone, oSome, intW, fSeqI, List.getElem?_cons_zero, List.getElem?_cons_succ, S9.R.bind_ok, S9.R.noEx_ok, rds, rd_d, fr_d, itW_t, itW_l, Option.bind_some, Option.map_some, S9.R.of_some, List.set_cons_zero, List.set_cons_succ, List.length_cons, List.length_nil, Nat.zero_add, Nat.reduceAdd, Nat.reduceLeDiff, if_true, S9.R.thenS, tru_bl, gSub_int, gAdd_int, gEq_int, gNe_int, gEq_bl, gNe_bl, gEq_str, gNe_str, gLt_int, gLe_int, gGt_int, gGe_int, List.nil_append, List.append_nil, decide_true, decide_false, Bool.not_true, Bool.not_false, hlen, e1, e2, hd, ix2, e3]
      exact fin_d (by rw [a3.len, h.len]; exact Nat.le_refl _)
    · show decide (z ≤ st.getD th 0) = true
      rw [getD_some haa]
      exact decide_eq_true (by omega)
  · obtain ⟨z, M3, e3, a3, z0, z1⟩ := take_adv (many := t - a + 1) a2 hk (by omega) (by omega) (Int.lt_of_le_of_lt (show t - a + 1 ≤ 2 ^ 200 by omega) (by decide))
    refine ⟨(th, false, a + z), M3, ?_, a3.mono (by omega), ⟨t, htt, show 0 ≤ a + z by omega, show a + z ≤ t by omega⟩, ?_⟩
    · have hd : decide (y = 0) = false := decide_eq_false hy
      simp only [sSeq, sSet, sRet, sIf, sFor, sNil, sPar, sApp, fB, fOrT, fAndT, fNotT, fAnd, fOr, fNot, fIf, fOp, f2, fC, fVar, fCB, fCN, fCons, fNil, fFro, fNew, fLst, fTup, frs9, fCall0, fCallN, fOpN, fUn, fSl, fSlN, oNone, oSome, intW, fSeqI, List.getElem?_cons_zero, List.getElem?_cons_succ, S9.R.bind_ok, S9.R.noEx_ok, rds, rd_d, fr_d, itW_t, itW_l, Option.bind_some, Option.map_some, S9.R.of_some, List.set_cons_zero, List.set_cons_succ, List.length_cons, List.length_nil, Nat.zero_add, Nat.reduceAdd, Nat.reduceLeDiff, if_true, S9.R.thenS, tru_bl, gSub_int, gAdd_int, gEq_int, gNe_int, gEq_bl, gNe_bl, gEq_str, gNe_str, gLt_int, gLe_int, gGt_int, gGe_int, List.nil_append, List.append_nil, decide_true, decide_false, Bool.not_true, Bool.not_false, hlen, e1, e2, hd, ix1, ix2, e3]
      exact fin_d (by rw [a3.len, h.len]; exact Nat.le_refl _)
    · show decide (st.getD th 0 ≤ a + z) = true
      rw [getD_some haa]
      exact decide_eq_true (by omega)
theorem any_side_adv {tops : List Int} (h : Adv M0 k c ext M) (hk : k < M0.length) (hc : c ≤ 100000) (ht : ∀ t ∈ tops, TopOk t) (hl : 1 ≤ tops.length) (hl2 : tops.length ≤ 12) :
    ∃ (s : Side) (M' : Sto), f__law_any_side [.loc k, .d (tupI tops)] M = .ok (.d (sideD s)) M' ∧ Adv M0 k (c + 3) ext M' ∧ SideOk tops s := by
  unfold f__law_any_side body g__law_any_side
  obtain ⟨x, M1, e1, a1, x0, x1⟩ := take_adv (many := (tops.length : Int)) h hk (by omega) (by omega) (Int.lt_of_le_of_lt (show (tops.length : Int) ≤ 12 by omega) (by decide))
  obtain ⟨th, rfl⟩ : ∃ th : Nat, x = (th : Int) := ⟨x.toNat, by omega⟩
  have hth : th < tops.length := by omega
  obtain ⟨t, htt⟩ : ∃ t, tops[th]? = some t := ⟨_, List.getElem?_eq_getElem hth⟩
  have tok := ht t (List.mem_of_getElem? htt)
  unfold TopOk at tok
  have hlen : gLen [tupI tops] = some (.int (tops.length : Int)) := by rw [gLen_tup, List.length_map]
  have ix1 : gIx (tupI tops) (.int (th : Int)) = some (.int t) := ix_nat (by rw [List.getElem?_map, htt]; rfl)
  obtain ⟨w, M2, e2, a2, hw⟩ := of_adv (l := [.str "from", .str "to"]) a1 hk (by omega) (by simp) (by simp)
  obtain ⟨b, rfl⟩ : ∃ b, w = .str (wordOf b) := by
    rcases List.mem_cons.mp hw with e | hw
    · exact ⟨true, e⟩
    · exact ⟨false, List.mem_singleton.mp hw⟩
  obtain ⟨z, M3, e3, a3, z0, z1⟩ := take_adv (many := t + 1) a2 hk (by omega) (by omega) (Int.lt_of_le_of_lt (show t + 1 ≤ 2 ^ 200 by omega) (by decide))
  rw [take_eq, of_eq]
  refine ⟨(th, b, z), M3, ?_, a3.mono (by omega), ⟨t, htt, z0, show z ≤ t by omega⟩⟩
  show fin M.length (sSeq _ _ [some (.loc k), some (.d (tupI tops)), none] M) = _
  simp only [sSeq, sSet, sRet, sIf, sFor, sNil, sPar, sApp, fB, fOrT, fAndT, fNotT, fAnd, fOr, fNot, fIf, fOp, f2, fC, fVar, fCB, fCN, fCons, fNil, fFro, fNew, fLst, fTup, frs9, fCall0, fCallN, fOpN, fUn, fSl, fSlN, oNone, oSome, intW, fSeqI, List.getElem?_cons_zero, List.getElem?_cons_succ, S9.R.bind_ok, S9.R.noEx_ok, rds, rd_d, fr_d, itW_t, itW_l, Option.bind_some, Option.map_some, S9.R.of_some, List.set_cons_zero, List.set_cons_succ, List.length_cons, List.length_nil, Nat.zero_add, Nat.reduceAdd, Nat.reduceLeDiff, if_true, S9.R.thenS, tru_bl, gSub_int, gAdd_int, gEq_int, gNe_int, gEq_bl, gNe_bl, gEq_str, gNe_str, gLt_int, gLe_int, gGt_int, gGe_int, List.nil_append, List.append_nil, decide_true, decide_false, Bool.not_true, Bool.not_false, hlen, e1, e2, ix1, e3]
  exact fin_d (by rw [a3.len, h.len]; exact Nat.le_refl _)
end
/-- kept by both -/
def Kept2 (one two : List Int) (r : Rule) : Prop := (isIn r.1 one = true ∧ isIn r.2 two = true) ∨ (isIn r.2 one = true ∧ isIn r.1 two = true)
theorem rules_adv {M0 M : Sto} {k c : Nat} {tops one two : List Int} {m : Nat} (h : Adv M0 k c [] M) (hf : Flat M0) (hk : k < M0.length) (hc : c ≤ 1000) (ht : ∀ t ∈ tops, TopOk t) (hl : 1 ≤ tops.length) (hl2 : tops.length ≤ 12) (h1 : Within tops one) (h2 : Within tops two) (hm : m ≤ 16) :
    ∃ (R : List Rule) (M' : Sto), f__law_rules [.loc k, .d (tupI tops), .d (tupI one), .d (tupI two), .d (.int (m : Int))] M = .ok (.d (rulesD R)) M' ∧ Adv M0 k (c + 200) [] M' ∧ R.length = m ∧ (∀ r ∈ R, RuleOk tops r) ∧ ∀ r ∈ R, Kept2 one two r := by
  unfold f__law_rules body g__law_rules
  have hn : M.length = M0.length := by rw [h.len]; rfl
  have h0 : Adv M0 k c [.lst []] (M ++ [.lst []]) := by have := h.more (x := [.lst []]); rwa [List.nil_append] at this
  obtain ⟨fb, hfb⟩ : ∃ fb : FS, fb = (sSeq (sSet 7 (fTup (fCons (fCall0 3 f__law_side_in (fCons (fVar 0) (fCons (fVar 1) (fCons (fVar 2) fNil)))) (fCons (fCall0 3 f__law_side_in (fCons (fVar 0) (fCons (fVar 1) (fCons (fVar 3) fNil)))) fNil))))
      (sApp (fVar 5) (fIf (fB (fOp gEq (fCall0 2 f__law_take (fCons (fVar 0) (fCons (fC (.int 2)) fNil))) (fC (.int 0)))) (fOp revD (fVar 7) (fUn gNeg (fC (.int 1)))) (fVar 7)))) := ⟨_, rfl⟩
  obtain ⟨δ', M', e2, R, a2, l2, s2, k2, u, v, hδ⟩ := for_inv (lk := []) (M0 := M ++ [.lst []]) (g := gNm 6) (fb := fb) (fun i δ M => ∃ R : List Rule, Adv M0 k (c + 8 * i) [.lst (R.map ruleD)] M ∧ R.length = i ∧ (∀ r ∈ R, RuleOk tops r) ∧ (∀ r ∈ R, Kept2 one two r) ∧ ∃ u v, δ = [some (.loc k), some (.d (tupI tops)), some (.d (tupI one)), some (.d (tupI two)), some (.d (.int (m : Int))), some (.loc M0.length), u, v]) (rgD 0 m) 0 (δ := [some (.loc k), some (.d (tupI tops)), some (.d (tupI one)), some (.d (tupI two)), some (.d (.int (m : Int))), some (.loc M0.length), none, none]) (M := M ++ [.lst []]) (fun i d δ M hd ⟨R, ha, hl', hR, hK, u, v, hδ⟩ => by
    subst hδ
    obtain ⟨rfl, hi⟩ := rgD_get hd
    rw [Nat.zero_add] at ha hl'
    obtain ⟨s1, M2, g1, b1, c1, d1⟩ := side_in_adv ha hk (by omega) ht hl hl2 h1
    obtain ⟨s2, M3, g2, b2, c2, d2⟩ := side_in_adv b1 hk (by omega) ht hl hl2 h2
    obtain ⟨y, M4, g3, b3, y0, y1⟩ := take_adv (many := 2) b2 hk (by omega) (by decide) (by decide)
    have fr2 : frs9 [W.d (sideD s1), W.d (sideD s2)] = some [sideD s1, sideD s2] := rfl
    have hset : sSet 7 (fTup (fCons (fCall0 3 f__law_side_in (fCons (fVar 0) (fCons (fVar 1) (fCons (fVar 2) fNil)))) (fCons (fCall0 3 f__law_side_in (fCons (fVar 0) (fCons (fVar 1) (fCons (fVar 3) fNil)))) fNil)))
        [some (.loc k), some (.d (tupI tops)), some (.d (tupI one)), some (.d (tupI two)), some (.d (.int (m : Int))), some (.loc M0.length), some (.d (.int (0 + (i : Int)))), v] M
        = .ok (.nx [some (.loc k), some (.d (tupI tops)), some (.d (tupI one)), some (.d (tupI two)), some (.d (.int (m : Int))), some (.loc M0.length), some (.d (.int (0 + (i : Int)))), some (.d (ruleD (s1, s2)))]) M3 := by
      simp only [sSeq, sSet, sRet, sIf, sFor, sNil, sPar, sApp, fB, fOrT, fAndT, fNotT, fAnd, fOr, fNot, fIf, fOp, f2, fC, fVar, fCB, fCN, fCons, fNil, fFro, fNew, fLst, fTup, frs9, fCall0, fCallN, fOpN, fUn, fSl, fSlN, oNone, oSome, intW, fSeqI, List.getElem?_cons_zero, List.getElem?_cons_succ, S9.R.bind_ok, S9.R.noEx_ok, rds, rd_d, fr_d, itW_t, itW_l, Option.bind_some, Option.map_some, S9.R.of_some, List.set_cons_zero, List.set_cons_succ, List.length_cons, List.length_nil, Nat.zero_add, Nat.reduceAdd, Nat.reduceLeDiff, if_true, S9.R.thenS, tru_bl, gSub_int, gAdd_int, gEq_int, gNe_int, gEq_bl, gNe_bl, gEq_str, gNe_str, gLt_int, gLe_int, gGt_int, gGe_int, List.nil_append, List.append_nil, decide_true, decide_false, Bool.not_true, Bool.not_false, g1, g2]
      rfl
    obtain ⟨r, hr1, hr2, hr3⟩ : ∃ r : Rule, fIf (fB (fOp gEq (fCall0 2 f__law_take (fCons (fVar 0) (fCons (fC (.int 2)) fNil))) (fC (.int 0)))) (fOp revD (fVar 7) (fUn gNeg (fC (.int 1)))) (fVar 7)
        [some (.loc k), some (.d (tupI tops)), some (.d (tupI one)), some (.d (tupI two)), some (.d (.int (m : Int))), some (.loc M0.length), some (.d (.int (0 + (i : Int)))), some (.d (ruleD (s1, s2)))] M3 = .ok (.d (ruleD r)) M4 ∧ RuleOk tops r ∧ Kept2 one two r := by
      rw [take_eq]
      by_cases hy : y = 0
      · refine ⟨(s2, s1), ?_, ⟨c2, c1⟩, .inr ⟨d1, d2⟩⟩
        have hd : decide (y = 0) = true := decide_eq_true hy
        have hn1 : gNeg (.int 1) = some (.int (-1)) := rfl
        have hrev : revD (ruleD (s1, s2)) (.int (-1)) = some (ruleD (s2, s1)) := rfl
        simp only [sSeq, sSet, sRet, sIf, sFor, sNil, sPar, sApp, fB, fOrT, fAndT, fNotT, fAnd, fOr, fNot, fIf, fOp, f2, fC, fVar, fCB, fCN, fCons, fNil, fFro, fNew, fLst, fTup, frs9, fCall0, fCallN, fOpN, fUn, fSl, fSlN, oNone, oSome, intW, fSeqI, List.getElem?_cons_zero, List.getElem?_cons_succ, S9.R.bind_ok, S9.R.noEx_ok, rds, rd_d, fr_d, itW_t, itW_l, Option.bind_some, Option.map_some, S9.R.of_some, List.set_cons_zero, List.set_cons_succ, List.length_cons, List.length_nil, Nat.zero_add, Nat.reduceAdd, Nat.reduceLeDiff, if_true, S9.R.thenS, tru_bl, gSub_int, gAdd_int, gEq_int, gNe_int, gEq_bl, gNe_bl, gEq_str, gNe_str, gLt_int, gLe_int, gGt_int, gGe_int, List.nil_append, List.append_nil, decide_true, decide_false, Bool.not_true, Bool.not_false, g3, hd, hn1, hrev]
      · refine ⟨(s1, s2), ?_, ⟨c1, c2⟩, .inl ⟨d1, d2⟩⟩
        have hd : decide (y = 0) = false := decide_eq_false hy
        simp only [sSeq, sSet, sRet, sIf, sFor, sNil, sPar, sApp, fB, fOrT, fAndT, fNotT, fAnd, fOr, fNot, fIf, fOp, f2, fC, fVar, fCB, fCN, fCons, fNil, fFro, fNew, fLst, fTup, frs9, fCall0, fCallN, fOpN, fUn, fSl, fSlN, oNone, oSome, intW, fSeqI, List.getElem?_cons_zero, List.getElem?_cons_succ, S9.R.bind_ok, S9.R.noEx_ok, rds, rd_d, fr_d, itW_t, itW_l, Option.bind_some, Option.map_some, S9.R.of_some, List.set_cons_zero, List.set_cons_succ, List.length_cons, List.length_nil, Nat.zero_add, Nat.reduceAdd, Nat.reduceLeDiff, if_true, S9.R.thenS, tru_bl, gSub_int, gAdd_int, gEq_int, gNe_int, gEq_bl, gNe_bl, gEq_str, gNe_str, gLt_int, gLe_int, gGt_int, gGe_int, List.nil_append, List.append_nil, decide_true, decide_false, Bool.not_true, Bool.not_false, g3, hd]
    have happ := v_app (fo := fVar 5) (δ := [some (.loc k), some (.d (tupI tops)), some (.d (tupI one)), some (.d (tupI two)), some (.d (.int (m : Int))), some (.loc M0.length), some (.d (.int (0 + (i : Int)))), some (.d (ruleD (s1, s2)))]) (M := M3) (n := M0.length) rfl b2.ext1 (x := ruleD r) hr1 b3.ext1 (by rw [List.length_map, hl']; omega)
    refine ⟨[some (.loc k), some (.d (tupI tops)), some (.d (tupI one)), some (.d (tupI two)), some (.d (.int (m : Int))), some (.loc M0.length), some (.d (.int (0 + (i : Int)))), v], [some (.loc k), some (.d (tupI tops)), some (.d (tupI one)), some (.d (tupI two)), some (.d (.int (m : Int))), some (.loc M0.length), some (.d (.int (0 + (i : Int)))), some (.d (ruleD (s1, s2)))], M4.set M0.length (.lst (R.map ruleD ++ [ruleD r])), rfl, .inl ?_, lkOk_nil, R ++ [r], ?_, by rw [List.length_append, hl', List.length_singleton, Nat.zero_add], ?_, ?_, _, _, rfl⟩
    · rw [hfb]
      show (sSet 7 _ [some (.loc k), some (.d (tupI tops)), some (.d (tupI one)), some (.d (tupI two)), some (.d (.int (m : Int))), some (.loc M0.length), some (.d (.int (0 + (i : Int)))), v] M).thenS _ = _
      rw [hset]
      exact happ
    · have := b3.put1 (e := .lst ((R ++ [r]).map ruleD))
      rw [List.map_append] at this ⊢
      exact this.mono (by omega)
    · intro z hz
      rcases List.mem_append.mp hz with h | h
      · exact hR z h
      · rw [List.mem_singleton.mp h]; exact hr2
    · intro z hz
      rcases List.mem_append.mp hz with h | h
      · exact hK z h
      · rw [List.mem_singleton.mp h]; exact hr3) ⟨[], by simpa using h0, rfl, fun z hz => by simp at hz, fun z hz => by simp at hz, _, _, rfl⟩
  rw [rgD_len, Nat.zero_add] at a2 l2
  obtain ⟨M5, e5, a5⟩ := a2.fin (x := .tup (R.map ruleD)) hf hn.symm
  refine ⟨R, M5, ?_, a5.mono (by omega), l2, s2, k2⟩
  subst hδ
  have hr : rngR (0, (m : Int)) (M ++ [.lst []]) = .ok (rgD 0 m, []) (M ++ [.lst []]) := rng_ok (by omega) _
  rw [← hfb]
  show fin M.length (sSeq _ _ [some (.loc k), some (.d (tupI tops)), some (.d (tupI one)), some (.d (tupI two)), some (.d (.int (m : Int))), none, none, none] M) = _
  have hrd : rd M' (.loc M0.length) = some (.lst (R.map ruleD)) := rd_lst a2.ext1
  simp only [sSeq, sSet, sRet, sIf, sFor, sNil, sPar, sApp, fB, fOrT, fAndT, fNotT, fAnd, fOr, fNot, fIf, fOp, f2, fC, fVar, fCB, fCN, fCons, fNil, fFro, fNew, fLst, fTup, frs9, fCall0, fCallN, fOpN, fUn, fSl, fSlN, oNone, oSome, intW, fSeqI, List.getElem?_cons_zero, List.getElem?_cons_succ, S9.R.bind_ok, S9.R.noEx_ok, rds, rd_d, fr_d, itW_t, itW_l, Option.bind_some, Option.map_some, S9.R.of_some, List.set_cons_zero, List.set_cons_succ, List.length_cons, List.length_nil, Nat.zero_add, Nat.reduceAdd, Nat.reduceLeDiff, if_true, S9.R.thenS, tru_bl, gSub_int, gAdd_int, gEq_int, gNe_int, gEq_bl, gNe_bl, gEq_str, gNe_str, gLt_int, gLe_int, gGt_int, gGe_int, List.nil_append, List.append_nil, decide_true, decide_false, Bool.not_true, Bool.not_false, fRng1, hn, rngW1, hr, e2, hrd, gTuple, itsD]
  rw [← hn]
  exact e5
theorem v_seti {fo fi fe : FE} {δ : DEnv} {M M1 : Sto} {n j : Nat} {l : List D} {x : D} (h1 : fe δ M = .ok (.d x) M1) (h2 : fo δ M1 = .ok (.loc n) M1) (h3 : fi δ M1 = .ok (.d (.int (j : Int))) M1) (h4 : M1[n]? = some (.lst l)) (h5 : j < l.length) :
    sSetI fo fi fe δ M = .ok (.nx δ) (M1.set n (.lst (l.set j x))) := by
  have e : ixN l.length (j : Int) = some j := by
    unfold ixN
    rw [if_pos (by omega), if_pos (by omega)]
    simp
  unfold sSetI setC
  simp only [h1, S9.R.bind_ok, h2, h3, fr_d, intW, h4, e]
theorem within_set {tops s : List Int} (h : Within tops s) {i : Nat} {t v : Int} (ht : tops[i]? = some t) (h0 : 0 ≤ v) (h1 : v ≤ t) : Within tops (s.set i v) := by
  refine ⟨by rw [List.length_set]; exact h.1, fun j a u ha hu => ?_⟩
  by_cases e : i = j
  · subst e
    rw [ht] at hu
    cases hu
    have hi : i < s.length := by rw [h.1]; exact (List.getElem?_eq_some_iff.mp ht).1
    rw [List.getElem?_set_self hi] at ha
    cases ha
    exact ⟨h0, h1⟩
  · rw [List.getElem?_set_ne e] at ha
    exact h.2 j a u ha hu
theorem at_sides_adv {M0 M : Sto} {k c : Nat} {tops st : List Int} {r : Rule} {ext : Sto} (h : Adv M0 k c ext M) (hf : Flat M) (hk : k < M0.length) (hc : c ≤ 10000) (ht : ∀ t ∈ tops, TopOk t) (hw : Within tops st) (hr : RuleOk tops r) :
    ∃ (s : List Int) (M' : Sto), f__law_at_sides [.loc k, .d (tupI tops), .d (tupI st), .d (ruleD r)] M = .ok (.d (tupI s)) M' ∧ Adv M0 k (c + 2) ext M' ∧ Within tops s := by
  unfold f__law_at_sides body g__law_at_sides
  obtain ⟨fb, hfb⟩ : ∃ fb : FS, fb = (sSetI (fVar 4) (fVar 5) (fCB (gI2 min2) (fCons (fOp gIx (fVar 1) (fVar 5)) (fCons (fCB (gI2 max2) (fCons (fC (.int 0)) (fCons (fOp gSub (fOp gAdd (fVar 7) (fCall0 2 f__law_take (fCons (fVar 0) (fCons (fC (.int 3)) fNil)))) (fC (.int 1))) fNil))) fNil)))) := ⟨_, rfl⟩
  have hM : M.length = M0.length + ext.length := h.len
  have h0 : Adv M0 k c (ext ++ [.lst (st.map D.int)]) (M ++ [.lst (st.map D.int)]) := h.more
  -- the cell is the last one
  have last : ∀ {c : Nat} {x : Cell} {M' : Sto}, Adv M0 k c (ext ++ [x]) M' → M'[M.length]? = some x := fun {c x M'} ⟨l, e, _⟩ => by
    rw [e, hM, ← List.append_assoc, List.getElem?_append_right (by rw [List.length_append, List.length_set]; exact Nat.le_refl _), List.length_append, List.length_set, Nat.sub_self]
    rfl
  have put : ∀ {c : Nat} {x y : Cell} {M' : Sto}, Adv M0 k c (ext ++ [x]) M' → Adv M0 k c (ext ++ [y]) (M'.set M.length y) := fun {c x y M'} ⟨l, e, p⟩ => by
    refine ⟨l, ?_, p⟩
    rw [e, hM, ← List.append_assoc, ← List.append_assoc, List.set_append_right _ _ (by rw [List.length_append, List.length_set]; exact Nat.le_refl _), List.length_append, List.length_set, Nat.sub_self]
    rfl
  obtain ⟨δ', M', e2, s, a2, w2, u, v, w, hδ⟩ := for_inv (lk := []) (M0 := M ++ [.lst (st.map D.int)]) (g := gTp 3 (gCn (gNm 5) (gCn (gNm 6) (gCn (gNm 7) gNl)))) (fb := fb) (fun i δ M' => ∃ s : List Int, Adv M0 k (c + i) (ext ++ [.lst (s.map D.int)]) M' ∧ Within tops s ∧ ∃ u v w, δ = [some (.loc k), some (.d (tupI tops)), some (.d (tupI st)), some (.d (ruleD r)), some (.loc M.length), u, v, w]) ([r.1, r.2].map sideD) 0 (δ := [some (.loc k), some (.d (tupI tops)), some (.d (tupI st)), some (.d (ruleD r)), some (.loc M.length), none, none, none]) (M := M ++ [.lst (st.map D.int)]) (fun i d δ M' hd ⟨s, ha, hws, u, v, w, hδ⟩ => by
    subst hδ
    rw [List.getElem?_map, Option.map_eq_some_iff] at hd
    obtain ⟨sd, hsd, rfl⟩ := hd
    have hi : i < 2 := (List.getElem?_eq_some_iff.mp hsd).1
    have hok : SideOk tops sd := by
      rcases List.mem_cons.mp (List.mem_of_getElem? hsd) with e | hs
      · rw [e]; exact hr.1
      · rw [List.mem_singleton.mp hs]; exact hr.2
    obtain ⟨th, b, pl⟩ := sd
    obtain ⟨t, htt, p0, p1⟩ := hok
    have htt : tops[th]? = some t := htt
    have tok := ht t (List.mem_of_getElem? htt)
    unfold TopOk at tok
    rw [Nat.zero_add] at ha
    obtain ⟨x, M2, g1, b1, x0, x1⟩ := take_adv (many := 3) ha hk (by omega) (by decide) (by decide)
    have ix1 : gIx (tupI tops) (.int (th : Int)) = some (.int t) := ix_nat (by rw [List.getElem?_map, htt]; rfl)
    have hv : 0 ≤ min2 t (max2 0 (pl + x - 1)) ∧ min2 t (max2 0 (pl + x - 1)) ≤ t := by
      unfold min2 max2
      split <;> split <;> omega
    have hth : th < s.length := by rw [hws.1]; exact (List.getElem?_eq_some_iff.mp htt).1
    have hset := v_seti (fo := fVar 4) (fi := fVar 5) (δ := [some (.loc k), some (.d (tupI tops)), some (.d (tupI st)), some (.d (ruleD r)), some (.loc M.length), some (.d (.int (th : Int))), some (.d (.str (wordOf b))), some (.d (.int pl))]) (M := M') (M1 := M2) (n := M.length) (j := th) (l := s.map D.int) (x := .int (min2 t (max2 0 (pl + x - 1)))) (fe := (fCB (gI2 min2) (fCons (fOp gIx (fVar 1) (fVar 5)) (fCons (fCB (gI2 max2) (fCons (fC (.int 0)) (fCons (fOp gSub (fOp gAdd (fVar 7) (fCall0 2 f__law_take (fCons (fVar 0) (fCons (fC (.int 3)) fNil)))) (fC (.int 1))) fNil))) fNil)))) (by
      rw [take_eq]
      simp only [sSeq, sSet, sRet, sIf, sFor, sNil, sPar, sApp, fB, fOrT, fAndT, fNotT, fAnd, fOr, fNot, fIf, fOp, f2, fC, fVar, fCB, fCN, fCons, fNil, fFro, fNew, fLst, fTup, frs9, fCall0, fCallN, fOpN, fUn, fSl, fSlN, oNone, oSome, intW, fSeqI, List.getElem?_cons_zero, List.getElem?_cons_succ, S9.R.bind_ok, S9.R.noEx_ok, rds, rd_d, fr_d, itW_t, itW_l, Option.bind_some, Option.map_some, S9.R.of_some, List.set_cons_zero, List.set_cons_succ, List.length_cons, List.length_nil, Nat.zero_add, Nat.reduceAdd, Nat.reduceLeDiff, if_true, S9.R.thenS, tru_bl, gSub_int, gAdd_int, gEq_int, gNe_int, gEq_bl, gNe_bl, gEq_str, gNe_str, gLt_int, gLe_int, gGt_int, gGe_int, List.nil_append, List.append_nil, decide_true, decide_false, Bool.not_true, Bool.not_false, ix1, g1, gI2]) rfl rfl (last b1) (by rw [List.length_map]; exact hth)
    refine ⟨[some (.loc k), some (.d (tupI tops)), some (.d (tupI st)), some (.d (ruleD r)), some (.loc M.length), some (.d (.int (th : Int))), some (.d (.str (wordOf b))), some (.d (.int pl))], [some (.loc k), some (.d (tupI tops)), some (.d (tupI st)), some (.d (ruleD r)), some (.loc M.length), some (.d (.int (th : Int))), some (.d (.str (wordOf b))), some (.d (.int pl))], M2.set M.length (.lst ((s.map D.int).set th (.int (min2 t (max2 0 (pl + x - 1)))))), rfl, .inl (by rw [hfb]; exact hset), lkOk_nil, s.set th (min2 t (max2 0 (pl + x - 1))), ?_, within_set hws htt hv.1 hv.2, _, _, _, rfl⟩
    rw [List.map_set]
    exact (put b1).mono (by omega)) ⟨st, by simpa using h0, hw, _, _, _, rfl⟩
  subst hδ
  have hl2 : ([r.1, r.2].map sideD).length = 2 := rfl
  rw [hl2, Nat.zero_add] at a2
  obtain ⟨l, hMl, hpot⟩ := a2
  rw [← List.append_assoc] at hMl
  have hfl : Flat (M0.set k (.lst l) ++ ext) := by
    obtain ⟨l', e', _⟩ := h
    intro cc hcc
    rcases List.mem_append.mp hcc with q | q
    · have : Flat M0 ∨ True := .inr trivial
      rcases List.mem_or_eq_of_mem_set q with q | q
      · by_cases hq : ∃ j, j ≠ k ∧ M0[j]? = some cc
        · obtain ⟨j, hj, hjc⟩ := hq
          refine hf cc ?_
          rw [e']
          exact List.mem_append_left _ (List.mem_of_getElem? (i := j) (by rw [List.getElem?_set_ne (Ne.symm hj)]; exact hjc))
        · -- then it stands at k alone: it has been written over
          obtain ⟨j, hj, hjc⟩ := List.getElem_of_mem q
          have : j = k := by
            by_cases hjk : j = k
            · exact hjk
            · exact absurd ⟨j, hjk, by rw [List.getElem?_eq_getElem hj, hjc]⟩ hq
          obtain ⟨i, hi, hic⟩ := List.getElem_of_mem hcc
          by_cases hik : i = k
          · subst hik
            have : (M0.set i (.lst l) ++ ext)[i]? = some (.lst l) := by rw [List.getElem?_append_left (by rw [List.length_set]; exact hk), List.getElem?_set_self hk]
            rw [List.getElem?_eq_getElem hi, hic] at this
            exact ⟨l, Option.some.inj this⟩
          · by_cases hi2 : i < M0.length
            · refine absurd ⟨i, hik, ?_⟩ hq
              have : (M0.set k (.lst l) ++ ext)[i]? = M0[i]? := by rw [List.getElem?_append_left (by rw [List.length_set]; exact hi2), List.getElem?_set_ne (Ne.symm hik)]
              rw [← this, List.getElem?_eq_getElem hi, hic]
            · refine hf cc ?_
              rw [e']
              have : (M0.set k (.lst l) ++ ext)[i]? = (M0.set k (.lst l') ++ ext)[i]? := by
                rw [List.getElem?_append_right (by rw [List.length_set]; omega), List.getElem?_append_right (by rw [List.length_set]; omega), List.length_set, List.length_set]
              exact List.mem_of_getElem? (i := i) (by rw [← this, List.getElem?_eq_getElem hi, hic])
      · exact ⟨l, q⟩
    · exact hf cc (by rw [e']; exact List.mem_append_right _ q)
  have e5 : S9.fin M.length (.ok (.rt (.d (tupI s))) M') = .ok (.d (tupI s)) (M0.set k (.lst l) ++ ext) := by
    rw [hMl]
    exact fin_ext hfl (by rw [List.length_append, List.length_set, hM])
  refine ⟨s, _, ?_, ⟨l, rfl, hpot⟩, w2⟩
  rw [← hfb]
  show fin M.length (sSeq _ _ [some (.loc k), some (.d (tupI tops)), some (.d (tupI st)), some (.d (ruleD r)), none, none, none, none] M) = _
  have gl : gList [tupI st] = some (st.map D.int) := rfl
  have hit : itemsW (M ++ [.lst (st.map D.int)]) (.d (ruleD r)) = some ([r.1, r.2].map sideD, []) := rfl
  have hrd : rd M' (.loc M.length) = some (.lst (s.map D.int)) := rd_lst (by rw [hMl, List.getElem?_append_right (by rw [List.length_append, List.length_set]; omega), List.length_append, List.length_set, hM, Nat.sub_self]; rfl)
  simp only [sSeq, sSet, sRet, sIf, sFor, sNil, sPar, sApp, fB, fOrT, fAndT, fNotT, fAnd, fOr, fNot, fIf, fOp, f2, fC, fVar, fCB, fCN, fCons, fNil, fFro, fNew, fLst, fTup, frs9, fCall0, fCallN, fOpN, fUn, fSl, fSlN, oNone, oSome, intW, fSeqI, List.getElem?_cons_zero, List.getElem?_cons_succ, S9.R.bind_ok, S9.R.noEx_ok, rds, rd_d, fr_d, itW_t, itW_l, Option.bind_some, Option.map_some, S9.R.of_some, List.set_cons_zero, List.set_cons_succ, List.length_cons, List.length_nil, Nat.zero_add, Nat.reduceAdd, Nat.reduceLeDiff, if_true, S9.R.thenS, tru_bl, gSub_int, gAdd_int, gEq_int, gNe_int, gEq_bl, gNe_bl, gEq_str, gNe_str, gLt_int, gLe_int, gGt_int, gGe_int, List.nil_append, List.append_nil, decide_true, decide_false, Bool.not_true, Bool.not_false, gl, hit, e2, hrd, gTuple, itsD]
  exact e5
/-! ### the law's own look -/
theorem brokenL_snoc (R : List Rule) (st : List Int) {i : Nat} {r : Rule} (h : R[i]? = some r) : brokenL (R.take (i + 1)) st = brokenL (R.take i) st ++ if isBad r st then [(i : Int)] else [] := by
  have hi := (List.getElem?_eq_some_iff.mp h).1
  unfold brokenL
  rw [List.take_add_one, h, List.zipIdx_append, List.filter_append, List.map_append]
  congr 1
  have hl : (R.take i).length = i := by rw [List.length_take]; omega
  rw [hl]
  show ((List.zipIdx [r] (0 + i)).filter _).map _ = _
  simp only [List.zipIdx_cons, List.zipIdx_nil, List.filter_cons, List.filter_nil, Nat.zero_add]
  cases isBad r st <;> rfl
theorem brokenL_nil (R : List Rule) (st : List Int) : (brokenL R st = []) ↔ (R.all fun r => !isBad r st) = true := by
  unfold brokenL
  rw [List.map_eq_nil_iff, List.filter_eq_nil_iff, List.all_eq_true]
  constructor
  · intro h r hr
    obtain ⟨i, hi, e⟩ := List.getElem_of_mem hr
    have := h (r, i) (List.mem_zipIdx_iff_getElem?.mpr (by rw [List.getElem?_eq_getElem hi, e]))
    simpa using this
  · intro h p hp
    obtain ⟨r, i⟩ := p
    have := h r (List.mem_of_getElem? (List.mem_zipIdx_iff_getElem?.mp hp))
    simpa using this
theorem brokenL_small (R : List Rule) (st : List Int) (hl : R.length ≤ 40) : (brokenL R st).length ≤ 40 ∧ ∀ x ∈ brokenL R st, 0 ≤ x ∧ x < 40 := by
  unfold brokenL
  refine ⟨?_, fun x hx => ?_⟩
  · rw [List.length_map]
    refine Nat.le_trans (List.length_filter_le _ _) ?_
    rw [List.length_zipIdx]
    exact hl
  · obtain ⟨p, hp, rfl⟩ := List.mem_map.mp hx
    have := List.mem_zipIdx_iff_getElem?.mp (List.mem_filter.mp hp).1
    have := (List.getElem?_eq_some_iff.mp this).1
    omega
theorem gEq_lstI (a b : List Int) : gEq (lstI a) (lstI b) = some (.bl (decide (a = b))) := by
  have e : eqS (lstI a) (lstI b) = none := rfl
  have sh : ∀ a : List Int, SeqAt.shaped (.list (a.map PyData.int)) = true := fun a => by simp [SeqAt.shaped, PyData.canLay0, canLay_ints, PyData.depth, depth_ints]
  simp only [gEq, eqD, e, Option.orElse_none, eqP, toP_lstI, Option.bind_some, sh, and_self, if_true, Option.map_some, PyData.eqv, eqvAll_ints]
theorem repr_told {l : List Int} {b : Bool} (h1 : l.length ≤ 40) (h2 : ∀ x ∈ l, 0 ≤ x ∧ x < 40) : gRepr [.lst [tupI l, .bl b]] = some (.str (PyData.shown (.list [.tuple (l.map PyData.int), .bool b]))) :=
  gRepr_of (B := 30000) (k := 2) (by simp only [D.toP, D.toPs, toPs_ints, Option.bind_some, Option.map_some]) ((shw_list (B := 12123) (k := 1) fun p hp => by
    rcases List.mem_cons.mp hp with e | hp
    · rw [e]
      refine (shw_tup (B := 301) (k := 0) fun q hq => ?_).mono ?_ (Nat.le_refl _)
      · obtain ⟨x, hx, rfl⟩ := List.mem_map.mp hq
        have := h2 x hx
        exact shw_small (by omega) (by omega)
      · rw [List.length_map]; omega
    · rw [List.mem_singleton.mp hp]
      exact shw_bl.mono (by decide) (by decide)).mono (by simp) (Nat.le_refl _)) (by decide) (by decide)
theorem repr_bl (b : Bool) : gRepr [.bl b] = some (.str (PyData.shown (.bool b))) := gRepr_of (by simp only [D.toP]) shw_bl (by decide) (by decide)
theorem right_spec (κ : Nat → Addr) (tops : List Int) (R : List Rule) (st : List Int) (hR : RulesIn st.length R) (hl : R.length ≤ 40) {M : Sto} (hf : Flat M) : f__law_right κ [.d (planD κ tops R), .d (tupI st)] M = .ok (.d (.bl true)) M := by
  unfold f__law_right body g__law_right
  obtain ⟨f1, hf1⟩ : ∃ f1 : FS, f1 = (sIf (fB (fOp gNe (fCB gRepr (fCons (fCall0 2 f_is_in (fCons (fVar 3) (fCons (fVar 1) fNil))) fNil)) (fCB gRepr (fCons (fCall0 2 f__law_is_in (fCons (fVar 3) (fCons (fVar 1) fNil))) fNil))))
          (sRet (fC (.bl false)))
          sNil) := ⟨_, rfl⟩
  obtain ⟨f2', hf2⟩ : ∃ f2' : FS, f2' = sFor (fSeqI (fVar 2)) (gNm 3) f1 := ⟨_, rfl⟩
  obtain ⟨f3, hf3⟩ : ∃ f3 : FS, f3 = (sIf (fAndT (fNotT (fB (fCall0 2 f__law_is_in (fCons (fVar 6) (fCons (fVar 1) fNil))))) (fNotT (fB (fCall0 2 f__law_is_in (fCons (fVar 7) (fCons (fVar 1) fNil))))))
        (sApp (fVar 4) (fVar 5))
        sNil) := ⟨_, rfl⟩
  -- all sides
  obtain ⟨δ1, loop1, ⟨u2, u3, hδ1⟩⟩ := for_ex (lk := []) (M := M) (g := gNm 2) (fb := f2') ruleD (fun δ => ∃ u2 u3, δ = [some (.d (planD κ tops R)), some (.d (tupI st)), u2, u3, none, none, none, none]) R (δ := [some (.d (planD κ tops R)), some (.d (tupI st)), none, none, none, none, none, none]) (fun r hr δ ⟨u2, u3, hδ⟩ => by
    subst hδ
    obtain ⟨δ2, loop2, ⟨v3, hδ2⟩⟩ := for_ex (lk := []) (M := M) (g := gNm 3) (fb := f1) sideD (fun δ => ∃ v3, δ = [some (.d (planD κ tops R)), some (.d (tupI st)), some (.d (ruleD r)), v3, none, none, none, none]) [r.1, r.2] (δ := [some (.d (planD κ tops R)), some (.d (tupI st)), some (.d (ruleD r)), u3, none, none, none, none]) (fun s hs δ ⟨v3, hδ⟩ => by
      subst hδ
      have hlt : s.1 < st.length := by
        rcases List.mem_cons.mp hs with e | hs
        · rw [e]; exact (hR r hr).1
        · rw [List.mem_singleton.mp hs]; exact (hR r hr).2
      have c := is_in_spec s st hlt M
      have rb := repr_bl (isIn s st)
      refine ⟨[some (.d (planD κ tops R)), some (.d (tupI st)), some (.d (ruleD r)), some (.d (sideD s)), none, none, none, none], [some (.d (planD κ tops R)), some (.d (tupI st)), some (.d (ruleD r)), some (.d (sideD s)), none, none, none, none], rfl, ?_, _, rfl⟩
      rw [hf1, in_eq, in_eq2]
      simp only [sSeq, sSet, sRet, sIf, sFor, sNil, sPar, sApp, fB, fOrT, fAndT, fNotT, fAnd, fOr, fNot, fIf, fOp, f2, fC, fVar, fCB, fCN, fCons, fNil, fFro, fNew, fLst, fTup, frs9, fCall0, fCallN, fOpN, fUn, fSl, fSlN, oNone, oSome, intW, fSeqI, List.getElem?_cons_zero, List.getElem?_cons_succ, S9.R.bind_ok, S9.R.noEx_ok, rds, rd_d, fr_d, itW_t, itW_l, Option.bind_some, Option.map_some, S9.R.of_some, List.set_cons_zero, List.set_cons_succ, List.length_cons, List.length_nil, Nat.zero_add, Nat.reduceAdd, Nat.reduceLeDiff, if_true, S9.R.thenS, tru_bl, gSub_int, gAdd_int, gEq_int, gNe_int, gEq_bl, gNe_bl, gEq_str, gNe_str, gLt_int, gLe_int, gGt_int, gGe_int, List.nil_append, List.append_nil, decide_true, decide_false, Bool.not_true, Bool.not_false, c, rb]) ⟨_, rfl⟩
    subst hδ2
    refine ⟨[some (.d (planD κ tops R)), some (.d (tupI st)), some (.d (ruleD r)), u3, none, none, none, none], [some (.d (planD κ tops R)), some (.d (tupI st)), some (.d (ruleD r)), v3, none, none, none, none], rfl, ?_, _, _, rfl⟩
    have hit : itemsW M (.d (ruleD r)) = some ([r.1, r.2].map sideD, []) := rfl
    rw [hf2]
    simp only [sSeq, sSet, sRet, sIf, sFor, sNil, sPar, sApp, fB, fOrT, fAndT, fNotT, fAnd, fOr, fNot, fIf, fOp, f2, fC, fVar, fCB, fCN, fCons, fNil, fFro, fNew, fLst, fTup, frs9, fCall0, fCallN, fOpN, fUn, fSl, fSlN, oNone, oSome, intW, fSeqI, List.getElem?_cons_zero, List.getElem?_cons_succ, S9.R.bind_ok, S9.R.noEx_ok, rds, rd_d, fr_d, itW_t, itW_l, Option.bind_some, Option.map_some, S9.R.of_some, List.set_cons_zero, List.set_cons_succ, List.length_cons, List.length_nil, Nat.zero_add, Nat.reduceAdd, Nat.reduceLeDiff, if_true, S9.R.thenS, tru_bl, gSub_int, gAdd_int, gEq_int, gNe_int, gEq_bl, gNe_bl, gEq_str, gNe_str, gLt_int, gLe_int, gGt_int, gGe_int, List.nil_append, List.append_nil, decide_true, decide_false, Bool.not_true, Bool.not_false, hit, loop2]) ⟨_, _, rfl⟩
  subst hδ1
  have at1 : ∀ c : Cell, (M ++ [c])[M.length]? = some c := fun c => by rw [List.getElem?_append_right (Nat.le_refl _), Nat.sub_self]; rfl
  have put1 : ∀ c d : Cell, (M ++ [c]).set M.length d = M ++ [d] := fun c d => by rw [List.set_append_right _ _ (Nat.le_refl _), Nat.sub_self]; rfl
  -- which are broken
  obtain ⟨δ3, M3, loop3, hM3, v5, v6, v7, hδ3⟩ := for_inv (lk := []) (M0 := M ++ [.lst []]) (g := gTp 2 (gCn (gNm 5) (gCn (gTp 2 (gCn (gNm 6) (gCn (gNm 7) gNl))) gNl))) (fb := f3) (fun i δ M' => M' = M ++ [.lst ((brokenL (R.take i) st).map D.int)] ∧ ∃ v5 v6 v7, δ = [some (.d (planD κ tops R)), some (.d (tupI st)), u2, u3, some (.loc M.length), v5, v6, v7]) (enumD (R.map ruleD)) 0 (δ := [some (.d (planD κ tops R)), some (.d (tupI st)), u2, u3, some (.loc M.length), none, none, none]) (M := M ++ [.lst []]) (fun i d δ M' hd ⟨hM', v5, v6, v7, hδ⟩ => by
    subst hδ
    subst hM'
    rw [Nat.zero_add] at *
    rw [enumD_get, List.getElem?_map] at hd
    cases e : R[i]? with
    | none => rw [e] at hd; cases hd
    | some r =>
      rw [e] at hd
      cases hd
      have hi := (List.getElem?_eq_some_iff.mp e).1
      obtain ⟨h1, h2⟩ := hR r (List.mem_of_getElem? e)
      have c1 := is_in_spec r.1 st h1 (M ++ [.lst ((brokenL (R.take i) st).map D.int)])
      have c2 := is_in_spec r.2 st h2 (M ++ [.lst ((brokenL (R.take i) st).map D.int)])
      have sn := brokenL_snoc R st e
      have hlen : ((brokenL (R.take i) st).map D.int).length ≤ 100000 := by
        rw [List.length_map]
        have := (brokenL_small (R.take i) st (by rw [List.length_take]; omega)).1
        omega
      refine ⟨[some (.d (planD κ tops R)), some (.d (tupI st)), u2, u3, some (.loc M.length), some (.d (.int (i : Nat))), some (.d (sideD r.1)), some (.d (sideD r.2))], [some (.d (planD κ tops R)), some (.d (tupI st)), u2, u3, some (.loc M.length), some (.d (.int (i : Nat))), some (.d (sideD r.1)), some (.d (sideD r.2))], M ++ [.lst ((brokenL (R.take (i + 1)) st).map D.int)], rfl, .inl ?_, lkOk_nil, rfl, _, _, _, rfl⟩
      rw [hf3, in_eq2, sn]
      unfold isBad
      have happ := v_app (fo := fVar 4) (fe := fVar 5) (δ := [some (.d (planD κ tops R)), some (.d (tupI st)), u2, u3, some (.loc M.length), some (.d (.int (i : Nat))), some (.d (sideD r.1)), some (.d (sideD r.2))]) (M := M ++ [.lst ((brokenL (R.take i) st).map D.int)]) (n := M.length) rfl (at1 _) (x := .int (i : Nat)) rfl (at1 _) hlen
      rw [put1] at happ
      generalize sApp (fVar 4) (fVar 5) = fa at happ ⊢
      cases hb : isIn r.1 st with
      | true =>
        rw [hb] at c1
        simp only [sSeq, sSet, sRet, sIf, sFor, sNil, sPar, sApp, fB, fOrT, fAndT, fNotT, fAnd, fOr, fNot, fIf, fOp, f2, fC, fVar, fCB, fCN, fCons, fNil, fFro, fNew, fLst, fTup, frs9, fCall0, fCallN, fOpN, fUn, fSl, fSlN, oNone, oSome, intW, fSeqI, List.getElem?_cons_zero, List.getElem?_cons_succ, S9.R.bind_ok, S9.R.noEx_ok, rds, rd_d, fr_d, itW_t, itW_l, Option.bind_some, Option.map_some, S9.R.of_some, List.set_cons_zero, List.set_cons_succ, List.length_cons, List.length_nil, Nat.zero_add, Nat.reduceAdd, Nat.reduceLeDiff, if_true, S9.R.thenS, tru_bl, gSub_int, gAdd_int, gEq_int, gNe_int, gEq_bl, gNe_bl, gEq_str, gNe_str, gLt_int, gLe_int, gGt_int, gGe_int, List.nil_append, List.append_nil, decide_true, decide_false, Bool.not_true, Bool.not_false, c1, Bool.true_or, Bool.false_eq_true, if_false, List.append_nil]
      | false =>
        rw [hb] at c1
        cases hc : isIn r.2 st with
        | true =>
          rw [hc] at c2
          simp only [sSeq, sSet, sRet, sIf, sFor, sNil, sPar, sApp, fB, fOrT, fAndT, fNotT, fAnd, fOr, fNot, fIf, fOp, f2, fC, fVar, fCB, fCN, fCons, fNil, fFro, fNew, fLst, fTup, frs9, fCall0, fCallN, fOpN, fUn, fSl, fSlN, oNone, oSome, intW, fSeqI, List.getElem?_cons_zero, List.getElem?_cons_succ, S9.R.bind_ok, S9.R.noEx_ok, rds, rd_d, fr_d, itW_t, itW_l, Option.bind_some, Option.map_some, S9.R.of_some, List.set_cons_zero, List.set_cons_succ, List.length_cons, List.length_nil, Nat.zero_add, Nat.reduceAdd, Nat.reduceLeDiff, if_true, S9.R.thenS, tru_bl, gSub_int, gAdd_int, gEq_int, gNe_int, gEq_bl, gNe_bl, gEq_str, gNe_str, gLt_int, gLe_int, gGt_int, gGe_int, List.nil_append, List.append_nil, decide_true, decide_false, Bool.not_true, Bool.not_false, c1, c2, Bool.false_or, Bool.or_true, Bool.false_eq_true, if_false, List.append_nil]
        | false =>
          rw [hc] at c2
          simp only [sSeq, sSet, sRet, sIf, sFor, sNil, sPar, sApp, fB, fOrT, fAndT, fNotT, fAnd, fOr, fNot, fIf, fOp, f2, fC, fVar, fCB, fCN, fCons, fNil, fFro, fNew, fLst, fTup, frs9, fCall0, fCallN, fOpN, fUn, fSl, fSlN, oNone, oSome, intW, fSeqI, List.getElem?_cons_zero, List.getElem?_cons_succ, S9.R.bind_ok, S9.R.noEx_ok, rds, rd_d, fr_d, itW_t, itW_l, Option.bind_some, Option.map_some, S9.R.of_some, List.set_cons_zero, List.set_cons_succ, List.length_cons, List.length_nil, Nat.zero_add, Nat.reduceAdd, Nat.reduceLeDiff, if_true, S9.R.thenS, tru_bl, gSub_int, gAdd_int, gEq_int, gNe_int, gEq_bl, gNe_bl, gEq_str, gNe_str, gLt_int, gLe_int, gGt_int, gGe_int, List.nil_append, List.append_nil, decide_true, decide_false, Bool.not_true, Bool.not_false, c1, c2, Bool.or_self, happ, List.map_append, List.map_cons, List.map_nil]) ⟨by simp [brokenL], _, _, _, rfl⟩
  subst hδ3
  have hel : (enumD (R.map ruleD)).length = R.length := by unfold enumD; rw [List.length_map, List.length_zipIdx, List.length_map]
  rw [hel, Nat.zero_add, List.take_length] at hM3
  subst hM3
  have hrd : rd (M ++ [.lst ((brokenL R st).map D.int)]) (.loc M.length) = some (.lst ((brokenL R st).map D.int)) := rd_lst (at1 _)
  have c1 := broken_spec κ tops R st hR (by omega) (M ++ [.lst ((brokenL R st).map D.int)])
  have c2 := good_spec κ tops R st hR (by omega) (M ++ [.lst ((brokenL R st).map D.int)])
  obtain ⟨s1, s2⟩ := brokenL_small R st hl
  have hd : decide (brokenL R st = []) = (R.all fun r => !isBad r st) := by
    rw [Bool.eq_iff_iff, decide_eq_true_eq]
    exact brokenL_nil R st
  have eq := gEq_lstI (brokenL R st) []
  rw [hd] at eq
  have eq : gEq (.lst ((brokenL R st).map D.int)) (.lst []) = some (.bl (R.all fun r => !isBad r st)) := eq
  have rt := repr_told (l := brokenL R st) (b := (R.all fun r => !isBad r st)) s1 s2
  have gt : gTuple [.lst ((brokenL R st).map D.int)] = some (tupI (brokenL R st)) := rfl
  have hit : itemsW M (.d (rulesD R)) = some (R.map ruleD, []) := rfl
  have hit2 : itemsW (M ++ [.lst []]) (.d (rulesD R)) = some (R.map ruleD, []) := rfl
  rw [← hf1, ← hf2, ← hf3, broken_eq, good_eq]
  show fin M.length (sSeq _ _ [some (.d (planD κ tops R)), some (.d (tupI st)), none, none, none, none, none, none] M) = _
  simp only [sSeq, sSet, sRet, sIf, sFor, sNil, sPar, sApp, fB, fOrT, fAndT, fNotT, fAnd, fOr, fNot, fIf, fOp, f2, fC, fVar, fCB, fCN, fCons, fNil, fFro, fNew, fLst, fTup, frs9, fCall0, fCallN, fOpN, fUn, fSl, fSlN, oNone, oSome, intW, fSeqI, List.getElem?_cons_zero, List.getElem?_cons_succ, S9.R.bind_ok, S9.R.noEx_ok, rds, rd_d, fr_d, itW_t, itW_l, Option.bind_some, Option.map_some, S9.R.of_some, List.set_cons_zero, List.set_cons_succ, List.length_cons, List.length_nil, Nat.zero_add, Nat.reduceAdd, Nat.reduceLeDiff, if_true, S9.R.thenS, tru_bl, gSub_int, gAdd_int, gEq_int, gNe_int, gEq_bl, gNe_bl, gEq_str, gNe_str, gLt_int, gLe_int, gGt_int, gGe_int, List.nil_append, List.append_nil, decide_true, decide_false, Bool.not_true, Bool.not_false, fFld, look_rules, hit, loop1, fEnumA, hit2, loop3, c1, c2, hrd, gt, eq, rt]
  exact fin_ext hf rfl
/-! ### the law -/
theorem of_adv_t {M0 M ext : Sto} {k c : Nat} {l : List D} (h : Adv M0 k c ext M) (hk : k < M0.length) (hc : c ≤ 1000000) (h1 : l ≠ []) (h2 : l.length ≤ 1000) :
    ∃ (x : D) (M' : Sto), f_of0 [.loc k, .d (.tup l)] M = .ok (.d x) M' ∧ Adv M0 k (c + 1) ext M' ∧ x ∈ l := by
  have hpos : 0 < l.length := List.length_pos_iff.mpr h1
  obtain ⟨x, M', e1, e2, e3, e4⟩ := take_adv (many := (l.length : Nat)) h hk hc (by omega) (Int.lt_of_le_of_lt (show (l.length : Int) ≤ 1000 by omega) (by decide))
  obtain ⟨j, rfl⟩ : ∃ j : Nat, x = (j : Int) := ⟨x.toNat, by omega⟩
  have hx : j < l.length := by omega
  refine ⟨l[j], M', ?_, e2, List.getElem_mem hx⟩
  have hix : gIx (.tup l) (.int (j : Int)) = some l[j] := atI_nat (List.getElem?_eq_getElem hx)
  unfold f_of0 body g_of0
  show fin M.length (sRet _ [some (.loc k), some (.d (.tup l))] M) = _
  simp only [sSeq, sSet, sRet, sIf, sFor, sNil, sPar, sApp, fB, fOrT, fAndT, fNotT, fAnd, fOr, fNot, fIf, fOp, f2, fC, fVar, fCB, fCN, fCons, fNil, fFro, fNew, fLst, fTup, frs9, fCall0, fCallN, fOpN, fUn, fSl, fSlN, oNone, oSome, intW, fSeqI, List.getElem?_cons_zero, List.getElem?_cons_succ, S9.R.bind_ok, S9.R.noEx_ok, rds, rd_d, fr_d, itW_t, itW_l, Option.bind_some, Option.map_some, S9.R.of_some, List.set_cons_zero, List.set_cons_succ, List.length_cons, List.length_nil, Nat.zero_add, Nat.reduceAdd, Nat.reduceLeDiff, if_true, S9.R.thenS, tru_bl, gSub_int, gAdd_int, gEq_int, gNe_int, gEq_bl, gNe_bl, gEq_str, gNe_str, gLt_int, gLe_int, gGt_int, gGe_int, List.nil_append, List.append_nil, decide_true, decide_false, Bool.not_true, Bool.not_false, gLen_tup, e1, hix]
  refine fin_d ?_
  rw [e2.len, h.len]
  exact Nat.le_refl _
theorem adv_flatx {M0 M ext : Sto} {k c : Nat} (h : Adv M0 k c ext M) (hf : Flat M0) (he : Flat ext) : Flat M := by
  obtain ⟨l, rfl, _⟩ := h
  intro cc hcc
  rcases List.mem_append.mp hcc with q | q
  · exact hf.set k l cc q
  · exact he cc q
theorem flat1 {l : List D} : Flat [.lst l] := fun c hc => ⟨l, List.mem_singleton.mp hc⟩
def sideP (s : Side) : PyData := .tuple [.int s.1, .str (wordOf s.2.1), .int s.2.2]
def ruleP (r : Rule) : PyData := .tuple [sideP r.1, sideP r.2]
theorem toP_rule (r : Rule) : (ruleD r).toP = some (ruleP r) := by
  simp only [ruleD, sideD, D.toP, D.toPs, Option.bind_some, Option.map_some, ruleP, sideP]
theorem toP_rules (R : List Rule) : (rulesD R).toP = some (.tuple (R.map ruleP)) := by
  unfold rulesD
  simp only [D.toP, toPs_map ruleD ruleP toP_rule R, Option.map_some]
theorem word_ok (b : Bool) : PyData.strOk (wordOf b) = true := by cases b <;> decide +kernel
theorem lay_rule (r : Rule) : (ruleP r).canLay0 = true ∧ (ruleP r).depth ≤ 2 := by
  simp [ruleP, sideP, PyData.canLay0, PyData.canLayAll0, PyData.depth, PyData.depthAll, word_ok]
theorem shaped_rules (R : List Rule) : SeqAt.shaped (.tuple (R.map ruleP)) = true := by
  have h1 : PyData.canLayAll0 (R.map ruleP) = true := by
    induction R with
    | nil => simp [PyData.canLayAll0]
    | cons r R ih => simp [PyData.canLayAll0, (lay_rule r).1, ih]
  have h2 : PyData.depthAll (R.map ruleP) ≤ 2 := all_depth fun x hx => by
    obtain ⟨r, _, rfl⟩ := List.mem_map.mp hx
    exact (lay_rule r).2
  have h3 : PyData.depth (.tuple (R.map ruleP)) ≤ 64 := by simp only [PyData.depth]; exact Nat.le_trans (Nat.succ_le_succ h2) (by decide)
  unfold SeqAt.shaped
  simp only [PyData.canLay0, h1, Bool.true_and]
  exact decide_eq_true h3
theorem gNe_rules (R : List Rule) : gNe (rulesD R) (.tup []) = some (.bl (!decide (R = []))) := by
  have e : eqS (rulesD R) (.tup []) = none := rfl
  have t0 : (D.tup []).toP = some (.tuple []) := rfl
  have s0 : SeqAt.shaped (.tuple []) = true := by decide
  have ev : PyData.eqv (.tuple (R.map ruleP)) (.tuple []) = decide (R = []) := by
    cases R with
    | nil => simp [PyData.eqv, PyData.eqvAll]
    | cons r R => simp [PyData.eqv, PyData.eqvAll]
  simp only [gNe, eqD, e, Option.orElse_none, eqP, toP_rules, t0, Option.bind_some, shaped_rules, s0, and_self, if_true, Option.map_some, ev]
theorem objs_of {α : Type} {E : α → D} {P : α → Prop} : ∀ r : List D, (∀ (i : Nat) (x : D), r[i]? = some x → ∃ v : α, x = E v ∧ P v) → ∃ s : List α, r = s.map E ∧ ∀ x ∈ s, P x
  | [], _ => ⟨[], rfl, fun x h => by simp at h⟩
  | d :: r, h => by
    obtain ⟨v, rfl, hv⟩ := h 0 d rfl
    obtain ⟨s, rfl, hs⟩ := objs_of r fun i x hx => h (i + 1) x (by simpa using hx)
    exact ⟨v :: s, rfl, fun x hx => by
      rcases List.mem_cons.mp hx with e | hx
      · rw [e]; exact hv
      · exact hs x hx⟩
theorem rulesIn_of {tops st : List Int} {R : List Rule} (hR : ∀ r ∈ R, RuleOk tops r) (hw : Within tops st) : RulesIn st.length R := fun r hr => by
  obtain ⟨⟨t, h1, _⟩, ⟨u, h2, _⟩⟩ := hR r hr
  rw [hw.1]
  exact ⟨(List.getElem?_eq_some_iff.mp h1).1, (List.getElem?_eq_some_iff.mp h2).1⟩
theorem kept_good {one two : List Int} {R : List Rule} (h : ∀ r ∈ R, Kept2 one two r) : (R.all fun r => !isBad r one) = true ∧ (R.all fun r => !isBad r two) = true := by
  rw [List.all_eq_true, List.all_eq_true]
  constructor <;> intro r hr <;> rcases h r hr with ⟨a, b⟩ | ⟨a, b⟩ <;> simp [isBad, a, b]
abbrev fPot (f : FE) : Prop := True
/-- one turn -/
theorem turn_ok (κ : Nat → Addr) (ns : List Int) (i : Nat) (hi : i < 3) (h1 : ns.length ≤ 63) {M : Sto} (hfl : Flat M) (u1 u2 u3 u4 u5 u6 u7 u8 u9 u10 u11 : Option W) (fb : FS)
    (hfb : fb = (sSeq (sSet 2 (fNew (fCallN 2 fn__law_pot (fCons (fVar 0) (fCons (fVar 1) fNil)))))
      (sSeq (sSet 3 (fCall0 1 f__law_wide_tops (fCons (fVar 2) fNil)))
      (sSeq (sPar 4 5 (fCons (fCall0 2 f__law_standing (fCons (fVar 2) (fCons (fVar 3) fNil))) (fCons (fCall0 2 f__law_standing (fCons (fVar 2) (fCons (fVar 3) fNil))) fNil)))
      (sSeq (sSet 6 (fCall0 5 f__law_rules (fCons (fVar 2) (fCons (fVar 3) (fCons (fVar 4) (fCons (fVar 5) (fCons (fCall0 2 f__law_take (fCons (fVar 2) (fCons (fC (.int 17)) fNil))) fNil)))))))
      (sSeq (sSetN 7 (fLc (fRng1 (fCons (fCall0 2 f__law_take (fCons (fVar 2) (fCons (fC (.int 5)) fNil))) fNil)) (gNm 10) tYesF (fTup (fCons (fCall0 2 f__law_any_side (fCons (fVar 2) (fCons (fVar 3) fNil))) (fCons (fCall0 2 f__law_any_side (fCons (fVar 2) (fCons (fVar 3) fNil))) fNil))) [10]) false)
      (sSeq (sIf (fOrT (fB (fOp gNe (fCall0 2 (f_broken κ) (fCons (fMake (κ 0) 3 (withD (f_Plan____init__ κ) []) (fCons (fVar 3) (fCons (fVar 6) fNil))) (fCons (fVar 4) fNil))) (fTup fNil))) (fNotT (fB (fCall0 2 (f_is_good κ) (fCons (fMake (κ 0) 3 (withD (f_Plan____init__ κ) []) (fCons (fVar 3) (fCons (fVar 6) fNil))) (fCons (fVar 5) fNil))))))
        (sRet (fC (.bl false)))
        sNil)
      (sSeq (sPar 8 9 (fCons (fMake (κ 0) 3 (withD (f_Plan____init__ κ) []) (fCons (fVar 3) (fCons (fOp gAdd (fVar 6) (fCB gTuple (fCons (fVar 7) fNil))) fNil))) (fCons (fNew (fLst (fCons (fVar 4) (fCons (fVar 5) (fCons (fCall0 2 f__law_standing (fCons (fVar 2) (fCons (fVar 3) fNil))) (fCons (fCall0 2 f__law_standing (fCons (fVar 2) (fCons (fVar 3) fNil))) fNil)))))) fNil)))
      (sSeq (sFor (fRng1 (fCons (fOp gMul (fC (.int 6)) (fCB gInt (fCons (fOp gNe (fFld (κ 0) "rules" (fVar 8)) (fTup fNil)) fNil))) fNil)) (gNm 10)
        (sApp (fVar 9) (fCall0 4 f__law_at_sides (fCons (fVar 2) (fCons (fVar 3) (fCons (fCall0 2 f__law_of (fCons (fVar 2) (fCons (fFro (fSlN gSlL (fVar 9) oNone (oSome (fC (.int 4))))) fNil))) (fCons (fCall0 2 f__law_of (fCons (fVar 2) (fCons (fFld (κ 0) "rules" (fVar 8)) fNil))) fNil)))))))
      (sIf (fNotT (fB (fCB gAll (fCons (fFro (fLc (fSeqI (fVar 9)) (gNm 11) tYesF (fCall0 2 (f__law_right κ) (fCons (fVar 8) (fCons (fVar 11) fNil))) [11])) fNil))))
        (sRet (fC (.bl false)))
        sNil)))))))))) :
    ∃ (v2 v3 v4 v5 v6 v7 v8 v9 v10 v11 : Option W) (M' : Sto), fb [some (.d (.frl (ns.map D.int))), some (.d (.int (i : Int))), u2, u3, u4, u5, u6, u7, u8, u9, u10, u11] M = .ok (.nx [some (.d (.frl (ns.map D.int))), some (.d (.int (i : Int))), v2, v3, v4, v5, v6, v7, v8, v9, v10, v11]) M' ∧ Flat M' := by
  obtain ⟨p, hp, hpot⟩ := pot_spec (k := i) hfl hi h1
  have fl1 : Flat (M ++ [.lst p]) := hfl.add p
  have a0 := Adv.new (M := M) hpot
  have hkl : M.length < (M ++ [Cell.lst p]).length := by rw [List.length_append, List.length_singleton]; omega
  obtain ⟨tops, M1, e1, a1, s1, t1, t2⟩ := tops_adv a0 fl1 hkl (by omega)
  have hts : ∀ t ∈ tops, 0 ≤ t ∧ t < 2 ^ 200 := fun t ht => topok_small (s1 t ht)
  obtain ⟨one, M2, e2, a2, w1⟩ := standing_adv a1 hkl (by omega) hts (by omega)
  obtain ⟨two, M3, e3, a3, w2⟩ := standing_adv a2 hkl (by omega) hts (by omega)
  obtain ⟨x, M4, e4, a4, x0, x1⟩ := take_adv (many := 17) a3 hkl (by omega) (by decide) (by decide)
  obtain ⟨m, rfl⟩ : ∃ m : Nat, x = (m : Int) := ⟨x.toNat, by omega⟩
  obtain ⟨R, M5, e5, a5, lR, okR, keR⟩ := rules_adv (m := m) a4 fl1 hkl (by omega) s1 (by omega) t1 w1 w2 (by omega)
  obtain ⟨y, M6, e6, a6, y0, y1⟩ := take_adv (many := 5) a5 hkl (by omega) (by decide) (by decide)
  obtain ⟨q, rfl⟩ : ∃ q : Nat, y = (q : Int) := ⟨y.toNat, by omega⟩
  -- the env at that point
  obtain ⟨fe, hfe⟩ : ∃ fe : FE, fe = (fTup (fCons (fCall0 2 f__law_any_side (fCons (fVar 2) (fCons (fVar 3) fNil))) (fCons (fCall0 2 f__law_any_side (fCons (fVar 2) (fCons (fVar 3) fNil))) fNil))) := ⟨_, rfl⟩
  obtain ⟨rm, M7, e7, lm, a7, pm⟩ := lc_inv (lk := []) (M0 := M6) (g := gNm 10) (ft := tYesF) (fe := fe) (δ := [some (.d (.frl (ns.map D.int))), some (.d (.int (i : Int))), some (.loc M.length), some (.d (tupI tops)), some (.d (tupI one)), some (.d (tupI two)), some (.d (rulesD R)), u7, u8, u9, none, u11]) (fun j M' => Adv (M ++ [.lst p]) M.length (0 + 40 + tops.length + tops.length + 1 + 200 + 1 + 6 * j) [] M') (fun _ x => ∃ r : Rule, x = ruleD r ∧ RuleOk tops r) (rgD 0 q) 0 (M := M6) (fun j d M' hd hJ => by
    obtain ⟨rfl, hj⟩ := rgD_get hd
    rw [Nat.zero_add] at hJ
    obtain ⟨sa, Ma, g1, b1, c1⟩ := any_side_adv hJ hkl (by omega) s1 (by omega) t1
    obtain ⟨sb, Mb, g2, b2, c2⟩ := any_side_adv b1 hkl (by omega) s1 (by omega) t1
    refine ⟨[some (.d (.frl (ns.map D.int))), some (.d (.int (i : Int))), some (.loc M.length), some (.d (tupI tops)), some (.d (tupI one)), some (.d (tupI two)), some (.d (rulesD R)), u7, u8, u9, some (.d (.int (0 + (j : Int)))), u11], ruleD (sa, sb), Mb, rfl, rfl, ?_, lkOk_nil, b2.mono (by omega), (sa, sb), rfl, c1, c2⟩
    rw [hfe]
    simp only [sSeq, sSet, sRet, sIf, sFor, sNil, sPar, sApp, fB, fOrT, fAndT, fNotT, fAnd, fOr, fNot, fIf, fOp, f2, fC, fVar, fCB, fCN, fCons, fNil, fFro, fNew, fLst, fTup, frs9, fCall0, fCallN, fOpN, fUn, fSl, fSlN, oNone, oSome, intW, fSeqI, List.getElem?_cons_zero, List.getElem?_cons_succ, S9.R.bind_ok, S9.R.noEx_ok, rds, rd_d, fr_d, itW_t, itW_l, Option.bind_some, Option.map_some, S9.R.of_some, List.set_cons_zero, List.set_cons_succ, List.length_cons, List.length_nil, Nat.zero_add, Nat.reduceAdd, Nat.reduceLeDiff, if_true, S9.R.thenS, tru_bl, gSub_int, gAdd_int, gEq_int, gNe_int, gEq_bl, gNe_bl, gEq_str, gNe_str, gLt_int, gLe_int, gGt_int, gGe_int, List.nil_append, List.append_nil, decide_true, decide_false, Bool.not_true, Bool.not_false, g1, g2]
    rfl) a6
  rw [rgD_len] at lm
  rw [rgD_len, Nat.zero_add] at a7
  obtain ⟨R2, rfl, okR2⟩ := objs_of rm fun j x hx => pm j x hx
  rw [List.length_map] at lm
  have fl7 := a7.flat fl1
  have okA : ∀ r ∈ R ++ R2, RuleOk tops r := fun r hr => (List.mem_append.mp hr).elim (okR r) (okR2 r)
  have pl1 : PlanOk tops R := ⟨by omega, t1, s1, okR, by omega⟩
  have pl2 : PlanOk tops (R ++ R2) := ⟨by omega, t1, s1, okA, by rw [List.length_append]; omega⟩
  obtain ⟨kg1, kg2⟩ := kept_good keR
  have hb1 : brokenL R one = [] := (brokenL_nil R one).mpr kg1
  have c1 := broken_spec κ tops R one (rulesIn_of okR w1) (by omega) M7
  have c2 := good_spec κ tops R two (rulesIn_of okR w2) (by omega) M7
  rw [hb1] at c1
  rw [kg2] at c2
  have ne1 : gNe (tupI []) (.tup []) = some (.bl false) := gNe_tupI [] []
  -- the second plan, the standings
  obtain ⟨s3, M8, e8, a8, w3⟩ := standing_adv a7 hkl (by omega) hts (by omega)
  obtain ⟨s4, M9, e9, a9, w4⟩ := standing_adv a8 hkl (by omega) hts (by omega)
  have l9 : M9.length = (M ++ [Cell.lst p]).length := by rw [a9.len]; rfl
  have gadd : gAdd (rulesD R) (.tup (R2.map ruleD)) = some (rulesD (R ++ R2)) := by
    unfold rulesD
    rw [gAdd_tup (by rw [List.length_map, List.length_map]; omega), List.map_append]
  have a10 : Adv (M ++ [.lst p]) M.length (0 + 40 + tops.length + tops.length + 1 + 200 + 1 + 6 * q + tops.length + tops.length) [.lst ([one, two, s3, s4].map tupI)] (M9 ++ [.lst [tupI one, tupI two, tupI s3, tupI s4]]) := by have := a9.more (x := [.lst [tupI one, tupI two, tupI s3, tupI s4]]); rw [List.nil_append] at this; exact this.mono (by omega)
  -- more standings
  obtain ⟨fl, hfl2⟩ : ∃ fl : FS, fl = (sApp (fVar 9) (fCall0 4 f__law_at_sides (fCons (fVar 2) (fCons (fVar 3) (fCons (fCall0 2 f__law_of (fCons (fVar 2) (fCons (fFro (fSlN gSlL (fVar 9) oNone (oSome (fC (.int 4))))) fNil))) (fCons (fCall0 2 f__law_of (fCons (fVar 2) (fCons (fFld (κ 0) "rules" (fVar 8)) fNil))) fNil)))))) := ⟨_, rfl⟩
  obtain ⟨δ', M10, e10, S, a11, lS, lS2, wS, z10, hδ'⟩ := for_inv (lk := []) (M0 := M9 ++ [.lst [tupI one, tupI two, tupI s3, tupI s4]]) (g := gNm 10) (fb := fl) (fun j δ M' => ∃ S : List (List Int), Adv (M ++ [.lst p]) M.length (1000 + 10 * j) [.lst (S.map tupI)] M' ∧ 4 ≤ S.length ∧ S.length ≤ 4 + j ∧ (∀ s ∈ S, Within tops s) ∧ ∃ z10, δ = [some (.d (.frl (ns.map D.int))), some (.d (.int (i : Int))), some (.loc M.length), some (.d (tupI tops)), some (.d (tupI one)), some (.d (tupI two)), some (.d (rulesD R)), some (.d (.lst (R2.map ruleD))), some (.d (planD κ tops (R ++ R2))), some (.loc (M ++ [Cell.lst p]).length), z10, u11])
    (rgD 0 (if R ++ R2 = [] then 0 else 6)) 0 (δ := [some (.d (.frl (ns.map D.int))), some (.d (.int (i : Int))), some (.loc M.length), some (.d (tupI tops)), some (.d (tupI one)), some (.d (tupI two)), some (.d (rulesD R)), some (.d (.lst (R2.map ruleD))), some (.d (planD κ tops (R ++ R2))), some (.loc (M ++ [Cell.lst p]).length), u10, u11]) (M := M9 ++ [.lst [tupI one, tupI two, tupI s3, tupI s4]]) (fun j d δ M' hd ⟨S, ha, g4, g5, hS, z10, hδ⟩ => by
    subst hδ
    obtain ⟨rfl, hj⟩ := rgD_get hd
    rw [Nat.zero_add] at ha g5
    have hne : R ++ R2 ≠ [] := fun e => by rw [if_pos e] at hj; omega
    rw [if_neg hne] at hj
    have sl : gSlL (.lst (S.map tupI)) none (some 4) = some ((S.take 4).map tupI) := by
      show some (cutD (S.map tupI) none (some ((4 : Nat) : Int))) = _
      rw [cut_to (by rw [List.length_map]; omega), ← List.map_take]
    have t4 : (S.take 4).length = 4 := by rw [List.length_take]; omega
    obtain ⟨x, Ma, g1, b1, hx⟩ := of_adv (l := (S.take 4).map tupI) ha hkl (by omega) (by intro e; rw [List.map_eq_nil_iff] at e; rw [e] at t4; simp at t4) (by rw [List.length_map]; omega)
    obtain ⟨sx, hsx, rfl⟩ := List.mem_map.mp hx
    obtain ⟨z, Mb, g2, b2, hz⟩ := of_adv_t (l := (R ++ R2).map ruleD) b1 hkl (by omega) (by simpa using hne) (by rw [List.length_map, List.length_append]; omega)
    obtain ⟨r, hr, rfl⟩ := List.mem_map.mp hz
    have wsx := hS sx (List.mem_of_mem_take hsx)
    obtain ⟨s', Mc, g3, b3, ws'⟩ := at_sides_adv b2 (adv_flatx b2 fl1 flat1) hkl (by omega) s1 wsx (okA r hr)
    have hrd : rd M' (.loc (M ++ [Cell.lst p]).length) = some (.lst (S.map tupI)) := rd_lst ha.ext1
    have g2' : f_of0 [.loc M.length, .d (rulesD (R ++ R2))] Ma = .ok (.d (ruleD r)) Mb := g2
    have happ := v_app (fo := fVar 9) (fe := fCall0 4 f__law_at_sides (fCons (fVar 2) (fCons (fVar 3) (fCons (fCall0 2 f__law_of (fCons (fVar 2) (fCons (fFro (fSlN gSlL (fVar 9) oNone (oSome (fC (.int 4))))) fNil))) (fCons (fCall0 2 f__law_of (fCons (fVar 2) (fCons (fFld (κ 0) "rules" (fVar 8)) fNil))) fNil))))) (δ := [some (.d (.frl (ns.map D.int))), some (.d (.int (i : Int))), some (.loc M.length), some (.d (tupI tops)), some (.d (tupI one)), some (.d (tupI two)), some (.d (rulesD R)), some (.d (.lst (R2.map ruleD))), some (.d (planD κ tops (R ++ R2))), some (.loc (M ++ [Cell.lst p]).length), some (.d (.int (0 + (j : Int)))), u11]) (M := M') (M2 := Mc) (n := (M ++ [Cell.lst p]).length) rfl ha.ext1 (x := tupI s') (by
      rw [of_eq]
      simp only [sSeq, sSet, sRet, sIf, sFor, sNil, sPar, sApp, fB, fOrT, fAndT, fNotT, fAnd, fOr, fNot, fIf, fOp, f2, fC, fVar, fCB, fCN, fCons, fNil, fFro, fNew, fLst, fTup, frs9, fCall0, fCallN, fOpN, fUn, fSl, fSlN, oNone, oSome, intW, fSeqI, List.getElem?_cons_zero, List.getElem?_cons_succ, S9.R.bind_ok, S9.R.noEx_ok, rds, rd_d, fr_d, itW_t, itW_l, Option.bind_some, Option.map_some, S9.R.of_some, List.set_cons_zero, List.set_cons_succ, List.length_cons, List.length_nil, Nat.zero_add, Nat.reduceAdd, Nat.reduceLeDiff, if_true, S9.R.thenS, tru_bl, gSub_int, gAdd_int, gEq_int, gNe_int, gEq_bl, gNe_bl, gEq_str, gNe_str, gLt_int, gLe_int, gGt_int, gGe_int, List.nil_append, List.append_nil, decide_true, decide_false, Bool.not_true, Bool.not_false, hrd, sl, g1, fFld, look_rules, g2', g3]) b3.ext1 (by rw [List.length_map]; omega)
    refine ⟨[some (.d (.frl (ns.map D.int))), some (.d (.int (i : Int))), some (.loc M.length), some (.d (tupI tops)), some (.d (tupI one)), some (.d (tupI two)), some (.d (rulesD R)), some (.d (.lst (R2.map ruleD))), some (.d (planD κ tops (R ++ R2))), some (.loc (M ++ [Cell.lst p]).length), some (.d (.int (0 + (j : Int)))), u11], [some (.d (.frl (ns.map D.int))), some (.d (.int (i : Int))), some (.loc M.length), some (.d (tupI tops)), some (.d (tupI one)), some (.d (tupI two)), some (.d (rulesD R)), some (.d (.lst (R2.map ruleD))), some (.d (planD κ tops (R ++ R2))), some (.loc (M ++ [Cell.lst p]).length), some (.d (.int (0 + (j : Int)))), u11], Mc.set (M ++ [Cell.lst p]).length (.lst (S.map tupI ++ [tupI s'])), rfl, .inl (by rw [hfl2]; exact happ), lkOk_nil, S ++ [s'], ?_, by rw [List.length_append, List.length_singleton]; omega, by rw [List.length_append, List.length_singleton]; omega, ?_, _, rfl⟩
    · have := b3.put1 (e := .lst ((S ++ [s']).map tupI))
      rw [List.map_append] at this ⊢
      exact this.mono (by omega)
    · intro z hz
      rcases List.mem_append.mp hz with h | h
      · exact hS z h
      · rw [List.mem_singleton.mp h]; exact ws') ⟨[one, two, s3, s4], a10.mono (by omega), by simp, by simp, fun s hs => by
        simp only [List.mem_cons, List.not_mem_nil, or_false] at hs
        rcases hs with rfl | rfl | rfl | rfl <;> assumption, _, rfl⟩
  subst hδ'
  have fl10 := adv_flatx a11 fl1 flat1
  -- all of them are right
  obtain ⟨fr, hfr⟩ : ∃ fr : FE, fr = fCall0 2 (f__law_right κ) (fCons (fVar 8) (fCons (fVar 11) fNil)) := ⟨_, rfl⟩
  have last := lc_of (lk := [(M ++ [Cell.lst p]).length]) (g := gNm 11) (ft := tYesF) (fe := fr) (δ := [some (.d (.frl (ns.map D.int))), some (.d (.int (i : Int))), some (.loc M.length), some (.d (tupI tops)), some (.d (tupI one)), some (.d (tupI two)), some (.d (rulesD R)), some (.d (.lst (R2.map ruleD))), some (.d (planD κ tops (R ++ R2))), some (.loc (M ++ [Cell.lst p]).length), z10, none]) (M := M10) tupI (fun _ => D.bl true) S (fun s hs => by
    have c := right_spec κ tops (R ++ R2) s (rulesIn_of okA (wS s hs)) (by rw [List.length_append]; omega) fl10
    refine ⟨[some (.d (.frl (ns.map D.int))), some (.d (.int (i : Int))), some (.loc M.length), some (.d (tupI tops)), some (.d (tupI one)), some (.d (tupI two)), some (.d (rulesD R)), some (.d (.lst (R2.map ruleD))), some (.d (planD κ tops (R ++ R2))), some (.loc (M ++ [Cell.lst p]).length), z10, some (.d (tupI s))], rfl, rfl, ?_⟩
    rw [hfr]
    simp only [sSeq, sSet, sRet, sIf, sFor, sNil, sPar, sApp, fB, fOrT, fAndT, fNotT, fAnd, fOr, fNot, fIf, fOp, f2, fC, fVar, fCB, fCN, fCons, fNil, fFro, fNew, fLst, fTup, frs9, fCall0, fCallN, fOpN, fUn, fSl, fSlN, oNone, oSome, intW, fSeqI, List.getElem?_cons_zero, List.getElem?_cons_succ, S9.R.bind_ok, S9.R.noEx_ok, rds, rd_d, fr_d, itW_t, itW_l, Option.bind_some, Option.map_some, S9.R.of_some, List.set_cons_zero, List.set_cons_succ, List.length_cons, List.length_nil, Nat.zero_add, Nat.reduceAdd, Nat.reduceLeDiff, if_true, S9.R.thenS, tru_bl, gSub_int, gAdd_int, gEq_int, gNe_int, gEq_bl, gNe_bl, gEq_str, gNe_str, gLt_int, gLe_int, gGt_int, gGe_int, List.nil_append, List.append_nil, decide_true, decide_false, Bool.not_true, Bool.not_false, c])
  have hit9 : itemsW M10 (.loc (M ++ [Cell.lst p]).length) = some (S.map tupI, [(M ++ [Cell.lst p]).length]) := itW_c a11.ext1
  have hsz9 : (S.map tupI).length ≤ 100000 := by
    rw [List.length_map]
    rw [rgD_len] at lS2
    split at lS2 <;> omega
  have ea : blsD (S.map fun _ => D.bl true) = some (S.map fun _ => true) := blsD_map' (fun _ => true) S
  have eb : (S.map fun _ => true).all id = true := by simp
  -- put together
  have hr6 : rngR (0, (q : Int)) M6 = .ok (rgD 0 q, []) M6 := rng_ok (by omega) M6
  have hq6 : (rgD 0 q).length ≤ 100000 := by rw [rgD_len]; omega
  have hn2 := gNe_rules (R ++ R2)
  have hint : gInt [.bl (!decide (R ++ R2 = []))] = some (.int (b2n (!decide (R ++ R2 = [])))) := rfl
  have hmul : gMul (.int 6) (.int (b2n (!decide (R ++ R2 = [])))) = some (.int ((if R ++ R2 = [] then 0 else 6 : Nat) : Int)) := by
    by_cases e : R ++ R2 = []
    · rw [if_pos e, decide_eq_true e]; rfl
    · rw [if_neg e, decide_eq_false e]; rfl
  have hr9 : rngR (0, ((if R ++ R2 = [] then 0 else 6 : Nat) : Int)) (M9 ++ [.lst [tupI one, tupI two, tupI s3, tupI s4]]) = .ok (rgD 0 (if R ++ R2 = [] then 0 else 6), []) (M9 ++ [.lst [tupI one, tupI two, tupI s3, tupI s4]]) := rng_ok (by split <;> omega) _
  have gt2 : gTuple [.lst (R2.map ruleD)] = some (.tup (R2.map ruleD)) := rfl
  have mk1 := fun (fs : FA) (δ : DEnv) (N : Sto) (h : fs δ N = .ok [.d (tupI tops), .d (rulesD R)] M7) => plan_spec κ pl1 fl7 h
  have mk2 := fun (fs : FA) (δ : DEnv) (N : Sto) (h : fs δ N = .ok [.d (tupI tops), .d (rulesD (R ++ R2))] M7) => plan_spec κ pl2 fl7 h
  rw [← hfe, ← hfl2, ← hfr] at hfb
  have S2 : sSet 2 (fNew (fCallN 2 fn__law_pot (fCons (fVar 0) (fCons (fVar 1) fNil)))) [some (.d (.frl (ns.map D.int))), some (.d (.int (i : Int))), u2, u3, u4, u5, u6, u7, u8, u9, u10, u11] M = .ok (.nx [some (.d (.frl (ns.map D.int))), some (.d (.int (i : Int))), some (.loc M.length), u3, u4, u5, u6, u7, u8, u9, u10, u11]) (M ++ [.lst p]) := by
    rw [pot_eq]
    simp only [sSeq, sSet, sRet, sIf, sFor, sNil, sPar, sApp, fB, fOrT, fAndT, fNotT, fAnd, fOr, fNot, fIf, fOp, f2, fC, fVar, fCB, fCN, fCons, fNil, fFro, fNew, fLst, fTup, frs9, fCall0, fCallN, fOpN, fUn, fSl, fSlN, oNone, oSome, intW, fSeqI, List.getElem?_cons_zero, List.getElem?_cons_succ, S9.R.bind_ok, S9.R.noEx_ok, rds, rd_d, fr_d, itW_t, itW_l, Option.bind_some, Option.map_some, S9.R.of_some, List.set_cons_zero, List.set_cons_succ, List.length_cons, List.length_nil, Nat.zero_add, Nat.reduceAdd, Nat.reduceLeDiff, if_true, S9.R.thenS, tru_bl, gSub_int, gAdd_int, gEq_int, gNe_int, gEq_bl, gNe_bl, gEq_str, gNe_str, gLt_int, gLe_int, gGt_int, gGe_int, List.nil_append, List.append_nil, decide_true, decide_false, Bool.not_true, Bool.not_false, hp]
  have S3 : sSet 3 (fCall0 1 f__law_wide_tops (fCons (fVar 2) fNil)) [some (.d (.frl (ns.map D.int))), some (.d (.int (i : Int))), some (.loc M.length), u3, u4, u5, u6, u7, u8, u9, u10, u11] (M ++ [.lst p]) = .ok (.nx [some (.d (.frl (ns.map D.int))), some (.d (.int (i : Int))), some (.loc M.length), some (.d (tupI tops)), u4, u5, u6, u7, u8, u9, u10, u11]) M1 := by
    rw [tops_eq]
    simp only [sSeq, sSet, sRet, sIf, sFor, sNil, sPar, sApp, fB, fOrT, fAndT, fNotT, fAnd, fOr, fNot, fIf, fOp, f2, fC, fVar, fCB, fCN, fCons, fNil, fFro, fNew, fLst, fTup, frs9, fCall0, fCallN, fOpN, fUn, fSl, fSlN, oNone, oSome, intW, fSeqI, List.getElem?_cons_zero, List.getElem?_cons_succ, S9.R.bind_ok, S9.R.noEx_ok, rds, rd_d, fr_d, itW_t, itW_l, Option.bind_some, Option.map_some, S9.R.of_some, List.set_cons_zero, List.set_cons_succ, List.length_cons, List.length_nil, Nat.zero_add, Nat.reduceAdd, Nat.reduceLeDiff, if_true, S9.R.thenS, tru_bl, gSub_int, gAdd_int, gEq_int, gNe_int, gEq_bl, gNe_bl, gEq_str, gNe_str, gLt_int, gLe_int, gGt_int, gGe_int, List.nil_append, List.append_nil, decide_true, decide_false, Bool.not_true, Bool.not_false, e1]
  have S4 : sPar 4 5 (fCons (fCall0 2 f__law_standing (fCons (fVar 2) (fCons (fVar 3) fNil))) (fCons (fCall0 2 f__law_standing (fCons (fVar 2) (fCons (fVar 3) fNil))) fNil)) [some (.d (.frl (ns.map D.int))), some (.d (.int (i : Int))), some (.loc M.length), some (.d (tupI tops)), u4, u5, u6, u7, u8, u9, u10, u11] M1 = .ok (.nx [some (.d (.frl (ns.map D.int))), some (.d (.int (i : Int))), some (.loc M.length), some (.d (tupI tops)), some (.d (tupI one)), some (.d (tupI two)), u6, u7, u8, u9, u10, u11]) M3 := by
    rw [standing_eq]
    simp only [sSeq, sSet, sRet, sIf, sFor, sNil, sPar, sApp, fB, fOrT, fAndT, fNotT, fAnd, fOr, fNot, fIf, fOp, f2, fC, fVar, fCB, fCN, fCons, fNil, fFro, fNew, fLst, fTup, frs9, fCall0, fCallN, fOpN, fUn, fSl, fSlN, oNone, oSome, intW, fSeqI, List.getElem?_cons_zero, List.getElem?_cons_succ, S9.R.bind_ok, S9.R.noEx_ok, rds, rd_d, fr_d, itW_t, itW_l, Option.bind_some, Option.map_some, S9.R.of_some, List.set_cons_zero, List.set_cons_succ, List.length_cons, List.length_nil, Nat.zero_add, Nat.reduceAdd, Nat.reduceLeDiff, if_true, S9.R.thenS, tru_bl, gSub_int, gAdd_int, gEq_int, gNe_int, gEq_bl, gNe_bl, gEq_str, gNe_str, gLt_int, gLe_int, gGt_int, gGe_int, List.nil_append, List.append_nil, decide_true, decide_false, Bool.not_true, Bool.not_false, e2, e3]
  have S5 : sSet 6 (fCall0 5 f__law_rules (fCons (fVar 2) (fCons (fVar 3) (fCons (fVar 4) (fCons (fVar 5) (fCons (fCall0 2 f__law_take (fCons (fVar 2) (fCons (fC (.int 17)) fNil))) fNil)))))) [some (.d (.frl (ns.map D.int))), some (.d (.int (i : Int))), some (.loc M.length), some (.d (tupI tops)), some (.d (tupI one)), some (.d (tupI two)), u6, u7, u8, u9, u10, u11] M3 = .ok (.nx [some (.d (.frl (ns.map D.int))), some (.d (.int (i : Int))), some (.loc M.length), some (.d (tupI tops)), some (.d (tupI one)), some (.d (tupI two)), some (.d (rulesD R)), u7, u8, u9, u10, u11]) M5 := by
    rw [take_eq]
    simp only [sSeq, sSet, sRet, sIf, sFor, sNil, sPar, sApp, fB, fOrT, fAndT, fNotT, fAnd, fOr, fNot, fIf, fOp, f2, fC, fVar, fCB, fCN, fCons, fNil, fFro, fNew, fLst, fTup, frs9, fCall0, fCallN, fOpN, fUn, fSl, fSlN, oNone, oSome, intW, fSeqI, List.getElem?_cons_zero, List.getElem?_cons_succ, S9.R.bind_ok, S9.R.noEx_ok, rds, rd_d, fr_d, itW_t, itW_l, Option.bind_some, Option.map_some, S9.R.of_some, List.set_cons_zero, List.set_cons_succ, List.length_cons, List.length_nil, Nat.zero_add, Nat.reduceAdd, Nat.reduceLeDiff, if_true, S9.R.thenS, tru_bl, gSub_int, gAdd_int, gEq_int, gNe_int, gEq_bl, gNe_bl, gEq_str, gNe_str, gLt_int, gLe_int, gGt_int, gGe_int, List.nil_append, List.append_nil, decide_true, decide_false, Bool.not_true, Bool.not_false, e4, e5]
  have S6 : sSetN 7 (fLc (fRng1 (fCons (fCall0 2 f__law_take (fCons (fVar 2) (fCons (fC (.int 5)) fNil))) fNil)) (gNm 10) tYesF fe [10]) false [some (.d (.frl (ns.map D.int))), some (.d (.int (i : Int))), some (.loc M.length), some (.d (tupI tops)), some (.d (tupI one)), some (.d (tupI two)), some (.d (rulesD R)), u7, u8, u9, u10, u11] M5 = .ok (.nx [some (.d (.frl (ns.map D.int))), some (.d (.int (i : Int))), some (.loc M.length), some (.d (tupI tops)), some (.d (tupI one)), some (.d (tupI two)), some (.d (rulesD R)), some (.d (.lst (R2.map ruleD))), u8, u9, u10, u11]) M7 := by
    rw [take_eq]
    unfold sSetN
    simp only [sSeq, sSet, sRet, sIf, sFor, sNil, sPar, sApp, fB, fOrT, fAndT, fNotT, fAnd, fOr, fNot, fIf, fOp, f2, fC, fVar, fCB, fCN, fCons, fNil, fFro, fNew, fLst, fTup, frs9, fCall0, fCallN, fOpN, fUn, fSl, fSlN, oNone, oSome, intW, fSeqI, List.getElem?_cons_zero, List.getElem?_cons_succ, S9.R.bind_ok, S9.R.noEx_ok, rds, rd_d, fr_d, itW_t, itW_l, Option.bind_some, Option.map_some, S9.R.of_some, List.set_cons_zero, List.set_cons_succ, List.length_cons, List.length_nil, Nat.zero_add, Nat.reduceAdd, Nat.reduceLeDiff, if_true, S9.R.thenS, tru_bl, gSub_int, gAdd_int, gEq_int, gNe_int, gEq_bl, gNe_bl, gEq_str, gNe_str, gLt_int, gLe_int, gGt_int, gGe_int, List.nil_append, List.append_nil, decide_true, decide_false, Bool.not_true, Bool.not_false, fLc, fRng1, e6, rngW1, hr6, hq6, wipeD, e7]
  have S7 : ∀ ff : FS, sIf (fOrT (fB (fOp gNe (fCall0 2 (f_broken κ) (fCons (fMake (κ 0) 3 (withD (f_Plan____init__ κ) []) (fCons (fVar 3) (fCons (fVar 6) fNil))) (fCons (fVar 4) fNil))) (fTup fNil))) (fNotT (fB (fCall0 2 (f_is_good κ) (fCons (fMake (κ 0) 3 (withD (f_Plan____init__ κ) []) (fCons (fVar 3) (fCons (fVar 6) fNil))) (fCons (fVar 5) fNil)))))) ff sNil [some (.d (.frl (ns.map D.int))), some (.d (.int (i : Int))), some (.loc M.length), some (.d (tupI tops)), some (.d (tupI one)), some (.d (tupI two)), some (.d (rulesD R)), some (.d (.lst (R2.map ruleD))), u8, u9, u10, u11] M7 = .ok (.nx [some (.d (.frl (ns.map D.int))), some (.d (.int (i : Int))), some (.loc M.length), some (.d (tupI tops)), some (.d (tupI one)), some (.d (tupI two)), some (.d (rulesD R)), some (.d (.lst (R2.map ruleD))), u8, u9, u10, u11]) M7 := fun ff => by
    rw [broken_eq, good_eq, init_eq]
    have m1 := mk1 (fCons (fVar 3) (fCons (fVar 6) fNil)) [some (.d (.frl (ns.map D.int))), some (.d (.int (i : Int))), some (.loc M.length), some (.d (tupI tops)), some (.d (tupI one)), some (.d (tupI two)), some (.d (rulesD R)), some (.d (.lst (R2.map ruleD))), u8, u9, u10, u11] M7 rfl
    generalize fMake (κ 0) 3 (withD (f_Plan____init__0 κ) []) (fCons (fVar 3) (fCons (fVar 6) fNil)) = fm at m1 ⊢
    simp only [sSeq, sSet, sRet, sIf, sFor, sNil, sPar, sApp, fB, fOrT, fAndT, fNotT, fAnd, fOr, fNot, fIf, fOp, f2, fC, fVar, fCB, fCN, fCons, fNil, fFro, fNew, fLst, fTup, frs9, fCall0, fCallN, fOpN, fUn, fSl, fSlN, oNone, oSome, intW, fSeqI, List.getElem?_cons_zero, List.getElem?_cons_succ, S9.R.bind_ok, S9.R.noEx_ok, rds, rd_d, fr_d, itW_t, itW_l, Option.bind_some, Option.map_some, S9.R.of_some, List.set_cons_zero, List.set_cons_succ, List.length_cons, List.length_nil, Nat.zero_add, Nat.reduceAdd, Nat.reduceLeDiff, if_true, S9.R.thenS, tru_bl, gSub_int, gAdd_int, gEq_int, gNe_int, gEq_bl, gNe_bl, gEq_str, gNe_str, gLt_int, gLe_int, gGt_int, gGe_int, List.nil_append, List.append_nil, decide_true, decide_false, Bool.not_true, Bool.not_false, m1, c1, c2, ne1]
  have S8 : sPar 8 9 (fCons (fMake (κ 0) 3 (withD (f_Plan____init__ κ) []) (fCons (fVar 3) (fCons (fOp gAdd (fVar 6) (fCB gTuple (fCons (fVar 7) fNil))) fNil))) (fCons (fNew (fLst (fCons (fVar 4) (fCons (fVar 5) (fCons (fCall0 2 f__law_standing (fCons (fVar 2) (fCons (fVar 3) fNil))) (fCons (fCall0 2 f__law_standing (fCons (fVar 2) (fCons (fVar 3) fNil))) fNil)))))) fNil)) [some (.d (.frl (ns.map D.int))), some (.d (.int (i : Int))), some (.loc M.length), some (.d (tupI tops)), some (.d (tupI one)), some (.d (tupI two)), some (.d (rulesD R)), some (.d (.lst (R2.map ruleD))), u8, u9, u10, u11] M7 = .ok (.nx [some (.d (.frl (ns.map D.int))), some (.d (.int (i : Int))), some (.loc M.length), some (.d (tupI tops)), some (.d (tupI one)), some (.d (tupI two)), some (.d (rulesD R)), some (.d (.lst (R2.map ruleD))), some (.d (planD κ tops (R ++ R2))), some (.loc (M ++ [Cell.lst p]).length), u10, u11]) (M9 ++ [.lst [tupI one, tupI two, tupI s3, tupI s4]]) := by
    rw [standing_eq, init_eq]
    have m2 := mk2 (fCons (fVar 3) (fCons (fOp gAdd (fVar 6) (fCB gTuple (fCons (fVar 7) fNil))) fNil)) [some (.d (.frl (ns.map D.int))), some (.d (.int (i : Int))), some (.loc M.length), some (.d (tupI tops)), some (.d (tupI one)), some (.d (tupI two)), some (.d (rulesD R)), some (.d (.lst (R2.map ruleD))), u8, u9, u10, u11] M7 (by simp only [sSeq, sSet, sRet, sIf, sFor, sNil, sPar, sApp, fB, fOrT, fAndT, fNotT, fAnd, fOr, fNot, fIf, fOp, f2, fC, fVar, fCB, fCN, fCons, fNil, fFro, fNew, fLst, fTup, frs9, fCall0, fCallN, fOpN, fUn, fSl, fSlN, oNone, oSome, intW, fSeqI, List.getElem?_cons_zero, List.getElem?_cons_succ, S9.R.bind_ok, S9.R.noEx_ok, rds, rd_d, fr_d, itW_t, itW_l, Option.bind_some, Option.map_some, S9.R.of_some, List.set_cons_zero, List.set_cons_succ, List.length_cons, List.length_nil, Nat.zero_add, Nat.reduceAdd, Nat.reduceLeDiff, if_true, S9.R.thenS, tru_bl, gSub_int, gAdd_int, gEq_int, gNe_int, gEq_bl, gNe_bl, gEq_str, gNe_str, gLt_int, gLe_int, gGt_int, gGe_int, List.nil_append, List.append_nil, decide_true, decide_false, Bool.not_true, Bool.not_false, gt2, gadd])
    generalize fMake (κ 0) 3 (withD (f_Plan____init__0 κ) []) (fCons (fVar 3) (fCons (fOp gAdd (fVar 6) (fCB gTuple (fCons (fVar 7) fNil))) fNil)) = fm at m2 ⊢
    simp only [sSeq, sSet, sRet, sIf, sFor, sNil, sPar, sApp, fB, fOrT, fAndT, fNotT, fAnd, fOr, fNot, fIf, fOp, f2, fC, fVar, fCB, fCN, fCons, fNil, fFro, fNew, fLst, fTup, frs9, fCall0, fCallN, fOpN, fUn, fSl, fSlN, oNone, oSome, intW, fSeqI, List.getElem?_cons_zero, List.getElem?_cons_succ, S9.R.bind_ok, S9.R.noEx_ok, rds, rd_d, fr_d, itW_t, itW_l, Option.bind_some, Option.map_some, S9.R.of_some, List.set_cons_zero, List.set_cons_succ, List.length_cons, List.length_nil, Nat.zero_add, Nat.reduceAdd, Nat.reduceLeDiff, if_true, S9.R.thenS, tru_bl, gSub_int, gAdd_int, gEq_int, gNe_int, gEq_bl, gNe_bl, gEq_str, gNe_str, gLt_int, gLe_int, gGt_int, gGe_int, List.nil_append, List.append_nil, decide_true, decide_false, Bool.not_true, Bool.not_false, m2, e8, e9, l9]
  have S9' : sFor (fRng1 (fCons (fOp gMul (fC (.int 6)) (fCB gInt (fCons (fOp gNe (fFld (κ 0) "rules" (fVar 8)) (fTup fNil)) fNil))) fNil)) (gNm 10) fl [some (.d (.frl (ns.map D.int))), some (.d (.int (i : Int))), some (.loc M.length), some (.d (tupI tops)), some (.d (tupI one)), some (.d (tupI two)), some (.d (rulesD R)), some (.d (.lst (R2.map ruleD))), some (.d (planD κ tops (R ++ R2))), some (.loc (M ++ [Cell.lst p]).length), u10, u11] (M9 ++ [.lst [tupI one, tupI two, tupI s3, tupI s4]]) = .ok (.nx [some (.d (.frl (ns.map D.int))), some (.d (.int (i : Int))), some (.loc M.length), some (.d (tupI tops)), some (.d (tupI one)), some (.d (tupI two)), some (.d (rulesD R)), some (.d (.lst (R2.map ruleD))), some (.d (planD κ tops (R ++ R2))), some (.loc (M ++ [Cell.lst p]).length), z10, u11]) M10 := by
    simp only [sSeq, sSet, sRet, sIf, sFor, sNil, sPar, sApp, fB, fOrT, fAndT, fNotT, fAnd, fOr, fNot, fIf, fOp, f2, fC, fVar, fCB, fCN, fCons, fNil, fFro, fNew, fLst, fTup, frs9, fCall0, fCallN, fOpN, fUn, fSl, fSlN, oNone, oSome, intW, fSeqI, List.getElem?_cons_zero, List.getElem?_cons_succ, S9.R.bind_ok, S9.R.noEx_ok, rds, rd_d, fr_d, itW_t, itW_l, Option.bind_some, Option.map_some, S9.R.of_some, List.set_cons_zero, List.set_cons_succ, List.length_cons, List.length_nil, Nat.zero_add, Nat.reduceAdd, Nat.reduceLeDiff, if_true, S9.R.thenS, tru_bl, gSub_int, gAdd_int, gEq_int, gNe_int, gEq_bl, gNe_bl, gEq_str, gNe_str, gLt_int, gLe_int, gGt_int, gGe_int, List.nil_append, List.append_nil, decide_true, decide_false, Bool.not_true, Bool.not_false, fFld, look_rules, hn2, hint, hmul, fRng1, rngW1, hr9, e10]
  have S10 : ∀ ff : FS, sIf (fNotT (fB (fCB gAll (fCons (fFro (fLc (fSeqI (fVar 9)) (gNm 11) tYesF fr [11])) fNil)))) ff sNil [some (.d (.frl (ns.map D.int))), some (.d (.int (i : Int))), some (.loc M.length), some (.d (tupI tops)), some (.d (tupI one)), some (.d (tupI two)), some (.d (rulesD R)), some (.d (.lst (R2.map ruleD))), some (.d (planD κ tops (R ++ R2))), some (.loc (M ++ [Cell.lst p]).length), z10, u11] M10 = .ok (.nx [some (.d (.frl (ns.map D.int))), some (.d (.int (i : Int))), some (.loc M.length), some (.d (tupI tops)), some (.d (tupI one)), some (.d (tupI two)), some (.d (rulesD R)), some (.d (.lst (R2.map ruleD))), some (.d (planD κ tops (R ++ R2))), some (.loc (M ++ [Cell.lst p]).length), z10, u11]) M10 := fun ff => by
    simp only [sSeq, sSet, sRet, sIf, sFor, sNil, sPar, sApp, fB, fOrT, fAndT, fNotT, fAnd, fOr, fNot, fIf, fOp, f2, fC, fVar, fCB, fCN, fCons, fNil, fFro, fNew, fLst, fTup, frs9, fCall0, fCallN, fOpN, fUn, fSl, fSlN, oNone, oSome, intW, fSeqI, List.getElem?_cons_zero, List.getElem?_cons_succ, S9.R.bind_ok, S9.R.noEx_ok, rds, rd_d, fr_d, itW_t, itW_l, Option.bind_some, Option.map_some, S9.R.of_some, List.set_cons_zero, List.set_cons_succ, List.length_cons, List.length_nil, Nat.zero_add, Nat.reduceAdd, Nat.reduceLeDiff, if_true, S9.R.thenS, tru_bl, gSub_int, gAdd_int, gEq_int, gNe_int, gEq_bl, gNe_bl, gEq_str, gNe_str, gLt_int, gLe_int, gGt_int, gGe_int, List.nil_append, List.append_nil, decide_true, decide_false, Bool.not_true, Bool.not_false, fLc, hit9, hsz9, wipeD, last, gAll, lstOf, ea, eb]
  refine ⟨some (.loc M.length), some (.d (tupI tops)), some (.d (tupI one)), some (.d (tupI two)), some (.d (rulesD R)), some (.d (.lst (R2.map ruleD))), some (.d (planD κ tops (R ++ R2))), some (.loc (M ++ [Cell.lst p]).length), z10, u11, M10, ?_, fl10⟩
  rw [hfb]
  unfold sSeq
  simp only [S2, S3, S4, S5, S6, S7, S8, S9', S10, S9.R.thenS]
theorem law_plain (κ : Nat → Addr) (ns : List Int) (h1 : ns.length ≤ 63) (h2 : ∀ k ∈ ns, Builtin.Int.intBits k ≤ 1048576) : ∃ M, f_law κ [.d (.frl (ns.map D.int))] [] = .ok (.d (.bl true)) M := by
  unfold f_law body g_law
  have hlen : gLen [.frl (ns.map D.int)] = some (.int (ns.length : Int)) := by rw [gLen_frl, List.length_map]
  obtain ⟨m, hm, hm3⟩ : ∃ m : Nat, max2 1 (min2 3 (ns.length : Int)) = (m : Int) ∧ m ≤ 3 := by
    unfold max2 min2
    by_cases g1 : (ns.length : Int) < 3
    · rw [if_pos g1]
      by_cases g2 : (ns.length : Int) > 1
      · exact ⟨ns.length, by rw [if_pos g2], by omega⟩
      · exact ⟨1, by rw [if_neg g2]; rfl, by omega⟩
    · rw [if_neg g1]; exact ⟨3, rfl, by omega⟩
  generalize hfb : (sSeq (sSet 2 (fNew (fCallN 2 fn__law_pot (fCons (fVar 0) (fCons (fVar 1) fNil))))) _ : FS) = fb
  obtain ⟨δ', M', e1, hfl, u1, u2, u3, u4, u5, u6, u7, u8, u9, u10, u11, hδ⟩ := for_inv (lk := []) (M0 := []) (g := gNm 1) (fb := fb) (fun i δ M => Flat M ∧ ∃ u1 u2 u3 u4 u5 u6 u7 u8 u9 u10 u11, δ = [some (.d (.frl (ns.map D.int))), u1, u2, u3, u4, u5, u6, u7, u8, u9, u10, u11]) (rgD 0 m) 0 (δ := [some (.d (.frl (ns.map D.int))), none, none, none, none, none, none, none, none, none, none, none]) (M := []) (fun i d δ M hd ⟨hfl, u1, u2, u3, u4, u5, u6, u7, u8, u9, u10, u11, hδ⟩ => by
    subst hδ
    obtain ⟨rfl, hi⟩ := rgD_get hd
    rw [Int.zero_add]
    obtain ⟨v2, v3, v4, v5, v6, v7, v8, v9, v10, v11, M', e, hf'⟩ := turn_ok κ ns i (by omega) h1 hfl u1 u2 u3 u4 u5 u6 u7 u8 u9 u10 u11 fb hfb.symm
    exact ⟨[some (.d (.frl (ns.map D.int))), some (.d (.int (i : Int))), u2, u3, u4, u5, u6, u7, u8, u9, u10, u11], _, M', rfl, .inl e, lkOk_nil, hf', _, _, _, _, _, _, _, _, _, _, _, rfl⟩) ⟨fun c hc => absurd hc List.not_mem_nil, _, _, _, _, _, _, _, _, _, _, _, rfl⟩
  subst hδ
  have hr : rngR (0, (m : Int)) [] = .ok (rgD 0 m, []) [] := rng_ok (by omega) _
  refine ⟨[], ?_⟩
  show fin 0 (sSeq _ _ [some (.d (.frl (ns.map D.int))), none, none, none, none, none, none, none, none, none, none, none] []) = _
  simp only [sSeq, sSet, sRet, sIf, sFor, sNil, sPar, sApp, fB, fOrT, fAndT, fNotT, fAnd, fOr, fNot, fIf, fOp, f2, fC, fVar, fCB, fCN, fCons, fNil, fFro, fNew, fLst, fTup, frs9, fCall0, fCallN, fOpN, fUn, fSl, fSlN, oNone, oSome, intW, fSeqI, List.getElem?_cons_zero, List.getElem?_cons_succ, S9.R.bind_ok, S9.R.noEx_ok, rds, rd_d, fr_d, itW_t, itW_l, Option.bind_some, Option.map_some, S9.R.of_some, List.set_cons_zero, List.set_cons_succ, List.length_cons, List.length_nil, Nat.zero_add, Nat.reduceAdd, Nat.reduceLeDiff, if_true, S9.R.thenS, tru_bl, gSub_int, gAdd_int, gEq_int, gNe_int, gEq_bl, gNe_bl, gEq_str, gNe_str, gLt_int, gLe_int, gGt_int, gGe_int, List.nil_append, List.append_nil, decide_true, decide_false, Bool.not_true, Bool.not_false, hlen, gI2, hm, fRng1, rngW1, hr, e1]
  have := fin_ext (M1 := []) (ext := M') (n := 0) (x := .bl true) (fun c hc => absurd hc List.not_mem_nil) rfl
  exact this
end K03

namespace K03
open PySem PySem.Spec PyProof.Rows L2 S9
def topS (i : Nat) : Stmt := PySem.Challenge.pw_notbothout_k03_rules_kept_or_broken.main.body.getD i (.Pass ⟨0, 0, 0, 0⟩)
abbrev s__law_pot : Stmt := topS 30
theorem sc__law_pot : FnScope ["_law_script", "_law_k", "_law_cell", "_law_great"] ["_law_script", "_law_k"] (defScope s__law_pot) := ⟨rfl, rfl, rfl, by decide +kernel, rfl, by decide +kernel, by decide +kernel⟩
abbrev s__law_take : Stmt := topS 31
theorem sc__law_take : FnScope ["_law_pot_here", "_law_many", "_law_digit", "_law_prime", "_law_mixed"] ["_law_pot_here", "_law_many"] (defScope s__law_take) := ⟨rfl, rfl, rfl, by decide +kernel, rfl, by decide +kernel, by decide +kernel⟩
abbrev s__law_of : Stmt := topS 32
theorem sc__law_of : FnScope ["_law_pot_here", "_law_some"] ["_law_pot_here", "_law_some"] (defScope s__law_of) := ⟨rfl, rfl, rfl, by decide +kernel, rfl, by decide +kernel, by decide +kernel⟩
abbrev s__law_wide_tops : Stmt := topS 37
theorem sc__law_wide_tops : FnScope ["_law_pot_here", "_law_found", "_law_thing", "_law_great"] ["_law_pot_here"] (defScope s__law_wide_tops) := ⟨rfl, rfl, rfl, by decide +kernel, rfl, by decide +kernel, by decide +kernel⟩
abbrev s__law_side_in : Stmt := topS 35
theorem sc__law_side_in : FnScope ["_law_pot_here", "_law_tops", "_law_standing_here", "_law_thing"] ["_law_pot_here", "_law_tops", "_law_standing_here"] (defScope s__law_side_in) := ⟨rfl, rfl, rfl, by decide +kernel, rfl, by decide +kernel, by decide +kernel⟩
abbrev s__law_rules : Stmt := topS 36
theorem sc__law_rules : FnScope ["_law_pot_here", "_law_tops", "_law_one", "_law_two", "_law_many", "_law_found", "_law_turn", "_law_both"] ["_law_pot_here", "_law_tops", "_law_one", "_law_two", "_law_many"] (defScope s__law_rules) := ⟨rfl, rfl, rfl, by decide +kernel, rfl, by decide +kernel, by decide +kernel⟩
abbrev s__law_standing : Stmt := topS 33
theorem sc__law_standing : FnScope ["_law_pot_here", "_law_tops", "_law_top"] ["_law_pot_here", "_law_tops"] (defScope s__law_standing) := ⟨rfl, rfl, rfl, by decide +kernel, rfl, by decide +kernel, by decide +kernel⟩
abbrev s__law_any_side : Stmt := topS 38
theorem sc__law_any_side : FnScope ["_law_pot_here", "_law_tops", "_law_thing"] ["_law_pot_here", "_law_tops"] (defScope s__law_any_side) := ⟨rfl, rfl, rfl, by decide +kernel, rfl, by decide +kernel, by decide +kernel⟩
abbrev s_is_in : Stmt := topS 17
theorem sc_is_in : FnScope ["side", "standing", "thing", "word", "place"] ["side", "standing"] (defScope s_is_in) := ⟨rfl, rfl, rfl, by decide +kernel, rfl, by decide +kernel, by decide +kernel⟩
abbrev s_broken : Stmt := topS 18
theorem sc_broken : FnScope ["plan", "standing", "k", "sides", "side"] ["plan", "standing"] (defScope s_broken) := ⟨rfl, rfl, rfl, by decide +kernel, rfl, by decide +kernel, by decide +kernel⟩
abbrev s_is_good : Stmt := topS 19
theorem sc_is_good : FnScope ["plan", "standing", "one", "other"] ["plan", "standing"] (defScope s_is_good) := ⟨rfl, rfl, rfl, by decide +kernel, rfl, by decide +kernel, by decide +kernel⟩
abbrev s__law_at_sides : Stmt := topS 39
theorem sc__law_at_sides : FnScope ["_law_pot_here", "_law_tops", "_law_standing_here", "_law_rule", "_law_found", "_law_thing", "_law_word", "_law_place"] ["_law_pot_here", "_law_tops", "_law_standing_here", "_law_rule"] (defScope s__law_at_sides) := ⟨rfl, rfl, rfl, by decide +kernel, rfl, by decide +kernel, by decide +kernel⟩
abbrev s__law_is_in : Stmt := topS 34
theorem sc__law_is_in : FnScope ["_law_side", "_law_standing_here", "_law_thing", "_law_word", "_law_place"] ["_law_side", "_law_standing_here"] (defScope s__law_is_in) := ⟨rfl, rfl, rfl, by decide +kernel, rfl, by decide +kernel, by decide +kernel⟩
abbrev s__law_right : Stmt := topS 40
theorem sc__law_right : FnScope ["_law_plan", "_law_standing_here", "_law_rule", "_law_side", "_law_due", "_law_number", "_law_one", "_law_two"] ["_law_plan", "_law_standing_here"] (defScope s__law_right) := ⟨rfl, rfl, rfl, by decide +kernel, rfl, by decide +kernel, by decide +kernel⟩
abbrev s_is_whole : Stmt := topS 8
theorem sc_is_whole : FnScope ["thing"] ["thing"] (defScope s_is_whole) := ⟨rfl, rfl, rfl, by decide +kernel, rfl, by decide +kernel, by decide +kernel⟩
abbrev s_is_within : Stmt := topS 9
theorem sc_is_within : FnScope ["thing", "low", "high"] ["thing", "low", "high"] (defScope s_is_within) := ⟨rfl, rfl, rfl, by decide +kernel, rfl, by decide +kernel, by decide +kernel⟩
abbrev s_are_tops : Stmt := topS 26
theorem sc_are_tops : FnScope ["thing", "top"] ["thing"] (defScope s_are_tops) := ⟨rfl, rfl, rfl, by decide +kernel, rfl, by decide +kernel, by decide +kernel⟩
abbrev s_is_side_of : Stmt := topS 10
theorem sc_is_side_of : FnScope ["tops", "thing", "number", "word", "place"] ["tops", "thing"] (defScope s_is_side_of) := ⟨rfl, rfl, rfl, by decide +kernel, rfl, by decide +kernel, by decide +kernel⟩
abbrev s_is_rule_of : Stmt := topS 11
theorem sc_is_rule_of : FnScope ["tops", "thing", "side"] ["tops", "thing"] (defScope s_is_rule_of) := ⟨rfl, rfl, rfl, by decide +kernel, rfl, by decide +kernel, by decide +kernel⟩
abbrev s_are_rules : Stmt := topS 27
theorem sc_are_rules : FnScope ["tops", "thing", "rule"] ["tops", "thing"] (defScope s_are_rules) := ⟨rfl, rfl, rfl, by decide +kernel, rfl, by decide +kernel, by decide +kernel⟩
abbrev s_Plan____init__ : Stmt := inClass (topS 28) 0
theorem sc_Plan____init__ : FnScope ["self", "tops", "rules"] ["self", "tops", "rules"] (defScope s_Plan____init__) := ⟨rfl, rfl, rfl, by decide +kernel, rfl, by decide +kernel, by decide +kernel⟩
abbrev s_law : Stmt := topS 41
theorem sc_law : FnScope ["_law_script", "_law_k", "_law_pot_here", "_law_tops", "_law_one", "_law_two", "_law_rules_here", "_law_more", "_law_plan", "_law_some", "_law_turn", "_law_standing_here"] ["_law_script"] (defScope s_law) := ⟨rfl, rfl, rfl, by decide +kernel, rfl, by decide +kernel, by decide +kernel⟩
structure Ctx (K : PySem.W.Frag) (mg : Str → Option Value) where
  κ : Nat → Addr
  a__law_pot : Addr
  d__law_pot : FuncData
  F__law_pot : Fun K "_law_pot" "_law_pot" s__law_pot a__law_pot d__law_pot
  m__law_pot : mg "_law_pot" = some (.ref a__law_pot)
  b__law_pot : Binds K d__law_pot ["_law_script", "_law_k"] []
  a__law_take : Addr
  d__law_take : FuncData
  F__law_take : Fun K "_law_take" "_law_take" s__law_take a__law_take d__law_take
  m__law_take : mg "_law_take" = some (.ref a__law_take)
  b__law_take : Binds K d__law_take ["_law_pot_here", "_law_many"] []
  a__law_of : Addr
  d__law_of : FuncData
  F__law_of : Fun K "_law_of" "_law_of" s__law_of a__law_of d__law_of
  m__law_of : mg "_law_of" = some (.ref a__law_of)
  b__law_of : Binds K d__law_of ["_law_pot_here", "_law_some"] []
  a__law_wide_tops : Addr
  d__law_wide_tops : FuncData
  F__law_wide_tops : Fun K "_law_wide_tops" "_law_wide_tops" s__law_wide_tops a__law_wide_tops d__law_wide_tops
  m__law_wide_tops : mg "_law_wide_tops" = some (.ref a__law_wide_tops)
  b__law_wide_tops : Binds K d__law_wide_tops ["_law_pot_here"] []
  a__law_side_in : Addr
  d__law_side_in : FuncData
  F__law_side_in : Fun K "_law_side_in" "_law_side_in" s__law_side_in a__law_side_in d__law_side_in
  m__law_side_in : mg "_law_side_in" = some (.ref a__law_side_in)
  b__law_side_in : Binds K d__law_side_in ["_law_pot_here", "_law_tops", "_law_standing_here"] []
  a__law_rules : Addr
  d__law_rules : FuncData
  F__law_rules : Fun K "_law_rules" "_law_rules" s__law_rules a__law_rules d__law_rules
  m__law_rules : mg "_law_rules" = some (.ref a__law_rules)
  b__law_rules : Binds K d__law_rules ["_law_pot_here", "_law_tops", "_law_one", "_law_two", "_law_many"] []
  a__law_standing : Addr
  d__law_standing : FuncData
  F__law_standing : Fun K "_law_standing" "_law_standing" s__law_standing a__law_standing d__law_standing
  m__law_standing : mg "_law_standing" = some (.ref a__law_standing)
  b__law_standing : Binds K d__law_standing ["_law_pot_here", "_law_tops"] []
  a__law_any_side : Addr
  d__law_any_side : FuncData
  F__law_any_side : Fun K "_law_any_side" "_law_any_side" s__law_any_side a__law_any_side d__law_any_side
  m__law_any_side : mg "_law_any_side" = some (.ref a__law_any_side)
  b__law_any_side : Binds K d__law_any_side ["_law_pot_here", "_law_tops"] []
  a_is_in : Addr
  d_is_in : FuncData
  F_is_in : Fun K "is_in" "is_in" s_is_in a_is_in d_is_in
  m_is_in : mg "is_in" = some (.ref a_is_in)
  b_is_in : Binds K d_is_in ["side", "standing"] []
  a_broken : Addr
  d_broken : FuncData
  F_broken : Fun K "broken" "broken" s_broken a_broken d_broken
  m_broken : mg "broken" = some (.ref a_broken)
  b_broken : Binds K d_broken ["plan", "standing"] []
  a_is_good : Addr
  d_is_good : FuncData
  F_is_good : Fun K "is_good" "is_good" s_is_good a_is_good d_is_good
  m_is_good : mg "is_good" = some (.ref a_is_good)
  b_is_good : Binds K d_is_good ["plan", "standing"] []
  a__law_at_sides : Addr
  d__law_at_sides : FuncData
  F__law_at_sides : Fun K "_law_at_sides" "_law_at_sides" s__law_at_sides a__law_at_sides d__law_at_sides
  m__law_at_sides : mg "_law_at_sides" = some (.ref a__law_at_sides)
  b__law_at_sides : Binds K d__law_at_sides ["_law_pot_here", "_law_tops", "_law_standing_here", "_law_rule"] []
  a__law_is_in : Addr
  d__law_is_in : FuncData
  F__law_is_in : Fun K "_law_is_in" "_law_is_in" s__law_is_in a__law_is_in d__law_is_in
  m__law_is_in : mg "_law_is_in" = some (.ref a__law_is_in)
  b__law_is_in : Binds K d__law_is_in ["_law_side", "_law_standing_here"] []
  a__law_right : Addr
  d__law_right : FuncData
  F__law_right : Fun K "_law_right" "_law_right" s__law_right a__law_right d__law_right
  m__law_right : mg "_law_right" = some (.ref a__law_right)
  b__law_right : Binds K d__law_right ["_law_plan", "_law_standing_here"] []
  a_is_whole : Addr
  d_is_whole : FuncData
  F_is_whole : Fun K "is_whole" "is_whole" s_is_whole a_is_whole d_is_whole
  m_is_whole : mg "is_whole" = some (.ref a_is_whole)
  b_is_whole : Binds K d_is_whole ["thing"] []
  a_is_within : Addr
  d_is_within : FuncData
  F_is_within : Fun K "is_within" "is_within" s_is_within a_is_within d_is_within
  m_is_within : mg "is_within" = some (.ref a_is_within)
  b_is_within : Binds K d_is_within ["thing", "low", "high"] []
  a_are_tops : Addr
  d_are_tops : FuncData
  F_are_tops : Fun K "are_tops" "are_tops" s_are_tops a_are_tops d_are_tops
  m_are_tops : mg "are_tops" = some (.ref a_are_tops)
  b_are_tops : Binds K d_are_tops ["thing"] []
  a_is_side_of : Addr
  d_is_side_of : FuncData
  F_is_side_of : Fun K "is_side_of" "is_side_of" s_is_side_of a_is_side_of d_is_side_of
  m_is_side_of : mg "is_side_of" = some (.ref a_is_side_of)
  b_is_side_of : Binds K d_is_side_of ["tops", "thing"] []
  a_is_rule_of : Addr
  d_is_rule_of : FuncData
  F_is_rule_of : Fun K "is_rule_of" "is_rule_of" s_is_rule_of a_is_rule_of d_is_rule_of
  m_is_rule_of : mg "is_rule_of" = some (.ref a_is_rule_of)
  b_is_rule_of : Binds K d_is_rule_of ["tops", "thing"] []
  a_are_rules : Addr
  d_are_rules : FuncData
  F_are_rules : Fun K "are_rules" "are_rules" s_are_rules a_are_rules d_are_rules
  m_are_rules : mg "are_rules" = some (.ref a_are_rules)
  b_are_rules : Binds K d_are_rules ["tops", "thing"] []
  t_Plan____init__ : Addr
  a_Plan____init__ : Addr
  d_Plan____init__ : FuncData
  F_Plan____init__ : FunE K "__init__" "Plan.__init__" s_Plan____init__ [.ref t_Plan____init__] [] a_Plan____init__ d_Plan____init__
  {ud_Plan____init__ : Option Addr} {un_Plan____init__ : Nat} {us_Plan____init__ : Array (Option Value)}
  u_Plan____init__ : K.lookup t_Plan____init__ = some ⟨.type "tuple", ud_Plan____init__, .seq #[] un_Plan____init__, us_Plan____init__⟩
  b_Plan____init__ : Binds K d_Plan____init__ ["self", "tops", "rules"] []
  a_law : Addr
  d_law : FuncData
  F_law : Fun K "law" "law" s_law a_law d_law
  m_law : mg "law" = some (.ref a_law)
  b_law : Binds K d_law ["_law_script"] []
  m_Plan : mg "Plan" = some (.ref (κ 0))
  cls_Plan : Cls K (κ 0)
  mk_Plan : Mk K (κ 0) a_Plan____init__
  n_Plan_rules : NoAttr K (κ 0) "rules"
  n_Plan_tops : NoAttr K (κ 0) "tops"
  v_BEYOND : ∃ t, mg "BEYOND" = some (.int 1000000000000000000000000000000 t)
  v_MOST_RULES : ∃ t, mg "MOST_RULES" = some (.int 40 t)
  v_MOST_THINGS : ∃ t, mg "MOST_THINGS" = some (.int 12 t)
  v_SIDE_WORDS : ∃ a, mg "SIDE_WORDS" = some (.ref a) ∧ ∀ H, Rp K H (.tup [D.str "from", D.str "to"]) (.ref a)
  z_abs : mg "abs" = none
  z_all : mg "all" = none
  z_any : mg "any" = none
  z_bool : mg "bool" = none
  z_enumerate : mg "enumerate" = none
  z_int : mg "int" = none
  z_isinstance : mg "isinstance" = none
  z_len : mg "len" = none
  z_list : mg "list" = none
  z_max : mg "max" = none
  z_min : mg "min" = none
  z_range : mg "range" = none
  z_repr : mg "repr" = none
  z_str : mg "str" = none
  z_tuple : mg "tuple" = none
section
variable {P : Program} {w : World} {K : PySem.W.Frag} {mg : Str → Option Value} {base : Heap}
theorem okn__law_pot (c : Ctx K mg) : FnG P w K mg base CX0 1 c.a__law_pot c.d__law_pot ["_law_script", "_law_k"] (spN K 2 fn__law_pot) :=
  gn_body c.F__law_pot sc__law_pot fun cdv A out s H E gd hr =>
    (rss_cons (rs_set (i := 2) sc__law_pot.nd rfl (.inl rfl) (re_if (rt_cmp op_lt od_lt (re_var (pv 1)) (re_callB call_len cd_len (by rfl) c.z_len PySem.boot_len (ra_cons (re_var (pv 0)) ra_nil)) (nomark _)) (re_ix ix_seq od_ix (re_var (pv 0)) (re_var (pv 1)) (fun _ _ => rfl)) (re_op op_addA od_add (re_op op_mulW od_mul re_int (re_var (pv 1))) re_int)))
    (rss_cons (rs_set (i := 3) sc__law_pot.nd rfl (.inl rfl) (re_op op_mulW od_mul (re_op op_mod od_mod (re_callB call_abs cd_abs (by rfl) c.z_abs boot_abs (ra_cons (re_var (pv 2)) ra_nil)) (re_op op_powW od_pow (re_op op_powW od_pow re_int re_int) re_int)) (re_callTy call_int1 cd_int (by rfl) c.z_int boot_int (ra_cons (re_cmp op_ge od_ge (re_callB call_abs cd_abs (by rfl) c.z_abs boot_abs (ra_cons (re_var (pv 2)) ra_nil)) (re_op op_powW od_pow re_int re_int) (nomark _)) ra_nil))))
    (rss_one (rs_ret (re_new (rn_lst (ra_cons (re_var (pv 3)) (ra_cons (re_op op_mod od_mod (re_op op_mulW od_mul (re_op op_addA od_add (re_op op_addA od_add (re_op op_mod od_mod (re_var (pv 2)) re_int) (re_op op_mulW od_mul (re_op op_mulW od_mul re_int (re_var (pv 1))) (re_var (pv 1)))) re_int) re_int) re_int) (ra_cons re_int ra_nil)))))))))
theorem ok__law_take (c : Ctx K mg) : FnG P w K mg base CX0 1 c.a__law_take c.d__law_take ["_law_pot_here", "_law_many"] (sp0 K 2 f__law_take) :=
  g_body c.F__law_take sc__law_take fun cdv A out s H E gd hr =>
    (rss_cons (rs_if (rt_cmp op_gt od_gt (re_ix ix_seq od_ix (re_var (pv 0)) re_int (fun _ _ => rfl)) re_int (nomark _))
      (rss_cons (rs_set (i := 2) sc__law_take.nd rfl (.inl rfl) (re_op op_mod od_mod (re_ix ix_seq od_ix (re_var (pv 0)) re_int (fun _ _ => rfl)) (re_var (pv 1))))
      (rss_cons (rs_seti (re_var (pv 0)) re_int (re_op op_fdivW od_div (re_ix ix_seq od_ix (re_var (pv 0)) re_int (fun _ _ => rfl)) (re_var (pv 1))))
      (rss_one (rs_ret (re_var (pv 2))))))
      rss_nil)
    (rss_cons (rs_seti (re_var (pv 0)) re_int (re_op op_addA od_add (re_ix ix_seq od_ix (re_var (pv 0)) re_int (fun _ _ => rfl)) re_int))
    (rss_cons (rs_set (i := 3) sc__law_take.nd rfl (.inl rfl) (re_ix ix_seq od_ix (re_fro (rn_lst (ra_cons re_int (ra_cons re_int (ra_cons re_int (ra_cons re_int ra_nil)))))) (re_op op_mod od_mod (re_ix ix_seq od_ix (re_var (pv 0)) re_int (fun _ _ => rfl)) re_int) (fun _ _ => rfl)))
    (rss_cons (rs_set (i := 4) sc__law_take.nd rfl (.inl rfl) (re_op op_mod od_mod (re_op op_addA od_add (re_op op_addA od_add (re_ix ix_seq od_ix (re_var (pv 0)) re_int (fun _ _ => rfl)) (re_op op_mulW od_mul (re_op op_mulW od_mul re_int (re_ix ix_seq od_ix (re_var (pv 0)) re_int (fun _ _ => rfl))) (re_ix ix_seq od_ix (re_var (pv 0)) re_int (fun _ _ => rfl)))) (re_op op_mulW od_mul re_int (re_ix ix_seq od_ix (re_var (pv 0)) re_int (fun _ _ => rfl)))) (re_var (pv 3))))
    (rss_cons (rs_set (i := 4) sc__law_take.nd rfl (.inl rfl) (re_op op_mod od_mod (re_op op_powW od_pow (re_var (pv 4)) re_int) (re_var (pv 3))))
    (rss_one (rs_ret (re_op op_mod od_mod (re_op op_addA od_add (re_op op_fdivW od_div (re_var (pv 4)) re_int) (re_op op_mulW od_mul (re_op op_fdivW od_div (re_var (pv 4)) re_int) re_int)) (re_var (pv 1))))))))))
theorem ok__law_of (c : Ctx K mg) : FnG P w K mg base CX0 2 c.a__law_of c.d__law_of ["_law_pot_here", "_law_some"] (sp0 K 2 f__law_of) :=
  g_body c.F__law_of sc__law_of fun cdv A out s H E gd hr =>
    (rss_one (rs_ret (re_ix ix_seq od_ix (re_var (pv 1)) (re_g (ok__law_take c) gd (hr.mono (by decide)) (by rfl) c.m__law_take c.F__law_take.kp c.b__law_take pass0 (ra_cons (re_var (pv 0)) (ra_cons (re_callB call_len cd_len (by rfl) c.z_len PySem.boot_len (ra_cons (re_var (pv 1)) ra_nil)) ra_nil))) (fun _ _ => rfl))))
theorem ok__law_wide_tops (c : Ctx K mg) : FnG P w K mg base CX0 3 c.a__law_wide_tops c.d__law_wide_tops ["_law_pot_here"] (sp0 K 1 f__law_wide_tops) :=
  g_body c.F__law_wide_tops sc__law_wide_tops fun cdv A out s H E gd hr =>
    (rss_cons (rs_set (i := 1) sc__law_wide_tops.nd rfl (.inl rfl) (re_new (rn_lst ra_nil)))
    (rss_cons (rs_for PassesOwn.never rfl (ri_range1 (by rfl) c.z_range (ra_cons (re_op op_addA od_add re_int (re_g (ok__law_take c) gd (hr.mono (by decide)) (by rfl) c.m__law_take c.F__law_take.kp c.b__law_take pass0 (ra_cons (re_var (pv 0)) (ra_cons re_int ra_nil)))) ra_nil)) (rg_name (i := 2) sc__law_wide_tops.nd rfl (.inl rfl))
      (rss_cons (rs_set (i := 3) sc__law_wide_tops.nd rfl (.inl rfl) (re_op op_addA od_add (re_op op_mulW od_mul (re_g (ok__law_take c) gd (hr.mono (by decide)) (by rfl) c.m__law_take c.F__law_take.kp c.b__law_take pass0 (ra_cons (re_var (pv 0)) (ra_cons (re_op op_powW od_pow re_int re_int) ra_nil))) (re_op op_powW od_pow re_int re_int)) (re_g (ok__law_take c) gd (hr.mono (by decide)) (by rfl) c.m__law_take c.F__law_take.kp c.b__law_take pass0 (ra_cons (re_var (pv 0)) (ra_cons (re_op op_powW od_pow re_int re_int) ra_nil)))))
      (rss_one (rs_append (re_var (pv 1)) (re_g (ok__law_of c) gd (hr.mono (by decide)) (by rfl) c.m__law_of c.F__law_of.kp c.b__law_of pass0 (ra_cons (re_var (pv 0)) (ra_cons (re_fro (rn_lst (ra_cons re_int (ra_cons re_int (ra_cons re_int (ra_cons re_int (ra_cons (re_var (pv 3)) (ra_cons (re_op op_sub od_sub (re_op op_powW od_pow re_int re_int) re_int) ra_nil)))))))) ra_nil)))))))
    (rss_one (rs_ret (re_callTy call_tuple_of cd_tuple (by rfl) c.z_tuple boot_tuple (ra_cons (re_var (pv 1)) ra_nil))))))
theorem ok__law_side_in (c : Ctx K mg) : FnG P w K mg base CX0 2 c.a__law_side_in c.d__law_side_in ["_law_pot_here", "_law_tops", "_law_standing_here"] (sp0 K 3 f__law_side_in) :=
  g_body c.F__law_side_in sc__law_side_in fun cdv A out s H E gd hr =>
    (rss_cons (rs_set (i := 3) sc__law_side_in.nd rfl (.inl rfl) (re_g (ok__law_take c) gd (hr.mono (by decide)) (by rfl) c.m__law_take c.F__law_take.kp c.b__law_take pass0 (ra_cons (re_var (pv 0)) (ra_cons (re_callB call_len cd_len (by rfl) c.z_len PySem.boot_len (ra_cons (re_var (pv 1)) ra_nil)) ra_nil))))
    (rss_cons (rs_if (rt_cmp (op_eqA hr.units) od_eq (re_g (ok__law_take c) gd (hr.mono (by decide)) (by rfl) c.m__law_take c.F__law_take.kp c.b__law_take pass0 (ra_cons (re_var (pv 0)) (ra_cons re_int ra_nil))) re_int (nomark _))
      (rss_one (rs_ret (re_tup (ra_cons (re_var (pv 3)) (ra_cons re_str (ra_cons (re_g (ok__law_take c) gd (hr.mono (by decide)) (by rfl) c.m__law_take c.F__law_take.kp c.b__law_take pass0 (ra_cons (re_var (pv 0)) (ra_cons (re_op op_addA od_add (re_ix ix_seq od_ix (re_var (pv 2)) (re_var (pv 3)) (fun _ _ => rfl)) re_int) ra_nil))) ra_nil))))))
      rss_nil)
    (rss_one (rs_ret (re_tup (ra_cons (re_var (pv 3)) (ra_cons re_str (ra_cons (re_op op_addA od_add (re_ix ix_seq od_ix (re_var (pv 2)) (re_var (pv 3)) (fun _ _ => rfl)) (re_g (ok__law_take c) gd (hr.mono (by decide)) (by rfl) c.m__law_take c.F__law_take.kp c.b__law_take pass0 (ra_cons (re_var (pv 0)) (ra_cons (re_op op_addA od_add (re_op op_sub od_sub (re_ix ix_seq od_ix (re_var (pv 1)) (re_var (pv 3)) (fun _ _ => rfl)) (re_ix ix_seq od_ix (re_var (pv 2)) (re_var (pv 3)) (fun _ _ => rfl))) re_int) ra_nil)))) ra_nil))))))))
theorem ok__law_rules (c : Ctx K mg) : FnG P w K mg base CX0 3 c.a__law_rules c.d__law_rules ["_law_pot_here", "_law_tops", "_law_one", "_law_two", "_law_many"] (sp0 K 5 f__law_rules) :=
  g_body c.F__law_rules sc__law_rules fun cdv A out s H E gd hr =>
    (rss_cons (rs_set (i := 5) sc__law_rules.nd rfl (.inl rfl) (re_new (rn_lst ra_nil)))
    (rss_cons (rs_for PassesOwn.never rfl (ri_range1 (by rfl) c.z_range (ra_cons (re_var (pv 4)) ra_nil)) (rg_name (i := 6) sc__law_rules.nd rfl (.inl rfl))
      (rss_cons (rs_set (i := 7) sc__law_rules.nd rfl (.inl rfl) (re_tup (ra_cons (re_g (ok__law_side_in c) gd (hr.mono (by decide)) (by rfl) c.m__law_side_in c.F__law_side_in.kp c.b__law_side_in pass0 (ra_cons (re_var (pv 0)) (ra_cons (re_var (pv 1)) (ra_cons (re_var (pv 2)) ra_nil)))) (ra_cons (re_g (ok__law_side_in c) gd (hr.mono (by decide)) (by rfl) c.m__law_side_in c.F__law_side_in.kp c.b__law_side_in pass0 (ra_cons (re_var (pv 0)) (ra_cons (re_var (pv 1)) (ra_cons (re_var (pv 3)) ra_nil)))) ra_nil))))
      (rss_one (rs_append (re_var (pv 5)) (re_if (rt_cmp (op_eqA hr.units) od_eq (re_g (ok__law_take c) gd (hr.mono (by decide)) (by rfl) c.m__law_take c.F__law_take.kp c.b__law_take pass0 (ra_cons (re_var (pv 0)) (ra_cons re_int ra_nil))) re_int (nomark _)) (re_rev (re_var (pv 7)) (re_un un_neg od_neg re_int)) (re_var (pv 7)))))))
    (rss_one (rs_ret (re_callTy call_tuple_of cd_tuple (by rfl) c.z_tuple boot_tuple (ra_cons (re_var (pv 5)) ra_nil))))))
theorem ok__law_standing (c : Ctx K mg) : FnG P w K mg base CX0 2 c.a__law_standing c.d__law_standing ["_law_pot_here", "_law_tops"] (sp0 K 2 f__law_standing) :=
  g_body c.F__law_standing sc__law_standing fun cdv A out s H E gd hr =>
    (rss_one (rs_ret (re_callTy call_tuple_of cd_tuple (by rfl) c.z_tuple boot_tuple (ra_cons (re_fro (rn_lc (own := [("_law_top", 2)]) rfl sc__law_standing.nd (ri_seq (re_var (pv 1))) (blkOk_by (by kernel_rfl)) (fun _ _ _ _ _ => (rg_name (i := 2) sc__law_standing.nd rfl (.inl rfl))) (fun _ _ _ _ _ => rts_nil) (fun _ _ _ _ _ => (re_g (ok__law_take c) gd (hr.mono (by decide)) (by rfl) c.m__law_take c.F__law_take.kp c.b__law_take pass0 (ra_cons (re_var (pv 0)) (ra_cons (re_op op_addA od_add (re_var (pv 2)) re_int) ra_nil)))) (by decide))) ra_nil))))
theorem ok__law_any_side (c : Ctx K mg) : FnG P w K mg base CX0 3 c.a__law_any_side c.d__law_any_side ["_law_pot_here", "_law_tops"] (sp0 K 2 f__law_any_side) :=
  g_body c.F__law_any_side sc__law_any_side fun cdv A out s H E gd hr =>
    (rss_cons (rs_set (i := 2) sc__law_any_side.nd rfl (.inl rfl) (re_g (ok__law_take c) gd (hr.mono (by decide)) (by rfl) c.m__law_take c.F__law_take.kp c.b__law_take pass0 (ra_cons (re_var (pv 0)) (ra_cons (re_callB call_len cd_len (by rfl) c.z_len PySem.boot_len (ra_cons (re_var (pv 1)) ra_nil)) ra_nil))))
    (rss_one (rs_ret (re_tup (ra_cons (re_var (pv 2)) (ra_cons (re_g (ok__law_of c) gd (hr.mono (by decide)) (by rfl) c.m__law_of c.F__law_of.kp c.b__law_of pass0 (ra_cons (re_var (pv 0)) (ra_cons (re_fro (rn_lst (ra_cons re_str (ra_cons re_str ra_nil)))) ra_nil))) (ra_cons (re_g (ok__law_take c) gd (hr.mono (by decide)) (by rfl) c.m__law_take c.F__law_take.kp c.b__law_take pass0 (ra_cons (re_var (pv 0)) (ra_cons (re_op op_addA od_add (re_ix ix_seq od_ix (re_var (pv 1)) (re_var (pv 2)) (fun _ _ => rfl)) re_int) ra_nil))) ra_nil)))))))
theorem ok_is_in (c : Ctx K mg) : FnG P w K mg base CX0 1 c.a_is_in c.d_is_in ["side", "standing"] (sp0 K 2 f_is_in) :=
  g_body c.F_is_in sc_is_in fun cdv A out s H E gd hr =>
    (rss_cons (rs_asg (re_var (pv 0)) (rg_tup rfl (rgs_cons (rg_name (i := 2) sc_is_in.nd rfl (.inl rfl)) (rgs_cons (rg_name (i := 3) sc_is_in.nd rfl (.inl rfl)) (rgs_cons (rg_name (i := 4) sc_is_in.nd rfl (.inl rfl)) rgs_nil)))))
    (rss_one (rs_ret (re_if (rt_cmp (op_eqA hr.units) od_eq (re_var (pv 3)) re_str (nomark _)) (re_cmp op_ge od_ge (re_ix ix_seq od_ix (re_var (pv 1)) (re_var (pv 2)) (fun _ _ => rfl)) (re_var (pv 4)) (nomark _)) (re_cmp op_le od_le (re_ix ix_seq od_ix (re_var (pv 1)) (re_var (pv 2)) (fun _ _ => rfl)) (re_var (pv 4)) (nomark _))))))
theorem ok_broken (c : Ctx K mg) : FnG P w K mg base CX0 2 c.a_broken c.d_broken ["plan", "standing"] (sp0 K 2 (f_broken c.κ)) :=
  g_body c.F_broken sc_broken fun cdv A out s H E gd hr =>
    (rss_one (rs_ret (re_callTy call_tuple_of cd_tuple (by rfl) c.z_tuple boot_tuple (ra_cons (re_fro (rn_lc (own := [("k", 2), ("sides", 3)]) rfl sc_broken.nd (ri_enumA (by rfl) c.z_enumerate (ra_cons (re_fld c.cls_Plan c.n_Plan_rules (re_var (pv 0))) ra_nil)) (blkOk_by (by kernel_rfl)) (fun _ _ _ _ _ => (rg_tup rfl (rgs_cons (rg_name (i := 2) sc_broken.nd rfl (.inl rfl)) (rgs_cons (rg_name (i := 3) sc_broken.nd rfl (.inl rfl)) rgs_nil)))) (fun _ _ _ _ _ => (rts_one (rt_not (rt_val (re_callB (cr_any rfl) cd_any (by rfl) c.z_any boot_any (ra_cons (re_fro (rn_lc (own := [("side", 4)]) rfl sc_broken.nd (ri_seq (re_var (pv 3))) (blkOk_by (by kernel_rfl)) (fun _ _ _ _ _ => (rg_name (i := 4) sc_broken.nd rfl (.inl rfl))) (fun _ _ _ _ _ => rts_nil) (fun _ _ _ _ _ => (re_g (ok_is_in c) gd (hr.mono (by decide)) (by rfl) c.m_is_in c.F_is_in.kp c.b_is_in pass0 (ra_cons (re_var (pv 4)) (ra_cons (re_var (pv 1)) ra_nil)))) (by decide))) ra_nil)))))) (fun _ _ _ _ _ => (re_var (pv 2))) (by decide))) ra_nil))))
theorem ok_is_good (c : Ctx K mg) : FnG P w K mg base CX0 2 c.a_is_good c.d_is_good ["plan", "standing"] (sp0 K 2 (f_is_good c.κ)) :=
  g_body c.F_is_good sc_is_good fun cdv A out s H E gd hr =>
    (rss_one (rs_ret (re_callB (cr_all rfl) cd_all (by rfl) c.z_all boot_all (ra_cons (re_fro (rn_lc (own := [("one", 2), ("other", 3)]) rfl sc_is_good.nd (ri_seq (re_fld c.cls_Plan c.n_Plan_rules (re_var (pv 0)))) (blkOk_by (by kernel_rfl)) (fun _ _ _ _ _ => (rg_tup rfl (rgs_cons (rg_name (i := 2) sc_is_good.nd rfl (.inl rfl)) (rgs_cons (rg_name (i := 3) sc_is_good.nd rfl (.inl rfl)) rgs_nil)))) (fun _ _ _ _ _ => rts_nil) (fun _ _ _ _ _ => (re_or (re_g (ok_is_in c) gd (hr.mono (by decide)) (by rfl) c.m_is_in c.F_is_in.kp c.b_is_in pass0 (ra_cons (re_var (pv 2)) (ra_cons (re_var (pv 1)) ra_nil))) (re_one (re_g (ok_is_in c) gd (hr.mono (by decide)) (by rfl) c.m_is_in c.F_is_in.kp c.b_is_in pass0 (ra_cons (re_var (pv 3)) (ra_cons (re_var (pv 1)) ra_nil)))))) (by decide))) ra_nil))))
theorem ok__law_at_sides (c : Ctx K mg) : FnG P w K mg base CX0 2 c.a__law_at_sides c.d__law_at_sides ["_law_pot_here", "_law_tops", "_law_standing_here", "_law_rule"] (sp0 K 4 f__law_at_sides) :=
  g_body c.F__law_at_sides sc__law_at_sides fun cdv A out s H E gd hr =>
    (rss_cons (rs_set (i := 4) sc__law_at_sides.nd rfl (.inl rfl) (re_new (rn_callTy call_list_of cn_list (by rfl) c.z_list boot_list (ra_cons (re_var (pv 2)) ra_nil))))
    (rss_cons (rs_for PassesOwn.never rfl (ri_seq (re_var (pv 3))) (rg_tup rfl (rgs_cons (rg_name (i := 5) sc__law_at_sides.nd rfl (.inl rfl)) (rgs_cons (rg_name (i := 6) sc__law_at_sides.nd rfl (.inl rfl)) (rgs_cons (rg_name (i := 7) sc__law_at_sides.nd rfl (.inl rfl)) rgs_nil))))
      (rss_one (rs_seti (re_var (pv 4)) (re_var (pv 5)) (re_callB (call_min2 rfl) cd_I2 (by rfl) c.z_min boot_min (ra_cons (re_ix ix_seq od_ix (re_var (pv 1)) (re_var (pv 5)) (fun _ _ => rfl)) (ra_cons (re_callB (call_max2 rfl) cd_I2 (by rfl) c.z_max boot_max (ra_cons re_int (ra_cons (re_op op_sub od_sub (re_op op_addA od_add (re_var (pv 7)) (re_g (ok__law_take c) gd (hr.mono (by decide)) (by rfl) c.m__law_take c.F__law_take.kp c.b__law_take pass0 (ra_cons (re_var (pv 0)) (ra_cons re_int ra_nil)))) re_int) ra_nil))) ra_nil))))))
    (rss_one (rs_ret (re_callTy call_tuple_of cd_tuple (by rfl) c.z_tuple boot_tuple (ra_cons (re_var (pv 4)) ra_nil))))))
theorem ok__law_is_in (c : Ctx K mg) : FnG P w K mg base CX0 1 c.a__law_is_in c.d__law_is_in ["_law_side", "_law_standing_here"] (sp0 K 2 f__law_is_in) :=
  g_body c.F__law_is_in sc__law_is_in fun cdv A out s H E gd hr =>
    (rss_cons (rs_asg (re_var (pv 0)) (rg_tup rfl (rgs_cons (rg_name (i := 2) sc__law_is_in.nd rfl (.inl rfl)) (rgs_cons (rg_name (i := 3) sc__law_is_in.nd rfl (.inl rfl)) (rgs_cons (rg_name (i := 4) sc__law_is_in.nd rfl (.inl rfl)) rgs_nil)))))
    (rss_one (rs_ret (re_if (rt_cmp (op_eqA hr.units) od_eq (re_var (pv 3)) re_str (nomark _)) (re_cmp op_ge od_ge (re_ix ix_seq od_ix (re_var (pv 1)) (re_var (pv 2)) (fun _ _ => rfl)) (re_var (pv 4)) (nomark _)) (re_cmp op_le od_le (re_ix ix_seq od_ix (re_var (pv 1)) (re_var (pv 2)) (fun _ _ => rfl)) (re_var (pv 4)) (nomark _))))))
theorem ok__law_right (c : Ctx K mg) : FnG P w K mg base CX0 3 c.a__law_right c.d__law_right ["_law_plan", "_law_standing_here"] (sp0 K 2 (f__law_right c.κ)) :=
  g_body c.F__law_right sc__law_right fun cdv A out s H E gd hr =>
    (rss_cons (rs_for PassesOwn.never rfl (ri_seq (re_fld c.cls_Plan c.n_Plan_rules (re_var (pv 0)))) (rg_name (i := 2) sc__law_right.nd rfl (.inl rfl))
      (rss_one (rs_for PassesOwn.never rfl (ri_seq (re_var (pv 2))) (rg_name (i := 3) sc__law_right.nd rfl (.inl rfl))
        (rss_one (rs_if (rt_cmp (op_neA hr.units) od_ne (re_callB (cr_repr gd hr.units) cd_repr (by rfl) c.z_repr boot_repr (ra_cons (re_g (ok_is_in c) gd (hr.mono (by decide)) (by rfl) c.m_is_in c.F_is_in.kp c.b_is_in pass0 (ra_cons (re_var (pv 3)) (ra_cons (re_var (pv 1)) ra_nil))) ra_nil)) (re_callB (cr_repr gd hr.units) cd_repr (by rfl) c.z_repr boot_repr (ra_cons (re_g (ok__law_is_in c) gd (hr.mono (by decide)) (by rfl) c.m__law_is_in c.F__law_is_in.kp c.b__law_is_in pass0 (ra_cons (re_var (pv 3)) (ra_cons (re_var (pv 1)) ra_nil))) ra_nil)) (nomark _))
          (rss_one (rs_ret re_bl))
          rss_nil)))))
    (rss_cons (rs_set (i := 4) sc__law_right.nd rfl (.inl rfl) (re_new (rn_lst ra_nil)))
    (rss_cons (rs_for PassesOwn.never rfl (ri_enumA (by rfl) c.z_enumerate (ra_cons (re_fld c.cls_Plan c.n_Plan_rules (re_var (pv 0))) ra_nil)) (rg_tup rfl (rgs_cons (rg_name (i := 5) sc__law_right.nd rfl (.inl rfl)) (rgs_cons (rg_tup rfl (rgs_cons (rg_name (i := 6) sc__law_right.nd rfl (.inl rfl)) (rgs_cons (rg_name (i := 7) sc__law_right.nd rfl (.inl rfl)) rgs_nil))) rgs_nil)))
      (rss_one (rs_if (rt_of (rb_and (rt_not (rt_val (re_g (ok__law_is_in c) gd (hr.mono (by decide)) (by rfl) c.m__law_is_in c.F__law_is_in.kp c.b__law_is_in pass0 (ra_cons (re_var (pv 6)) (ra_cons (re_var (pv 1)) ra_nil))))) (rb_and1 (rt_not (rt_val (re_g (ok__law_is_in c) gd (hr.mono (by decide)) (by rfl) c.m__law_is_in c.F__law_is_in.kp c.b__law_is_in pass0 (ra_cons (re_var (pv 7)) (ra_cons (re_var (pv 1)) ra_nil))))))))
        (rss_one (rs_append (re_var (pv 4)) (re_var (pv 5))))
        rss_nil)))
    (rss_one (rs_ret (re_cmp (op_eqA hr.units) od_eq (re_callB (cr_repr gd hr.units) cd_repr (by rfl) c.z_repr boot_repr (ra_cons (re_fro (rn_lst (ra_cons (re_g (ok_broken c) gd (hr.mono (by decide)) (by rfl) c.m_broken c.F_broken.kp c.b_broken pass0 (ra_cons (re_var (pv 0)) (ra_cons (re_var (pv 1)) ra_nil))) (ra_cons (re_g (ok_is_good c) gd (hr.mono (by decide)) (by rfl) c.m_is_good c.F_is_good.kp c.b_is_good pass0 (ra_cons (re_var (pv 0)) (ra_cons (re_var (pv 1)) ra_nil))) ra_nil)))) ra_nil)) (re_callB (cr_repr gd hr.units) cd_repr (by rfl) c.z_repr boot_repr (ra_cons (re_fro (rn_lst (ra_cons (re_callTy call_tuple_of cd_tuple (by rfl) c.z_tuple boot_tuple (ra_cons (re_var (pv 4)) ra_nil)) (ra_cons (re_cmp (op_eqA hr.units) od_eq (re_var (pv 4)) (re_fro (rn_lst ra_nil)) (nomark _)) ra_nil)))) ra_nil)) (nomark _)))))))
theorem ok_is_whole (c : Ctx K mg) : FnG P w K mg base CX0 1 c.a_is_whole c.d_is_whole ["thing"] (sp0 K 1 f_is_whole) :=
  g_body c.F_is_whole sc_is_whole fun cdv A out s H E gd hr =>
    (rss_one (rs_ret (re_and (re_callB call_isi cd_isi (by rfl) c.z_isinstance boot_isinstance (ra_cons (re_var (pv 0)) (ra_cons (re_ty (by rfl) c.z_int boot_int) ra_nil))) (re_one (re_not (re_callB call_isi cd_isi (by rfl) c.z_isinstance boot_isinstance (ra_cons (re_var (pv 0)) (ra_cons (re_ty (by rfl) c.z_bool boot_bool) ra_nil))))))))
theorem ok_is_within (c : Ctx K mg) : FnG P w K mg base CX0 2 c.a_is_within c.d_is_within ["thing", "low", "high"] (sp0 K 3 f_is_within) :=
  g_body c.F_is_within sc_is_within fun cdv A out s H E gd hr =>
    (rss_one (rs_ret (re_and (re_g (ok_is_whole c) gd (hr.mono (by decide)) (by rfl) c.m_is_whole c.F_is_whole.kp c.b_is_whole pass0 (ra_cons (re_var (pv 0)) ra_nil)) (re_one (re_chain op_le op_le od_le od_le (re_var (pv 1)) (re_var (pv 0)) (re_var (pv 2)))))))
theorem ok_are_tops (c : Ctx K mg) : FnG P w K mg base CX0 3 c.a_are_tops c.d_are_tops ["thing"] (sp0 K 1 f_are_tops) :=
  g_body c.F_are_tops sc_are_tops fun cdv A out s H E gd hr =>
    (rss_cons (rs_if (rt_of (rb_or (rt_not (rt_val (re_callB call_isi cd_isi (by rfl) c.z_isinstance boot_isinstance (ra_cons (re_var (pv 0)) (ra_cons (re_ty (by rfl) c.z_tuple boot_tuple) ra_nil))))) (rb_or1 (rt_not (rt_chain op_le op_le od_le od_le re_int (re_callB call_len cd_len (by rfl) c.z_len PySem.boot_len (ra_cons (re_var (pv 0)) ra_nil)) (re_globI (by rfl) c.v_MOST_THINGS))))))
      (rss_one (rs_ret re_bl))
      rss_nil)
    (rss_one (rs_ret (re_callB (cr_all rfl) cd_all (by rfl) c.z_all boot_all (ra_cons (re_fro (rn_lc (own := [("top", 1)]) rfl sc_are_tops.nd (ri_seq (re_var (pv 0))) (blkOk_by (by kernel_rfl)) (fun _ _ _ _ _ => (rg_name (i := 1) sc_are_tops.nd rfl (.inl rfl))) (fun _ _ _ _ _ => rts_nil) (fun _ _ _ _ _ => (re_g (ok_is_within c) gd (hr.mono (by decide)) (by rfl) c.m_is_within c.F_is_within.kp c.b_is_within pass0 (ra_cons (re_var (pv 1)) (ra_cons re_int (ra_cons (re_op op_sub od_sub (re_globI (by rfl) c.v_BEYOND) re_int) ra_nil))))) (by decide))) ra_nil)))))
theorem ok_is_side_of (c : Ctx K mg) : FnG P w K mg base CX0 3 c.a_is_side_of c.d_is_side_of ["tops", "thing"] (sp0 K 2 f_is_side_of) :=
  g_body c.F_is_side_of sc_is_side_of fun cdv A out s H E gd hr =>
    (rss_cons (rs_if (rt_of (rb_or (rt_not (rt_val (re_callB call_isi cd_isi (by rfl) c.z_isinstance boot_isinstance (ra_cons (re_var (pv 1)) (ra_cons (re_ty (by rfl) c.z_tuple boot_tuple) ra_nil))))) (rb_or1 (rt_cmp (op_neA hr.units) od_ne (re_callB call_len cd_len (by rfl) c.z_len PySem.boot_len (ra_cons (re_var (pv 1)) ra_nil)) re_int (nomark _)))))
      (rss_one (rs_ret re_bl))
      rss_nil)
    (rss_cons (rs_asg (re_var (pv 1)) (rg_tup rfl (rgs_cons (rg_name (i := 2) sc_is_side_of.nd rfl (.inl rfl)) (rgs_cons (rg_name (i := 3) sc_is_side_of.nd rfl (.inl rfl)) (rgs_cons (rg_name (i := 4) sc_is_side_of.nd rfl (.inl rfl)) rgs_nil)))))
    (rss_cons (rs_if (rt_of (rb_or (rt_not (rt_val (re_g (ok_is_within c) gd (hr.mono (by decide)) (by rfl) c.m_is_within c.F_is_within.kp c.b_is_within pass0 (ra_cons (re_var (pv 2)) (ra_cons re_int (ra_cons (re_op op_sub od_sub (re_callB call_len cd_len (by rfl) c.z_len PySem.boot_len (ra_cons (re_var (pv 0)) ra_nil)) re_int) ra_nil)))))) (rb_or (rt_not (rt_val (re_callB call_isi cd_isi (by rfl) c.z_isinstance boot_isinstance (ra_cons (re_var (pv 3)) (ra_cons (re_ty (by rfl) c.z_str boot_str) ra_nil))))) (rb_or1 (rt_cmp op_notIn_seq (od_in true) (re_var (pv 3)) (re_globA (by rfl) c.v_SIDE_WORDS) (by with_unfolding_all rfl))))))
      (rss_one (rs_ret re_bl))
      rss_nil)
    (rss_one (rs_ret (re_g (ok_is_within c) gd (hr.mono (by decide)) (by rfl) c.m_is_within c.F_is_within.kp c.b_is_within pass0 (ra_cons (re_var (pv 4)) (ra_cons re_int (ra_cons (re_ix ix_seq od_ix (re_var (pv 0)) (re_var (pv 2)) (fun _ _ => rfl)) ra_nil)))))))))
theorem ok_is_rule_of (c : Ctx K mg) : FnG P w K mg base CX0 4 c.a_is_rule_of c.d_is_rule_of ["tops", "thing"] (sp0 K 2 f_is_rule_of) :=
  g_body c.F_is_rule_of sc_is_rule_of fun cdv A out s H E gd hr =>
    (rss_one (rs_ret (re_and (re_callB call_isi cd_isi (by rfl) c.z_isinstance boot_isinstance (ra_cons (re_var (pv 1)) (ra_cons (re_ty (by rfl) c.z_tuple boot_tuple) ra_nil))) (re_and (re_cmp (op_eqA hr.units) od_eq (re_callB call_len cd_len (by rfl) c.z_len PySem.boot_len (ra_cons (re_var (pv 1)) ra_nil)) re_int (nomark _)) (re_one (re_callB (cr_all rfl) cd_all (by rfl) c.z_all boot_all (ra_cons (re_fro (rn_lc (own := [("side", 2)]) rfl sc_is_rule_of.nd (ri_seq (re_var (pv 1))) (blkOk_by (by kernel_rfl)) (fun _ _ _ _ _ => (rg_name (i := 2) sc_is_rule_of.nd rfl (.inl rfl))) (fun _ _ _ _ _ => rts_nil) (fun _ _ _ _ _ => (re_g (ok_is_side_of c) gd (hr.mono (by decide)) (by rfl) c.m_is_side_of c.F_is_side_of.kp c.b_is_side_of pass0 (ra_cons (re_var (pv 0)) (ra_cons (re_var (pv 2)) ra_nil)))) (by decide))) ra_nil)))))))
theorem ok_are_rules (c : Ctx K mg) : FnG P w K mg base CX0 5 c.a_are_rules c.d_are_rules ["tops", "thing"] (sp0 K 2 f_are_rules) :=
  g_body c.F_are_rules sc_are_rules fun cdv A out s H E gd hr =>
    (rss_one (rs_ret (re_and (re_callB call_isi cd_isi (by rfl) c.z_isinstance boot_isinstance (ra_cons (re_var (pv 1)) (ra_cons (re_ty (by rfl) c.z_tuple boot_tuple) ra_nil))) (re_and (re_cmp op_le od_le (re_callB call_len cd_len (by rfl) c.z_len PySem.boot_len (ra_cons (re_var (pv 1)) ra_nil)) (re_globI (by rfl) c.v_MOST_RULES) (nomark _)) (re_one (re_callB (cr_all rfl) cd_all (by rfl) c.z_all boot_all (ra_cons (re_fro (rn_lc (own := [("rule", 2)]) rfl sc_are_rules.nd (ri_seq (re_var (pv 1))) (blkOk_by (by kernel_rfl)) (fun _ _ _ _ _ => (rg_name (i := 2) sc_are_rules.nd rfl (.inl rfl))) (fun _ _ _ _ _ => rts_nil) (fun _ _ _ _ _ => (re_g (ok_is_rule_of c) gd (hr.mono (by decide)) (by rfl) c.m_is_rule_of c.F_is_rule_of.kp c.b_is_rule_of pass0 (ra_cons (re_var (pv 0)) (ra_cons (re_var (pv 2)) ra_nil)))) (by decide))) ra_nil)))))))
theorem ok_Plan____init__ (c : Ctx K mg) : FnG P w K mg base CX0 6 c.a_Plan____init__ c.d_Plan____init__ ["self", "tops", "rules"] (sp0 K 3 (f_Plan____init__ c.κ)) :=
  ge_body c.F_Plan____init__ sc_Plan____init__ fun cdv A out s H E gd hr =>
    (rss_cons (rs_if (rt_not (rt_val (re_g (ok_are_tops c) gd (hr.mono (by decide)) (by rfl) c.m_are_tops c.F_are_tops.kp c.b_are_tops pass0 (ra_cons (re_var (pv 1)) ra_nil))))
      (rss_one rs_bad)
      rss_nil)
    (rss_cons (rs_if (rt_not (rt_val (re_g (ok_are_rules c) gd (hr.mono (by decide)) (by rfl) c.m_are_rules c.F_are_rules.kp c.b_are_rules pass0 (ra_cons (re_var (pv 1)) (ra_cons (re_var (pv 2)) ra_nil)))))
      (rss_one rs_bad)
      rss_nil)
    (rss_one (rs_asgH (re_tup (ra_cons (re_var (pv 1)) (ra_cons (re_var (pv 2)) ra_nil))) (rh_tup rfl (rhs_cons (rh_fld c.cls_Plan c.n_Plan_tops (re_var (pv 0))) (rhs_cons (rh_fld c.cls_Plan c.n_Plan_rules (re_var (pv 0))) rhs_nil)))))))
theorem ok_law (c : Ctx K mg) : FnG P w K mg base CX0 8 c.a_law c.d_law ["_law_script"] (sp0 K 1 (f_law c.κ)) :=
  g_body c.F_law sc_law fun cdv A out s H E gd hr =>
    (rss_cons (rs_for PassesOwn.never rfl (ri_range1 (by rfl) c.z_range (ra_cons (re_callB (call_max2 rfl) cd_I2 (by rfl) c.z_max boot_max (ra_cons re_int (ra_cons (re_callB (call_min2 rfl) cd_I2 (by rfl) c.z_min boot_min (ra_cons re_int (ra_cons (re_callB call_len cd_len (by rfl) c.z_len PySem.boot_len (ra_cons (re_var (pv 0)) ra_nil)) ra_nil))) ra_nil))) ra_nil)) (rg_name (i := 1) sc_law.nd rfl (.inl rfl))
      (rss_cons (rs_set (i := 2) sc_law.nd rfl (.inr rfl) (re_new (rn_g (okn__law_pot c) gd (hr.mono (by decide)) (by rfl) c.m__law_pot c.F__law_pot.kp c.b__law_pot pass0 (ra_cons (re_var (pv 0)) (ra_cons (re_var (pv 1)) ra_nil)))))
      (rss_cons (rs_set (i := 3) sc_law.nd rfl (.inr rfl) (re_g (ok__law_wide_tops c) gd (hr.mono (by decide)) (by rfl) c.m__law_wide_tops c.F__law_wide_tops.kp c.b__law_wide_tops pass0 (ra_cons (re_var (pv 2)) ra_nil)))
      (rss_cons (rs_par (i := 4) (j := 5) rfl sc_law.nd rfl rfl (by decide) rfl rfl (ra_cons (re_g (ok__law_standing c) gd (hr.mono (by decide)) (by rfl) c.m__law_standing c.F__law_standing.kp c.b__law_standing pass0 (ra_cons (re_var (pv 2)) (ra_cons (re_var (pv 3)) ra_nil))) (ra_cons (re_g (ok__law_standing c) gd (hr.mono (by decide)) (by rfl) c.m__law_standing c.F__law_standing.kp c.b__law_standing pass0 (ra_cons (re_var (pv 2)) (ra_cons (re_var (pv 3)) ra_nil))) ra_nil)))
      (rss_cons (rs_set (i := 6) sc_law.nd rfl (.inl rfl) (re_g (ok__law_rules c) gd (hr.mono (by decide)) (by rfl) c.m__law_rules c.F__law_rules.kp c.b__law_rules pass0 (ra_cons (re_var (pv 2)) (ra_cons (re_var (pv 3)) (ra_cons (re_var (pv 4)) (ra_cons (re_var (pv 5)) (ra_cons (re_g (ok__law_take c) gd (hr.mono (by decide)) (by rfl) c.m__law_take c.F__law_take.kp c.b__law_take pass0 (ra_cons (re_var (pv 2)) (ra_cons re_int ra_nil))) ra_nil)))))))
      (rss_cons (rs_setLc false (i := 7) (own := [("_law_turn", 10)]) rfl sc_law.nd rfl rfl (sw_true rfl rfl rfl (by kernel_rfl)) (ri_range1 (by rfl) c.z_range (ra_cons (re_g (ok__law_take c) gd (hr.mono (by decide)) (by rfl) c.m__law_take c.F__law_take.kp c.b__law_take pass0 (ra_cons (re_var (pv 2)) (ra_cons re_int ra_nil))) ra_nil)) (blkOk_by (by kernel_rfl)) (fun _ _ _ _ _ => (rg_name (i := 10) sc_law.nd rfl (.inl rfl))) (fun _ _ _ _ _ => rts_nil) (fun _ _ _ _ _ => (re_tup (ra_cons (re_g (ok__law_any_side c) gd (hr.mono (by decide)) (by rfl) c.m__law_any_side c.F__law_any_side.kp c.b__law_any_side pass0 (ra_cons (re_var (pv 2)) (ra_cons (re_var (pv 3)) ra_nil))) (ra_cons (re_g (ok__law_any_side c) gd (hr.mono (by decide)) (by rfl) c.m__law_any_side c.F__law_any_side.kp c.b__law_any_side pass0 (ra_cons (re_var (pv 2)) (ra_cons (re_var (pv 3)) ra_nil))) ra_nil)))) (by decide))
      (rss_cons (rs_if (rt_of (rb_or (rt_cmp (op_neA hr.units) od_ne (re_g (ok_broken c) gd (hr.mono (by decide)) (by rfl) c.m_broken c.F_broken.kp c.b_broken pass0 (ra_cons (re_mk (n := 3) (dw := []) dfl_nil c.mk_Plan (ok_Plan____init__ c) gd (hr.mono (by decide)) (by rfl) c.m_Plan c.b_Plan____init__ .nil pass0 (ra_cons (re_var (pv 3)) (ra_cons (re_var (pv 6)) ra_nil))) (ra_cons (re_var (pv 4)) ra_nil))) (re_tup ra_nil) (nomark _)) (rb_or1 (rt_not (rt_val (re_g (ok_is_good c) gd (hr.mono (by decide)) (by rfl) c.m_is_good c.F_is_good.kp c.b_is_good pass0 (ra_cons (re_mk (n := 3) (dw := []) dfl_nil c.mk_Plan (ok_Plan____init__ c) gd (hr.mono (by decide)) (by rfl) c.m_Plan c.b_Plan____init__ .nil pass0 (ra_cons (re_var (pv 3)) (ra_cons (re_var (pv 6)) ra_nil))) (ra_cons (re_var (pv 5)) ra_nil))))))))
        (rss_one (rs_ret re_bl))
        rss_nil)
      (rss_cons (rs_parT (i := 8) (j := 9) rfl sc_law.nd rfl rfl (.inr rfl) (.inl rfl) (ra_cons (re_mk (n := 3) (dw := []) dfl_nil c.mk_Plan (ok_Plan____init__ c) gd (hr.mono (by decide)) (by rfl) c.m_Plan c.b_Plan____init__ .nil pass0 (ra_cons (re_var (pv 3)) (ra_cons (re_op op_addA od_add (re_var (pv 6)) (re_callTy call_tuple_of cd_tuple (by rfl) c.z_tuple boot_tuple (ra_cons (re_var (pv 7)) ra_nil))) ra_nil))) (ra_cons (re_new (rn_lst (ra_cons (re_var (pv 4)) (ra_cons (re_var (pv 5)) (ra_cons (re_g (ok__law_standing c) gd (hr.mono (by decide)) (by rfl) c.m__law_standing c.F__law_standing.kp c.b__law_standing pass0 (ra_cons (re_var (pv 2)) (ra_cons (re_var (pv 3)) ra_nil))) (ra_cons (re_g (ok__law_standing c) gd (hr.mono (by decide)) (by rfl) c.m__law_standing c.F__law_standing.kp c.b__law_standing pass0 (ra_cons (re_var (pv 2)) (ra_cons (re_var (pv 3)) ra_nil))) ra_nil)))))) ra_nil)))
      (rss_cons (rs_for PassesOwn.never rfl (ri_range1 (by rfl) c.z_range (ra_cons (re_op op_mulW od_mul re_int (re_callTy call_int1 cd_int (by rfl) c.z_int boot_int (ra_cons (re_cmp (op_neA hr.units) od_ne (re_fld c.cls_Plan c.n_Plan_rules (re_var (pv 8))) (re_tup ra_nil) (nomark _)) ra_nil))) ra_nil)) (rg_name (i := 10) sc_law.nd rfl (.inl rfl))
        (rss_one (rs_append (re_var (pv 9)) (re_g (ok__law_at_sides c) gd (hr.mono (by decide)) (by rfl) c.m__law_at_sides c.F__law_at_sides.kp c.b__law_at_sides pass0 (ra_cons (re_var (pv 2)) (ra_cons (re_var (pv 3)) (ra_cons (re_g (ok__law_of c) gd (hr.mono (by decide)) (by rfl) c.m__law_of c.F__law_of.kp c.b__law_of pass0 (ra_cons (re_var (pv 2)) (ra_cons (re_fro (rn_sl sl_list sn_lst (re_var (pv 9)) ro_none (ro_some re_int))) ra_nil))) (ra_cons (re_g (ok__law_of c) gd (hr.mono (by decide)) (by rfl) c.m__law_of c.F__law_of.kp c.b__law_of pass0 (ra_cons (re_var (pv 2)) (ra_cons (re_fld c.cls_Plan c.n_Plan_rules (re_var (pv 8))) ra_nil))) ra_nil))))))))
      (rss_one (rs_if (rt_not (rt_val (re_callB (cr_all rfl) cd_all (by rfl) c.z_all boot_all (ra_cons (re_fro (rn_lc (own := [("_law_standing_here", 11)]) rfl sc_law.nd (ri_seq (re_var (pv 9))) (blkOk_by (by kernel_rfl)) (fun _ _ _ _ _ => (rg_name (i := 11) sc_law.nd rfl (.inl rfl))) (fun _ _ _ _ _ => rts_nil) (fun _ _ _ _ _ => (re_g (ok__law_right c) gd (hr.mono (by decide)) (by rfl) c.m__law_right c.F__law_right.kp c.b__law_right pass0 (ra_cons (re_var (pv 8)) (ra_cons (re_var (pv 11)) ra_nil)))) (by decide))) ra_nil))))
        (rss_one (rs_ret re_bl))
        rss_nil)))))))))))
    (rss_one (rs_ret re_bl)))
end
/-- what the top has written -/
theorem ctx_of {K : PySem.W.Frag} {h : Heap} {mg : Str → Option Value} (X : K.In h) (G : h.Ns mainGlobals mg)
    {C0 : Addr} (C0a : PySem.W.nsIn K mainGlobals "Plan" = some (some (.ref C0))) (C0g : PySem.W.plainGet K C0 Str.empty = true) (C0h : PySem.W.hasDictIn K C0 = true) (C0o : PySem.W.plainOver K C0 = true) (C0s : PySem.W.findIn K (.ref C0) "__setattr__" = some (some (.builtin "object.__setattr__")))
    (C0m : PySem.W.makesIn K C0 = true) (C0k : PySem.W.keepIn K (.ref C0) = true)
    {f0 : Addr} {od0 an0 : Option Addr} {sl0 : Array (Option Value)} {oc0 kV0 dc0 pm0 cd0 ct0 : Value}
    (a0 : PySem.W.nsIn K mainGlobals "_law_pot" = some (some (.ref f0)))
    (l0 : K.lookup f0 = some ⟨oc0, od0, .func (PySem.W.fnOf "_law_pot" "_law_pot" (defArgs s__law_pot) (defBody s__law_pot) (defScope s__law_pot) .none kV0 dc0 pm0 an0 cd0 ct0), sl0⟩) (c0 : PySem.W.codeIn K cd0 "_law_pot" = true) (k0 : PySem.W.keepIn K (.ref f0) = true)
    {f1 : Addr} {od1 an1 : Option Addr} {sl1 : Array (Option Value)} {oc1 kV1 dc1 pm1 cd1 ct1 : Value}
    (a1 : PySem.W.nsIn K mainGlobals "_law_take" = some (some (.ref f1)))
    (l1 : K.lookup f1 = some ⟨oc1, od1, .func (PySem.W.fnOf "_law_take" "_law_take" (defArgs s__law_take) (defBody s__law_take) (defScope s__law_take) .none kV1 dc1 pm1 an1 cd1 ct1), sl1⟩) (c1 : PySem.W.codeIn K cd1 "_law_take" = true) (k1 : PySem.W.keepIn K (.ref f1) = true)
    {f2 : Addr} {od2 an2 : Option Addr} {sl2 : Array (Option Value)} {oc2 kV2 dc2 pm2 cd2 ct2 : Value}
    (a2 : PySem.W.nsIn K mainGlobals "_law_of" = some (some (.ref f2)))
    (l2 : K.lookup f2 = some ⟨oc2, od2, .func (PySem.W.fnOf "_law_of" "_law_of" (defArgs s__law_of) (defBody s__law_of) (defScope s__law_of) .none kV2 dc2 pm2 an2 cd2 ct2), sl2⟩) (c2 : PySem.W.codeIn K cd2 "_law_of" = true) (k2 : PySem.W.keepIn K (.ref f2) = true)
    {f3 : Addr} {od3 an3 : Option Addr} {sl3 : Array (Option Value)} {oc3 kV3 dc3 pm3 cd3 ct3 : Value}
    (a3 : PySem.W.nsIn K mainGlobals "_law_wide_tops" = some (some (.ref f3)))
    (l3 : K.lookup f3 = some ⟨oc3, od3, .func (PySem.W.fnOf "_law_wide_tops" "_law_wide_tops" (defArgs s__law_wide_tops) (defBody s__law_wide_tops) (defScope s__law_wide_tops) .none kV3 dc3 pm3 an3 cd3 ct3), sl3⟩) (c3 : PySem.W.codeIn K cd3 "_law_wide_tops" = true) (k3 : PySem.W.keepIn K (.ref f3) = true)
    {f4 : Addr} {od4 an4 : Option Addr} {sl4 : Array (Option Value)} {oc4 kV4 dc4 pm4 cd4 ct4 : Value}
    (a4 : PySem.W.nsIn K mainGlobals "_law_side_in" = some (some (.ref f4)))
    (l4 : K.lookup f4 = some ⟨oc4, od4, .func (PySem.W.fnOf "_law_side_in" "_law_side_in" (defArgs s__law_side_in) (defBody s__law_side_in) (defScope s__law_side_in) .none kV4 dc4 pm4 an4 cd4 ct4), sl4⟩) (c4 : PySem.W.codeIn K cd4 "_law_side_in" = true) (k4 : PySem.W.keepIn K (.ref f4) = true)
    {f5 : Addr} {od5 an5 : Option Addr} {sl5 : Array (Option Value)} {oc5 kV5 dc5 pm5 cd5 ct5 : Value}
    (a5 : PySem.W.nsIn K mainGlobals "_law_rules" = some (some (.ref f5)))
    (l5 : K.lookup f5 = some ⟨oc5, od5, .func (PySem.W.fnOf "_law_rules" "_law_rules" (defArgs s__law_rules) (defBody s__law_rules) (defScope s__law_rules) .none kV5 dc5 pm5 an5 cd5 ct5), sl5⟩) (c5 : PySem.W.codeIn K cd5 "_law_rules" = true) (k5 : PySem.W.keepIn K (.ref f5) = true)
    {f6 : Addr} {od6 an6 : Option Addr} {sl6 : Array (Option Value)} {oc6 kV6 dc6 pm6 cd6 ct6 : Value}
    (a6 : PySem.W.nsIn K mainGlobals "_law_standing" = some (some (.ref f6)))
    (l6 : K.lookup f6 = some ⟨oc6, od6, .func (PySem.W.fnOf "_law_standing" "_law_standing" (defArgs s__law_standing) (defBody s__law_standing) (defScope s__law_standing) .none kV6 dc6 pm6 an6 cd6 ct6), sl6⟩) (c6 : PySem.W.codeIn K cd6 "_law_standing" = true) (k6 : PySem.W.keepIn K (.ref f6) = true)
    {f7 : Addr} {od7 an7 : Option Addr} {sl7 : Array (Option Value)} {oc7 kV7 dc7 pm7 cd7 ct7 : Value}
    (a7 : PySem.W.nsIn K mainGlobals "_law_any_side" = some (some (.ref f7)))
    (l7 : K.lookup f7 = some ⟨oc7, od7, .func (PySem.W.fnOf "_law_any_side" "_law_any_side" (defArgs s__law_any_side) (defBody s__law_any_side) (defScope s__law_any_side) .none kV7 dc7 pm7 an7 cd7 ct7), sl7⟩) (c7 : PySem.W.codeIn K cd7 "_law_any_side" = true) (k7 : PySem.W.keepIn K (.ref f7) = true)
    {f8 : Addr} {od8 an8 : Option Addr} {sl8 : Array (Option Value)} {oc8 kV8 dc8 pm8 cd8 ct8 : Value}
    (a8 : PySem.W.nsIn K mainGlobals "is_in" = some (some (.ref f8)))
    (l8 : K.lookup f8 = some ⟨oc8, od8, .func (PySem.W.fnOf "is_in" "is_in" (defArgs s_is_in) (defBody s_is_in) (defScope s_is_in) .none kV8 dc8 pm8 an8 cd8 ct8), sl8⟩) (c8 : PySem.W.codeIn K cd8 "is_in" = true) (k8 : PySem.W.keepIn K (.ref f8) = true)
    {f9 : Addr} {od9 an9 : Option Addr} {sl9 : Array (Option Value)} {oc9 kV9 dc9 pm9 cd9 ct9 : Value}
    (a9 : PySem.W.nsIn K mainGlobals "broken" = some (some (.ref f9)))
    (l9 : K.lookup f9 = some ⟨oc9, od9, .func (PySem.W.fnOf "broken" "broken" (defArgs s_broken) (defBody s_broken) (defScope s_broken) .none kV9 dc9 pm9 an9 cd9 ct9), sl9⟩) (c9 : PySem.W.codeIn K cd9 "broken" = true) (k9 : PySem.W.keepIn K (.ref f9) = true)
    {f10 : Addr} {od10 an10 : Option Addr} {sl10 : Array (Option Value)} {oc10 kV10 dc10 pm10 cd10 ct10 : Value}
    (a10 : PySem.W.nsIn K mainGlobals "is_good" = some (some (.ref f10)))
    (l10 : K.lookup f10 = some ⟨oc10, od10, .func (PySem.W.fnOf "is_good" "is_good" (defArgs s_is_good) (defBody s_is_good) (defScope s_is_good) .none kV10 dc10 pm10 an10 cd10 ct10), sl10⟩) (c10 : PySem.W.codeIn K cd10 "is_good" = true) (k10 : PySem.W.keepIn K (.ref f10) = true)
    {f11 : Addr} {od11 an11 : Option Addr} {sl11 : Array (Option Value)} {oc11 kV11 dc11 pm11 cd11 ct11 : Value}
    (a11 : PySem.W.nsIn K mainGlobals "_law_at_sides" = some (some (.ref f11)))
    (l11 : K.lookup f11 = some ⟨oc11, od11, .func (PySem.W.fnOf "_law_at_sides" "_law_at_sides" (defArgs s__law_at_sides) (defBody s__law_at_sides) (defScope s__law_at_sides) .none kV11 dc11 pm11 an11 cd11 ct11), sl11⟩) (c11 : PySem.W.codeIn K cd11 "_law_at_sides" = true) (k11 : PySem.W.keepIn K (.ref f11) = true)
    {f12 : Addr} {od12 an12 : Option Addr} {sl12 : Array (Option Value)} {oc12 kV12 dc12 pm12 cd12 ct12 : Value}
    (a12 : PySem.W.nsIn K mainGlobals "_law_is_in" = some (some (.ref f12)))
    (l12 : K.lookup f12 = some ⟨oc12, od12, .func (PySem.W.fnOf "_law_is_in" "_law_is_in" (defArgs s__law_is_in) (defBody s__law_is_in) (defScope s__law_is_in) .none kV12 dc12 pm12 an12 cd12 ct12), sl12⟩) (c12 : PySem.W.codeIn K cd12 "_law_is_in" = true) (k12 : PySem.W.keepIn K (.ref f12) = true)
    {f13 : Addr} {od13 an13 : Option Addr} {sl13 : Array (Option Value)} {oc13 kV13 dc13 pm13 cd13 ct13 : Value}
    (a13 : PySem.W.nsIn K mainGlobals "_law_right" = some (some (.ref f13)))
    (l13 : K.lookup f13 = some ⟨oc13, od13, .func (PySem.W.fnOf "_law_right" "_law_right" (defArgs s__law_right) (defBody s__law_right) (defScope s__law_right) .none kV13 dc13 pm13 an13 cd13 ct13), sl13⟩) (c13 : PySem.W.codeIn K cd13 "_law_right" = true) (k13 : PySem.W.keepIn K (.ref f13) = true)
    {f14 : Addr} {od14 an14 : Option Addr} {sl14 : Array (Option Value)} {oc14 kV14 dc14 pm14 cd14 ct14 : Value}
    (a14 : PySem.W.nsIn K mainGlobals "is_whole" = some (some (.ref f14)))
    (l14 : K.lookup f14 = some ⟨oc14, od14, .func (PySem.W.fnOf "is_whole" "is_whole" (defArgs s_is_whole) (defBody s_is_whole) (defScope s_is_whole) .none kV14 dc14 pm14 an14 cd14 ct14), sl14⟩) (c14 : PySem.W.codeIn K cd14 "is_whole" = true) (k14 : PySem.W.keepIn K (.ref f14) = true)
    {f15 : Addr} {od15 an15 : Option Addr} {sl15 : Array (Option Value)} {oc15 kV15 dc15 pm15 cd15 ct15 : Value}
    (a15 : PySem.W.nsIn K mainGlobals "is_within" = some (some (.ref f15)))
    (l15 : K.lookup f15 = some ⟨oc15, od15, .func (PySem.W.fnOf "is_within" "is_within" (defArgs s_is_within) (defBody s_is_within) (defScope s_is_within) .none kV15 dc15 pm15 an15 cd15 ct15), sl15⟩) (c15 : PySem.W.codeIn K cd15 "is_within" = true) (k15 : PySem.W.keepIn K (.ref f15) = true)
    {f16 : Addr} {od16 an16 : Option Addr} {sl16 : Array (Option Value)} {oc16 kV16 dc16 pm16 cd16 ct16 : Value}
    (a16 : PySem.W.nsIn K mainGlobals "are_tops" = some (some (.ref f16)))
    (l16 : K.lookup f16 = some ⟨oc16, od16, .func (PySem.W.fnOf "are_tops" "are_tops" (defArgs s_are_tops) (defBody s_are_tops) (defScope s_are_tops) .none kV16 dc16 pm16 an16 cd16 ct16), sl16⟩) (c16 : PySem.W.codeIn K cd16 "are_tops" = true) (k16 : PySem.W.keepIn K (.ref f16) = true)
    {f17 : Addr} {od17 an17 : Option Addr} {sl17 : Array (Option Value)} {oc17 kV17 dc17 pm17 cd17 ct17 : Value}
    (a17 : PySem.W.nsIn K mainGlobals "is_side_of" = some (some (.ref f17)))
    (l17 : K.lookup f17 = some ⟨oc17, od17, .func (PySem.W.fnOf "is_side_of" "is_side_of" (defArgs s_is_side_of) (defBody s_is_side_of) (defScope s_is_side_of) .none kV17 dc17 pm17 an17 cd17 ct17), sl17⟩) (c17 : PySem.W.codeIn K cd17 "is_side_of" = true) (k17 : PySem.W.keepIn K (.ref f17) = true)
    {f18 : Addr} {od18 an18 : Option Addr} {sl18 : Array (Option Value)} {oc18 kV18 dc18 pm18 cd18 ct18 : Value}
    (a18 : PySem.W.nsIn K mainGlobals "is_rule_of" = some (some (.ref f18)))
    (l18 : K.lookup f18 = some ⟨oc18, od18, .func (PySem.W.fnOf "is_rule_of" "is_rule_of" (defArgs s_is_rule_of) (defBody s_is_rule_of) (defScope s_is_rule_of) .none kV18 dc18 pm18 an18 cd18 ct18), sl18⟩) (c18 : PySem.W.codeIn K cd18 "is_rule_of" = true) (k18 : PySem.W.keepIn K (.ref f18) = true)
    {f19 : Addr} {od19 an19 : Option Addr} {sl19 : Array (Option Value)} {oc19 kV19 dc19 pm19 cd19 ct19 : Value}
    (a19 : PySem.W.nsIn K mainGlobals "are_rules" = some (some (.ref f19)))
    (l19 : K.lookup f19 = some ⟨oc19, od19, .func (PySem.W.fnOf "are_rules" "are_rules" (defArgs s_are_rules) (defBody s_are_rules) (defScope s_are_rules) .none kV19 dc19 pm19 an19 cd19 ct19), sl19⟩) (c19 : PySem.W.codeIn K cd19 "are_rules" = true) (k19 : PySem.W.keepIn K (.ref f19) = true)
    {f20 : Addr} {od20 an20 : Option Addr} {sl20 : Array (Option Value)} {oc20 kV20 dc20 pm20 cd20 ct20 : Value}
    {T20 E20 : Addr} {dd20 ed20 : Option Addr} {tn20 en20 : Nat} {ts20 es20 : Array (Option Value)} (T20l : K.lookup T20 = some ⟨.type "tuple", dd20, .seq #[.ref E20] tn20, ts20⟩) (E20l : K.lookup E20 = some ⟨.type "tuple", ed20, .seq #[] en20, es20⟩)
    (a20 : PySem.W.findIn K (.ref C0) "__init__" = some (some (.ref f20))) (i20 : PySem.W.isFn K (.ref f20) = true)
    (l20 : K.lookup f20 = some ⟨oc20, od20, .func (PySem.W.fnOf "__init__" "Plan.__init__" (defArgs s_Plan____init__) (defBody s_Plan____init__) (defScope s_Plan____init__) (.ref T20) kV20 dc20 pm20 an20 cd20 ct20), sl20⟩) (c20 : PySem.W.codeIn K cd20 "Plan.__init__" = true) (k20 : PySem.W.keepIn K (.ref f20) = true)
    {f21 : Addr} {od21 an21 : Option Addr} {sl21 : Array (Option Value)} {oc21 kV21 dc21 pm21 cd21 ct21 : Value}
    (a21 : PySem.W.nsIn K mainGlobals "law" = some (some (.ref f21)))
    (l21 : K.lookup f21 = some ⟨oc21, od21, .func (PySem.W.fnOf "law" "law" (defArgs s_law) (defBody s_law) (defScope s_law) .none kV21 dc21 pm21 an21 cd21 ct21), sl21⟩) (c21 : PySem.W.codeIn K cd21 "law" = true) (k21 : PySem.W.keepIn K (.ref f21) = true)
    (n0 : PySem.W.findIn K (.ref C0) "rules" = some none)
    (n1 : PySem.W.findIn K (.ref C0) "tops" = some none)
    {vt0 : Tok} (v0 : PySem.W.nsIn K mainGlobals "BEYOND" = some (some (.int 1000000000000000000000000000000 vt0)))
    {vt1 : Tok} (v1 : PySem.W.nsIn K mainGlobals "MOST_RULES" = some (some (.int 40 vt1)))
    {vt2 : Tok} (v2 : PySem.W.nsIn K mainGlobals "MOST_THINGS" = some (some (.int 12 vt2)))
    {va3 : Addr} {vt3_0 vt3_1 : Tok} {vd3 : Option Addr} {vn3 : Nat} {vs3 : Array (Option Value)} (v3 : PySem.W.nsIn K mainGlobals "SIDE_WORDS" = some (some (.ref va3))) (w3 : K.lookup va3 = some ⟨.type "tuple", vd3, .seq #[.str "from" vt3_0, .str "to" vt3_1] vn3, vs3⟩)
    (z_abs : PySem.W.nsIn K mainGlobals "abs" = some none)
    (z_all : PySem.W.nsIn K mainGlobals "all" = some none)
    (z_any : PySem.W.nsIn K mainGlobals "any" = some none)
    (z_bool : PySem.W.nsIn K mainGlobals "bool" = some none)
    (z_enumerate : PySem.W.nsIn K mainGlobals "enumerate" = some none)
    (z_int : PySem.W.nsIn K mainGlobals "int" = some none)
    (z_isinstance : PySem.W.nsIn K mainGlobals "isinstance" = some none)
    (z_len : PySem.W.nsIn K mainGlobals "len" = some none)
    (z_list : PySem.W.nsIn K mainGlobals "list" = some none)
    (z_max : PySem.W.nsIn K mainGlobals "max" = some none)
    (z_min : PySem.W.nsIn K mainGlobals "min" = some none)
    (z_range : PySem.W.nsIn K mainGlobals "range" = some none)
    (z_repr : PySem.W.nsIn K mainGlobals "repr" = some none)
    (z_str : PySem.W.nsIn K mainGlobals "str" = some none)
    (z_tuple : PySem.W.nsIn K mainGlobals "tuple" = some none) :
    ∃ c : Ctx K mg, c.a_law = f21 ∧ c.d_law = PySem.W.fnOf "law" "law" (defArgs s_law) (defBody s_law) (defScope s_law) .none kV21 dc21 pm21 an21 cd21 ct21 :=
  ⟨{
    κ := fun n => match n with | 0 => C0 | _ => 0
    m_Plan := PySem.W.mg_of X G C0a
    cls_Plan := ⟨C0g, C0h, C0o, C0s⟩
    mk_Plan := ⟨C0m, a20, i20, C0k⟩
    a__law_pot := f0
    d__law_pot := _
    F__law_pot := fun_mk (st := s__law_pot) l0 c0 k0
    b__law_pot := (fun_mk (st := s__law_pot) l0 c0 k0).binds (ps := ["_law_script", "_law_k"]) fun _ _ _ _ _ _ us hl => match us, hl with | [_, _], _ => rfl
    m__law_pot := PySem.W.mg_of X G a0
    a__law_take := f1
    d__law_take := _
    F__law_take := fun_mk (st := s__law_take) l1 c1 k1
    b__law_take := (fun_mk (st := s__law_take) l1 c1 k1).binds (ps := ["_law_pot_here", "_law_many"]) fun _ _ _ _ _ _ us hl => match us, hl with | [_, _], _ => rfl
    m__law_take := PySem.W.mg_of X G a1
    a__law_of := f2
    d__law_of := _
    F__law_of := fun_mk (st := s__law_of) l2 c2 k2
    b__law_of := (fun_mk (st := s__law_of) l2 c2 k2).binds (ps := ["_law_pot_here", "_law_some"]) fun _ _ _ _ _ _ us hl => match us, hl with | [_, _], _ => rfl
    m__law_of := PySem.W.mg_of X G a2
    a__law_wide_tops := f3
    d__law_wide_tops := _
    F__law_wide_tops := fun_mk (st := s__law_wide_tops) l3 c3 k3
    b__law_wide_tops := (fun_mk (st := s__law_wide_tops) l3 c3 k3).binds (ps := ["_law_pot_here"]) fun _ _ _ _ _ _ us hl => match us, hl with | [_], _ => rfl
    m__law_wide_tops := PySem.W.mg_of X G a3
    a__law_side_in := f4
    d__law_side_in := _
    F__law_side_in := fun_mk (st := s__law_side_in) l4 c4 k4
    b__law_side_in := (fun_mk (st := s__law_side_in) l4 c4 k4).binds (ps := ["_law_pot_here", "_law_tops", "_law_standing_here"]) fun _ _ _ _ _ _ us hl => match us, hl with | [_, _, _], _ => rfl
    m__law_side_in := PySem.W.mg_of X G a4
    a__law_rules := f5
    d__law_rules := _
    F__law_rules := fun_mk (st := s__law_rules) l5 c5 k5
    b__law_rules := (fun_mk (st := s__law_rules) l5 c5 k5).binds (ps := ["_law_pot_here", "_law_tops", "_law_one", "_law_two", "_law_many"]) fun _ _ _ _ _ _ us hl => match us, hl with | [_, _, _, _, _], _ => rfl
    m__law_rules := PySem.W.mg_of X G a5
    a__law_standing := f6
    d__law_standing := _
    F__law_standing := fun_mk (st := s__law_standing) l6 c6 k6
    b__law_standing := (fun_mk (st := s__law_standing) l6 c6 k6).binds (ps := ["_law_pot_here", "_law_tops"]) fun _ _ _ _ _ _ us hl => match us, hl with | [_, _], _ => rfl
    m__law_standing := PySem.W.mg_of X G a6
    a__law_any_side := f7
    d__law_any_side := _
    F__law_any_side := fun_mk (st := s__law_any_side) l7 c7 k7
    b__law_any_side := (fun_mk (st := s__law_any_side) l7 c7 k7).binds (ps := ["_law_pot_here", "_law_tops"]) fun _ _ _ _ _ _ us hl => match us, hl with | [_, _], _ => rfl
    m__law_any_side := PySem.W.mg_of X G a7
    a_is_in := f8
    d_is_in := _
    F_is_in := fun_mk (st := s_is_in) l8 c8 k8
    b_is_in := (fun_mk (st := s_is_in) l8 c8 k8).binds (ps := ["side", "standing"]) fun _ _ _ _ _ _ us hl => match us, hl with | [_, _], _ => rfl
    m_is_in := PySem.W.mg_of X G a8
    a_broken := f9
    d_broken := _
    F_broken := fun_mk (st := s_broken) l9 c9 k9
    b_broken := (fun_mk (st := s_broken) l9 c9 k9).binds (ps := ["plan", "standing"]) fun _ _ _ _ _ _ us hl => match us, hl with | [_, _], _ => rfl
    m_broken := PySem.W.mg_of X G a9
    a_is_good := f10
    d_is_good := _
    F_is_good := fun_mk (st := s_is_good) l10 c10 k10
    b_is_good := (fun_mk (st := s_is_good) l10 c10 k10).binds (ps := ["plan", "standing"]) fun _ _ _ _ _ _ us hl => match us, hl with | [_, _], _ => rfl
    m_is_good := PySem.W.mg_of X G a10
    a__law_at_sides := f11
    d__law_at_sides := _
    F__law_at_sides := fun_mk (st := s__law_at_sides) l11 c11 k11
    b__law_at_sides := (fun_mk (st := s__law_at_sides) l11 c11 k11).binds (ps := ["_law_pot_here", "_law_tops", "_law_standing_here", "_law_rule"]) fun _ _ _ _ _ _ us hl => match us, hl with | [_, _, _, _], _ => rfl
    m__law_at_sides := PySem.W.mg_of X G a11
    a__law_is_in := f12
    d__law_is_in := _
    F__law_is_in := fun_mk (st := s__law_is_in) l12 c12 k12
    b__law_is_in := (fun_mk (st := s__law_is_in) l12 c12 k12).binds (ps := ["_law_side", "_law_standing_here"]) fun _ _ _ _ _ _ us hl => match us, hl with | [_, _], _ => rfl
    m__law_is_in := PySem.W.mg_of X G a12
    a__law_right := f13
    d__law_right := _
    F__law_right := fun_mk (st := s__law_right) l13 c13 k13
    b__law_right := (fun_mk (st := s__law_right) l13 c13 k13).binds (ps := ["_law_plan", "_law_standing_here"]) fun _ _ _ _ _ _ us hl => match us, hl with | [_, _], _ => rfl
    m__law_right := PySem.W.mg_of X G a13
    a_is_whole := f14
    d_is_whole := _
    F_is_whole := fun_mk (st := s_is_whole) l14 c14 k14
    b_is_whole := (fun_mk (st := s_is_whole) l14 c14 k14).binds (ps := ["thing"]) fun _ _ _ _ _ _ us hl => match us, hl with | [_], _ => rfl
    m_is_whole := PySem.W.mg_of X G a14
    a_is_within := f15
    d_is_within := _
    F_is_within := fun_mk (st := s_is_within) l15 c15 k15
    b_is_within := (fun_mk (st := s_is_within) l15 c15 k15).binds (ps := ["thing", "low", "high"]) fun _ _ _ _ _ _ us hl => match us, hl with | [_, _, _], _ => rfl
    m_is_within := PySem.W.mg_of X G a15
    a_are_tops := f16
    d_are_tops := _
    F_are_tops := fun_mk (st := s_are_tops) l16 c16 k16
    b_are_tops := (fun_mk (st := s_are_tops) l16 c16 k16).binds (ps := ["thing"]) fun _ _ _ _ _ _ us hl => match us, hl with | [_], _ => rfl
    m_are_tops := PySem.W.mg_of X G a16
    a_is_side_of := f17
    d_is_side_of := _
    F_is_side_of := fun_mk (st := s_is_side_of) l17 c17 k17
    b_is_side_of := (fun_mk (st := s_is_side_of) l17 c17 k17).binds (ps := ["tops", "thing"]) fun _ _ _ _ _ _ us hl => match us, hl with | [_, _], _ => rfl
    m_is_side_of := PySem.W.mg_of X G a17
    a_is_rule_of := f18
    d_is_rule_of := _
    F_is_rule_of := fun_mk (st := s_is_rule_of) l18 c18 k18
    b_is_rule_of := (fun_mk (st := s_is_rule_of) l18 c18 k18).binds (ps := ["tops", "thing"]) fun _ _ _ _ _ _ us hl => match us, hl with | [_, _], _ => rfl
    m_is_rule_of := PySem.W.mg_of X G a18
    a_are_rules := f19
    d_are_rules := _
    F_are_rules := fun_mk (st := s_are_rules) l19 c19 k19
    b_are_rules := (fun_mk (st := s_are_rules) l19 c19 k19).binds (ps := ["tops", "thing"]) fun _ _ _ _ _ _ us hl => match us, hl with | [_, _], _ => rfl
    m_are_rules := PySem.W.mg_of X G a19
    t_Plan____init__ := E20
    a_Plan____init__ := f20
    d_Plan____init__ := _
    F_Plan____init__ := (⟨⟨oc20, od20, .ref T20, kV20, dc20, pm20, an20, cd20, ct20, sl20, rfl, l20, c20, .inr ⟨by simp, T20, _, [.ref E20], tn20, rfl, T20l, rfl, .cons rfl .nil⟩, .inl rfl⟩, k20⟩ : FunE K "__init__" "Plan.__init__" s_Plan____init__ [V.ref E20] [] f20 (PySem.W.fnOf "__init__" "Plan.__init__" (defArgs s_Plan____init__) (defBody s_Plan____init__) (defScope s_Plan____init__) (.ref T20) kV20 dc20 pm20 an20 cd20 ct20))
    u_Plan____init__ := E20l
    b_Plan____init__ := FunD_full (⟨⟨oc20, od20, .ref T20, kV20, dc20, pm20, an20, cd20, ct20, sl20, rfl, l20, c20, .inr ⟨by simp, T20, _, [.ref E20], tn20, rfl, T20l, rfl, .cons rfl .nil⟩, .inl rfl⟩, k20⟩ : FunE K "__init__" "Plan.__init__" s_Plan____init__ [V.ref E20] [] f20 (PySem.W.fnOf "__init__" "Plan.__init__" (defArgs s_Plan____init__) (defBody s_Plan____init__) (defScope s_Plan____init__) (.ref T20) kV20 dc20 pm20 an20 cd20 ct20)) (ps := ["self", "tops", "rules"]) (by simp) fun T kV doc pm an cdv ct us its hu hi => match us, hu, its, hi with | [_, _, _], _, [_], _ => ⟨_, rfl, rfl⟩
    a_law := f21
    d_law := _
    F_law := fun_mk (st := s_law) l21 c21 k21
    b_law := (fun_mk (st := s_law) l21 c21 k21).binds (ps := ["_law_script"]) fun _ _ _ _ _ _ us hl => match us, hl with | [_], _ => rfl
    m_law := PySem.W.mg_of X G a21
    n_Plan_rules := n0
    n_Plan_tops := n1
    v_BEYOND := ⟨vt0, PySem.W.mg_of X G v0⟩
    v_MOST_RULES := ⟨vt1, PySem.W.mg_of X G v1⟩
    v_MOST_THINGS := ⟨vt2, PySem.W.mg_of X G v2⟩
    v_SIDE_WORDS := ⟨va3, PySem.W.mg_of X G v3, ktup_strs (xs := ["from", "to"]) w3 (by decide) vals_strs2⟩
    z_abs := PySem.W.mg_none_of X G z_abs
    z_all := PySem.W.mg_none_of X G z_all
    z_any := PySem.W.mg_none_of X G z_any
    z_bool := PySem.W.mg_none_of X G z_bool
    z_enumerate := PySem.W.mg_none_of X G z_enumerate
    z_int := PySem.W.mg_none_of X G z_int
    z_isinstance := PySem.W.mg_none_of X G z_isinstance
    z_len := PySem.W.mg_none_of X G z_len
    z_list := PySem.W.mg_none_of X G z_list
    z_max := PySem.W.mg_none_of X G z_max
    z_min := PySem.W.mg_none_of X G z_min
    z_range := PySem.W.mg_none_of X G z_range
    z_repr := PySem.W.mg_none_of X G z_repr
    z_str := PySem.W.mg_none_of X G z_str
    z_tuple := PySem.W.mg_none_of X G z_tuple
  }, rfl, rfl⟩
theorem law_F {l : PySem.W.OpenLaw} {w : World} {K : PySem.W.Frag} {h : Heap} {mg : Str → Option Value} {fa : Addr} (X : K.In h) (G : h.Ns mainGlobals mg) (hfa : mg "law" = some (.ref fa))
    {C0 : Addr} (C0a : PySem.W.nsIn K mainGlobals "Plan" = some (some (.ref C0))) (C0g : PySem.W.plainGet K C0 Str.empty = true) (C0h : PySem.W.hasDictIn K C0 = true) (C0o : PySem.W.plainOver K C0 = true) (C0s : PySem.W.findIn K (.ref C0) "__setattr__" = some (some (.builtin "object.__setattr__")))
    (C0m : PySem.W.makesIn K C0 = true) (C0k : PySem.W.keepIn K (.ref C0) = true)
    {f0 : Addr} {od0 an0 : Option Addr} {sl0 : Array (Option Value)} {oc0 kV0 dc0 pm0 cd0 ct0 : Value}
    (a0 : PySem.W.nsIn K mainGlobals "_law_pot" = some (some (.ref f0)))
    (l0 : K.lookup f0 = some ⟨oc0, od0, .func (PySem.W.fnOf "_law_pot" "_law_pot" (defArgs s__law_pot) (defBody s__law_pot) (defScope s__law_pot) .none kV0 dc0 pm0 an0 cd0 ct0), sl0⟩) (c0 : PySem.W.codeIn K cd0 "_law_pot" = true) (k0 : PySem.W.keepIn K (.ref f0) = true)
    {f1 : Addr} {od1 an1 : Option Addr} {sl1 : Array (Option Value)} {oc1 kV1 dc1 pm1 cd1 ct1 : Value}
    (a1 : PySem.W.nsIn K mainGlobals "_law_take" = some (some (.ref f1)))
    (l1 : K.lookup f1 = some ⟨oc1, od1, .func (PySem.W.fnOf "_law_take" "_law_take" (defArgs s__law_take) (defBody s__law_take) (defScope s__law_take) .none kV1 dc1 pm1 an1 cd1 ct1), sl1⟩) (c1 : PySem.W.codeIn K cd1 "_law_take" = true) (k1 : PySem.W.keepIn K (.ref f1) = true)
    {f2 : Addr} {od2 an2 : Option Addr} {sl2 : Array (Option Value)} {oc2 kV2 dc2 pm2 cd2 ct2 : Value}
    (a2 : PySem.W.nsIn K mainGlobals "_law_of" = some (some (.ref f2)))
    (l2 : K.lookup f2 = some ⟨oc2, od2, .func (PySem.W.fnOf "_law_of" "_law_of" (defArgs s__law_of) (defBody s__law_of) (defScope s__law_of) .none kV2 dc2 pm2 an2 cd2 ct2), sl2⟩) (c2 : PySem.W.codeIn K cd2 "_law_of" = true) (k2 : PySem.W.keepIn K (.ref f2) = true)
    {f3 : Addr} {od3 an3 : Option Addr} {sl3 : Array (Option Value)} {oc3 kV3 dc3 pm3 cd3 ct3 : Value}
    (a3 : PySem.W.nsIn K mainGlobals "_law_wide_tops" = some (some (.ref f3)))
    (l3 : K.lookup f3 = some ⟨oc3, od3, .func (PySem.W.fnOf "_law_wide_tops" "_law_wide_tops" (defArgs s__law_wide_tops) (defBody s__law_wide_tops) (defScope s__law_wide_tops) .none kV3 dc3 pm3 an3 cd3 ct3), sl3⟩) (c3 : PySem.W.codeIn K cd3 "_law_wide_tops" = true) (k3 : PySem.W.keepIn K (.ref f3) = true)
    {f4 : Addr} {od4 an4 : Option Addr} {sl4 : Array (Option Value)} {oc4 kV4 dc4 pm4 cd4 ct4 : Value}
    (a4 : PySem.W.nsIn K mainGlobals "_law_side_in" = some (some (.ref f4)))
    (l4 : K.lookup f4 = some ⟨oc4, od4, .func (PySem.W.fnOf "_law_side_in" "_law_side_in" (defArgs s__law_side_in) (defBody s__law_side_in) (defScope s__law_side_in) .none kV4 dc4 pm4 an4 cd4 ct4), sl4⟩) (c4 : PySem.W.codeIn K cd4 "_law_side_in" = true) (k4 : PySem.W.keepIn K (.ref f4) = true)
    {f5 : Addr} {od5 an5 : Option Addr} {sl5 : Array (Option Value)} {oc5 kV5 dc5 pm5 cd5 ct5 : Value}
    (a5 : PySem.W.nsIn K mainGlobals "_law_rules" = some (some (.ref f5)))
    (l5 : K.lookup f5 = some ⟨oc5, od5, .func (PySem.W.fnOf "_law_rules" "_law_rules" (defArgs s__law_rules) (defBody s__law_rules) (defScope s__law_rules) .none kV5 dc5 pm5 an5 cd5 ct5), sl5⟩) (c5 : PySem.W.codeIn K cd5 "_law_rules" = true) (k5 : PySem.W.keepIn K (.ref f5) = true)
    {f6 : Addr} {od6 an6 : Option Addr} {sl6 : Array (Option Value)} {oc6 kV6 dc6 pm6 cd6 ct6 : Value}
    (a6 : PySem.W.nsIn K mainGlobals "_law_standing" = some (some (.ref f6)))
    (l6 : K.lookup f6 = some ⟨oc6, od6, .func (PySem.W.fnOf "_law_standing" "_law_standing" (defArgs s__law_standing) (defBody s__law_standing) (defScope s__law_standing) .none kV6 dc6 pm6 an6 cd6 ct6), sl6⟩) (c6 : PySem.W.codeIn K cd6 "_law_standing" = true) (k6 : PySem.W.keepIn K (.ref f6) = true)
    {f7 : Addr} {od7 an7 : Option Addr} {sl7 : Array (Option Value)} {oc7 kV7 dc7 pm7 cd7 ct7 : Value}
    (a7 : PySem.W.nsIn K mainGlobals "_law_any_side" = some (some (.ref f7)))
    (l7 : K.lookup f7 = some ⟨oc7, od7, .func (PySem.W.fnOf "_law_any_side" "_law_any_side" (defArgs s__law_any_side) (defBody s__law_any_side) (defScope s__law_any_side) .none kV7 dc7 pm7 an7 cd7 ct7), sl7⟩) (c7 : PySem.W.codeIn K cd7 "_law_any_side" = true) (k7 : PySem.W.keepIn K (.ref f7) = true)
    {f8 : Addr} {od8 an8 : Option Addr} {sl8 : Array (Option Value)} {oc8 kV8 dc8 pm8 cd8 ct8 : Value}
    (a8 : PySem.W.nsIn K mainGlobals "is_in" = some (some (.ref f8)))
    (l8 : K.lookup f8 = some ⟨oc8, od8, .func (PySem.W.fnOf "is_in" "is_in" (defArgs s_is_in) (defBody s_is_in) (defScope s_is_in) .none kV8 dc8 pm8 an8 cd8 ct8), sl8⟩) (c8 : PySem.W.codeIn K cd8 "is_in" = true) (k8 : PySem.W.keepIn K (.ref f8) = true)
    {f9 : Addr} {od9 an9 : Option Addr} {sl9 : Array (Option Value)} {oc9 kV9 dc9 pm9 cd9 ct9 : Value}
    (a9 : PySem.W.nsIn K mainGlobals "broken" = some (some (.ref f9)))
    (l9 : K.lookup f9 = some ⟨oc9, od9, .func (PySem.W.fnOf "broken" "broken" (defArgs s_broken) (defBody s_broken) (defScope s_broken) .none kV9 dc9 pm9 an9 cd9 ct9), sl9⟩) (c9 : PySem.W.codeIn K cd9 "broken" = true) (k9 : PySem.W.keepIn K (.ref f9) = true)
    {f10 : Addr} {od10 an10 : Option Addr} {sl10 : Array (Option Value)} {oc10 kV10 dc10 pm10 cd10 ct10 : Value}
    (a10 : PySem.W.nsIn K mainGlobals "is_good" = some (some (.ref f10)))
    (l10 : K.lookup f10 = some ⟨oc10, od10, .func (PySem.W.fnOf "is_good" "is_good" (defArgs s_is_good) (defBody s_is_good) (defScope s_is_good) .none kV10 dc10 pm10 an10 cd10 ct10), sl10⟩) (c10 : PySem.W.codeIn K cd10 "is_good" = true) (k10 : PySem.W.keepIn K (.ref f10) = true)
    {f11 : Addr} {od11 an11 : Option Addr} {sl11 : Array (Option Value)} {oc11 kV11 dc11 pm11 cd11 ct11 : Value}
    (a11 : PySem.W.nsIn K mainGlobals "_law_at_sides" = some (some (.ref f11)))
    (l11 : K.lookup f11 = some ⟨oc11, od11, .func (PySem.W.fnOf "_law_at_sides" "_law_at_sides" (defArgs s__law_at_sides) (defBody s__law_at_sides) (defScope s__law_at_sides) .none kV11 dc11 pm11 an11 cd11 ct11), sl11⟩) (c11 : PySem.W.codeIn K cd11 "_law_at_sides" = true) (k11 : PySem.W.keepIn K (.ref f11) = true)
    {f12 : Addr} {od12 an12 : Option Addr} {sl12 : Array (Option Value)} {oc12 kV12 dc12 pm12 cd12 ct12 : Value}
    (a12 : PySem.W.nsIn K mainGlobals "_law_is_in" = some (some (.ref f12)))
    (l12 : K.lookup f12 = some ⟨oc12, od12, .func (PySem.W.fnOf "_law_is_in" "_law_is_in" (defArgs s__law_is_in) (defBody s__law_is_in) (defScope s__law_is_in) .none kV12 dc12 pm12 an12 cd12 ct12), sl12⟩) (c12 : PySem.W.codeIn K cd12 "_law_is_in" = true) (k12 : PySem.W.keepIn K (.ref f12) = true)
    {f13 : Addr} {od13 an13 : Option Addr} {sl13 : Array (Option Value)} {oc13 kV13 dc13 pm13 cd13 ct13 : Value}
    (a13 : PySem.W.nsIn K mainGlobals "_law_right" = some (some (.ref f13)))
    (l13 : K.lookup f13 = some ⟨oc13, od13, .func (PySem.W.fnOf "_law_right" "_law_right" (defArgs s__law_right) (defBody s__law_right) (defScope s__law_right) .none kV13 dc13 pm13 an13 cd13 ct13), sl13⟩) (c13 : PySem.W.codeIn K cd13 "_law_right" = true) (k13 : PySem.W.keepIn K (.ref f13) = true)
    {f14 : Addr} {od14 an14 : Option Addr} {sl14 : Array (Option Value)} {oc14 kV14 dc14 pm14 cd14 ct14 : Value}
    (a14 : PySem.W.nsIn K mainGlobals "is_whole" = some (some (.ref f14)))
    (l14 : K.lookup f14 = some ⟨oc14, od14, .func (PySem.W.fnOf "is_whole" "is_whole" (defArgs s_is_whole) (defBody s_is_whole) (defScope s_is_whole) .none kV14 dc14 pm14 an14 cd14 ct14), sl14⟩) (c14 : PySem.W.codeIn K cd14 "is_whole" = true) (k14 : PySem.W.keepIn K (.ref f14) = true)
    {f15 : Addr} {od15 an15 : Option Addr} {sl15 : Array (Option Value)} {oc15 kV15 dc15 pm15 cd15 ct15 : Value}
    (a15 : PySem.W.nsIn K mainGlobals "is_within" = some (some (.ref f15)))
    (l15 : K.lookup f15 = some ⟨oc15, od15, .func (PySem.W.fnOf "is_within" "is_within" (defArgs s_is_within) (defBody s_is_within) (defScope s_is_within) .none kV15 dc15 pm15 an15 cd15 ct15), sl15⟩) (c15 : PySem.W.codeIn K cd15 "is_within" = true) (k15 : PySem.W.keepIn K (.ref f15) = true)
    {f16 : Addr} {od16 an16 : Option Addr} {sl16 : Array (Option Value)} {oc16 kV16 dc16 pm16 cd16 ct16 : Value}
    (a16 : PySem.W.nsIn K mainGlobals "are_tops" = some (some (.ref f16)))
    (l16 : K.lookup f16 = some ⟨oc16, od16, .func (PySem.W.fnOf "are_tops" "are_tops" (defArgs s_are_tops) (defBody s_are_tops) (defScope s_are_tops) .none kV16 dc16 pm16 an16 cd16 ct16), sl16⟩) (c16 : PySem.W.codeIn K cd16 "are_tops" = true) (k16 : PySem.W.keepIn K (.ref f16) = true)
    {f17 : Addr} {od17 an17 : Option Addr} {sl17 : Array (Option Value)} {oc17 kV17 dc17 pm17 cd17 ct17 : Value}
    (a17 : PySem.W.nsIn K mainGlobals "is_side_of" = some (some (.ref f17)))
    (l17 : K.lookup f17 = some ⟨oc17, od17, .func (PySem.W.fnOf "is_side_of" "is_side_of" (defArgs s_is_side_of) (defBody s_is_side_of) (defScope s_is_side_of) .none kV17 dc17 pm17 an17 cd17 ct17), sl17⟩) (c17 : PySem.W.codeIn K cd17 "is_side_of" = true) (k17 : PySem.W.keepIn K (.ref f17) = true)
    {f18 : Addr} {od18 an18 : Option Addr} {sl18 : Array (Option Value)} {oc18 kV18 dc18 pm18 cd18 ct18 : Value}
    (a18 : PySem.W.nsIn K mainGlobals "is_rule_of" = some (some (.ref f18)))
    (l18 : K.lookup f18 = some ⟨oc18, od18, .func (PySem.W.fnOf "is_rule_of" "is_rule_of" (defArgs s_is_rule_of) (defBody s_is_rule_of) (defScope s_is_rule_of) .none kV18 dc18 pm18 an18 cd18 ct18), sl18⟩) (c18 : PySem.W.codeIn K cd18 "is_rule_of" = true) (k18 : PySem.W.keepIn K (.ref f18) = true)
    {f19 : Addr} {od19 an19 : Option Addr} {sl19 : Array (Option Value)} {oc19 kV19 dc19 pm19 cd19 ct19 : Value}
    (a19 : PySem.W.nsIn K mainGlobals "are_rules" = some (some (.ref f19)))
    (l19 : K.lookup f19 = some ⟨oc19, od19, .func (PySem.W.fnOf "are_rules" "are_rules" (defArgs s_are_rules) (defBody s_are_rules) (defScope s_are_rules) .none kV19 dc19 pm19 an19 cd19 ct19), sl19⟩) (c19 : PySem.W.codeIn K cd19 "are_rules" = true) (k19 : PySem.W.keepIn K (.ref f19) = true)
    {f20 : Addr} {od20 an20 : Option Addr} {sl20 : Array (Option Value)} {oc20 kV20 dc20 pm20 cd20 ct20 : Value}
    {T20 E20 : Addr} {dd20 ed20 : Option Addr} {tn20 en20 : Nat} {ts20 es20 : Array (Option Value)} (T20l : K.lookup T20 = some ⟨.type "tuple", dd20, .seq #[.ref E20] tn20, ts20⟩) (E20l : K.lookup E20 = some ⟨.type "tuple", ed20, .seq #[] en20, es20⟩)
    (a20 : PySem.W.findIn K (.ref C0) "__init__" = some (some (.ref f20))) (i20 : PySem.W.isFn K (.ref f20) = true)
    (l20 : K.lookup f20 = some ⟨oc20, od20, .func (PySem.W.fnOf "__init__" "Plan.__init__" (defArgs s_Plan____init__) (defBody s_Plan____init__) (defScope s_Plan____init__) (.ref T20) kV20 dc20 pm20 an20 cd20 ct20), sl20⟩) (c20 : PySem.W.codeIn K cd20 "Plan.__init__" = true) (k20 : PySem.W.keepIn K (.ref f20) = true)
    {f21 : Addr} {od21 an21 : Option Addr} {sl21 : Array (Option Value)} {oc21 kV21 dc21 pm21 cd21 ct21 : Value}
    (a21 : PySem.W.nsIn K mainGlobals "law" = some (some (.ref f21)))
    (l21 : K.lookup f21 = some ⟨oc21, od21, .func (PySem.W.fnOf "law" "law" (defArgs s_law) (defBody s_law) (defScope s_law) .none kV21 dc21 pm21 an21 cd21 ct21), sl21⟩) (c21 : PySem.W.codeIn K cd21 "law" = true) (k21 : PySem.W.keepIn K (.ref f21) = true)
    (n0 : PySem.W.findIn K (.ref C0) "rules" = some none)
    (n1 : PySem.W.findIn K (.ref C0) "tops" = some none)
    {vt0 : Tok} (v0 : PySem.W.nsIn K mainGlobals "BEYOND" = some (some (.int 1000000000000000000000000000000 vt0)))
    {vt1 : Tok} (v1 : PySem.W.nsIn K mainGlobals "MOST_RULES" = some (some (.int 40 vt1)))
    {vt2 : Tok} (v2 : PySem.W.nsIn K mainGlobals "MOST_THINGS" = some (some (.int 12 vt2)))
    {va3 : Addr} {vt3_0 vt3_1 : Tok} {vd3 : Option Addr} {vn3 : Nat} {vs3 : Array (Option Value)} (v3 : PySem.W.nsIn K mainGlobals "SIDE_WORDS" = some (some (.ref va3))) (w3 : K.lookup va3 = some ⟨.type "tuple", vd3, .seq #[.str "from" vt3_0, .str "to" vt3_1] vn3, vs3⟩)
    (z_abs : PySem.W.nsIn K mainGlobals "abs" = some none)
    (z_all : PySem.W.nsIn K mainGlobals "all" = some none)
    (z_any : PySem.W.nsIn K mainGlobals "any" = some none)
    (z_bool : PySem.W.nsIn K mainGlobals "bool" = some none)
    (z_enumerate : PySem.W.nsIn K mainGlobals "enumerate" = some none)
    (z_int : PySem.W.nsIn K mainGlobals "int" = some none)
    (z_isinstance : PySem.W.nsIn K mainGlobals "isinstance" = some none)
    (z_len : PySem.W.nsIn K mainGlobals "len" = some none)
    (z_list : PySem.W.nsIn K mainGlobals "list" = some none)
    (z_max : PySem.W.nsIn K mainGlobals "max" = some none)
    (z_min : PySem.W.nsIn K mainGlobals "min" = some none)
    (z_range : PySem.W.nsIn K mainGlobals "range" = some none)
    (z_repr : PySem.W.nsIn K mainGlobals "repr" = some none)
    (z_str : PySem.W.nsIn K mainGlobals "str" = some none)
    (z_tuple : PySem.W.nsIn K mainGlobals "tuple" = some none) :
    ∃ fd : FuncData, (∀ (s : Shared) (v : Value), BindsTo s fd ⟨[v], []⟩ [("_law_script", v)]) ∧ ∀ base : Heap, K.In base → base.Ns mainGlobals mg → FnG l.prog w K mg base CX0 8 fa fd ["_law_script"] (spA K 1 f_law) := by
  obtain ⟨c, e1, e2⟩ := ctx_of X G C0a C0g C0h C0o C0s C0m C0k a0 l0 c0 k0 a1 l1 c1 k1 a2 l2 c2 k2 a3 l3 c3 k3 a4 l4 c4 k4 a5 l5 c5 k5 a6 l6 c6 k6 a7 l7 c7 k7 a8 l8 c8 k8 a9 l9 c9 k9 a10 l10 c10 k10 a11 l11 c11 k11 a12 l12 c12 k12 a13 l13 c13 k13 a14 l14 c14 k14 a15 l15 c15 k15 a16 l16 c16 k16 a17 l17 c17 k17 a18 l18 c18 k18 a19 l19 c19 k19 T20l E20l a20 i20 l20 c20 k20 a21 l21 c21 k21 n0 n1 v0 v1 v2 v3 w3 z_abs z_all z_any z_bool z_enumerate z_int z_isinstance z_len z_list z_max z_min z_range z_repr z_str z_tuple
  have e3 := hfa.symm.trans c.m_law
  cases e3
  exact ⟨c.d_law, fun s v => by rw [e2]; exact .of_eq rfl, fun base _ _ => g_all (ok_law c)⟩
end K03

open PySem PySem.W PyProof.Rows
set_option maxHeartbeats 0 in
theorem PySem.Challenge.cw_notbothout_k03_rules_kept_or_broken_holds : PySem.Challenge.rw_notbothout_k03_rules_kept_or_broken.Holds := by
  w_on; o_law; k_head; (case hw => w_witness2)
  k_fill
  refine S9.walk_g (l := PySem.Challenge.rw_notbothout_k03_rules_kept_or_broken) (n := 63) (k := 8) (x := "_law_script") (sp := fun K => S9.spA K 1 K03.f_law) rfl (by decide) rfl ⟨rfl, by decide, by decide⟩ (fun w h Y => PySem.W.kIn_of Y) ?F (S9.told_ofA K03.law_plain)
  case F =>
    intro w mg fa h KX G hmg
    refine' K03.law_F KX G hmg ?C0a ?C0g ?C0h ?C0o ?C0s ?C0m ?C0k ?a0 ?l0 ?c0 ?k0 ?a1 ?l1 ?c1 ?k1 ?a2 ?l2 ?c2 ?k2 ?a3 ?l3 ?c3 ?k3 ?a4 ?l4 ?c4 ?k4 ?a5 ?l5 ?c5 ?k5 ?a6 ?l6 ?c6 ?k6 ?a7 ?l7 ?c7 ?k7 ?a8 ?l8 ?c8 ?k8 ?a9 ?l9 ?c9 ?k9 ?a10 ?l10 ?c10 ?k10 ?a11 ?l11 ?c11 ?k11 ?a12 ?l12 ?c12 ?k12 ?a13 ?l13 ?c13 ?k13 ?a14 ?l14 ?c14 ?k14 ?a15 ?l15 ?c15 ?k15 ?a16 ?l16 ?c16 ?k16 ?a17 ?l17 ?c17 ?k17 ?a18 ?l18 ?c18 ?k18 ?a19 ?l19 ?c19 ?k19 ?T20l ?E20l ?a20 ?i20 ?l20 ?c20 ?k20 ?a21 ?l21 ?c21 ?k21 ?n0 ?n1 ?v0 ?v1 ?v2 ?v3 ?w3 ?z_abs ?z_all ?z_any ?z_bool ?z_enumerate ?z_int ?z_isinstance ?z_len ?z_list ?z_max ?z_min ?z_range ?z_repr ?z_str ?z_tuple
    (case C0a => k_is); (case C0g => k_is); (case C0h => k_is); (case C0o => k_is); (case C0s => k_is); (case C0m => k_is)
    (case C0k => k_is); (case a0 => k_is); (case l0 => k_is); (case c0 => k_is); (case k0 => k_is); (case a1 => k_is)
    (case l1 => k_is); (case c1 => k_is); (case k1 => k_is); (case a2 => k_is); (case l2 => k_is); (case c2 => k_is)
    (case k2 => k_is); (case a3 => k_is); (case l3 => k_is); (case c3 => k_is); (case k3 => k_is); (case a4 => k_is)
    (case l4 => k_is); (case c4 => k_is); (case k4 => k_is); (case a5 => k_is); (case l5 => k_is); (case c5 => k_is)
    (case k5 => k_is); (case a6 => k_is); (case l6 => k_is); (case c6 => k_is); (case k6 => k_is); (case a7 => k_is)
    (case l7 => k_is); (case c7 => k_is); (case k7 => k_is); (case a8 => k_is); (case l8 => k_is); (case c8 => k_is)
    (case k8 => k_is); (case a9 => k_is); (case l9 => k_is); (case c9 => k_is); (case k9 => k_is); (case a10 => k_is)
    (case l10 => k_is); (case c10 => k_is); (case k10 => k_is); (case a11 => k_is); (case l11 => k_is); (case c11 => k_is)
    (case k11 => k_is); (case a12 => k_is); (case l12 => k_is); (case c12 => k_is); (case k12 => k_is); (case a13 => k_is)
    (case l13 => k_is); (case c13 => k_is); (case k13 => k_is); (case a14 => k_is); (case l14 => k_is); (case c14 => k_is)
    (case k14 => k_is); (case a15 => k_is); (case l15 => k_is); (case c15 => k_is); (case k15 => k_is); (case a16 => k_is)
    (case l16 => k_is); (case c16 => k_is); (case k16 => k_is); (case a17 => k_is); (case l17 => k_is); (case c17 => k_is)
    (case k17 => k_is); (case a18 => k_is); (case l18 => k_is); (case c18 => k_is); (case k18 => k_is); (case a19 => k_is)
    (case l19 => k_is); (case c19 => k_is); (case k19 => k_is); (case a20 => k_is); (case i20 => k_is); (case l20 => k_is)
    (case c20 => k_is); (case k20 => k_is); (case a21 => k_is); (case l21 => k_is); (case c21 => k_is); (case k21 => k_is)
    (case n0 => k_is); (case n1 => k_is); (case v0 => k_is); (case v1 => k_is); (case v2 => k_is); (case v3 => k_is)
    (case w3 => k_is); (case z_abs => k_is); (case z_all => k_is); (case z_any => k_is); (case z_bool => k_is); (case z_enumerate => k_is)
    (case z_int => k_is); (case z_isinstance => k_is); (case z_len => k_is); (case z_list => k_is); (case z_max => k_is); (case z_min => k_is)
    (case z_range => k_is); (case z_repr => k_is); (case z_str => k_is); (case z_tuple => k_is); (case T20l => k_is); (case E20l => k_is)

