import PyProof.Rows.All
import Wide.All
import OpenK.AllK
import Wide.FinOn
import HandS.ForMost
import HandS.TupAny
import HandS.Wide
import HandS.SortInts
import HandS.Zip0
import HandS.EndBits
import HandS.Style
import PyProof.Draws
import HandS.IsInst
import HandS.Defaults
import PyProof.ReprLen
import HandS.Dict
import HandS.Conv
import HandS.WordsDict
import HandS.TupLen
import HandS.TupSets
import HandS.Iter
import HandS.OwnEq
import HandS.Codes
import HandS.More
import HandS.SortKw
import KE.DataMinMax
import HandS.TupLe
import HandS.RaiseMore
import HandS.Deep
import KE.KSortTupG
import KE.KDictPairs
import KE.KDictDisplayH
import KE.KUnpack
import HandS.Rev
import HandS.DictComp
import HandS.Text
import HandS.TupMul
import PyProof.NeData
import HandS.WrittenGet
import HandS.Exc
import HandS.ExcInit
import HandS.ExcField
import HandS.ExcOwn
import PyProof.StrLawsRepr
import PyProof.Rows.ReprOcc
import PySem.Challenge.RW_notbothout_k58_letters_of_anything
set_option Elab.async false
set_option linter.all false
set_option maxRecDepth 100000
namespace S9
open PySem PySem.Spec PyProof.Rows L2
inductive D where
  | non
  | bl (b : Bool)
  | int (i : Int)
  | str (x : Str)
  | tup (l : List D)
  | ktp (l : List D)
  | lst (l : List D)
  | frl (l : List D)
  | dct (ks : List Key) (l : List D)
  | dctT (ks : List (List Key)) (l : List D)
  | ins (C : Addr) (ns : List Str) (l : List D)
  | ty (n : String)
  | cls (C : Addr)
inductive W where
  | d (x : D)
  | loc (k : Nat)
inductive Cell where
  | lst (l : List D)
  | dct (ks : List Key) (l : List D)
  | dctT (ks : List (List Key)) (l : List D)
  | ins (C : Addr) (ns : List Str) (ws : List W)
  | lsW (ws : List W)
abbrev Sto := List Cell
abbrev DEnv := List (Option W)
mutual
def Rp (K : PySem.W.Frag) (H : Hp) : D → V → Prop
  | .non, v => v = .non
  | .bl b, v => v = .bl b
  | .int i, v => v = .int i
  | .str x, v => v = .str x
  | .tup l, v => ∃ a xs, v = .ref a ∧ H a = some (.tup xs) ∧ RpL K H l xs
  | .ktp l, v => ∃ a xs, v = .ref a ∧ SqT K H a xs ∧ RpL K H l xs
  | .lst l, v => ∃ a xs, v = .ref a ∧ H a = some (.lst xs) ∧ RpL K H l xs
  | .frl l, v => ∃ a xs, v = .ref a ∧ SqL K H a xs ∧ RpL K H l xs
  | .dct ks l, v => ∃ a kvs o, v = .ref a ∧ H a = some (.frz o (.dK kvs)) ∧ kvs.map (·.1) = ks ∧ RpL K H l (kvs.map (·.2))
  | .dctT ks l, v => ∃ a kvs o, v = .ref a ∧ H a = some (.frz o (.dT kvs)) ∧ kvs.map (·.1) = ks ∧ RpL K H l (kvs.map (·.2))
  | .ins C ns l, v => ∃ a dx fs, v = .ref a ∧ H a = some (.ins C dx fs) ∧ fs.map (·.1) = ns ∧ RpL K H l (fs.map (·.2))
  | .ty n, v => v = .ty n
  | .cls C, v => v = .ref C
def RpL (K : PySem.W.Frag) (H : Hp) : List D → List V → Prop
  | [], xs => xs = []
  | d :: l, xs => ∃ x r, xs = x :: r ∧ Rp K H d x ∧ RpL K H l r
end
section
variable {K : PySem.W.Frag} {H H' : Hp}
theorem same_t {a : Addr} {xs : List V} (e : Same H H') (h : SqT K H a xs) : SqT K H' a xs := by
  rcases h with (h | ⟨o, h⟩) | h
  · exact .inl (.inl (e _ _ h))
  · exact .inl (.inr ⟨o, e _ _ h⟩)
  · exact .inr h
theorem same_p {a : Addr} {xs : List V} (e : Same H H') (h : H a = some (.tup xs)) : SqT K H' a xs := .inl (.inl (e _ _ h))
theorem sq_t {a : Addr} {xs : List V} (h : H a = some (.tup xs)) : SqT K H a xs := .inl (.inl h)
mutual
theorem Rp.mono (e : Same H H') : ∀ {d : D} {v : V}, Rp K H d v → Rp K H' d v
  | .non, v, h => by simp only [Rp] at h ⊢; exact h
  | .bl b, v, h => by simp only [Rp] at h ⊢; exact h
  | .int i, v, h => by simp only [Rp] at h ⊢; exact h
  | .str x, v, h => by simp only [Rp] at h ⊢; exact h
  | .tup l, v, h => by
    simp only [Rp] at h ⊢
    obtain ⟨a, xs, e1, h1, h2⟩ := h
    exact ⟨a, xs, e1, e _ _ h1, RpL.mono e h2⟩
  | .ktp l, v, h => by
    simp only [Rp] at h ⊢
    obtain ⟨a, xs, e1, h1, h2⟩ := h
    exact ⟨a, xs, e1, same_t e h1, RpL.mono e h2⟩
  | .lst l, v, h => by
    simp only [Rp] at h ⊢
    obtain ⟨a, xs, e1, h1, h2⟩ := h
    exact ⟨a, xs, e1, e _ _ h1, RpL.mono e h2⟩
  | .frl l, v, h => by
    simp only [Rp] at h ⊢
    obtain ⟨a, xs, e1, h1, h2⟩ := h
    exact ⟨a, xs, e1, e.seq h1, RpL.mono e h2⟩
  | .dct ks l, v, h => by
    simp only [Rp] at h ⊢
    obtain ⟨a, kvs, o, e1, h1, h3, h2⟩ := h
    exact ⟨a, kvs, o, e1, e _ _ h1, h3, RpL.mono e h2⟩
  | .dctT ks l, v, h => by
    simp only [Rp] at h ⊢
    obtain ⟨a, kvs, o, e1, h1, h3, h2⟩ := h
    exact ⟨a, kvs, o, e1, e _ _ h1, h3, RpL.mono e h2⟩
  | .ins C ns l, v, h => by
    simp only [Rp] at h ⊢
    obtain ⟨a, dx, fs, e1, h1, h3, h2⟩ := h
    exact ⟨a, dx, fs, e1, e _ _ h1, h3, RpL.mono e h2⟩
  | .ty n, v, h => by simp only [Rp] at h ⊢; exact h
  | .cls n, v, h => by simp only [Rp] at h ⊢; exact h
theorem RpL.mono (e : Same H H') : ∀ {l : List D} {xs : List V}, RpL K H l xs → RpL K H' l xs
  | [], xs, h => by simp only [RpL] at h ⊢; exact h
  | d :: l, xs, h => by
    simp only [RpL] at h ⊢
    obtain ⟨x, r, e1, h1, h2⟩ := h
    exact ⟨x, r, e1, Rp.mono e h1, RpL.mono e h2⟩
end
theorem RpL.nil : RpL K H [] [] := by simp only [RpL]
theorem RpL.cons {d : D} {l : List D} {x : V} {r : List V} (h : Rp K H d x) (t : RpL K H l r) : RpL K H (d :: l) (x :: r) := by
  simp only [RpL]
  exact ⟨x, r, rfl, h, t⟩
theorem RpL.length : ∀ {l : List D} {xs : List V}, RpL K H l xs → xs.length = l.length
  | [], xs, h => by simp only [RpL] at h; subst h; rfl
  | d :: l, xs, h => by
    simp only [RpL] at h
    obtain ⟨x, r, rfl, _, h2⟩ := h
    simp [h2.length]
theorem RpL.get : ∀ {l : List D} {xs : List V} {i : Nat} {d : D}, RpL K H l xs → l[i]? = some d → ∃ x, xs[i]? = some x ∧ Rp K H d x
  | [], _, _, _, _, h => by simp at h
  | d :: l, xs, 0, d', h, g => by
    simp only [RpL] at h
    obtain ⟨x, r, rfl, h1, _⟩ := h
    simp at g
    subst g
    exact ⟨x, rfl, h1⟩
  | d :: l, xs, i + 1, d', h, g => by
    simp only [RpL] at h
    obtain ⟨x, r, rfl, _, h2⟩ := h
    simp at g
    obtain ⟨y, e, q⟩ := h2.get g
    exact ⟨y, by simpa using e, q⟩
theorem RpL.append : ∀ {l m : List D} {xs ys : List V}, RpL K H l xs → RpL K H m ys → RpL K H (l ++ m) (xs ++ ys)
  | [], _, xs, _, h, g => by simp only [RpL] at h; subst h; exact g
  | d :: l, _, xs, _, h, g => by
    simp only [RpL] at h
    obtain ⟨x, r, rfl, h1, h2⟩ := h
    exact RpL.cons h1 (h2.append g)
theorem RpL.take : ∀ {l : List D} {xs : List V} (n : Nat), RpL K H l xs → RpL K H (l.take n) (xs.take n)
  | _, _, 0, _ => by simp only [List.take_zero]; exact RpL.nil
  | [], xs, n + 1, h => by simp only [RpL] at h; subst h; exact RpL.nil
  | d :: l, xs, n + 1, h => by
    simp only [RpL] at h
    obtain ⟨x, r, rfl, h1, h2⟩ := h
    exact RpL.cons h1 (h2.take n)
theorem RpL.drop : ∀ {l : List D} {xs : List V} (n : Nat), RpL K H l xs → RpL K H (l.drop n) (xs.drop n)
  | _, _, 0, h => h
  | [], xs, n + 1, h => by simp only [RpL] at h; subst h; exact RpL.nil
  | d :: l, xs, n + 1, h => by
    simp only [RpL] at h
    obtain ⟨x, r, rfl, h1, h2⟩ := h
    exact h2.drop n
theorem RpL.set {d : D} {x : V} (q : Rp K H d x) : ∀ {l : List D} {xs : List V} (n : Nat), RpL K H l xs → RpL K H (l.set n d) (xs.set n x)
  | [], xs, n, h => by simp only [RpL] at h; subst h; exact RpL.nil
  | e :: l, xs, 0, h => by
    simp only [RpL] at h
    obtain ⟨y, r, rfl, h1, h2⟩ := h
    exact RpL.cons q h2
  | e :: l, xs, n + 1, h => by
    simp only [RpL] at h
    obtain ⟨y, r, rfl, h1, h2⟩ := h
    exact RpL.cons h1 (RpL.set q n h2)
theorem RpL.reverse : ∀ {l : List D} {xs : List V}, RpL K H l xs → RpL K H l.reverse xs.reverse
  | [], xs, h => by simp only [RpL] at h; subst h; exact RpL.nil
  | e :: l, xs, h => by
    simp only [RpL] at h
    obtain ⟨y, r, rfl, h1, h2⟩ := h
    rw [List.reverse_cons, List.reverse_cons]
    exact h2.reverse.append (RpL.cons h1 RpL.nil)
theorem RpL.of_ints : ∀ {ns : List Int}, RpL K H (ns.map D.int) (ns.map V.int)
  | [] => RpL.nil
  | n :: ns => RpL.cons (by simp only [Rp]) RpL.of_ints
theorem RpL.bls : ∀ {ns : List Bool} {xs : List V}, RpL K H (ns.map D.bl) xs → xs = ns.map V.bl
  | [], xs, h => by simp only [List.map_nil, RpL] at h; exact h
  | n :: ns, xs, h => by
    simp only [List.map_cons, RpL] at h
    obtain ⟨y, r, rfl, h1, h2⟩ := h
    simp only [Rp] at h1
    rw [h1, h2.bls]; rfl
end
structure Rg where
  c : List Addr
  u : List Addr
def Rg.add (r : Rg) (p : Addr) : Rg := ⟨r.c ++ [p], r.u⟩
def Rg.hid (r : Rg) (p : Addr) : Rg := ⟨r.c, p :: r.u⟩
def Rg.has (r : Rg) (a : Addr) : Prop := a ∈ r.c ∨ a ∈ r.u
instance (r : Rg) (a : Addr) : Decidable (r.has a) := inferInstanceAs (Decidable (_ ∨ _))
def fz (r : Rg) (H : Hp) : Hp := fun a => if r.has a then none else H a
theorem fz_in {r : Rg} {H : Hp} {a : Addr} (h : r.has a) : fz r H a = none := by unfold fz; rw [if_pos h]
theorem fz_out {r : Rg} {H : Hp} {a : Addr} (h : ¬ r.has a) : fz r H a = H a := by unfold fz; rw [if_neg h]
theorem fz_less {r q : Rg} {H H' : Hp} (m : ∀ a, q.has a → r.has a) (e : Same H H') : Same (fz r H) (fz q H') := fun a o h => by
  by_cases z : r.has a
  · rw [fz_in z] at h; cases h
  · rw [fz_out z] at h
    rw [fz_out (fun y => z (m a y))]; exact e a o h
theorem fz_same {r : Rg} {H H' : Hp} (e : Same H H') : Same (fz r H) (fz r H') := fz_less (fun _ h => h) e
theorem fz_sub {r : Rg} {H : Hp} : Same (fz r H) H := fun a o h => by
  by_cases m : r.has a
  · rw [fz_in m] at h; cases h
  · rw [fz_out m] at h; exact h
def RW (K : PySem.W.Frag) (r : Rg) (H : Hp) (v : V) : W → Prop
  | .d x => Rp K (fz r H) x v
  | .loc k => ∃ a, r.c[k]? = some a ∧ v = .ref a
def RWL (K : PySem.W.Frag) (r : Rg) (H : Hp) : List V → List W → Prop
  | [], ws => ws = []
  | v :: vs, ws => ∃ w ws', ws = w :: ws' ∧ RW K r H v w ∧ RWL K r H vs ws'
def CellOk (K : PySem.W.Frag) (r : Rg) (H : Hp) (a : Addr) : Cell → Prop
  | .lst l => ∃ xs, H a = some (.lst xs) ∧ RpL K (fz r H) l xs
  | .dct ks l => ∃ kvs, H a = some (.dK kvs) ∧ kvs.map (·.1) = ks ∧ RpL K (fz r H) l (kvs.map (·.2))
  | .dctT ks l => ∃ kvs, H a = some (.dT kvs) ∧ kvs.map (·.1) = ks ∧ RpL K (fz r H) l (kvs.map (·.2))
  | .ins C ns ws => ∃ dx fs, H a = some (.ins C dx fs) ∧ fs.map (·.1) = ns ∧ RWL K r H (fs.map (·.2)) ws
  | .lsW ws => ∃ xs, H a = some (.lst xs) ∧ RWL K r H xs ws
structure Sta (K : PySem.W.Frag) (r : Rg) (M : Sto) (H : Hp) : Prop where
  len : r.c.length = M.length
  nd : r.c.Nodup ∧ r.u.Nodup
  dj : ∀ a ∈ r.u, a ∉ r.c
  prv : ∀ a ∈ r.u, ∃ xs, H a = some (.lst xs)
  cell : ∀ (k : Nat) (a : Addr) (c : Cell), r.c[k]? = some a → M[k]? = some c → CellOk K r H a c
structure EnvR (K : PySem.W.Frag) (r : Rg) (H : Hp) (σ : L2.St) (δ : DEnv) : Prop where
  len : σ.length = δ.length
  at_ : ∀ (i : Nat) (w : W), δ[i]? = some (some w) → ∃ v, σ[i]? = some (some v) ∧ RW K r H v w
structure Nxt (r : Rg) (H : Hp) (r' : Rg) (H' : Hp) : Prop where
  ext : ∃ t, r'.c = r.c ++ t
  eu : r'.u = r.u
  prv : ∀ a ∈ r.u, ∀ o, H a = some o → H' a = some o
  same : Same (fz r H) (fz r' H')
section
variable {K : PySem.W.Frag} {r r1 r2 : Rg} {M M' : Sto} {H H1 H2 : Hp} {σ : L2.St} {δ : DEnv}
theorem CellOk.there {a : Addr} : ∀ {c : Cell}, CellOk K r H a c → ∃ o, H a = some o
  | .lst _, ⟨_, h, _⟩ => ⟨_, h⟩
  | .dct _ _, ⟨_, h, _⟩ => ⟨_, h⟩
  | .dctT _ _, ⟨_, h, _⟩ => ⟨_, h⟩
  | .ins _ _ _, ⟨_, _, h, _⟩ => ⟨_, h⟩
  | .lsW _, ⟨_, h, _⟩ => ⟨_, h⟩
theorem Sta.there (S : Sta K r M H) {a : Addr} (h : r.has a) : ∃ o, H a = some o := by
  rcases h with h | h
  · obtain ⟨k, hk, e⟩ := List.getElem_of_mem h
    have h1 : r.c[k]? = some a := by rw [List.getElem?_eq_getElem hk, e]
    have hk2 : k < M.length := by rw [← S.len]; exact hk
    exact (S.cell k a _ h1 (List.getElem?_eq_getElem hk2)).there
  · obtain ⟨xs, e⟩ := S.prv a h
    exact ⟨_, e⟩
theorem Sta.fresh (S : Sta K r M H) {p : Addr} (h : H p = none) : ¬ r.has p := fun m => by
  obtain ⟨o, e⟩ := S.there m
  rw [h] at e; cases e
theorem Nxt.refl : Nxt r H r H := ⟨⟨[], by simp⟩, rfl, fun _ _ _ h => h, Same.refl _⟩
theorem Nxt.trans (a : Nxt r H r1 H1) (b : Nxt r1 H1 r2 H2) : Nxt r H r2 H2 := by
  obtain ⟨t, e1⟩ := a.ext
  obtain ⟨u, e2⟩ := b.ext
  exact ⟨⟨t ++ u, by rw [e2, e1]; simp⟩, b.eu.trans a.eu, fun x hx o h => b.prv x (a.eu ▸ hx) o (a.prv x hx o h), a.same.trans b.same⟩
theorem Nxt.more (e : Same H H1) : Nxt r H r H1 := ⟨⟨[], by simp⟩, rfl, fun a _ o h => e a o h, fz_same e⟩
theorem RW.mono {v : V} {w : W} (n : Nxt r H r1 H1) (h : RW K r H v w) : RW K r1 H1 v w := by
  cases w with
  | d x => exact Rp.mono n.same h
  | loc k =>
    obtain ⟨a, e, q⟩ := h
    obtain ⟨t, e2⟩ := n.ext
    refine ⟨a, ?_, q⟩
    rw [e2, List.getElem?_append_left (List.getElem?_eq_some_iff.mp e).1]; exact e
theorem RWL.mono (n : Nxt r H r1 H1) : ∀ {vs : List V} {ws : List W}, RWL K r H vs ws → RWL K r1 H1 vs ws
  | [], _, h => h
  | _ :: _, _, ⟨w, ws', e, h1, h2⟩ => ⟨w, ws', e, h1.mono n, RWL.mono n h2⟩
theorem EnvR.mono (E : EnvR K r H σ δ) (n : Nxt r H r1 H1) : EnvR K r1 H1 σ δ :=
  ⟨E.len, fun i w h => let ⟨v, e, q⟩ := E.at_ i w h; ⟨v, e, q.mono n⟩⟩
theorem CellOk.next {a : Addr} (n : Nxt r H r1 H1) (e : H1 a = H a) : ∀ {c : Cell}, CellOk K r H a c → CellOk K r1 H1 a c
  | .lst _, ⟨xs, h, q⟩ => ⟨xs, e.trans h, RpL.mono n.same q⟩
  | .dct _ _, ⟨xs, h, h2, q⟩ => ⟨xs, e.trans h, h2, RpL.mono n.same q⟩
  | .dctT _ _, ⟨xs, h, h2, q⟩ => ⟨xs, e.trans h, h2, RpL.mono n.same q⟩
  | .ins _ _ _, ⟨dx, fs, h, h2, q⟩ => ⟨dx, fs, e.trans h, h2, RWL.mono n q⟩
  | .lsW _, ⟨xs, h, q⟩ => ⟨xs, e.trans h, RWL.mono n q⟩
theorem CellOk.more {a : Addr} (e : Same H H1) {c : Cell} (h : CellOk K r H a c) : CellOk K r H1 a c := by
  obtain ⟨o, ho⟩ := h.there
  exact h.next (Nxt.more e) ((e _ _ ho).trans ho.symm)
theorem Sta.more (S : Sta K r M H) (e : Same H H1) : Sta K r M H1 := ⟨S.len, S.nd, S.dj, fun a ha => let ⟨o, h⟩ := S.prv a ha; ⟨o, e a _ h⟩, fun k a c h1 h2 => (S.cell k a c h1 h2).more e⟩
theorem EnvR.set {i : Nat} {v : V} {w : W} (E : EnvR K r H σ δ) (h : RW K r H v w) : EnvR K r H (σ.set i (some v)) (δ.set i (some w)) := by
  refine ⟨by simp [E.len], fun j u hj => ?_⟩
  by_cases e : i = j
  · subst e
    by_cases l : i < δ.length
    · rw [List.getElem?_set_self l] at hj
      have : w = u := Option.some.inj (Option.some.inj hj)
      subst this
      exact ⟨v, by rw [List.getElem?_set_self (by rw [E.len]; exact l)], h⟩
    · rw [List.getElem?_eq_none (by simpa using l)] at hj; cases hj
  · rw [List.getElem?_set_ne e] at hj
    obtain ⟨x, e1, q⟩ := E.at_ j u hj
    exact ⟨x, by rw [List.getElem?_set_ne e]; exact e1, q⟩
end
end S9
namespace S9
open PySem PySem.Spec PyProof.Rows L2
def RD (K : PySem.W.Frag) (r : Rg) (H : Hp) (v : V) : D → Prop
  | .lst l => ∃ a xs, v = .ref a ∧ H a = some (.lst xs) ∧ RpL K (fz r H) l xs
  | .dct ks l => ∃ a kvs, v = .ref a ∧ Rd H a (.dK kvs) ∧ kvs.map (·.1) = ks ∧ RpL K (fz r H) l (kvs.map (·.2))
  | .dctT ks l => ∃ a kvs, v = .ref a ∧ Rd H a (.dT kvs) ∧ kvs.map (·.1) = ks ∧ RpL K (fz r H) l (kvs.map (·.2))
  | x => Rp K (fz r H) x v
def rd (M : Sto) : W → Option D
  | .d x => some x
  | .loc k => match M[k]? with
    | some (.lst l) => some (.lst l)
    | some (.dct ks l) => some (.dct ks l)
    | some (.dctT ks l) => some (.dctT ks l)
    | _ => none
def fr : W → Option D
  | .d x => some x
  | .loc _ => none
def rds (M : Sto) : List W → Option (List D)
  | [] => some []
  | w :: ws => (rd M w).bind fun x => (rds M ws).map fun l => x :: l
def frs9 : List W → Option (List D)
  | [] => some []
  | w :: ws => (fr w).bind fun x => (frs9 ws).map fun l => x :: l
section
variable {K : PySem.W.Frag} {r r1 r2 : Rg} {M M' : Sto} {H H1 H2 : Hp} {σ : L2.St} {δ : DEnv}
theorem RD.of {v : V} {x : D} (h : Rp K (fz r H) x v) : RD K r H v x := by
  cases x with
  | lst l =>
    simp only [Rp] at h
    obtain ⟨a, xs, e, q, p⟩ := h
    exact ⟨a, xs, e, fz_sub _ _ q, p⟩
  | dct ks l =>
    simp only [Rp] at h
    obtain ⟨a, xs, o, e, q, p⟩ := h
    exact ⟨a, xs, e, .inr ⟨o, fz_sub _ _ q⟩, p⟩
  | dctT ks l =>
    simp only [Rp] at h
    obtain ⟨a, xs, o, e, q, p⟩ := h
    exact ⟨a, xs, e, .inr ⟨o, fz_sub _ _ q⟩, p⟩
  | _ => exact h
theorem RW.rd (S : Sta K r M H) {v : V} {w : W} {x : D} (h : RW K r H v w) (e : rd M w = some x) : RD K r H v x := by
  cases w with
  | d y =>
    have : y = x := Option.some.inj e
    subst this
    exact RD.of h
  | loc k =>
    obtain ⟨a, e1, rfl⟩ := h
    simp only [S9.rd] at e
    split at e
    · rename_i l hl
      cases e
      obtain ⟨xs, q, p⟩ := S.cell k a _ e1 hl
      exact ⟨a, xs, rfl, q, p⟩
    · rename_i ks l hl
      cases e
      obtain ⟨xs, q, p⟩ := S.cell k a _ e1 hl
      exact ⟨a, xs, rfl, .inl q, p⟩
    · rename_i ks l hl
      cases e
      obtain ⟨xs, q, p⟩ := S.cell k a _ e1 hl
      exact ⟨a, xs, rfl, .inl q, p⟩
    · cases e
theorem RW.fr {v : V} {w : W} {x : D} (h : RW K r H v w) (e : fr w = some x) : Rp K (fz r H) x v := by
  cases w with
  | d y =>
    have : y = x := Option.some.inj e
    subst this
    exact h
  | loc k => cases e
def RDL (K : PySem.W.Frag) (r : Rg) (H : Hp) : List V → List D → Prop
  | [], l => l = []
  | v :: vs, l => ∃ x t, l = x :: t ∧ RD K r H v x ∧ RDL K r H vs t
theorem RWL.rds (S : Sta K r M H) : ∀ {vs : List V} {ws : List W} {l : List D}, RWL K r H vs ws → rds M ws = some l → RDL K r H vs l
  | [], ws, l, h, e => by
    cases (show ws = [] from h)
    cases e
    rfl
  | v :: vs, ws, l, h, e => by
    obtain ⟨w, ws', rfl, h1, h2⟩ := h
    simp only [S9.rds, Option.bind_eq_some_iff, Option.map_eq_some_iff] at e
    obtain ⟨x, ex, t, et, rfl⟩ := e
    exact ⟨x, t, rfl, h1.rd S ex, h2.rds S et⟩
theorem RWL.frs : ∀ {vs : List V} {ws : List W} {l : List D}, RWL K r H vs ws → frs9 ws = some l → RpL K (fz r H) l vs
  | [], ws, l, h, e => by
    cases (show ws = [] from h)
    cases e
    exact RpL.nil
  | v :: vs, ws, l, h, e => by
    obtain ⟨w, ws', rfl, h1, h2⟩ := h
    simp only [S9.frs9, Option.bind_eq_some_iff, Option.map_eq_some_iff] at e
    obtain ⟨x, ex, t, et, rfl⟩ := e
    exact RpL.cons (h1.fr ex) (h2.frs et)
theorem RWL.cons {v : V} {w : W} {vs : List V} {ws : List W} (h : RW K r H v w) (t : RWL K r H vs ws) : RWL K r H (v :: vs) (w :: ws) := ⟨w, ws, rfl, h, t⟩
theorem RWL.nil : RWL K r H [] [] := rfl
theorem RWL.length : ∀ {vs : List V} {ws : List W}, RWL K r H vs ws → vs.length = ws.length
  | [], ws, h => by cases (show ws = [] from h); rfl
  | v :: vs, ws, h => by
    obtain ⟨w, ws', rfl, h1, h2⟩ := h
    simp [h2.length]
structure NewL (K : PySem.W.Frag) (r : Rg) (H : Hp) (M' : Sto) (l : List D) (p : Addr) (r' : Rg) (H' : Hp) : Prop where
  nxt : Nxt r H r' H'
  sta : Sta K r' M' H'
  sta2 : Sta K (r'.add p) (M' ++ [.lst l]) H'
  same : Same (fz r H) (fz (r'.add p) H')
theorem has_add {r : Rg} {p a : Addr} : (r.add p).has a ↔ r.has a ∨ a = p := by
  unfold Rg.add Rg.has
  simp only [List.mem_append, List.mem_singleton]
  constructor
  · rintro ((h | h) | h)
    · exact .inl (.inl h)
    · exact .inr h
    · exact .inl (.inr h)
  · rintro ((h | h) | h)
    · exact .inl (.inl h)
    · exact .inr h
    · exact .inl (.inr h)
theorem has_hid {r : Rg} {p a : Addr} : (r.hid p).has a ↔ r.has a ∨ a = p := by
  unfold Rg.hid Rg.has
  simp only [List.mem_cons]
  constructor
  · rintro (h | h | h)
    · exact .inl (.inl h)
    · exact .inr h
    · exact .inl (.inr h)
  · rintro ((h | h) | h)
    · exact .inl h
    · exact .inr (.inr h)
    · exact .inr (.inl h)
theorem same_up {H : Hp} {p : Addr} {o : HO} (hp : H p = none) : Same H (upd H p o) := fun x u h => by rw [upd_ne (ne_of_none h hp)]; exact h
theorem fz_new {q : Rg} {p : Addr} {o : HO} (h : H p = none) (m : ∀ a, q.has a → r.has a ∨ a = p) : Same (fz r H) (fz q (upd H p o)) := fun a u e => by
  have h1 : ¬ r.has a := fun m => by rw [fz_in m] at e; cases e
  rw [fz_out h1] at e
  have h2 : a ≠ p := ne_of_none e h
  rw [fz_out (fun z => (m a z).elim h1 h2), upd_ne h2]
  exact e
theorem nxt_new {p : Addr} {o : HO} (h : H p = none) : Nxt r H (r.add p) (upd H p o) :=
  ⟨⟨[p], rfl⟩, rfl, fun a _ u e => same_up h a u e, fz_new h fun a z => has_add.mp z⟩
theorem sta_new {p : Addr} {o : HO} {c : Cell} (S : Sta K r M H) (h : H p = none) (q : CellOk K (r.add p) (upd H p o) p c) : Sta K (r.add p) (M ++ [c]) (upd H p o) := by
  have nm := S.fresh h
  refine ⟨by simp [Rg.add, S.len], ⟨?_, S.nd.2⟩, fun a ha z => ?_, fun a ha => ?_, fun k a c' e1 e2 => ?_⟩
  · show (r.c ++ [p]).Nodup
    rw [List.nodup_append]
    exact ⟨S.nd.1, by simp, fun a ha b hb z => by simp at hb; subst hb; exact nm (z ▸ .inl ha)⟩
  · have z : a ∈ r.c ++ [p] := z
    rcases List.mem_append.mp z with z | z
    · exact S.dj a ha z
    · have : a = p := by simpa using z
      exact nm (this ▸ .inr ha)
  · obtain ⟨u, e⟩ := S.prv a ha
    exact ⟨u, same_up h a _ e⟩
  · have e1 : (r.c ++ [p])[k]? = some a := e1
    by_cases hk : k < r.c.length
    · rw [List.getElem?_append_left hk] at e1
      rw [List.getElem?_append_left (by rw [← S.len]; exact hk)] at e2
      have ha : a ≠ p := fun z => nm (z ▸ .inl (List.mem_of_getElem? e1))
      exact (S.cell k a c' e1 e2).next (nxt_new h) (upd_ne ha)
    · have e3 : k = r.c.length := by
        have := (List.getElem?_eq_some_iff.mp e1).1
        simp at this
        omega
      subst e3
      have e4 : a = p := by simpa using e1.symm
      have e5 : c' = c := by rw [S.len] at e2; simpa using e2.symm
      subst e4
      subst e5
      exact q
theorem new_l {p : Addr} {l : List D} {xs : List V} (S : Sta K r M H) (h : H p = none) (q : RpL K (fz r H) l xs) : NewL K r H M l p r (upd H p (.lst xs)) := by
  have n : Nxt r H (r.add p) (upd H p (.lst xs)) := nxt_new h
  exact ⟨Nxt.more (same_up h), S.more (same_up h), sta_new S h ⟨xs, upd_same, RpL.mono n.same q⟩, n.same⟩
theorem NewL.step {l : List D} {p : Addr} {r' : Rg} {H' : Hp} {M0 : Sto} (n : Nxt r H r1 H1) (h : NewL K r1 H1 M' l p r' H') : NewL K r H M' l p r' H' :=
  ⟨n.trans h.nxt, h.sta, h.sta2, n.same.trans h.same⟩
theorem NewL.nxt2 {l : List D} {p : Addr} {r' : Rg} {H' : Hp} (h : NewL K r H M' l p r' H') : Nxt r H (r'.add p) H' := by
  obtain ⟨t, e⟩ := h.nxt.ext
  exact ⟨⟨t ++ [p], by show r'.c ++ [p] = _; rw [e]; simp⟩, h.nxt.eu, h.nxt.prv, h.same⟩
theorem NewL.at_ {l : List D} {p : Addr} {r' : Rg} {H' : Hp} (h : NewL K r H M' l p r' H') : ∃ xs, H' p = some (.lst xs) ∧ RpL K (fz (r'.add p) H') l xs := by
  have e1 : (r'.add p).c[r'.c.length]? = some p := by simp [Rg.add]
  have e2 : (M' ++ [Cell.lst l])[r'.c.length]? = some (.lst l) := by rw [h.sta.len]; simp
  exact h.sta2.cell _ _ _ e1 e2
theorem NewL.out {l : List D} {p : Addr} {r' : Rg} {H' : Hp} (h : NewL K r H M' l p r' H') : ¬ r'.has p := fun m => by
  rcases m with m | m
  · have : (r'.c ++ [p]).Nodup := h.sta2.nd.1
    rw [List.nodup_append] at this
    exact this.2.2 p m p (by simp) rfl
  · exact h.sta2.dj p m (by simp [Rg.add])
theorem NewL.rp {l : List D} {p : Addr} {r' : Rg} {H' : Hp} (h : NewL K r H M' l p r' H') : Rp K (fz r' H') (.lst l) (.ref p) := by
  obtain ⟨xs, e, q⟩ := h.at_
  simp only [Rp]
  refine ⟨p, xs, rfl, ?_, RpL.mono (fz_less (fun a z => has_add.mpr (.inl z)) (Same.refl _)) q⟩
  rw [fz_out h.out]; exact e
end
structure Exn where
  cls : Value
  ns : List Str
  ds : List D
inductive R (A : Type) where
  | bad
  | ok (a : A) (M : Sto)
  | ex (e : Exn) (M : Sto)
def R.bind {A B : Type} : R A → (A → Sto → R B) → R B
  | .bad, _ => .bad
  | .ok a M, k => k a M
  | .ex e M, _ => .ex e M
def R.of {A : Type} (M : Sto) : Option A → R A
  | some a => .ok a M
  | none => .bad
@[simp] theorem R.of_some {A : Type} {M : Sto} {a : A} : R.of M (some a) = .ok a M := rfl
@[simp] theorem R.bind_ok {A B : Type} {a : A} {M : Sto} {k : A → Sto → R B} : (R.ok a M).bind k = k a M := rfl
@[simp] theorem R.bind_ex {A B : Type} {e : Exn} {M : Sto} {k : A → Sto → R B} : (R.ex e M).bind k = .ex e M := rfl
@[simp] theorem R.bind_bad {A B : Type} {k : A → Sto → R B} : (R.bad : R A).bind k = .bad := rfl
def ExR (K : PySem.W.Frag) (r : Rg) (H : Hp) (cls : Value) (od : Option Addr) (e : Exn) : Prop :=
  cls = e.cls ∧ match od with
    | none => e.ns = []
    | some d => ∃ fs, H d = some (.xd fs) ∧ fs.map (·.1) = e.ns ∧ RpL K (fz r H) e.ds (fs.map (·.2))
def Post {A B : Type} (K : PySem.W.Frag) (E : XK) (r : Rg) (H : Hp) (rel : Rg → Hp → Sto → B → A → Prop) : R A → (B → Hp → Prop) → Prop
  | .bad, _ => False
  | .ok w M', Q => ∀ v H' r', Nxt r H r' H' → Sta K r' M' H' → rel r' H' M' v w → Q v H'
  | .ex e M', _ => ∀ H' r' cls od, Nxt r H r' H' → Sta K r' M' H' → ExR K r' H' cls od e → E cls od H'
section
variable {K : PySem.W.Frag} {E : XK} {r r1 : Rg} {H H1 : Hp} {A B C A' : Type} {rel : Rg → Hp → Sto → B → A → Prop} {rel' : Rg → Hp → Sto → C → A' → Prop}
theorem Post.nxt {x : R A} {Q : B → Hp → Prop} (n : Nxt r H r1 H1) (h : Post K E r H rel x Q) : Post K E r1 H1 rel x Q := by
  cases x with
  | bad => exact h
  | ok w M => exact fun v H' r' n' S q => h v H' r' (n.trans n') S q
  | ex e M => exact fun H' r' c o n' S q => h H' r' c o (n.trans n') S q
theorem Post.bind {x : R A'} {k : A' → Sto → R A} {Q : B → Hp → Prop} {Q' : C → Hp → Prop} (h : Post K E r H rel (x.bind k) Q)
    (j : ∀ w M' v H' r', x = .ok w M' → Nxt r H r' H' → Sta K r' M' H' → rel' r' H' M' v w → Post K E r' H' rel (k w M') Q → Q' v H') : Post K E r H rel' x Q' := by
  cases x with
  | bad => exact h
  | ok w M => exact fun v H' r' n' S q => j w M v H' r' rfl n' S q (Post.nxt n' h)
  | ex e M => exact h
theorem Post.of {o : Option A} {M : Sto} {Q : B → Hp → Prop} (h : Post K E r H rel (R.of M o) Q) : ∃ w, o = some w ∧ ∀ v H' r', Nxt r H r' H' → Sta K r' M H' → rel r' H' M v w → Q v H' := by
  cases o with
  | none => exact h.elim
  | some w => exact ⟨w, rfl, h⟩
end
abbrev FE := DEnv → Sto → R W
abbrev FN := DEnv → Sto → R (List D)
abbrev FA := DEnv → Sto → R (List W)
abbrev FT := DEnv → Sto → R Bool
def relW (K : PySem.W.Frag) (r : Rg) (H : Hp) (_ : Sto) (v : V) (w : W) : Prop := RW K r H v w
def relWL (K : PySem.W.Frag) (r : Rg) (H : Hp) (_ : Sto) (v : List V) (w : List W) : Prop := RWL K r H v w
def relB (_ : Rg) (_ : Hp) (_ : Sto) (v : Bool) (w : Bool) : Prop := v = w
def PostN (K : PySem.W.Frag) (E : XK) (r : Rg) (H : Hp) : R (List D) → VK → Prop
  | .bad, _ => False
  | .ok l M', Q => ∀ p H' r', NewL K r H M' l p r' H' → Q (.ref p) H'
  | .ex e M', _ => ∀ H' r' cls od, Nxt r H r' H' → Sta K r' M' H' → ExR K r' H' cls od e → E cls od H'
def tR (K : PySem.W.Frag) (E : XK) (f : FE) : TE := fun σ H Q => ∃ r δ M, EnvR K r H σ δ ∧ Sta K r M H ∧ Post K E r H (relW K) (f δ M) Q
def tN (K : PySem.W.Frag) (E : XK) (f : FN) : TE := fun σ H Q => ∃ r δ M, EnvR K r H σ δ ∧ Sta K r M H ∧ PostN K E r H (f δ M) Q
def tA (K : PySem.W.Frag) (E : XK) (f : FA) : TA := fun σ H Q => ∃ r δ M, EnvR K r H σ δ ∧ Sta K r M H ∧ Post K E r H (relWL K) (f δ M) Q
def tT (K : PySem.W.Frag) (E : XK) (f : FT) : TT := fun σ H Q => ∃ r δ M, EnvR K r H σ δ ∧ Sta K r M H ∧ Post K E r H relB (f δ M) Q
abbrev RE (X : Cx) (E : XK) (e : Expr) (f : FE) : Prop := PE X e (tR X.K E f)
abbrev RN (X : Cx) (E : XK) (e : Expr) (f : FN) : Prop := PE X e (tN X.K E f)
abbrev RA (X : Cx) (E : XK) (es : List Expr) (f : FA) : Prop := PA X es (tA X.K E f)
abbrev RT (X : Cx) (E : XK) (e : Expr) (f : FT) : Prop := PT X e (tT X.K E f)
theorem PostN.bind {K : PySem.W.Frag} {E : XK} {r : Rg} {H : Hp} {A' C : Type} {rel' : Rg → Hp → Sto → C → A' → Prop} {x : R A'} {k : A' → Sto → R (List D)} {Q : VK} {Q' : C → Hp → Prop} (h : PostN K E r H (x.bind k) Q)
    (j : ∀ w M' v H' r', x = .ok w M' → Nxt r H r' H' → Sta K r' M' H' → rel' r' H' M' v w → PostN K E r' H' (k w M') Q → Q' v H') : Post K E r H rel' x Q' := by
  cases x with
  | bad => exact h
  | ok w M =>
    refine fun v H' r' n' S q => j w M v H' r' rfl n' S q ?_
    have h : PostN K E r H (k w M) Q := h
    revert h
    cases k w M with
    | bad => exact fun h => h
    | ok l M2 => exact fun h p H2 r2 N => h p H2 r2 (NewL.step (M0 := M) n' N)
    | ex e M2 => exact fun h H2 r2 c o n2 S2 q2 => h H2 r2 c o (n'.trans n2) S2 q2
  | ex e M => exact h
theorem pe_imp {X : Cx} {e : Expr} {t t' : TE} (h : PE X e t) (k : ∀ σ H Q, t' σ H Q → t σ H Q) : PE X e t' := ⟨fun pins s σ H Q I q => h.run pins s σ H Q I (k σ H Q q)⟩
theorem pt_imp {X : Cx} {e : Expr} {t t' : TT} (h : PT X e t) (k : ∀ σ H Q, t' σ H Q → t σ H Q) : PT X e t' := ⟨fun pins s σ H Q I q => h.run pins s σ H Q I (k σ H Q q)⟩
theorem pw_imp {X : Cx} {e : Expr} {t t' : TT} (h : PW X e t) (k : ∀ σ H Q, t' σ H Q → t σ H Q) : PW X e t' := ⟨fun whole pins s σ H Q I q => h.run whole pins s σ H Q I (k σ H Q q)⟩
theorem pa_imp {X : Cx} {es : List Expr} {t t' : TA} (h : PA X es t) (k : ∀ σ H Q, t' σ H Q → t σ H Q) : PA X es t' := ⟨fun pos pins s σ H Q I q => h.run pos pins s σ H Q I (k σ H Q q)⟩
theorem ps_imp {X : Cx} {e : Stmt} {t t' : TS} (h : PS X e t) (k : ∀ D σ H, t' D σ H → t D σ H) : PS X e t' := ⟨fun pins s σ H D I q => h.run pins s σ H D I (k D σ H q)⟩
theorem pss_imp {X : Cx} {e : List Stmt} {t t' : TS} (h : PSs X e t) (k : ∀ D σ H, t' D σ H → t D σ H) : PSs X e t' := ⟨fun pins s σ H D I q => h.run pins s σ H D I (k D σ H q)⟩
section
variable {X : Cx} {E : XK} {pos : Pos} {a b : Expr} {fa fb : FE}
def fVar (i : Nat) : FE := fun δ M => match δ[i]? with
  | some (some w) => .ok w M
  | _ => .bad
theorem re_var {i : Nat} {e : Expr} (h : PE X e (tVar i)) : RE X E e (fVar i) := pe_imp h fun σ H Q ⟨r, δ, M, Ev, S, k⟩ => by
  unfold fVar at k
  split at k
  · rename_i w' hw
    obtain ⟨v, ev, q⟩ := Ev.at_ i _ hw
    exact ⟨v, ev, k v H r Nxt.refl S q⟩
  · exact k.elim
def fC (x : D) : FE := fun _ M => .ok (.d x) M
theorem re_c {e : Expr} {v : V} {x : D} (h : PE X e (tC v)) (q : ∀ H, Rp X.K H x v) : RE X E e (fC x) := pe_imp h fun σ H Q ⟨r, δ, M, Ev, S, k⟩ => k v H r Nxt.refl S (q _)
theorem re_int {i : Int} {j} : RE X E (.Constant (.int i) j pos) (fC (.int i)) := re_c pe_int fun _ => by simp only [Rp]
theorem re_bl {i : Bool} {j} : RE X E (.Constant (.bool i) j pos) (fC (.bl i)) := re_c pe_bl fun _ => by simp only [Rp]
theorem re_non {j} : RE X E (.Constant .none j pos) (fC .non) := re_c pe_non fun _ => by simp only [Rp]
theorem re_str {x : Str} {j} : RE X E (.Constant (.str x) j pos) (fC (.str x)) := re_c pe_str fun _ => by simp only [Rp]
theorem re_glob {x : Str} {v : V} {u : Value} {d : D} (hg : Gl X x) (hm : X.mg x = some u) (rv : RelV v u) (q : ∀ H, Rp X.K H d v) (hd : (x == ("__debug__" : Str)) = false := by decide) : RE X E (.Name x pos) (fC d) := re_c (pe_glob hg hm rv hd) q
def fFro (f : FN) : FE := fun δ M => (f δ M).bind fun l M1 => .ok (.d (.lst l)) M1
def fNew (f : FN) : FE := fun δ M => (f δ M).bind fun l M1 => .ok (.loc M1.length) (M1 ++ [.lst l])
theorem fro_imp {f : FN} {K : PySem.W.Frag} {r : Rg} {H : Hp} {x : R (List D)} {Q : VK} (k : Post K E r H (relW K) (x.bind fun l M1 => .ok (.d (.lst l)) M1) Q) : PostN K E r H x Q := by
  cases x with
  | bad => exact k
  | ok l M1 => exact fun p H' r' N => k _ H' r' N.nxt N.sta N.rp
  | ex e M1 => exact k
theorem re_fro {f : FN} (h : RN X E a f) : RE X E a (fFro f) := pe_imp h fun σ H Q ⟨r, δ, M, Ev, S, k⟩ => ⟨r, δ, M, Ev, S, fro_imp (f := f) k⟩
theorem re_new {f : FN} (h : RN X E a f) : RE X E a (fNew f) := pe_imp h fun σ H Q ⟨r, δ, M, Ev, S, k⟩ => ⟨r, δ, M, Ev, S, by
  unfold fNew at k
  revert k
  cases f δ M with
  | bad => exact fun k => k
  | ok l M1 => exact fun k p H' r' N => k _ H' (r'.add p) N.nxt2 N.sta2 ⟨p, by rw [← N.sta.len]; simp [Rg.add], rfl⟩
  | ex e M1 => exact fun k => k⟩
def OpD (K : PySem.W.Frag) (rr : R2) (g : D → D → Option D) : Prop := ∀ (r : Rg) (M : Sto) (H : Hp) (x y : V) (d1 d2 d : D), Sta K r M H → RD K r H x d1 → RD K r H y d2 → g d1 d2 = some d →
  ∀ Q : VK, (∀ v H', Same H H' → Rp K (fz r H') d v → Q v H') → rr x y H Q
def OpN (K : PySem.W.Frag) (rr : R2) (g : D → D → Option (List D)) : Prop := ∀ (r : Rg) (M : Sto) (H : Hp) (x y : V) (d1 d2 : D) (l : List D), Sta K r M H → RD K r H x d1 → RD K r H y d2 → g d1 d2 = some l →
  ∀ Q : VK, (∀ xs, RpL K (fz r H) l xs → ∀ p, H p = none → Q (.ref p) (upd H p (.lst xs))) → rr x y H Q
def f2 {A : Type} (fa fb : FE) (k : D → D → Sto → R A) : DEnv → Sto → R A := fun δ M => (fa δ M).bind fun x M1 => (fb δ M1).bind fun y M2 => (R.of M2 ((rd M2 x).bind fun x' => (rd M2 y).map fun y' => (x', y'))).bind fun p M3 => k p.1 p.2 M3
def fOp (g : D → D → Option D) (fa fb : FE) : FE := f2 fa fb fun x y M => R.of M ((g x y).map W.d)
def fOpN (g : D → D → Option (List D)) (fa fb : FE) : FN := f2 fa fb fun x y M => R.of M (g x y)
theorem rd2 {M : Sto} {w u : W} {z : D × D} (e : ((rd M w).bind fun x' => (rd M u).map fun y' => (x', y')) = some z) : rd M w = some z.1 ∧ rd M u = some z.2 := by
  simp only [Option.bind_eq_some_iff, Option.map_eq_some_iff] at e
  obtain ⟨x, h1, y, h2, rfl⟩ := e
  exact ⟨h1, h2⟩
theorem op_imp {rr : R2} {g : D → D → Option D} (hg : OpD X.K rr g) : ∀ σ H Q, tR X.K E (fOp g fa fb) σ H Q → tOp rr (tR X.K E fa) (tR X.K E fb) σ H Q := fun σ H Q ⟨r, δ, M, Ev, S, k⟩ =>
  ⟨r, δ, M, Ev, S, Post.bind k fun w1 M1 v1 H1 r1 _ n1 S1 q1 k1 => ⟨r1, δ, M1, Ev.mono n1, S1, Post.bind k1 fun w2 M2 v2 H2 r2 _ n2 S2 q2 k2 => by
    cases e : ((rd M2 w1).bind fun x' => (rd M2 w2).map fun y' => (x', y')) with
    | none => rw [e] at k2; exact k2.elim
    | some z =>
      rw [e] at k2
      obtain ⟨e1, e2⟩ := rd2 e
      obtain ⟨w, h1, k3⟩ := Post.of (show Post _ _ _ _ _ (R.of M2 ((g z.1 z.2).map W.d)) _ from k2)
      simp only [Option.map_eq_some_iff] at h1
      obtain ⟨d, hd, rfl⟩ := h1
      exact hg r2 M2 H2 v1 v2 z.1 z.2 d S2 ((RW.mono n2 q1).rd S2 e1) (RW.rd S2 q2 e2) hd Q fun v H3 e q => k3 v H3 r2 (Nxt.more e) (S2.more e) q⟩⟩
theorem opn_imp {rr : R2} {g : D → D → Option (List D)} (hg : OpN X.K rr g) : ∀ σ H Q, tN X.K E (fOpN g fa fb) σ H Q → tOp rr (tR X.K E fa) (tR X.K E fb) σ H Q := fun σ H Q ⟨r, δ, M, Ev, S, k⟩ =>
  ⟨r, δ, M, Ev, S, PostN.bind k fun w1 M1 v1 H1 r1 _ n1 S1 q1 k1 => ⟨r1, δ, M1, Ev.mono n1, S1, PostN.bind k1 fun w2 M2 v2 H2 r2 _ n2 S2 q2 k2 => by
    cases e : ((rd M2 w1).bind fun x' => (rd M2 w2).map fun y' => (x', y')) with
    | none => rw [e] at k2; exact k2.elim
    | some z =>
      rw [e] at k2
      obtain ⟨e1, e2⟩ := rd2 e
      have k3 : PostN X.K E r2 H2 (R.of M2 (g z.1 z.2)) Q := k2
      cases e3 : g z.1 z.2 with
      | none => rw [e3] at k3; exact k3.elim
      | some l =>
        rw [e3] at k3
        exact hg r2 M2 H2 v1 v2 z.1 z.2 l S2 ((RW.mono n2 q1).rd S2 e1) (RW.rd S2 q2 e2) e3 Q fun xs q p hp => k3 p _ r2 (new_l S2 hp q)⟩⟩
theorem re_op {op : Operator} {rr : R2} {g : D → D → Option D} (ho : OpR X (binaryOp op) rr) (hg : OpD X.K rr g) (ha : RE X E a fa) (hb : RE X E b fb) : RE X E (.BinOp a op b pos) (fOp g fa fb) := pe_imp (pe_op ho ha hb) (op_imp hg)
theorem rn_op {op : Operator} {rr : R2} {g : D → D → Option (List D)} (ho : OpR X (binaryOp op) rr) (hg : OpN X.K rr g) (ha : RE X E a fa) (hb : RE X E b fb) : RN X E (.BinOp a op b pos) (fOpN g fa fb) := pe_imp (pe_op ho ha hb) (opn_imp hg)
theorem re_cmp {op : CmpOp} {rr : R2} {g : D → D → Option D} (ho : OpR X (compareOp op) rr) (hg : OpD X.K rr g) (ha : RE X E a fa) (hb : RE X E b fb) (hm : behindInMarks op b = false) : RE X E (.Compare a [op] [b] pos) (fOp g fa fb) := pe_imp (pe_cmpR ho ha hb hm) (op_imp hg)
theorem re_ix {rr : R2} {g : D → D → Option D} (ho : IxR X rr) (hg : OpD X.K rr g) (ha : RE X E a fa) (hb : RE X E b fb) (hs : PlainIx b) : RE X E (.Subscript a b pos) (fOp g fa fb) := pe_imp (pe_ix ho ha hb hs) (op_imp hg)
def UnD (K : PySem.W.Frag) (rr : V → Hp → VK → Prop) (g : D → Option D) : Prop := ∀ (r : Rg) (M : Sto) (H : Hp) (x : V) (d1 d : D), Sta K r M H → RD K r H x d1 → g d1 = some d →
  ∀ Q : VK, (∀ v H', Same H H' → Rp K (fz r H') d v → Q v H') → rr x H Q
def fUn (g : D → Option D) (fa : FE) : FE := fun δ M => (fa δ M).bind fun x M1 => R.of M1 (((rd M1 x).bind g).map W.d)
theorem un_imp {rr : V → Hp → VK → Prop} {g : D → Option D} (hg : UnD X.K rr g) : ∀ σ H Q, tR X.K E (fUn g fa) σ H Q → tUn rr (tR X.K E fa) σ H Q := fun σ H Q ⟨r, δ, M, Ev, S, k⟩ =>
  ⟨r, δ, M, Ev, S, Post.bind k fun w1 M1 v1 H1 r1 _ n1 S1 q1 k1 => by
    obtain ⟨w, h1, k3⟩ := Post.of k1
    simp only [Option.map_eq_some_iff, Option.bind_eq_some_iff] at h1
    obtain ⟨d, ⟨x, hx, hd⟩, rfl⟩ := h1
    exact hg r1 M1 H1 v1 x d S1 (RW.rd S1 q1 hx) hd Q fun v H3 e q => k3 v H3 r1 (Nxt.more e) (S1.more e) q⟩
theorem re_un {op : UnaryOp} {rr : V → Hp → VK → Prop} {g : D → Option D} (ho : UnR X (unaryOp op) rr) (hg : UnD X.K rr g) (ha : RE X E a fa) : RE X E (.UnaryOp op a pos) (fUn g fa) := pe_imp (pe_un ho ha) (un_imp hg)
def fNil : FA := fun _ M => .ok [] M
def fCons (fa : FE) (fs : FA) : FA := fun δ M => (fa δ M).bind fun w M1 => (fs δ M1).bind fun ws M2 => .ok (w :: ws) M2
theorem ra_nil : RA X E [] fNil := pa_imp pa_nil fun σ H Q ⟨r, δ, M, Ev, S, k⟩ => k [] H r Nxt.refl S rfl
theorem cons_imp {fs : FA} : ∀ σ H Q, tA X.K E (fCons fa fs) σ H Q → tCons (tR X.K E fa) (tA X.K E fs) σ H Q := fun σ H Q ⟨r, δ, M, Ev, S, k⟩ =>
  ⟨r, δ, M, Ev, S, Post.bind k fun w1 M1 v1 H1 r1 _ n1 S1 q1 k1 => ⟨r1, δ, M1, Ev.mono n1, S1, Post.bind k1 fun ws M2 vs H2 r2 _ n2 S2 q2 k2 => k2 _ H2 r2 Nxt.refl S2 (RWL.cons (RW.mono n2 q1) q2)⟩⟩
theorem ra_cons {es : List Expr} {fs : FA} (ha : RE X E a fa) (hr : RA X E es fs) (hs : starEach (a :: es) X.env = (false, eval a X.env) :: starEach es X.env := by rfl) : RA X E (a :: es) (fCons fa fs) := pa_imp (pa_cons ha hr hs) cons_imp
def CallD (K : PySem.W.Frag) (rr : List V → Hp → VK → Prop) (g : List D → Option D) : Prop := ∀ (r : Rg) (M : Sto) (H : Hp) (vs : List V) (ds : List D) (d : D), Sta K r M H → RDL K r H vs ds → g ds = some d →
  ∀ Q : VK, (∀ v H', Same H H' → Rp K (fz r H') d v → Q v H') → rr vs H Q
def CallN (K : PySem.W.Frag) (rr : List V → Hp → VK → Prop) (g : List D → Option (List D)) : Prop := ∀ (r : Rg) (M : Sto) (H : Hp) (vs : List V) (ds : List D) (l : List D), Sta K r M H → RDL K r H vs ds → g ds = some l →
  ∀ Q : VK, (∀ xs, RpL K (fz r H) l xs → ∀ p, H p = none → Q (.ref p) (upd H p (.lst xs))) → rr vs H Q
def fCB (g : List D → Option D) (fs : FA) : FE := fun δ M => (fs δ M).bind fun ws M1 => R.of M1 (((rds M1 ws).bind g).map W.d)
def fCN (g : List D → Option (List D)) (fs : FA) : FN := fun δ M => (fs δ M).bind fun ws M1 => R.of M1 ((rds M1 ws).bind g)
theorem cb_imp {rr : List V → Hp → VK → Prop} {g : List D → Option D} {fs : FA} (hg : CallD X.K rr g) : ∀ σ H Q, tR X.K E (fCB g fs) σ H Q → tCB rr (tA X.K E fs) σ H Q := fun σ H Q ⟨r, δ, M, Ev, S, k⟩ =>
  ⟨r, δ, M, Ev, S, Post.bind k fun ws M1 vs H1 r1 _ n1 S1 q1 k1 => by
    obtain ⟨w, h1, k3⟩ := Post.of k1
    simp only [Option.map_eq_some_iff, Option.bind_eq_some_iff] at h1
    obtain ⟨d, ⟨x, hx, hd⟩, rfl⟩ := h1
    exact hg r1 M1 H1 vs x d S1 (RWL.rds S1 q1 hx) hd Q fun v H3 e q => k3 v H3 r1 (Nxt.more e) (S1.more e) q⟩
theorem cn_imp {rr : List V → Hp → VK → Prop} {g : List D → Option (List D)} {fs : FA} (hg : CallN X.K rr g) : ∀ σ H Q, tN X.K E (fCN g fs) σ H Q → tCB rr (tA X.K E fs) σ H Q := fun σ H Q ⟨r, δ, M, Ev, S, k⟩ =>
  ⟨r, δ, M, Ev, S, PostN.bind k fun ws M1 vs H1 r1 _ n1 S1 q1 k1 => by
    cases e : (rds M1 ws).bind g with
    | none => rw [e] at k1; exact k1.elim
    | some l =>
      rw [e] at k1
      simp only [Option.bind_eq_some_iff] at e
      obtain ⟨x, hx, hd⟩ := e
      exact hg r1 M1 H1 vs x l S1 (RWL.rds S1 q1 hx) hd Q fun xs q p hp => k1 p _ r1 (new_l S1 hp q)⟩
variable {x : Str} {p : Pos} {es : List Expr} {id T : String} {fs : FA}
theorem re_callB {rr : List V → Hp → VK → Prop} {g : List D → Option D} (hc : CallR X (.builtin id) rr) (hg : CallD X.K rr g) (hx : Gl X x) (hm : X.mg x = none) (hv : bootBuiltins x = some (.builtin id)) (ha : RA X E (a :: es) fs) (hn : x ≠ "__name__" := by decide) (hdb : (x == ("__debug__" : Str)) = false := by decide)
    (he : starEach (a :: es) X.env = (false, eval a X.env) :: starEach es X.env := by rfl) (hpl : (backTo pos (starEach es X.env)).any (·.1) = false := by rfl) : RE X E (.Call (.Name x p) (a :: es) [] pos) (fCB g fs) := pe_imp (pe_callB hc hx hm hv ha hn hdb he hpl) (cb_imp hg)
theorem re_callTy {rr : List V → Hp → VK → Prop} {g : List D → Option D} (hc : CallR X (.type T) rr) (hg : CallD X.K rr g) (hx : Gl X x) (hm : X.mg x = none) (hv : bootBuiltins x = some (.type T)) (ha : RA X E (a :: es) fs) (hn : x ≠ "__name__" := by decide) (hdb : (x == ("__debug__" : Str)) = false := by decide)
    (he : starEach (a :: es) X.env = (false, eval a X.env) :: starEach es X.env := by rfl) (hpl : (backTo pos (starEach es X.env)).any (·.1) = false := by rfl) : RE X E (.Call (.Name x p) (a :: es) [] pos) (fCB g fs) := pe_imp (pe_callTy hc hx hm hv ha hn hdb he hpl) (cb_imp hg)
theorem rn_callTy {rr : List V → Hp → VK → Prop} {g : List D → Option (List D)} (hc : CallR X (.type T) rr) (hg : CallN X.K rr g) (hx : Gl X x) (hm : X.mg x = none) (hv : bootBuiltins x = some (.type T)) (ha : RA X E (a :: es) fs) (hn : x ≠ "__name__" := by decide) (hdb : (x == ("__debug__" : Str)) = false := by decide)
    (he : starEach (a :: es) X.env = (false, eval a X.env) :: starEach es X.env := by rfl) (hpl : (backTo pos (starEach es X.env)).any (·.1) = false := by rfl) : RN X E (.Call (.Name x p) (a :: es) [] pos) (fCN g fs) := pe_imp (pe_callTy hc hx hm hv ha hn hdb he hpl) (cn_imp hg)
end
end S9
namespace S9
open PySem PySem.Spec PyProof.Rows L2
section
variable {X : Cx} {E : XK} {pos : Pos} {a b c : Expr} {fa fb fc : FE}
theorem rp_tup {K : PySem.W.Frag} {r : Rg} {H : Hp} {M : Sto} {l : List D} {xs : List V} {p : Addr} (S : Sta K r M H) (hp : H p = none) (q : RpL K (fz r H) l xs) : Rp K (fz r (upd H p (.tup xs))) (.tup l) (.ref p) := by
  simp only [Rp]
  refine ⟨p, xs, rfl, ?_, RpL.mono (fz_same (same_up hp)) q⟩
  rw [fz_out (S.fresh hp), upd_same]
def fTup (fs : FA) : FE := fun δ M => (fs δ M).bind fun ws M1 => (R.of M1 (frs9 ws)).bind fun l M2 => if l.length ≤ 1000 then .ok (.d (.tup l)) M2 else .bad
def fLst (fs : FA) : FN := fun δ M => (fs δ M).bind fun ws M1 => (R.of M1 (frs9 ws)).bind fun l M2 => if l.length ≤ 1000 then .ok l M2 else .bad
theorem line_of {n : Nat} (h : n ≤ 1000) : n ≤ sizeLine := Nat.le_trans h (by decide)
theorem re_tup {es : List Expr} {fs : FA} {k : Nat} (h : RA X E es fs) : RE X E (.Tuple es k pos) (fTup fs) := pe_imp (pe_tup h) fun σ H Q ⟨r, δ, M, Ev, S, k⟩ =>
  ⟨r, δ, M, Ev, S, Post.bind k fun ws M1 vs H1 r1 _ n1 S1 q1 k1 => by
    cases e : frs9 ws with
    | none => rw [e] at k1; exact k1.elim
    | some l =>
      rw [e] at k1
      have k2 : Post X.K E r1 H1 (relW X.K) (if l.length ≤ 1000 then R.ok (.d (.tup l)) M1 else .bad) Q := k1
      split at k2
      · rename_i hl
        have q := RWL.frs q1 e
        refine ⟨by rw [q.length]; exact line_of hl, fun p hp => k2 _ _ r1 (Nxt.more (same_up hp)) (S1.more (same_up hp)) (rp_tup S1 hp q)⟩
      · exact k2.elim⟩
theorem rn_lst {es : List Expr} {fs : FA} (h : RA X E es fs) : RN X E (.List es pos) (fLst fs) := pe_imp (pe_lst h) fun σ H Q ⟨r, δ, M, Ev, S, k⟩ =>
  ⟨r, δ, M, Ev, S, PostN.bind k fun ws M1 vs H1 r1 _ n1 S1 q1 k1 => by
    cases e : frs9 ws with
    | none => rw [e] at k1; exact k1.elim
    | some l =>
      rw [e] at k1
      have k2 : PostN X.K E r1 H1 (if l.length ≤ 1000 then R.ok l M1 else .bad) Q := k1
      split at k2
      · rename_i hl
        have q := RWL.frs q1 e
        exact ⟨by rw [q.length]; exact line_of hl, fun p hp => k2 p _ r1 (new_l S1 hp q)⟩
      · exact k2.elim⟩
def tru (w : W) : Option Bool := match w with
  | .d (.bl b) => some b
  | _ => none
def fB (fa : FE) : FT := fun δ M => (fa δ M).bind fun w M1 => R.of M1 (tru w)
theorem tru_rw {K : PySem.W.Frag} {r : Rg} {H : Hp} {v : V} {w : W} {k : Bool} (e : tru w = some k) (h : RW K r H v w) : v = .bl k := by
  unfold tru at e
  split at e
  · cases e
    simpa only [RW, Rp] using h
  · cases e
theorem rt_val (h : RE X E a fa) (he : ∀ whole, isTrue a X.env whole = (do let v ← whole; standAt a.pos; holding [v] (truthy v)) := by intro _; rfl) : RT X E a (fB fa) := pt_imp (pt_val h he) fun σ H Q ⟨r, δ, M, Ev, S, k⟩ =>
  ⟨r, δ, M, Ev, S, Post.bind k fun w M1 v H1 r1 _ n1 S1 q1 k1 => by
    obtain ⟨k2, e, k3⟩ := Post.of k1
    exact ⟨k2, tru_rw e q1, k3 k2 H1 r1 Nxt.refl S1 rfl⟩⟩
abbrev RB (X : Cx) (E : XK) (e : Expr) (f : FT) : Prop := PW X e (tT X.K E f)
def fOrT (f g : FT) : FT := fun δ M => (f δ M).bind fun b M1 => match b with
  | true => .ok true M1
  | false => g δ M1
def fNotT (f : FT) : FT := fun δ M => (f δ M).bind fun b M1 => .ok (!b) M1
variable {f g : FT} {rest : List Expr}
theorem rb_or1 (h : RT X E a f) : RB X E (.BoolOp .Or [a] pos) f := pw_or1 h
theorem rb_or (h : RT X E a f) (h2 : RB X E (.BoolOp .Or (b :: rest) pos) g) : RB X E (.BoolOp .Or (a :: b :: rest) pos) (fOrT f g) := pw_imp (pw_or h h2) fun σ H Q ⟨r, δ, M, Ev, S, k⟩ =>
  ⟨r, δ, M, Ev, S, Post.bind k fun w M1 v H1 r1 _ n1 S1 q1 k1 => by
    cases q1
    cases w with
    | true => exact iteT (k1 true H1 r1 Nxt.refl S1 rfl)
    | false => exact iteF ⟨r1, δ, M1, Ev.mono n1, S1, k1⟩⟩
theorem rt_of (h : RB X E a f) : RT X E a f := PW.pt h
theorem rt_not (h : RT X E a f) : RT X E (.UnaryOp .Not a pos) (fNotT f) := pt_imp (pt_not h) fun σ H Q ⟨r, δ, M, Ev, S, k⟩ =>
  ⟨r, δ, M, Ev, S, Post.bind k fun w M1 v H1 r1 _ n1 S1 q1 k1 => by
    cases q1
    exact k1 _ H1 r1 Nxt.refl S1 rfl⟩
def fAnd (fa fb : FE) : FE := fun δ M => (fa δ M).bind fun w M1 => (R.of M1 (tru w)).bind fun b M2 => match b with
  | true => fb δ M2
  | false => .ok (.d (.bl false)) M2
def fOr (fa fb : FE) : FE := fun δ M => (fa δ M).bind fun w M1 => (R.of M1 (tru w)).bind fun b M2 => match b with
  | true => .ok (.d (.bl true)) M2
  | false => fb δ M2
def fNot (fa : FE) : FE := fun δ M => (fa δ M).bind fun w M1 => R.of M1 ((tru w).map fun b => .d (.bl (!b)))
theorem re_one {op} (h : RE X E a fa) : RE X E (.BoolOp op [a] pos) fa := pe_one h
theorem re_and (ha : RE X E a fa) (hb : RE X E (.BoolOp .And (b :: rest) pos) fb) : RE X E (.BoolOp .And (a :: b :: rest) pos) (fAnd fa fb) := pe_imp (pe_and ha hb) fun σ H Q ⟨r, δ, M, Ev, S, k⟩ =>
  ⟨r, δ, M, Ev, S, Post.bind k fun w M1 v H1 r1 _ n1 S1 q1 k1 => by
    cases e : tru w with
    | none => rw [e] at k1; exact k1.elim
    | some x =>
      rw [e] at k1
      refine ⟨x, tru_rw e q1, ?_⟩
      cases x with
      | true => exact iteT ⟨r1, δ, M1, Ev.mono n1, S1, k1⟩
      | false => exact iteF (k1 _ H1 r1 Nxt.refl S1 (by simp only [relW, RW, Rp]))⟩
theorem re_or (ha : RE X E a fa) (hb : RE X E (.BoolOp .Or (b :: rest) pos) fb) : RE X E (.BoolOp .Or (a :: b :: rest) pos) (fOr fa fb) := pe_imp (pe_or ha hb) fun σ H Q ⟨r, δ, M, Ev, S, k⟩ =>
  ⟨r, δ, M, Ev, S, Post.bind k fun w M1 v H1 r1 _ n1 S1 q1 k1 => by
    cases e : tru w with
    | none => rw [e] at k1; exact k1.elim
    | some x =>
      rw [e] at k1
      refine ⟨x, tru_rw e q1, ?_⟩
      cases x with
      | true => exact iteT (k1 _ H1 r1 Nxt.refl S1 (by simp only [relW, RW, Rp]))
      | false => exact iteF ⟨r1, δ, M1, Ev.mono n1, S1, k1⟩⟩
theorem re_not (ha : RE X E a fa) : RE X E (.UnaryOp .Not a pos) (fNot fa) := pe_imp (pe_not ha) fun σ H Q ⟨r, δ, M, Ev, S, k⟩ =>
  ⟨r, δ, M, Ev, S, Post.bind k fun w M1 v H1 r1 _ n1 S1 q1 k1 => by
    obtain ⟨w2, e, k2⟩ := Post.of k1
    simp only [Option.map_eq_some_iff] at e
    obtain ⟨x, e, rfl⟩ := e
    exact ⟨x, tru_rw e q1, k2 _ H1 r1 Nxt.refl S1 (by simp only [relW, RW, Rp])⟩⟩
def fIf (f : FT) (fa fb : FE) : FE := fun δ M => (f δ M).bind fun b M1 => match b with
  | true => fa δ M1
  | false => fb δ M1
theorem re_if (hc : RT X E c f) (ha : RE X E a fa) (hb : RE X E b fb) : RE X E (.IfExp c a b pos) (fIf f fa fb) := pe_imp (pe_ifExp hc ha hb) fun σ H Q ⟨r, δ, M, Ev, S, k⟩ =>
  ⟨r, δ, M, Ev, S, Post.bind k fun w M1 v H1 r1 _ n1 S1 q1 k1 => by
    cases q1
    cases w with
    | true => exact iteT ⟨r1, δ, M1, Ev.mono n1, S1, k1⟩
    | false => exact iteF ⟨r1, δ, M1, Ev.mono n1, S1, k1⟩⟩
def fChain (g1 g2 : D → D → Option D) (fa fb fc : FE) : FE := fun δ M => (fa δ M).bind fun x M1 => (fb δ M1).bind fun y M2 =>
  (R.of M2 ((rd M2 x).bind fun x' => (rd M2 y).bind fun y' => (g1 x' y').bind fun z => tru (.d z))).bind fun k M3 => match k with
    | true => (fc δ M3).bind fun w M4 => R.of M4 ((rd M4 y).bind fun y' => (rd M4 w).bind fun w' => (g2 y' w').map W.d)
    | false => .ok (.d (.bl false)) M3
theorem chain_imp {rr rr' : R2} {g1 g2 : D → D → Option D} (hg : OpD X.K rr g1) (hg' : OpD X.K rr' g2) : ∀ σ H Q, tR X.K E (fChain g1 g2 fa fb fc) σ H Q → tChain rr rr' (tR X.K E fa) (tR X.K E fb) (tR X.K E fc) σ H Q := fun σ H Q ⟨r, δ, M, Ev, S, k⟩ =>
  ⟨r, δ, M, Ev, S, Post.bind k fun w M1 v H1 r1 _ n1 S1 q1 k1 => ⟨r1, δ, M1, Ev.mono n1, S1, Post.bind k1 fun w2 M2 v2 H2 r2 _ n2 S2 q2 k2 => by
    cases e : ((rd M2 w).bind fun x' => (rd M2 w2).bind fun y' => (g1 x' y').bind fun z => tru (.d z)) with
    | none => rw [e] at k2; exact k2.elim
    | some x =>
      rw [e] at k2
      simp only [Option.bind_eq_some_iff] at e
      obtain ⟨x', e1, y', e2, z, e3, e4⟩ := e
      refine hg r2 M2 H2 v v2 x' y' z S2 ((RW.mono n2 q1).rd S2 e1) (RW.rd S2 q2 e2) e3 _ fun vz H3 e5 q3 => ⟨x, tru_rw (w := .d z) e4 q3, ?_⟩
      cases x with
      | false => exact iteF (k2 _ H3 r2 (Nxt.more e5) (S2.more e5) (by simp only [relW, RW, Rp]))
      | true =>
        refine iteT ⟨r2, δ, M2, (Ev.mono (n1.trans n2)).mono (Nxt.more e5), S2.more e5, Post.bind (Post.nxt (Nxt.more e5) k2) fun w4 M4 v4 H4 r4 _ n4 S4 q4 k4 => ?_⟩
        obtain ⟨d, e, k5⟩ := Post.of k4
        simp only [Option.bind_eq_some_iff, Option.map_eq_some_iff] at e
        obtain ⟨y4, e7, w', e8, d', e9, rfl⟩ := e
        exact hg' r4 M4 H4 v2 v4 y4 w' d' S4 ((RW.mono ((Nxt.more e5).trans n4) q2).rd S4 e7) (RW.rd S4 q4 e8) e9 _ fun vz H5 e q => k5 _ H5 r4 (Nxt.more e) (S4.more e) q⟩⟩
theorem re_chain {op op' : CmpOp} {rr rr' : R2} {g1 g2 : D → D → Option D} (ho : OpR X (compareOp op) rr) (ho' : OpR X (compareOp op') rr') (hg : OpD X.K rr g1) (hg' : OpD X.K rr' g2) (ha : RE X E a fa) (hb : RE X E b fb) (hc : RE X E c fc)
    (hm : lastMarks [op, op'] [b, c] = false := by with_unfolding_all rfl) : RE X E (.Compare a [op, op'] [b, c] pos) (fChain g1 g2 fa fb fc) := pe_imp (pe_chain ho ho' ha hb hc hm) (chain_imp hg hg')
theorem test_imp {f : FE} {t : TE} (h : ∀ σ H Q, tR X.K E f σ H Q → t σ H Q) : ∀ σ H Q, tT X.K E (fB f) σ H Q → tTest t σ H Q := fun σ H Q ⟨r, δ, M, Ev, S, k⟩ => h _ _ _ ⟨r, δ, M, Ev, S, Post.bind k fun w M1 v H1 r1 _ n1 S1 q1 k1 => by
  obtain ⟨k2, e, k3⟩ := Post.of k1
  exact ⟨k2, tru_rw e q1, k3 k2 H1 r1 Nxt.refl S1 rfl⟩⟩
theorem rt_cmp {op : CmpOp} {rr : R2} {g : D → D → Option D} (ho : OpR X (compareOp op) rr) (hg : OpD X.K rr g) (ha : RE X E a fa) (hb : RE X E b fb) (hm : behindInMarks op b = false) : RT X E (.Compare a [op] [b] pos) (fB (fOp g fa fb)) := pt_imp (pt_cmpR ho ha hb hm) (test_imp (op_imp hg))
theorem rt_chain {op op' : CmpOp} {rr rr' : R2} {g1 g2 : D → D → Option D} (ho : OpR X (compareOp op) rr) (ho' : OpR X (compareOp op') rr') (hg : OpD X.K rr g1) (hg' : OpD X.K rr' g2) (ha : RE X E a fa) (hb : RE X E b fb) (hc : RE X E c fc)
    (hm : lastMarks [op, op'] [b, c] = false := by with_unfolding_all rfl) : RT X E (.Compare a [op, op'] [b, c] pos) (fB (fChain g1 g2 fa fb fc)) := pt_imp (pt_chain ho ho' ha hb hc hm) (test_imp (chain_imp hg hg'))
abbrev FO := DEnv → Sto → R (Option Int)
def relO (_ : Rg) (_ : Hp) (_ : Sto) (v : Option Int) (w : Option Int) : Prop := v = w
def tO (K : PySem.W.Frag) (E : XK) (f : FO) : TO := fun σ H Q => ∃ r δ M, EnvR K r H σ δ ∧ Sta K r M H ∧ Post K E r H relO (f δ M) Q
theorem po_imp {X : Cx} {e : Option Expr} {t t' : TO} (h : PO X e t) (k : ∀ σ H Q, t' σ H Q → t σ H Q) : PO X e t' := ⟨fun pins s σ H Q I q => h.run pins s σ H Q I (k σ H Q q)⟩
abbrev RO (X : Cx) (E : XK) (e : Option Expr) (f : FO) : Prop := PO X e (tO X.K E f)
def oNone : FO := fun _ M => .ok none M
def intW (w : W) : Option Int := match w with
  | .d (.int i) => some i
  | _ => none
theorem int_rw {K : PySem.W.Frag} {r : Rg} {H : Hp} {v : V} {w : W} {k : Int} (e : intW w = some k) (h : RW K r H v w) : v = .int k := by
  unfold intW at e
  split at e
  · cases e
    simpa only [RW, Rp] using h
  · cases e
def oSome (fa : FE) : FO := fun δ M => (fa δ M).bind fun w M1 => R.of M1 ((intW w).map some)
theorem ro_none : RO X E none oNone := po_imp po_none fun σ H Q ⟨r, δ, M, Ev, S, k⟩ => k none H r Nxt.refl S rfl
theorem ro_some (h : RE X E a fa) : RO X E (some a) (oSome fa) := po_imp (po_some h) fun σ H Q ⟨r, δ, M, Ev, S, k⟩ =>
  ⟨r, δ, M, Ev, S, Post.bind k fun w M1 v H1 r1 _ n1 S1 q1 k1 => by
    obtain ⟨o, e, k2⟩ := Post.of k1
    simp only [Option.map_eq_some_iff] at e
    obtain ⟨i, e, rfl⟩ := e
    exact ⟨i, int_rw e q1, k2 _ H1 r1 Nxt.refl S1 rfl⟩⟩
def SlD (K : PySem.W.Frag) (rr : V → Option Int → Option Int → Hp → VK → Prop) (g : D → Option Int → Option Int → Option D) : Prop := ∀ (r : Rg) (M : Sto) (H : Hp) (x : V) (d1 d : D) (lo hi : Option Int), Sta K r M H → RD K r H x d1 → g d1 lo hi = some d →
  ∀ Q : VK, (∀ v H', Same H H' → Rp K (fz r H') d v → Q v H') → rr x lo hi H Q
def fSl (g : D → Option Int → Option Int → Option D) (fa : FE) (fl fh : FO) : FE := fun δ M => (fa δ M).bind fun x M1 => (fl δ M1).bind fun lo M2 => (fh δ M2).bind fun hi M3 => R.of M3 ((rd M3 x).bind fun d => (g d lo hi).map W.d)
def fSlN (g : D → Option Int → Option Int → Option (List D)) (fa : FE) (fl fh : FO) : FN := fun δ M => (fa δ M).bind fun x M1 => (fl δ M1).bind fun lo M2 => (fh δ M2).bind fun hi M3 => R.of M3 ((rd M3 x).bind fun d => g d lo hi)
variable {lo hi : Option Expr} {fl fh : FO} {p2 : Pos}
theorem re_sl {rr : V → Option Int → Option Int → Hp → VK → Prop} {g : D → Option Int → Option Int → Option D} (hr : SlR X rr) (hg : SlD X.K rr g) (ha : RE X E a fa) (hl : RO X E lo fl) (hh : RO X E hi fh) : RE X E (.Subscript a (.Slice lo hi none p2) pos) (fSl g fa fl fh) :=
  pe_imp (pe_slice hr ha hl hh) fun σ H Q ⟨r, δ, M, Ev, S, k⟩ => ⟨r, δ, M, Ev, S, Post.bind k fun w M1 v H1 r1 _ n1 S1 q1 k1 => ⟨r1, δ, M1, Ev.mono n1, S1, Post.bind k1 fun o2 M2 v2 H2 r2 _ n2 S2 q2 k2 =>
    ⟨r2, δ, M2, (Ev.mono n1).mono n2, S2, Post.bind k2 fun o3 M3 v3 H3 r3 _ n3 S3 q3 k3 => by
      cases q2
      cases q3
      obtain ⟨w', e, k5⟩ := Post.of k3
      simp only [Option.bind_eq_some_iff, Option.map_eq_some_iff] at e
      obtain ⟨d, e1, d', e2, rfl⟩ := e
      exact hg r3 M3 H3 v d d' o2 o3 S3 ((RW.mono (n2.trans n3) q1).rd S3 e1) e2 Q fun z H4 e q => k5 z H4 r3 (Nxt.more e) (S3.more e) q⟩⟩⟩
end
inductive Out where
  | nx (δ : DEnv)
  | rt (w : W)
  | bk (δ : DEnv)
  | ct (δ : DEnv)
abbrev FS := DEnv → Sto → R Out
def PostS (K : PySem.W.Frag) (E : XK) (r : Rg) (H : Hp) : R Out → Ends → Prop
  | .bad, _ => False
  | .ok (.nx δ) M', D => ∀ σ' H' r', Nxt r H r' H' → Sta K r' M' H' → EnvR K r' H' σ' δ → D.nx σ' H'
  | .ok (.bk δ) M', D => ∀ σ' H' r', Nxt r H r' H' → Sta K r' M' H' → EnvR K r' H' σ' δ → D.bk σ' H'
  | .ok (.ct δ) M', D => ∀ σ' H' r', Nxt r H r' H' → Sta K r' M' H' → EnvR K r' H' σ' δ → D.ct σ' H'
  | .ok (.rt w) M', D => ∀ v H' r', Nxt r H r' H' → Sta K r' M' H' → RW K r' H' v w → D.rt v H'
  | .ex e M', _ => ∀ H' r' cls od, Nxt r H r' H' → Sta K r' M' H' → ExR K r' H' cls od e → E cls od H'
def tS (K : PySem.W.Frag) (E : XK) (f : FS) : TS := fun D σ H => ∃ r δ M, EnvR K r H σ δ ∧ Sta K r M H ∧ PostS K E r H (f δ M) D
abbrev RS (X : Cx) (E : XK) (s : Stmt) (f : FS) : Prop := PS X s (tS X.K E f)
abbrev RSs (X : Cx) (E : XK) (s : List Stmt) (f : FS) : Prop := PSs X s (tS X.K E f)
theorem PostS.nxt {K : PySem.W.Frag} {E : XK} {r r1 : Rg} {H H1 : Hp} {x : R Out} {D : Ends} (n : Nxt r H r1 H1) (h : PostS K E r H x D) : PostS K E r1 H1 x D := by
  cases x with
  | bad => exact h
  | ok o M =>
    cases o with
    | nx δ => exact fun v H' r' n' S q => h v H' r' (n.trans n') S q
    | bk δ => exact fun v H' r' n' S q => h v H' r' (n.trans n') S q
    | ct δ => exact fun v H' r' n' S q => h v H' r' (n.trans n') S q
    | rt w => exact fun v H' r' n' S q => h v H' r' (n.trans n') S q
  | ex e M => exact fun H' r' c o n' S q => h H' r' c o (n.trans n') S q
theorem PostS.bind {K : PySem.W.Frag} {E : XK} {r : Rg} {H : Hp} {A' C : Type} {rel' : Rg → Hp → Sto → C → A' → Prop} {x : R A'} {k : A' → Sto → R Out} {D : Ends} {Q' : C → Hp → Prop} (h : PostS K E r H (x.bind k) D)
    (j : ∀ w M' v H' r', x = .ok w M' → Nxt r H r' H' → Sta K r' M' H' → rel' r' H' M' v w → PostS K E r' H' (k w M') D → Q' v H') : Post K E r H rel' x Q' := by
  cases x with
  | bad => exact h
  | ok w M => exact fun v H' r' n' S q => j w M v H' r' rfl n' S q (PostS.nxt n' h)
  | ex e M => exact h
def R.thenS (x : R Out) (k : DEnv → Sto → R Out) : R Out := match x with
  | .ok (.nx δ) M => k δ M
  | y => y
def sNil : FS := fun δ M => .ok (.nx δ) M
def sSeq (f g : FS) : FS := fun δ M => (f δ M).thenS g
def sRet (fa : FE) : FS := fun δ M => (fa δ M).bind fun w M1 => .ok (.rt w) M1
def sIf (f : FT) (g h : FS) : FS := fun δ M => (f δ M).bind fun b M1 => match b with
  | true => g δ M1
  | false => h δ M1
section
variable {X : Cx} {E : XK} {pos : Pos} {a b c : Expr} {fa fb fc : FE} {st : Stmt} {rest body : List Stmt} {f g : FS}
theorem rss_nil : RSs X E [] sNil := pss_imp pss_nil fun D σ H ⟨r, δ, M, Ev, S, k⟩ => k σ H r Nxt.refl S Ev
theorem rss_one (h : RS X E st f) : RSs X E [st] f := pss_one h
theorem rss_cons (h : RS X E st f) (h2 : RSs X E rest g) : RSs X E (st :: rest) (sSeq f g) := pss_imp (pss_cons h h2) fun D σ H ⟨r, δ, M, Ev, S, k⟩ => ⟨r, δ, M, Ev, S, by
  unfold sSeq at k
  revert k
  cases f δ M with
  | bad => exact fun k => k
  | ex e M1 => exact fun k => k
  | ok o M1 =>
    cases o with
    | nx δ1 => exact fun k σ' H' r' n S' E' => ⟨r', δ1, M1, E', S', PostS.nxt n k⟩
    | rt w => exact fun k => k
    | bk w => exact fun k => k
    | ct w => exact fun k => k⟩
theorem rs_ret (h : RE X E a fa) : RS X E (.Return (some a) pos) (sRet fa) := ps_imp (ps_ret h) fun D σ H ⟨r, δ, M, Ev, S, k⟩ =>
  ⟨r, δ, M, Ev, S, PostS.bind k fun w M1 v H1 r1 _ n1 S1 q1 k1 => k1 v H1 r1 Nxt.refl S1 q1⟩
theorem rs_if {sa sb : List Stmt} {t : FT} (hc : RT X E c t) (ha : RSs X E sa f) (hb : RSs X E sb g) : RS X E (.If c sa sb pos) (sIf t f g) := ps_imp (ps_if hc ha hb) fun D σ H ⟨r, δ, M, Ev, S, k⟩ =>
  ⟨r, δ, M, Ev, S, PostS.bind k fun w M1 v H1 r1 _ n1 S1 q1 k1 => by
    cases q1
    cases w with
    | true => exact iteT ⟨r1, δ, M1, Ev.mono n1, S1, k1⟩
    | false => exact iteF ⟨r1, δ, M1, Ev.mono n1, S1, k1⟩⟩
end
abbrev FG := D → DEnv → Option DEnv
def tG (K : PySem.W.Frag) (ts : List Nat) (g : FG) : TG := fun v σ H Q => ∃ r δ M d δ', EnvR K r H σ δ ∧ Sta K r M H ∧ Rp K (fz r H) d v ∧ g d δ = some δ' ∧
  ∀ σ', (∀ j, j ∉ ts → σ'[j]? = σ[j]?) → σ'.length = σ.length → EnvR K r H σ' δ' → Q σ' H
abbrev RG (X : Cx) (tg : Expr) (ts : List Nat) (g : FG) : Prop := PG X tg (tG X.K ts g)
theorem pg_imp {X : Cx} {e : Expr} {t t' : TG} (h : PG X e t) (k : ∀ v σ H Q, t' v σ H Q → t v σ H Q) : PG X e t' := ⟨fun pins s σ H v u Q I rv q => h.run pins s σ H v u Q I rv (k v σ H Q q)⟩
def gNm (i : Nat) : FG := fun d δ => some (δ.set i (some (.d d)))
abbrev FGs := List D → DEnv → Option DEnv
section
variable {X : Cx} {pos : Pos} {ts us : List Nat} {g : FG} {gs : FGs}
theorem rg_name {i : Nat} {x : Str} (hN : X.N.Nodup) (hi : X.N[i]? = some x) (hx : Loc X.env.scope x) (hf : X.fn x = true ∨ X.env.scope.names.lookup x = some .local := by first | exact .inl rfl | exact .inr rfl | assumption) : RG X (.Name x pos) [i] (gNm i) :=
  pg_imp (pg_name hN hi hx hf) fun v σ H Q ⟨r, δ, M, d, δ', Ev, S, q, e, k⟩ => by
    cases e
    exact k _ (fun j hj => by rw [List.getElem?_set_ne (fun z => hj (by simp [z]))]) (by simp) (Ev.set q)
variable {E : XK} {a : Expr} {fa : FE}
def sSet (i : Nat) (fa : FE) : FS := fun δ M => (fa δ M).bind fun w M1 => .ok (.nx (δ.set i (some w))) M1
theorem rs_set {i : Nat} {x : Str} {pos' : Pos} (hN : X.N.Nodup) (hi : X.N[i]? = some x) (hx : Loc X.env.scope x) (he : RE X E a fa) (hs : swapsWith a (some (.Name x pos')) pos.line X.env = pure false := by rfl) (hf : X.fn x = true ∨ X.env.scope.names.lookup x = some .local := by first | exact .inl rfl | exact .inr rfl | assumption) :
    RS X E (.Assign [.Name x pos'] a pos) (sSet i fa) := ps_imp (ps_set hN hi hx he hs hf) fun D σ H ⟨r, δ, M, Ev, S, k⟩ =>
  ⟨r, δ, M, Ev, S, PostS.bind k fun w M1 v H1 r1 _ n1 S1 q1 k1 => k1 _ H1 r1 Nxt.refl S1 ((Ev.mono n1).set q1)⟩
def sPar (i j : Nat) (fs : FA) : FS := fun δ M => (fs δ M).bind fun ws M1 => match ws with
  | [v, w] => .ok (.nx ((δ.set i (some v)).set j (some w))) M1
  | _ => .bad
end
end S9
namespace S9
open PySem PySem.Spec PyProof.Rows L2
abbrev FI := DEnv → Sto → R (List D × List Nat)
def Wk (K : PySem.W.Frag) (J : It) (l : List D) (lk : List Nat) (r0 : Rg) (M0 : Sto) (H0 : Hp) : Prop := ∀ r1 H1 M1, (∃ t, r1.c = r0.c ++ t) → Same (fz r0 H0) (fz r1 H1) → Sta K r1 M1 H1 → (∀ k ∈ lk, M1[k]? = M0[k]?) →
  ∀ i, (∀ d, l[i]? = some d → J.go i H1 ∧ ∀ x H2, J.yld i H1 x H2 → Same H1 H2 ∧ Rp K (fz r1 H2) d x) ∧ (l.length ≤ i → J.stop i H1)
def PostI (K : PySem.W.Frag) (E : XK) (r : Rg) (H : Hp) : R (List D × List Nat) → (It → Hp → Prop) → Prop
  | .bad, _ => False
  | .ok p M', Q => ∀ J H' r', Nxt r H r' H' → Sta K r' M' H' → Wk K J p.1 p.2 r' M' H' → Q J H'
  | .ex e M', _ => ∀ H' r' cls od, Nxt r H r' H' → Sta K r' M' H' → ExR K r' H' cls od e → E cls od H'
def tI (K : PySem.W.Frag) (E : XK) (f : FI) : TI := fun σ H Q => ∃ r δ M, EnvR K r H σ δ ∧ Sta K r M H ∧ PostI K E r H (f δ M) Q
abbrev RI (X : Cx) (E : XK) (tg e : Expr) (f : FI) : Prop := PI X tg e (tI X.K E f)
theorem pi_imp {X : Cx} {tg e : Expr} {t t' : TI} (h : PI X tg e t) (k : ∀ σ H Q, t' σ H Q → t σ H Q) : PI X tg e t' := ⟨fun pins s σ H Q I q => h.run pins s σ H Q I (k σ H Q q)⟩
theorem PostI.bind {K : PySem.W.Frag} {E : XK} {r : Rg} {H : Hp} {A' C : Type} {rel' : Rg → Hp → Sto → C → A' → Prop} {x : R A'} {k : A' → Sto → R (List D × List Nat)} {Q : It → Hp → Prop} {Q' : C → Hp → Prop} (h : PostI K E r H (x.bind k) Q)
    (j : ∀ w M' v H' r', x = .ok w M' → Nxt r H r' H' → Sta K r' M' H' → rel' r' H' M' v w → PostI K E r' H' (k w M') Q → Q' v H') : Post K E r H rel' x Q' := by
  cases x with
  | bad => exact h
  | ok w M =>
    refine fun v H' r' n' S q => j w M v H' r' rfl n' S q ?_
    have h : PostI K E r H (k w M) Q := h
    revert h
    cases k w M with
    | bad => exact fun h => h
    | ok l M2 => exact fun h J H2 r2 n2 S2 W => h J H2 r2 (n'.trans n2) S2 W
    | ex e M2 => exact fun h H2 r2 c o n2 S2 q2 => h H2 r2 c o (n'.trans n2) S2 q2
  | ex e M => exact h
section
variable {X : Cx} {E : XK} {tg a : Expr} {fa : FE}
def iSeq (K : PySem.W.Frag) (tl : TE) : TI := fun σ H Q => tl σ H fun x H1 => ∃ a, x = .ref a ∧ (((∃ xs, SqL K H1 a xs) ∧ Q (Itl K a) H1) ∨ ((∃ xs, SqT K H1 a xs) ∧ Q (Itt K a) H1))
theorem pi_seq {l : Expr} {tl : TE} (hl : PE X l tl) : PI X tg l (iSeq X.K tl) := by
  refine ⟨fun pins s σ H Q I h => ?_⟩
  refine thn (hl.run pins s σ H _ I h) fun v s1 ⟨x, H1, I1, r1, q1⟩ => ?_
  obtain ⟨a, e, q⟩ := q1
  subst e
  cases r1
  have pin : ∀ b ∈ [s1.heap.objs.size], FpOk X pins H1 b := fun b hb => by
    have e : b = s1.heap.objs.size := by simpa using hb
    subst e
    exact I1.fpOk (Nat.le_refl _) (I1.hok.fresh (Nat.le_refl _))
  rcases q with ⟨⟨xs, hq⟩, q⟩ | ⟨⟨xs, hq⟩, q⟩
  · obtain ⟨its, rv, p, hz⟩ := I1.list hq
    refine wpAny_pyIter_list p.isList ?_
    exact ⟨s1.heap.objs.size, [s1.heap.objs.size], _, _, H1, rfl, I1.kept (t' := s1.toks) fun b o e => Heap.get?_push_of_some _ e, turn_list a _, ⟨_, Heap.get?_push_size _ rfl, rfl, rfl⟩, pin, q⟩
  · obtain ⟨its, rv, p, hz⟩ := I1.tuple hq
    refine wpAny_pyIter_tuple (show s1.heap.IsTuple a its.toArray from p) ?_
    exact ⟨s1.heap.objs.size, [s1.heap.objs.size], _, _, H1, rfl, I1.kept (t' := s1.toks) fun b o e => Heap.get?_push_of_some _ e, turn_tuple a _, ⟨_, Heap.get?_push_size _ rfl, rfl, rfl⟩, pin, q⟩
def itemsW (M : Sto) : W → Option (List D × List Nat)
  | .d (.lst l) => some (l, [])
  | .d (.frl l) => some (l, [])
  | .d (.tup l) => some (l, [])
  | .d (.ktp l) => some (l, [])
  | .loc k => match M[k]? with
    | some (.lst l) => some (l, [k])
    | _ => none
  | _ => none
def fSeqI (fa : FE) : FI := fun δ M => (fa δ M).bind fun w M1 => R.of M1 (itemsW M1 w)
variable {K : PySem.W.Frag}
theorem wk_list {r : Rg} {M : Sto} {H : Hp} {l : List D} {p : Addr} {xs : List V} (lk : List Nat)
    (hq : ∀ r1 H1 M1, Same (fz r H) (fz r1 H1) → Sta K r1 M1 H1 → (∀ k ∈ lk, M1[k]? = M[k]?) → SqL K H1 p xs ∧ RpL K (fz r1 H1) l xs) : Wk K (Itl K p) l lk r M H := fun r1 H1 M1 _ n S hk i => by
  obtain ⟨h1, h2⟩ := hq r1 H1 M1 n S hk
  refine ⟨fun d hd => ?_, fun hi => ⟨xs, h1, by rw [h2.length]; exact hi⟩⟩
  obtain ⟨x, ex, q⟩ := h2.get hd
  exact ⟨⟨xs, x, h1, ex⟩, fun y H2 ⟨e, hy⟩ => by
    subst e
    have := hy xs h1
    rw [ex] at this
    cases this
    exact ⟨Same.refl _, q⟩⟩
theorem wk_tup {r : Rg} {M : Sto} {H : Hp} {l : List D} {p : Addr} {xs : List V}
    (hq : SqT K (fz r H) p xs) (h2 : RpL K (fz r H) l xs) : Wk K (Itt K p) l [] r M H := fun r1 H1 M1 _ n S hk i => by
  have h1 : SqT K H1 p xs := same_t fz_sub (same_t n hq)
  have h2 := RpL.mono n h2
  refine ⟨fun d hd => ?_, fun hi => ⟨xs, h1, by rw [h2.length]; exact hi⟩⟩
  obtain ⟨x, ex, q⟩ := h2.get hd
  exact ⟨⟨xs, x, h1, ex⟩, fun y H2 ⟨e, hy⟩ => by
    subst e
    have := hy xs h1
    rw [ex] at this
    cases this
    exact ⟨Same.refl _, q⟩⟩
theorem ri_seq (h : RE X E a fa) : RI X E tg a (fSeqI fa) := pi_imp (pi_seq h) fun σ H Q ⟨r, δ, M, Ev, S, k⟩ =>
  ⟨r, δ, M, Ev, S, PostI.bind k fun w M1 v H1 r1 _ n1 S1 q1 k1 => by
    cases e : itemsW M1 w with
    | none => rw [e] at k1; exact k1.elim
    | some z =>
      rw [e] at k1
      unfold itemsW at e
      split at e
      · cases e
        simp only [relW, RW, Rp] at q1
        obtain ⟨p, xs, rfl, q2, q3⟩ := q1
        exact ⟨p, rfl, .inl ⟨⟨xs, .inl (.inl (fz_sub _ _ q2))⟩, k1 _ _ r1 Nxt.refl S1 (wk_list _ fun r2 H2 M2 n2 S2 _ => ⟨.inl (.inl (fz_sub _ _ (n2 _ _ q2))), RpL.mono n2 q3⟩)⟩⟩
      · cases e
        simp only [relW, RW, Rp] at q1
        obtain ⟨p, xs, rfl, q2, q3⟩ := q1
        exact ⟨p, rfl, .inl ⟨⟨xs, fz_sub.seq q2⟩, k1 _ _ r1 Nxt.refl S1 (wk_list _ fun r2 H2 M2 n2 S2 _ => ⟨fz_sub.seq (n2.seq q2), RpL.mono n2 q3⟩)⟩⟩
      · cases e
        simp only [relW, RW, Rp] at q1
        obtain ⟨p, xs, rfl, q2, q3⟩ := q1
        exact ⟨p, rfl, .inr ⟨⟨xs, same_p fz_sub q2⟩, k1 _ _ r1 Nxt.refl S1 (wk_tup (sq_t q2) q3)⟩⟩
      · cases e
        simp only [relW, RW, Rp] at q1
        obtain ⟨p, xs, rfl, q2, q3⟩ := q1
        exact ⟨p, rfl, .inr ⟨⟨xs, same_t fz_sub q2⟩, k1 _ _ r1 Nxt.refl S1 (wk_tup q2 q3)⟩⟩
      · rename_i kk _
        split at e
        · rename_i l hl
          cases e
          obtain ⟨p, e1, rfl⟩ := q1
          obtain ⟨xs, q2, q3⟩ := S1.cell kk p _ e1 hl
          refine ⟨p, rfl, .inl ⟨⟨xs, .inl (.inl q2)⟩, k1 _ _ r1 Nxt.refl S1 ?_⟩⟩
          -- the cell stands as it stood, its list may be another one of the same items
          intro r2 H2 M2 x2 n2 S2 hk i
          have hk2 : M2[kk]? = some (.lst l) := (hk kk (by simp)).trans hl
          obtain ⟨t, et⟩ := x2
          have e2 : r2.c[kk]? = some p := by rw [et, List.getElem?_append_left (List.getElem?_eq_some_iff.mp e1).1]; exact e1
          obtain ⟨ys, h1, h2⟩ := S2.cell kk p _ e2 hk2
          have h1' : SqL X.K H2 p ys := .inl (.inl h1)
          refine ⟨fun d hd => ?_, fun hi => ⟨ys, h1', by rw [h2.length]; exact hi⟩⟩
          obtain ⟨x, ex, q⟩ := h2.get hd
          exact ⟨⟨ys, x, h1', ex⟩, fun y H3 ⟨e, hy⟩ => by
            subst e
            have := hy ys h1'
            rw [ex] at this
            cases this
            exact ⟨Same.refl _, q⟩⟩
        · cases e
      · cases e⟩
def rgD (lo : Int) (n : Nat) : List D := (List.range n).map fun (i : Nat) => D.int (lo + (i : Int))
def rngW1 : List W → Option (Int × Int)
  | [.d (.int j)] => some (0, j)
  | _ => none
def rngC (p : Int × Int) : Bool := decide (-1000000 ≤ p.1) && decide (p.1 ≤ 1000000) && decide (-1000000 ≤ p.2) && decide (p.2 ≤ 1000000)
theorem rngC_of {p : Int × Int} (h : rngC p = true) : -1000000 ≤ p.1 ∧ p.1 ≤ 1000000 ∧ -1000000 ≤ p.2 ∧ p.2 ≤ 1000000 := by
  unfold rngC at h
  simp only [Bool.and_eq_true, decide_eq_true_eq] at h
  exact ⟨h.1.1.1, h.1.1.2, h.1.2, h.2⟩
def rngR (p : Int × Int) (M : Sto) : R (List D × List Nat) := match rngC p with
  | true => .ok (rgD p.1 (p.2 - p.1).toNat, []) M
  | false => .bad
def fRng1 (fs : FA) : FI := fun δ M => (fs δ M).bind fun ws M1 => (R.of M1 (rngW1 ws)).bind rngR
theorem wk_rng {r : Rg} {M : Sto} {H : Hp} {lo : Int} {n : Nat} : Wk K (Itr lo n) (rgD lo n) [] r M H := fun r1 H1 M1 _ _ S _ i => by
  refine ⟨fun d hd => ?_, fun hi => ?_⟩
  · unfold rgD at hd
    rw [List.getElem?_map] at hd
    cases e : (List.range n)[i]? with
    | none => rw [e] at hd; cases hd
    | some j =>
      rw [e] at hd
      cases hd
      obtain ⟨h1, h2⟩ := List.getElem?_eq_some_iff.mp e
      rw [List.length_range] at h1
      rw [List.getElem_range] at h2
      subst h2
      exact ⟨h1, fun y H2 ⟨e1, e2⟩ => by
        subst e1
        exact ⟨Same.refl _, by simp only [Rp]; exact e2⟩⟩
  · unfold rgD at hi
    rw [List.length_map, List.length_range] at hi
    exact hi
theorem rwl1 {r : Rg} {H : Hp} {vs : List V} {i : Int} (h : RWL K r H vs [.d (.int i)]) : vs = [.int i] := by
  cases vs with
  | nil => cases h
  | cons v vs =>
    obtain ⟨w, ws, e, h1, h2⟩ := h
    cases e
    cases vs with
    | nil => simp only [RW, Rp] at h1; rw [h1]
    | cons u us => obtain ⟨_, _, e, _⟩ := h2; cases e
theorem ri_range1 {fs : FA} {p pos : Pos} (hg : Gl X "range") (hm : X.mg "range" = none) (ha : RA X E [a] fs) (hs : starEach [a] X.env = [(false, eval a X.env)] := by rfl) : RI X E tg (.Call (.Name "range" p) [a] [] pos) (fRng1 fs) :=
  pi_imp (pi_range1 hg hm ha hs) fun σ H Q ⟨r, δ, M, Ev, S, k⟩ => ⟨r, δ, M, Ev, S, PostI.bind k fun ws M1 vs H1 r1 _ n1 S1 q1 k1 => by
    cases e : rngW1 ws with
    | none => rw [e] at k1; exact k1.elim
    | some z =>
      rw [e] at k1
      have k2 : PostI X.K E r1 H1 (rngR z M1) Q := k1
      unfold rngR at k2
      cases hc : rngC z with
      | false => rw [hc] at k2; exact k2.elim
      | true =>
        rw [hc] at k2
        have hb := rngC_of hc
        unfold rngW1 at e
        split at e
        · cases e
          simp only at hb
          refine ⟨_, rwl1 q1, by omega, by omega, k2 _ _ r1 Nxt.refl S1 ?_⟩
          have := @wk_rng X.K r1 M1 H1 0
          simpa only [Int.sub_zero] using wk_rng
        · cases e⟩
end
def lkOk (lk : List Nat) (M0 M2 : Sto) : Prop := ∀ k ∈ lk, M2[k]? = M0[k]?
open Classical in
noncomputable def lkR {A : Type} (lk : List Nat) (M0 M2 : Sto) (x : R A) : R A := if lkOk lk M0 M2 then x else .bad
@[simp] theorem lkR_nil {A : Type} {M0 M2 : Sto} {x : R A} : lkR [] M0 M2 x = x := by
  unfold lkR
  exact if_pos (fun _ h => nomatch h)
noncomputable def forF (lk : List Nat) (M0 : Sto) (g : FG) (fb : FS) : List D → DEnv → Sto → R Out
  | [], δ, M => .ok (.nx δ) M
  | d :: l, δ, M => match g d δ with
    | none => .bad
    | some δ1 => match fb δ1 M with
      | .ok (.nx δ2) M2 => lkR lk M0 M2 (forF lk M0 g fb l δ2 M2)
      | .ok (.ct δ2) M2 => lkR lk M0 M2 (forF lk M0 g fb l δ2 M2)
      | .ok (.bk δ2) M2 => .ok (.nx δ2) M2
      | .ok (.rt w) M2 => .ok (.rt w) M2
      | .ex e M2 => .ex e M2
      | .bad => .bad
noncomputable def sFor (fi : FI) (g : FG) (fb : FS) : FS := fun δ M => (fi δ M).bind fun p M1 => forF p.2 M1 g fb p.1 δ M1
theorem PostI.of {K : PySem.W.Frag} {E : XK} {r : Rg} {H : Hp} {x : R (List D × List Nat)} {k : List D × List Nat → Sto → R Out} {D : Ends} {Q : It → Hp → Prop} (h : PostS K E r H (x.bind k) D)
    (j : ∀ p M' J H' r', Nxt r H r' H' → Sta K r' M' H' → Wk K J p.1 p.2 r' M' H' → PostS K E r' H' (k p M') D → Q J H') : PostI K E r H x Q := by
  cases x with
  | bad => exact h
  | ok p M => exact fun J H' r' n S W => j p M J H' r' n S W (PostS.nxt n h)
  | ex e M => exact h
section
variable {X : Cx} {E : XK} {tg iter : Expr} {body : List Stmt} {fi : FI} {ts : List Nat} {g : FG} {fb : FS} {pos : Pos}
theorem drop_cons {α : Type} {l : List α} {i : Nat} {d : α} (h : l[i]? = some d) : l.drop i = d :: l.drop (i + 1) := by
  obtain ⟨h1, h2⟩ := List.getElem?_eq_some_iff.mp h
  rw [← h2]
  exact List.drop_eq_getElem_cons h1
theorem rs_for (hp : PassesOwn (model X.prog X.w) X.A X.env X.xe) (hc : X.calm = true) (hi : RI X E tg iter fi) (hg : RG X tg ts g) (hb : RSs X E body fb)
    (hs : ∀ x, foldedSetIterable iter X.env x = pure x := by intro _; rfl) : RS X E (.For tg iter body [] pos) (sFor fi g fb) := ps_imp (ps_for hp hc hi hg hb hs) fun D σ H ⟨r, δ, M, Ev, S, k⟩ =>
  ⟨r, δ, M, Ev, S, PostI.of k fun ⟨l, lk⟩ M0 J H0 r0 n0 S0 Wl k0 => by
    refine ⟨fun i m σ Hc => i ≤ l.length ∧ m = l.length - i ∧ ∃ r δ M, Nxt r0 H0 r Hc ∧ EnvR X.K r Hc σ δ ∧ Sta X.K r M Hc ∧ lkOk lk M0 M ∧ PostS X.K E r Hc (forF lk M0 g fb (l.drop i) δ M) D,
      ⟨l.length, Nat.zero_le _, rfl, r0, δ, M0, Nxt.refl, Ev.mono n0, S0, fun _ _ => rfl, k0⟩, ?_⟩
    rintro i m σ Hc ⟨hi, rfl, r, δ, M, n, Ec, Sc, hk, kc⟩
    obtain ⟨w1, w2⟩ := Wl r Hc M n.ext n.same Sc hk i
    cases hd : l[i]? with
    | none =>
      have hl : l.length ≤ i := List.getElem?_eq_none_iff.mp hd
      refine .inl ⟨w2 hl, ?_⟩
      rw [List.drop_eq_nil_of_le hl] at kc
      exact kc σ Hc r Nxt.refl Sc Ec
    | some d =>
      obtain ⟨go, yl⟩ := w1 d hd
      have hil : i < l.length := (List.getElem?_eq_some_iff.mp hd).1
      rw [drop_cons hd] at kc
      refine .inr ⟨go, fun σ' H' => i + 1 ≤ l.length ∧ ∃ r δ M, Nxt r0 H0 r H' ∧ EnvR X.K r H' σ' δ ∧ Sta X.K r M H' ∧ lkOk lk M0 M ∧ PostS X.K E r H' (forF lk M0 g fb (l.drop (i + 1)) δ M) D,
        fun σ' H' ⟨h1, h2⟩ => ⟨l.length - (i + 1), by omega, h1, rfl, h2⟩, fun x H2 hy => ?_⟩
      obtain ⟨e2, q2⟩ := yl x H2 hy
      unfold forF at kc
      cases eg : g d δ with
      | none => rw [eg] at kc; exact kc.elim
      | some δ1 =>
        simp only [eg] at kc
        refine ⟨r, δ, M, d, δ1, Ec.mono (Nxt.more e2), Sc.more e2, q2, eg, fun σ1 _ _ E1 => ⟨r, δ1, M, E1, Sc.more e2, ?_⟩⟩
        have kc := PostS.nxt (Nxt.more (r := r) e2) kc
        have n2 : Nxt r0 H0 r H2 := n.trans (Nxt.more e2)
        have again : ∀ {δ2 : DEnv} {M2 : Sto} {σ' : L2.St} {H' : Hp} {r' : Rg}, PostS X.K E r H2 (lkR lk M0 M2 (forF lk M0 g fb (l.drop (i + 1)) δ2 M2)) D → Nxt r H2 r' H' → Sta X.K r' M2 H' → EnvR X.K r' H' σ' δ2 →
            i + 1 ≤ l.length ∧ ∃ r δ M, Nxt r0 H0 r H' ∧ EnvR X.K r H' σ' δ ∧ Sta X.K r M H' ∧ lkOk lk M0 M ∧ PostS X.K E r H' (forF lk M0 g fb (l.drop (i + 1)) δ M) D := fun {δ2 M2 σ' H' r'} kk n3 S3 E3 => by
          unfold lkR at kk
          split at kk
          · rename_i hlk
            exact ⟨hil, r', δ2, M2, n2.trans n3, E3, S3, hlk, PostS.nxt n3 kk⟩
          · exact kk.elim
        cases eb : fb δ1 M with
        | bad => rw [eb] at kc; exact kc
        | ex e M2 => rw [eb] at kc; exact kc
        | ok o M2 =>
          cases o with
          | nx δ2 => rw [eb] at kc; exact fun σ' H' r' n3 S3 E3 => again kc n3 S3 E3
          | ct δ2 => rw [eb] at kc; exact fun σ' H' r' n3 S3 E3 => again kc n3 S3 E3
          | bk δ2 => rw [eb] at kc; exact kc
          | rt w => rw [eb] at kc; exact kc⟩
end
section
variable {X : Cx} {E : XK} {c : Expr} {body : List Stmt} {t : FT} {fb : FS} {pos : Pos}
end
end S9
namespace S9
open PySem PySem.Spec PyProof.Rows L2
def R.noEx {A : Type} : R A → R A
  | .ex _ _ => .bad
  | x => x
noncomputable def lcF (lk : List Nat) (M0 : Sto) (g : FG) (ft : FT) (fe : FE) (δ : DEnv) : List D → Sto → R (List D)
  | [], M => .ok [] M
  | d :: l, M => match g d δ with
    | none => .bad
    | some δ1 => (ft δ1 M).noEx.bind fun b M2 => match b with
      | false => lkR lk M0 M2 (lcF lk M0 g ft fe δ l M2)
      | true => (fe δ1 M2).noEx.bind fun w M3 => (R.of M3 (fr w)).bind fun x M4 => lkR lk M0 M4 ((lcF lk M0 g ft fe δ l M4).bind fun r M5 => .ok (x :: r) M5)
def wipeD (δ : DEnv) : List Nat → DEnv
  | [] => δ
  | v :: vs => (wipeD δ vs).set v none
noncomputable def fLc (fi : FI) (g : FG) (ft : FT) (fe : FE) (vs : List Nat) : FN := fun δ M => (fi δ M).bind fun p M1 => if p.1.length ≤ 100000 then lcF p.2 M1 g ft fe (wipeD δ vs) p.1 M1 else .bad
def tYesF : FT := fun _ M => .ok true M
section
variable {K : PySem.W.Frag} {r r1 : Rg} {M : Sto} {H : Hp} {σ : L2.St} {δ : DEnv}
theorem EnvR.wipe (E : EnvR K r H σ δ) : ∀ vs : List Nat, EnvR K r H (L2.wipe σ vs) (wipeD δ vs)
  | [] => E
  | v :: vs => by
    have q := EnvR.wipe E vs
    unfold L2.wipe wipeD
    refine ⟨by simp [q.len], fun i w h => ?_⟩
    by_cases e : v = i
    · subst e
      by_cases l : v < (wipeD δ vs).length
      · rw [List.getElem?_set_self l] at h; cases h
      · rw [List.getElem?_eq_none (by simpa using l)] at h; cases h
    · rw [List.getElem?_set_ne e] at h
      obtain ⟨x, e1, q1⟩ := q.at_ i w h
      exact ⟨x, by rw [List.getElem?_set_ne e]; exact e1, q1⟩
theorem wipe_in {σ : L2.St} {i : Nat} : ∀ {vs : List Nat}, i ∈ vs → i < σ.length → (wipe σ vs)[i]? = some none
  | [], h, _ => nomatch h
  | v :: vs, h, hl => by
    unfold L2.wipe
    by_cases e : v = i
    · subst e
      rw [List.getElem?_set_self (by rw [wipe_length]; exact hl)]
    · rw [List.getElem?_set_ne e]
      rcases List.mem_cons.mp h with h | h
      · exact absurd h.symm e
      · exact wipe_in h hl
theorem wipe_same {σ σ' : L2.St} {vs : List Nat} (h : ∀ j, j ∉ vs → σ'[j]? = (wipe σ vs)[j]?) (hl : σ'.length = (wipe σ vs).length) : wipe σ' vs = wipe σ vs := by
  apply List.ext_getElem?
  intro j
  by_cases hj : j ∈ vs
  · by_cases l : j < σ.length
    · rw [wipe_in hj l, wipe_in hj (by rw [hl, wipe_length]; exact l)]
    · rw [List.getElem?_eq_none (by rw [wipe_length, hl, wipe_length]; omega), List.getElem?_eq_none (by rw [wipe_length]; omega)]
  · rw [wipe_out hj, h j hj]
theorem Sta.unhid {p : Addr} (S : Sta K (r.hid p) M H) : Sta K r M H := by
  have e : Same (fz (r.hid p) H) (fz r H) := fz_less (fun a z => has_hid.mpr (.inl z)) (Same.refl _)
  have rw' : ∀ {v : V} {w : W}, RW K (r.hid p) H v w → RW K r H v w := fun {v w} h => by
    cases w with
    | d x => exact Rp.mono e h
    | loc k => exact h
  have rwl : ∀ {vs : List V} {ws : List W}, RWL K (r.hid p) H vs ws → RWL K r H vs ws := by
    intro vs
    induction vs with
    | nil => intro ws h; exact h
    | cons v vs ih => intro ws h; obtain ⟨w, ws', e, h1, h2⟩ := h; exact ⟨w, ws', e, rw' h1, ih h2⟩
  refine ⟨S.len, ⟨S.nd.1, (List.nodup_cons.mp S.nd.2).2⟩, fun a ha => S.dj a (List.mem_cons_of_mem _ ha), fun a ha => S.prv a (List.mem_cons_of_mem _ ha), fun k a c h1 h2 => ?_⟩
  have q := S.cell k a c h1 h2
  cases c with
  | lst l => obtain ⟨xs, q1, q2⟩ := q; exact ⟨xs, q1, RpL.mono e q2⟩
  | dct ks l => obtain ⟨xs, q1, q3, q2⟩ := q; exact ⟨xs, q1, q3, RpL.mono e q2⟩
  | dctT ks l => obtain ⟨xs, q1, q3, q2⟩ := q; exact ⟨xs, q1, q3, RpL.mono e q2⟩
  | ins C ns ws => obtain ⟨dx, fs, q1, q3, q2⟩ := q; exact ⟨dx, fs, q1, q3, rwl q2⟩
  | lsW ws => obtain ⟨xs, q1, q2⟩ := q; exact ⟨xs, q1, rwl q2⟩
theorem Sta.hid {p : Addr} {xs : List V} (S : Sta K r M H) (h : H p = none) : Sta K (r.hid p) M (upd H p (.lst xs)) := by
  have nm := S.fresh h
  have e : Same (fz r H) (fz (r.hid p) (upd H p (.lst xs))) := fz_new h fun a z => has_hid.mp z
  have rw' : ∀ {v : V} {w : W}, RW K r H v w → RW K (r.hid p) (upd H p (.lst xs)) v w := fun {v w} h => by
    cases w with
    | d x => exact Rp.mono e h
    | loc k => exact h
  have rwl : ∀ {vs : List V} {ws : List W}, RWL K r H vs ws → RWL K (r.hid p) (upd H p (.lst xs)) vs ws := by
    intro vs
    induction vs with
    | nil => intro ws h; exact h
    | cons v vs ih => intro ws h; obtain ⟨w, ws', e, h1, h2⟩ := h; exact ⟨w, ws', e, rw' h1, ih h2⟩
  refine ⟨S.len, ⟨S.nd.1, List.nodup_cons.mpr ⟨fun z => nm (.inr z), S.nd.2⟩⟩, fun a ha z => ?_, fun a ha => ?_, fun k a c h1 h2 => ?_⟩
  · rcases List.mem_cons.mp ha with ha | ha
    · exact nm (ha ▸ .inl z)
    · exact S.dj a ha z
  · rcases List.mem_cons.mp ha with ha | ha
    · subst ha; exact ⟨xs, upd_same⟩
    · obtain ⟨u, q⟩ := S.prv a ha
      exact ⟨u, same_up h a _ q⟩
  · have q := S.cell k a c h1 h2
    have hne : a ≠ p := fun z => nm (z ▸ .inl (List.mem_of_getElem? h1))
    cases c with
    | lst l => obtain ⟨ys, q1, q2⟩ := q; exact ⟨ys, (upd_ne hne).trans q1, RpL.mono e q2⟩
    | dct ks l => obtain ⟨xs, q1, q3, q2⟩ := q; exact ⟨xs, (upd_ne hne).trans q1, q3, RpL.mono e q2⟩
    | dctT ks l => obtain ⟨xs, q1, q3, q2⟩ := q; exact ⟨xs, (upd_ne hne).trans q1, q3, RpL.mono e q2⟩
    | ins C ns ws => obtain ⟨dx, fs, q1, q3, q2⟩ := q; exact ⟨dx, fs, (upd_ne hne).trans q1, q3, rwl q2⟩
    | lsW ws => obtain ⟨xs, q1, q2⟩ := q; exact ⟨xs, (upd_ne hne).trans q1, rwl q2⟩
theorem fz_prv {p : Addr} {o : HO} (h : p ∈ r.u) : fz r (upd H p o) = fz r H := by
  funext a
  by_cases z : r.has a
  · rw [fz_in z, fz_in z]
  · rw [fz_out z, fz_out z, upd_ne (fun e => z (.inr (by rw [e]; exact h)))]
theorem Sta.prvUpd {p : Addr} {xs : List V} (S : Sta K r M H) (h : p ∈ r.u) : Sta K r M (upd H p (.lst xs)) := by
  refine ⟨S.len, S.nd, S.dj, fun a ha => ?_, fun k a c h1 h2 => ?_⟩
  · by_cases e : a = p
    · subst e; exact ⟨xs, upd_same⟩
    · rw [upd_ne e]; exact S.prv a ha
  · have hne : a ≠ p := fun z => S.dj p h (z ▸ List.mem_of_getElem? h1)
    have q := S.cell k a c h1 h2
    have rwl : ∀ {vs : List V} {ws : List W}, RWL K r H vs ws → RWL K r (upd H p (.lst xs)) vs ws := by
      intro vs
      induction vs with
      | nil => intro ws h; exact h
      | cons v vs ih =>
        intro ws hh
        obtain ⟨w, ws', e, h1, h2⟩ := hh
        refine ⟨w, ws', e, ?_, ih h2⟩
        cases w with
        | d x =>
          have e9 : fz r (upd H p (HO.lst xs)) = fz r H := fz_prv h
          show Rp K (fz r (upd H p (HO.lst xs))) x v
          rw [e9]
          exact h1
        | loc k => exact h1
    cases c with
    | lst l => obtain ⟨ys, q1, q2⟩ := q; exact ⟨ys, (upd_ne hne).trans q1, by rw [fz_prv h]; exact q2⟩
    | dct ks l => obtain ⟨xs, q1, q3, q2⟩ := q; exact ⟨xs, (upd_ne hne).trans q1, q3, by rw [fz_prv h]; exact q2⟩
    | dctT ks l => obtain ⟨xs, q1, q3, q2⟩ := q; exact ⟨xs, (upd_ne hne).trans q1, q3, by rw [fz_prv h]; exact q2⟩
    | ins C ns ws => obtain ⟨dx, fs, q1, q3, q2⟩ := q; exact ⟨dx, fs, (upd_ne hne).trans q1, q3, rwl q2⟩
    | lsW ws => obtain ⟨xs, q1, q2⟩ := q; exact ⟨xs, (upd_ne hne).trans q1, rwl q2⟩
theorem Sta.out {p : Addr} {l : List D} {xs : List V} (S : Sta K (r.hid p) M H) (hp : H p = some (.lst xs)) (q : RpL K (fz (r.hid p) H) l xs) : Sta K (r.add p) (M ++ [.lst l]) H := by
  have e : fz (r.add p) H = fz (r.hid p) H := by
    funext a
    by_cases z : (r.hid p).has a
    · rw [fz_in z, fz_in (has_add.mpr (has_hid.mp z))]
    · rw [fz_out z, fz_out (fun y => z (has_hid.mpr (has_add.mp y)))]
  have npc : p ∉ r.c := S.dj p (by simp [Rg.hid])
  have lc : r.c.length = M.length := S.len
  have rw' : ∀ {v : V} {w : W}, RW K (r.hid p) H v w → RW K (r.add p) H v w := fun {v w} h => by
    cases w with
    | d x => show Rp K (fz (r.add p) H) x v; rw [e]; exact h
    | loc k =>
      obtain ⟨a, h1, h2⟩ := h
      have h1 : r.c[k]? = some a := h1
      exact ⟨a, by show (r.c ++ [p])[k]? = _; rw [List.getElem?_append_left (List.getElem?_eq_some_iff.mp h1).1]; exact h1, h2⟩
  have rwl : ∀ {vs : List V} {ws : List W}, RWL K (r.hid p) H vs ws → RWL K (r.add p) H vs ws := by
    intro vs
    induction vs with
    | nil => intro ws h; exact h
    | cons v vs ih => intro ws h; obtain ⟨w, ws', e, h1, h2⟩ := h; exact ⟨w, ws', e, rw' h1, ih h2⟩
  have un := List.nodup_cons.mp S.nd.2
  refine ⟨by simp [Rg.add, lc], ⟨?_, un.2⟩, fun a ha z => ?_, fun a ha => S.prv a (List.mem_cons_of_mem _ ha), fun k a c h1 h2 => ?_⟩
  · show (r.c ++ [p]).Nodup
    rw [List.nodup_append]
    exact ⟨S.nd.1, by simp, fun a ha b hb z => by simp at hb; subst hb; exact npc (z ▸ ha)⟩
  · have z : a ∈ r.c ++ [p] := z
    have hnd : a ∉ r.c := S.dj a (List.mem_cons_of_mem _ ha)
    rcases List.mem_append.mp z with z | z
    · exact hnd z
    · have : a = p := by simpa using z
      exact un.1 (this ▸ ha)
  · have h1 : (r.c ++ [p])[k]? = some a := h1
    by_cases hk : k < r.c.length
    · rw [List.getElem?_append_left hk] at h1
      rw [List.getElem?_append_left (by rw [← lc]; exact hk)] at h2
      have q := S.cell k a c h1 h2
      cases c with
      | lst l => obtain ⟨xs, q1, q2⟩ := q; exact ⟨xs, q1, by rw [e]; exact q2⟩
      | dct ks l => obtain ⟨xs, q1, q3, q2⟩ := q; exact ⟨xs, q1, q3, by rw [e]; exact q2⟩
      | dctT ks l => obtain ⟨xs, q1, q3, q2⟩ := q; exact ⟨xs, q1, q3, by rw [e]; exact q2⟩
      | ins C ns ws => obtain ⟨dx, fs, q1, q3, q2⟩ := q; exact ⟨dx, fs, q1, q3, rwl q2⟩
      | lsW ws => obtain ⟨xs, q1, q2⟩ := q; exact ⟨xs, q1, rwl q2⟩
    · have e3 : k = r.c.length := by
        have := (List.getElem?_eq_some_iff.mp h1).1
        simp at this
        omega
      subst e3
      have e4 : a = p := by simpa using h1.symm
      have e5 : c = .lst l := by rw [lc] at h2; simpa using h2.symm
      subst e4
      subst e5
      exact ⟨xs, hp, by rw [e]; exact q⟩
end
end S9
namespace S9
open PySem PySem.Spec PyProof.Rows L2
abbrev RTs (X : Cx) (ifs : List Expr) (f : FT) : Prop := PTs X ifs (tT X.K E0 f)
theorem rts_nil {X : Cx} : RTs X [] tYesF := ⟨fun pins s σ H Q I ⟨r, δ, M, Ev, S, k⟩ => pts_nil.run pins s σ H Q I (k true H r Nxt.refl S rfl)⟩
theorem PostI.ofN {K : PySem.W.Frag} {E : XK} {r : Rg} {H : Hp} {x : R (List D × List Nat)} {k : List D × List Nat → Sto → R (List D)} {Q : VK} {Q' : It → Hp → Prop} (h : PostN K E r H (x.bind k) Q)
    (j : ∀ p M' J H' r', Nxt r H r' H' → Sta K r' M' H' → Wk K J p.1 p.2 r' M' H' → PostN K E r' H' (k p M') Q → Q' J H') : PostI K E r H x Q' := by
  cases x with
  | bad => exact h
  | ok p M =>
    refine fun J H' r' n S W => j p M J H' r' n S W ?_
    have h : PostN K E r H (k p M) Q := h
    revert h
    cases k p M with
    | bad => exact fun h => h
    | ok l M2 => exact fun h p H2 r2 N => h p H2 r2 (NewL.step (M0 := M) n N)
    | ex e M2 => exact fun h H2 r2 c o n2 S2 q2 => h H2 r2 c o (n.trans n2) S2 q2
  | ex e M => exact h
theorem PostN.noEx {K : PySem.W.Frag} {E : XK} {r : Rg} {H : Hp} {A C : Type} {rel : Rg → Hp → Sto → C → A → Prop} {x : R A} {k : A → Sto → R (List D)} {Q : VK} {r1 : Rg} {H1 : Hp} {Q' : C → Hp → Prop} (h : PostN K E r H (x.noEx.bind k) Q)
    (j : ∀ w M' v H' r', x = .ok w M' → Nxt r1 H1 r' H' → Sta K r' M' H' → rel r' H' M' v w → PostN K E r H (k w M') Q → Q' v H') : Post K E0 r1 H1 rel x Q' := by
  cases x with
  | bad => exact h
  | ok w M => exact fun v H' r' n S q => j w M v H' r' rfl n S q h
  | ex e M => exact h.elim
section
variable {X : Cx} {E : XK} {elt tg iter : Expr} {ifs : List Expr} {scope : Scope} {own : List (Str × Nat)} {pos : Pos} {fi : FI} {ts : List Nat} {g : FG} {ft : FT} {fe : FE}
theorem lc_imp (hts : ∀ j ∈ ts, j ∈ own.map (·.2)) : ∀ σ H Q, tN X.K E (fLc fi g ft fe (own.map (·.2))) σ H Q → tLc (tI X.K E fi) (tG X.K ts g) (tT X.K E0 ft) (tR X.K E0 fe) (own.map (·.2)) σ H Q := by
  generalize own.map (·.2) = vs at hts ⊢
  intro σ H Q ⟨r, δ, M, Ev, S, k⟩
  refine ⟨r, δ, M, Ev, S, PostI.ofN k fun ⟨l, lk⟩ M0 J H0 r0 n0 S0 Wl k0 Dl hDl => ?_⟩
  simp only at k0 Wl
  split at k0
  case isFalse => exact k0.elim
  case isTrue hlen =>
  have E0v := (Ev.mono n0).wipe vs
  refine ⟨fun i m Hc => i ≤ l.length ∧ m = l.length - i ∧ ∃ (r : Rg) (M : Sto) (acc : List D) (xs : List V), (∃ t, r.c = r0.c ++ t) ∧ r.u = r0.u ∧ (∀ a ∈ r0.u, ∀ o, H0 a = some o → Hc a = some o) ∧ Same (fz r0 H0) (fz (r.hid Dl) Hc) ∧ Sta X.K (r.hid Dl) M Hc ∧
      Hc Dl = some (.lst xs) ∧ RpL X.K (fz (r.hid Dl) Hc) acc xs ∧ acc.length ≤ i ∧ lkOk lk M0 M ∧ PostN X.K E r0 H0 ((lcF lk M0 g ft fe (wipeD δ vs) (l.drop i) M).bind fun q M5 => .ok (acc ++ q) M5) Q,
    ⟨l.length, Nat.zero_le _, rfl, r0, M0, [], [], ⟨[], by simp⟩, rfl, fun a _ o h => same_up hDl a o h, fz_new hDl fun a z => has_hid.mp z, S0.hid hDl, upd_same, RpL.nil, Nat.le_refl _, fun _ _ => rfl, ?_⟩, ?_⟩
  · revert k0
    show PostN X.K E r0 H0 (lcF lk M0 g ft fe (wipeD δ vs) l M0) Q → PostN X.K E r0 H0 ((lcF lk M0 g ft fe (wipeD δ vs) l M0).bind fun q M5 => .ok ([] ++ q) M5) Q
    cases lcF lk M0 g ft fe (wipeD δ vs) l M0 with
    | bad => exact fun h => h
    | ok q M5 => exact fun h => h
    | ex e M5 => exact fun h => h
  rintro i m Hc ⟨hi, rfl, r, M, acc, xs, hx, hu, hp, hs, Sc, hD, ha, hal, hk, kc⟩
  have Su := Sc.unhid
  have hs2 : Same (fz r0 H0) (fz r Hc) := fun a o h => fz_less (fun a z => has_hid.mpr (.inl z)) (Same.refl _) a o (hs a o h)
  cases hd : l[i]? with
  | none =>
    have hl : l.length ≤ i := List.getElem?_eq_none_iff.mp hd
    refine .inl ⟨(Wl r Hc M hx hs2 Su hk i).2 hl, ?_⟩
    rw [List.drop_eq_nil_of_le hl] at kc
    have kc : PostN X.K E r0 H0 (.ok (acc ++ []) M) Q := kc
    rw [List.append_nil] at kc
    have eq : fz (r.add Dl) Hc = fz (r.hid Dl) Hc := by
      funext a
      by_cases z : (r.hid Dl).has a
      · rw [fz_in z, fz_in (has_add.mpr (has_hid.mp z))]
      · rw [fz_out z, fz_out (fun y => z (has_hid.mpr (has_add.mp y)))]
    exact kc Dl Hc r ⟨⟨hx, hu, hp, hs2⟩, Su, Sc.out hD ha, by rw [eq]; exact hs⟩
  | some d =>
    obtain ⟨go, _⟩ := (Wl r Hc M hx hs2 Su hk i).1 d hd
    have hil : i < l.length := (List.getElem?_eq_some_iff.mp hd).1
    rw [drop_cons hd] at kc
    refine .inr ⟨go, fun H' => i + 1 ≤ l.length ∧ ∃ (r : Rg) (M : Sto) (acc : List D) (xs : List V), (∃ t, r.c = r0.c ++ t) ∧ r.u = r0.u ∧ (∀ a ∈ r0.u, ∀ o, H0 a = some o → H' a = some o) ∧ Same (fz r0 H0) (fz (r.hid Dl) H') ∧ Sta X.K (r.hid Dl) M H' ∧
      H' Dl = some (.lst xs) ∧ RpL X.K (fz (r.hid Dl) H') acc xs ∧ acc.length ≤ i + 1 ∧ lkOk lk M0 M ∧ PostN X.K E r0 H0 ((lcF lk M0 g ft fe (wipeD δ vs) (l.drop (i + 1)) M).bind fun q M5 => .ok (acc ++ q) M5) Q,
      fun H' ⟨h1, h2⟩ => ⟨l.length - (i + 1), by omega, h1, rfl, h2⟩, fun x H2 hy => ?_⟩
    -- the item, with the new list out of sight
    obtain ⟨e2, q2⟩ := ((Wl (r.hid Dl) Hc M hx hs Sc hk i).1 d hd).2 x H2 hy
    unfold lcF at kc
    cases eg : g d (wipeD δ vs) with
    | none => rw [eg] at kc; exact kc.elim
    | some δ1 =>
      simp only [eg] at kc
      have Ec : EnvR X.K (r.hid Dl) H2 (wipe σ vs) (wipeD δ vs) := ⟨E0v.len, fun j w h => by
        obtain ⟨v, e, q⟩ := E0v.at_ j w h
        refine ⟨v, e, ?_⟩
        cases w with
        | d y => exact Rp.mono (fz_same e2) (Rp.mono hs q)
        | loc kk =>
          obtain ⟨a, h1, h2⟩ := q
          obtain ⟨t, et⟩ := hx
          exact ⟨a, by show r.c[kk]? = _; rw [et, List.getElem?_append_left (List.getElem?_eq_some_iff.mp h1).1]; exact h1, h2⟩⟩
      have Sc2 : Sta X.K (r.hid Dl) M H2 := Sc.more e2
      refine ⟨r.hid Dl, wipeD δ vs, M, d, δ1, Ec, Sc2, q2, eg, fun σ1 hj hl1 E1 => ⟨wipe_same (fun j hjv => hj j fun z => hjv (hts j z)) hl1, r.hid Dl, δ1, M, E1, Sc2, ?_⟩⟩
      -- what is left, whatever the test says
      have assoc : PostN X.K E r0 H0 (((ft δ1 M).noEx).bind fun b M2 => (match b with
          | false => lkR lk M0 M2 (lcF lk M0 g ft fe (wipeD δ vs) (l.drop (i + 1)) M2)
          | true => (fe δ1 M2).noEx.bind fun w M3 => (R.of M3 (fr w)).bind fun x M4 => lkR lk M0 M4 ((lcF lk M0 g ft fe (wipeD δ vs) (l.drop (i + 1)) M4).bind fun r M5 => .ok (x :: r) M5)).bind fun q M5 => .ok (acc ++ q) M5) Q := by
        revert kc
        cases (ft δ1 M).noEx with
        | bad => exact fun h => h
        | ok b M2 => exact fun h => h
        | ex e M2 => exact fun h => h
      refine PostN.noEx assoc fun b M2 v H3 r3 _ n3 S3 q3 k3 => ?_
      cases q3
      have hD3 : H3 Dl = some (.lst xs) := n3.prv Dl (by simp [Rg.hid]) _ (e2 _ _ hD)
      obtain ⟨t3, et3⟩ := n3.ext
      have hu3 : r3.u = Dl :: r.u := n3.eu
      obtain ⟨r3c, r3u⟩ := r3
      cases hu3
      have hx3 : ∃ t, r3c = r0.c ++ t := by
        obtain ⟨t, et⟩ := hx
        have et3 : r3c = r.c ++ t3 := et3
        exact ⟨t ++ t3, by rw [et3, et]; simp⟩
      have hp3 : ∀ a ∈ r0.u, ∀ o, H0 a = some o → H3 a = some o := fun a ha o h => n3.prv a (by simp [Rg.hid, hu, ha]) o (e2 a o (hp a ha o h))
      have hs3 : Same (fz r0 H0) (fz ⟨r3c, Dl :: r.u⟩ H3) := (hs.trans (fz_same e2)).trans n3.same
      have ha3 : RpL X.K (fz ⟨r3c, Dl :: r.u⟩ H3) acc xs := RpL.mono n3.same (RpL.mono (fz_same e2) ha)
      cases b with
      | false =>
        refine iteF ⟨hil, ⟨r3c, r.u⟩, M2, acc, xs, hx3, hu, hp3, hs3, S3, hD3, ha3, by omega, ?_⟩
        have k3 : PostN X.K E r0 H0 ((lkR lk M0 M2 (lcF lk M0 g ft fe (wipeD δ vs) (l.drop (i + 1)) M2)).bind fun q M5 => .ok (acc ++ q) M5) Q := k3
        unfold lkR at k3
        split at k3
        · rename_i hlk
          exact ⟨hlk, k3⟩
        · exact k3.elim
      | true =>
        refine iteT ⟨⟨r3c, Dl :: r.u⟩, δ1, M2, E1.mono n3, S3, ?_⟩
        have assoc2 : PostN X.K E r0 H0 ((fe δ1 M2).noEx.bind fun w M3 => ((R.of M3 (fr w)).bind fun x M4 => lkR lk M0 M4 ((lcF lk M0 g ft fe (wipeD δ vs) (l.drop (i + 1)) M4).bind fun r M5 => .ok (x :: r) M5)).bind fun q M5 => .ok (acc ++ q) M5) Q := by
          revert k3
          show PostN X.K E r0 H0 (((fe δ1 M2).noEx.bind fun w M3 => (R.of M3 (fr w)).bind fun x M4 => lkR lk M0 M4 ((lcF lk M0 g ft fe (wipeD δ vs) (l.drop (i + 1)) M4).bind fun r M5 => .ok (x :: r) M5)).bind fun q M5 => .ok (acc ++ q) M5) Q → _
          cases (fe δ1 M2).noEx with
          | bad => exact fun h => h
          | ok b M2 => exact fun h => h
          | ex e M2 => exact fun h => h
        refine PostN.noEx assoc2 fun w M3 v H4 r4 _ n4 S4 q4 k4 => ?_
        have hD4 : H4 Dl = some (.lst xs) := n4.prv Dl (by simp) _ hD3
        obtain ⟨t4, et4⟩ := n4.ext
        have hu4 : r4.u = Dl :: r.u := n4.eu
        obtain ⟨r4c, r4u⟩ := r4
        cases hu4
        cases ew : fr w with
        | none => rw [ew] at k4; exact k4.elim
        | some y =>
          rw [ew] at k4
          have k4 : PostN X.K E r0 H0 ((lkR lk M0 M3 ((lcF lk M0 g ft fe (wipeD δ vs) (l.drop (i + 1)) M3).bind fun r M5 => .ok (y :: r) M5)).bind fun q M5 => .ok (acc ++ q) M5) Q := k4
          have hx4 : ∃ t, r4c = r0.c ++ t := by
            obtain ⟨t, et⟩ := hx3
            have et4 : r4c = r3c ++ t4 := et4
            exact ⟨t ++ t4, by rw [et4, et]; simp⟩
          have hp4 : ∀ a ∈ r0.u, ∀ o, H0 a = some o → H4 a = some o := fun a ha o h => n4.prv a (by simp [hu, ha]) o (hp3 a ha o h)
          have ha4 : RpL X.K (fz ⟨r4c, Dl :: r.u⟩ H4) acc xs := RpL.mono n4.same ha3
          have hmem : Dl ∈ (Rg.mk r4c (Dl :: r.u)).u := by simp
          have hDu : ∀ a ∈ r0.u, a ≠ Dl := fun a ha z => by
            have := (List.nodup_cons.mp Sc.nd.2).1
            exact this (hu ▸ z ▸ ha)
          refine ⟨xs, hD4, ?_, hil, ⟨r4c, r.u⟩, M3, acc ++ [y], xs ++ [v], hx4, hu, fun a ha o h => by rw [upd_ne (hDu a ha)]; exact hp4 a ha o h, ?_, Sta.prvUpd S4 hmem, upd_same, ?_, by simp; omega, ?_⟩
          · rw [ha4.length]
            exact Nat.lt_of_le_of_lt (show acc.length ≤ 100000 by omega) (by decide)
          · show Same (fz r0 H0) (fz ⟨r4c, Dl :: r.u⟩ (upd H4 Dl _))
            rw [fz_prv hmem]
            exact hs3.trans n4.same
          · show RpL X.K (fz ⟨r4c, Dl :: r.u⟩ (upd H4 Dl _)) _ _
            rw [fz_prv hmem]
            exact ha4.append (RpL.cons (RW.fr q4 ew) RpL.nil)
          · unfold lkR at k4
            split at k4
            · rename_i hlk
              refine ⟨hlk, ?_⟩
              revert k4
              cases lcF lk M0 g ft fe (wipeD δ vs) (l.drop (i + 1)) M3 with
              | bad => exact fun h => h
              | ok q M5 =>
                intro h
                have h : PostN X.K E r0 H0 (.ok (acc ++ (y :: q)) M5) Q := h
                show PostN X.K E r0 H0 (.ok (acc ++ [y] ++ q) M5) Q
                rw [List.append_assoc]
                exact h
              | ex e M5 => exact fun h => h
            · exact k4.elim
theorem rn_lc (hc : X.calm = true) (hN : X.N.Nodup) (hi : RI X E tg iter fi) (ok : BlkOk X.N X.env.scope scope own)
    (hg : ∀ (s : Shared) (H : Hp) (C : Addr) (cl : List (Str × Addr)) (fp : List Addr), RG (X.blk s H scope (compEnvC scope cl C X.env) fp) tg ts g) (ht : ∀ (s : Shared) (H : Hp) (C : Addr) (cl : List (Str × Addr)) (fp : List Addr), RTs (X.blk s H scope (compEnvC scope cl C X.env) fp) ifs ft)
    (he : ∀ (s : Shared) (H : Hp) (C : Addr) (cl : List (Str × Addr)) (fp : List Addr), RE (X.blk s H scope (compEnvC scope cl C X.env) fp) E0 elt fe) (hts : ∀ j ∈ ts, j ∈ own.map (·.2)) (hs : ∀ x, foldedSetIterable iter X.env x = pure x := by intro _; rfl) :
    RN X E (.ListComp elt [⟨tg, iter, ifs, 0⟩] scope pos) (fLc fi g ft fe (own.map (·.2))) := pe_imp (pe_lc hc hN hi ok hg ht he hs) (lc_imp hts)
end
end S9
namespace S9
open PySem PySem.Spec PyProof.Rows L2
abbrev FF := List W → Sto → R W
def W.clo (n : Nat) : W → Bool
  | .d _ => true
  | .loc k => decide (k < n)
def Cell.clo (n : Nat) : Cell → Bool
  | .ins _ _ ws => ws.all (W.clo n)
  | .lsW ws => ws.all (W.clo n)
  | _ => true
def cutM (n : Nat) (M : Sto) : Option Sto := if M.length ≤ n then some M else if (M.take n).all (Cell.clo n) = true then some (M.take n) else none
def fin1 (n : Nat) (w : W) (M : Sto) : R W := match cutM n M with
  | none => .bad
  | some M1 => match w with
    | .d x => .ok (.d x) M1
    | .loc k => if k < n then .ok (.loc k) M1 else match M[k]? with
      | some (.lst l) => .ok (.d (.lst l)) M1
      | some (.dct ks l) => .ok (.d (.dct ks l)) M1
      | some (.dctT ks l) => .ok (.d (.dctT ks l)) M1
      | _ => .bad
def fin (n : Nat) : R Out → R W
  | .ok (.rt w) M => fin1 n w M
  | .ok (.nx _) M => fin1 n (.d .non) M
  | .ex e M => match cutM n M with
    | none => .bad
    | some M1 => .ex e M1
  | _ => .bad
def body (N : Nat) (f : FS) : FF := fun ws M => fin M.length (f (ws.map some ++ List.replicate (N - ws.length) none) M)
def finN (n : Nat) : R Out → R (List D)
  | .ok (.rt (.loc k)) M => match cutM n M with
    | none => .bad
    | some M1 => if k < n then .bad else match M[k]? with
      | some (.lst l) => .ok l M1
      | _ => .bad
  | _ => .bad
def bodyN (N : Nat) (f : FS) : List W → Sto → R (List D) := fun ws M => finN M.length (f (ws.map some ++ List.replicate (N - ws.length) none) M)
section
variable {K : PySem.W.Frag} {E : XK} {r r0 : Rg} {M M0 : Sto} {H H0 : Hp}
def Rg.cut (r : Rg) (n : Nat) : Rg := ⟨r.c.take n, r.u⟩
theorem has_cut {n : Nat} {a : Addr} (h : (r.cut n).has a) : r.has a := by
  rcases h with h | h
  · exact .inl (List.mem_of_mem_take h)
  · exact .inr h
theorem rwl_cut {n : Nat} {H2 : Hp} (e : Same (fz r H) (fz (r.cut n) H2)) : ∀ {vs : List V} {ws : List W}, RWL K r H vs ws → ws.all (W.clo n) = true → RWL K (r.cut n) H2 vs ws
  | [], ws, h, _ => h
  | v :: vs, ws, h, hc => by
    obtain ⟨w, ws', rfl, h1, h2⟩ := h
    simp only [List.all_cons, Bool.and_eq_true] at hc
    refine ⟨w, ws', rfl, ?_, rwl_cut e h2 hc.2⟩
    cases w with
    | d x => exact Rp.mono e h1
    | loc k =>
      obtain ⟨a, e, q⟩ := h1
      have hk : k < n := of_decide_eq_true hc.1
      exact ⟨a, by show (r.c.take n)[k]? = _; rw [List.getElem?_take_of_lt hk]; exact e, q⟩
theorem rwl_clo {n : Nat} (hn : r.c.length ≤ n) : ∀ {vs : List V} {ws : List W}, RWL K r H vs ws → ws.all (W.clo n) = true
  | [], ws, h => by cases (show ws = [] from h); rfl
  | v :: vs, ws, h => by
    obtain ⟨w, ws', rfl, h1, h2⟩ := h
    rw [List.all_cons, rwl_clo hn h2, Bool.and_true]
    cases w with
    | d x => rfl
    | loc k =>
      obtain ⟨a, e, q⟩ := h1
      exact decide_eq_true (Nat.lt_of_lt_of_le (List.getElem?_eq_some_iff.mp e).1 hn)
theorem CellOk.cut {n : Nat} {H2 : Hp} {a : Addr} (e : Same (fz r H) (fz (r.cut n) H2)) (h2 : H2 a = H a) : ∀ {c : Cell}, CellOk K r H a c → c.clo n = true → CellOk K (r.cut n) H2 a c
  | .lst l, ⟨xs, q1, q2⟩, _ => ⟨xs, h2.trans q1, RpL.mono e q2⟩
  | .dct ks l, ⟨xs, q1, q3, q2⟩, _ => ⟨xs, h2.trans q1, q3, RpL.mono e q2⟩
  | .dctT ks l, ⟨xs, q1, q3, q2⟩, _ => ⟨xs, h2.trans q1, q3, RpL.mono e q2⟩
  | .ins C ns ws, ⟨dx, fs, q1, q3, q2⟩, hc => ⟨dx, fs, h2.trans q1, q3, rwl_cut e q2 hc⟩
  | .lsW ws, ⟨xs, q1, q2⟩, hc => ⟨xs, h2.trans q1, rwl_cut e q2 hc⟩
theorem CellOk.clo {n : Nat} {a : Addr} (hn : r.c.length ≤ n) : ∀ {c : Cell}, CellOk K r H a c → c.clo n = true
  | .lst l, _ => rfl
  | .dct ks l, _ => rfl
  | .dctT ks l, _ => rfl
  | .ins C ns ws, ⟨dx, fs, q1, q3, q2⟩ => rwl_clo hn q2
  | .lsW ws, ⟨xs, q1, q2⟩ => rwl_clo hn q2
theorem Sta.cutG {n : Nat} {M1 : Sto} {H2 : Hp} (S : Sta K r M H) (hn : n ≤ r.c.length) (hc : cutM n M = some M1) (e : Same (fz r H) (fz (r.cut n) H2)) (h2 : ∀ a, (r.cut n).has a → H2 a = H a) : Sta K (r.cut n) M1 H2 := by
  have all : M1 = M.take n ∧ ∀ k a c, (r.c.take n)[k]? = some a → M[k]? = some c → k < n → c.clo n = true := by
    unfold cutM at hc
    split at hc
    · rename_i hl
      cases hc
      refine ⟨(List.take_of_length_le hl).symm, fun k a c h1 h2 h3 => ?_⟩
      rw [List.getElem?_take_of_lt h3] at h1
      exact (S.cell k a c h1 h2).clo (by rw [S.len]; exact hl)
    · split at hc
      · rename_i ha
        cases hc
        refine ⟨rfl, fun k a c h1 h2 h3 => List.all_eq_true.mp ha c (List.mem_of_getElem? (i := k) ?_)⟩
        rw [List.getElem?_take_of_lt h3]; exact h2
      · cases hc
  obtain ⟨rfl, all⟩ := all
  refine ⟨?_, ⟨List.Nodup.sublist (List.take_sublist n r.c) S.nd.1, S.nd.2⟩, fun a ha z => S.dj a ha (List.mem_of_mem_take z), fun a ha => ?_, fun k a c h1 h3 => ?_⟩
  · show (r.c.take n).length = (M.take n).length
    rw [List.length_take, List.length_take, S.len]
  · obtain ⟨xs, q⟩ := S.prv a ha
    exact ⟨xs, (h2 a (.inr ha)).trans q⟩
  · have h1 : (r.c.take n)[k]? = some a := h1
    have hk : k < n := by
      have := (List.getElem?_eq_some_iff.mp h1).1
      rw [List.length_take] at this
      omega
    rw [List.getElem?_take_of_lt hk] at h3
    have hcl := all k a c h1 h3 hk
    have hm : (r.cut n).has a := .inl (List.mem_of_getElem? h1)
    rw [List.getElem?_take_of_lt hk] at h1
    exact (S.cell k a c h1 h3).cut e (h2 a hm) hcl
theorem Sta.cut {n : Nat} {M1 : Sto} (S : Sta K r M H) (hn : n ≤ r.c.length) (hc : cutM n M = some M1) : Sta K (r.cut n) M1 H :=
  S.cutG hn hc (fz_less (fun a z => has_cut z) (Same.refl _)) fun _ _ => rfl
theorem nxt_cut (n : Nxt r0 H0 r H) : r.cut r0.c.length = r0 := by
  obtain ⟨t, e⟩ := n.ext
  obtain ⟨rc, ru⟩ := r
  obtain ⟨r0c, r0u⟩ := r0
  have e : rc = r0c ++ t := e
  have e2 : ru = r0u := n.eu
  subst e e2
  unfold Rg.cut
  simp
theorem Nxt.cut (n : Nxt r0 H0 r H) : Nxt r0 H0 r0 H := ⟨⟨[], by simp⟩, rfl, n.prv, fun a o h => fz_less (fun a z => by
  obtain ⟨t, e⟩ := n.ext
  rcases z with z | z
  · exact .inl (by rw [e]; exact List.mem_append_left _ z)
  · exact .inr (n.eu ▸ z)) (Same.refl _) a o (n.same a o h)⟩
theorem Nxt.has (n : Nxt r0 H0 r H) {a : Addr} (z : r0.has a) : r.has a := by
  obtain ⟨t, e⟩ := n.ext
  rcases z with z | z
  · exact .inl (by rw [e]; exact List.mem_append_left _ z)
  · exact .inr (n.eu ▸ z)
def sp0 (K : PySem.W.Frag) (n : Nat) (φ : FF) : Sp := fun vs H Q _ => ∃ r M ws, ws.length = n ∧ RWL K r H vs ws ∧ Sta K r M H ∧ Post K E0 r H (relW K) (φ ws M) Q
def spN (K : PySem.W.Frag) (n : Nat) (φ : List W → Sto → R (List D)) : Sp := fun vs H Q _ => ∃ r M ws, ws.length = n ∧ RWL K r H vs ws ∧ Sta K r M H ∧ PostN K E0 r H (φ ws M) Q
theorem env_start {N : List Str} {vs : List V} {ws : List W} (h : RWL K r H vs ws) : EnvR K r H (L2.start N vs) (ws.map some ++ List.replicate (N.length - ws.length) none) := by
  have hl := h.length
  have at_ : ∀ {vs : List V} {ws : List W}, RWL K r H vs ws → ∀ (i : Nat) (w : W), ws[i]? = some w → ∃ v, vs[i]? = some v ∧ RW K r H v w := by
    intro vs
    induction vs with
    | nil => intro ws h i w e; cases (show ws = [] from h); simp at e
    | cons v vs ih =>
      intro ws h i w e
      obtain ⟨w', ws', rfl, h1, h2⟩ := h
      cases i with
      | zero => simp at e; subst e; exact ⟨v, rfl, h1⟩
      | succ i => simp at e; obtain ⟨x, e2, q⟩ := ih h2 i w e; exact ⟨x, by simpa using e2, q⟩
  refine ⟨by unfold L2.start; simp [hl], fun i w e => ?_⟩
  unfold L2.start
  by_cases hi : i < ws.length
  · rw [List.getElem?_append_left (by simpa using hi), List.getElem?_map] at e
    cases e2 : ws[i]? with
    | none => rw [e2] at e; cases e
    | some u =>
      rw [e2] at e
      have : u = w := Option.some.inj (Option.some.inj e)
      subst this
      obtain ⟨v, e3, q⟩ := at_ h i u e2
      refine ⟨v, ?_, q⟩
      rw [List.getElem?_append_left (by rw [List.length_map, hl]; exact hi), List.getElem?_map, e3]
      rfl
  · rw [List.getElem?_append_right (by simpa using hi)] at e
    have := List.mem_of_getElem? e
    have := List.eq_of_mem_replicate this
    cases this
def lockQ (Q : VK) : VK := fun v H' => Q v H' ∨ ∃ d u, H' d = some u ∧ Mut (some u) ∧ ∀ od, Q v (upd H' d (.frz od u))
theorem pss_lockEnd {X : Cx} {b : List Stmt} {t : TS} (h : PSs X b t) : PSs X b (fun D σ H => t { D with rt := lockQ D.rt } σ H) := by
  refine ⟨fun pins s σ H D I hw => ?_⟩
  refine thn (h.run pins s σ H _ I hw) fun f s1 q => ?_
  cases f with
  | next => exact q
  | brk => exact q
  | cont => exact q
  | ret v =>
    obtain ⟨x, σ', H', I2, r, q⟩ := q
    rcases q with q | ⟨d, u, hd, mu, q⟩
    · exact ⟨x, σ', H', I2, r, q⟩
    · obtain ⟨od, I3⟩ := I2.lock hd mu
      exact ⟨x, σ', _, I3, r, q od⟩
theorem pe_lockEnd {X : Cx} {b : Expr} {t : TE} (h : PE X b t) : PE X b (fun σ H Q => t σ H (lockQ Q)) := by
  refine ⟨fun pins s σ H Q I hw => ?_⟩
  refine thn (h.run pins s σ H _ I hw) fun v s1 q => ?_
  obtain ⟨x, H', I2, r, q⟩ := q
  rcases q with q | ⟨d, u, hd, mu, q⟩
  · exact ⟨x, H', I2, r, q⟩
  · obtain ⟨od, I3⟩ := I2.lock hd mu
    exact ⟨x, _, I3, r, q od⟩
theorem fin1_post {n : Nat} {w : W} {M : Sto} {Q : VK} (h : Post K E r H (relW K) (fin1 n w M) Q) (hn : r.c.length = n) : ∀ v H' r', Nxt r H r' H' → Sta K r' M H' → RW K r' H' v w → lockQ Q v H' := fun v H' r' n1 S1 q1 => by
  unfold fin1 at h
  cases hc : cutM n M with
  | none => rw [hc] at h; exact h.elim
  | some M1 =>
    rw [hc] at h
    have hle : n ≤ r'.c.length := by obtain ⟨t, e⟩ := n1.ext; rw [e, List.length_append, ← hn]; exact Nat.le_add_right _ _
    have S2 := S1.cut hle hc
    rw [← hn, nxt_cut n1] at S2
    have n2 := n1.cut
    have less : Same (fz r' H') (fz r H') := fz_less (fun a z => n1.has z) (Same.refl _)
    cases w with
    | d x => exact .inl (h v H' r n2 S2 (Rp.mono less q1))
    | loc k =>
      simp only at h
      obtain ⟨a, e1, e2⟩ := q1
      split at h
      · rename_i hk
        refine .inl (h v H' r n2 S2 ⟨a, ?_, e2⟩)
        obtain ⟨t, et⟩ := n1.ext
        rw [et, List.getElem?_append_left (by rw [hn]; exact hk)] at e1
        exact e1
      · rename_i hk
        have old : ¬ r.has a := by
          intro z
          rcases z with z | z
          · -- the cell is none of the elder ones
            obtain ⟨t, et⟩ := n1.ext
            obtain ⟨j, hj, e4⟩ := List.getElem_of_mem z
            have e5 : r'.c[j]? = some a := by rw [et, List.getElem?_append_left hj, List.getElem?_eq_getElem hj, e4]
            have : j = k := nd_ix S1.nd.1 e5 e1
            omega
          · exact S1.dj a (n1.eu ▸ z) (List.mem_of_getElem? e1)
        split at h
        · rename_i l hl
          refine .inl (h v H' r n2 S2 ?_)
          obtain ⟨xs, q2, q3⟩ := S1.cell k a _ e1 hl
          show Rp K (fz r H') (.lst l) v
          simp only [Rp]
          exact ⟨a, xs, e2, by rw [fz_out old]; exact q2, RpL.mono less q3⟩
        · rename_i ks l hl
          obtain ⟨xs, q2, q4, q3⟩ := S1.cell k a _ e1 hl
          have inr : r'.has a := .inl (List.mem_of_getElem? e1)
          refine .inr ⟨a, _, q2, trivial, fun od => ?_⟩
          have hfz : ∀ ob, fz r' (upd H' a ob) = fz r' H' := fun ob => by
            funext b
            by_cases z : r'.has b
            · rw [fz_in z, fz_in z]
            · have hb : b ≠ a := fun y => z (by rw [y]; exact inr)
              rw [fz_out z, fz_out z, upd_ne hb]
          have hcut : r'.cut n = r := by rw [← hn]; exact nxt_cut n1
          have e3 : Same (fz r' H') (fz r (upd H' a (.frz od (.dK xs)))) := fun b u hb => by
            rw [← hcut]
            exact fz_less (fun a z => has_cut z) (Same.refl _) b u (by rw [hfz]; exact hb)
          have S3 : Sta K (r'.cut n) M1 (upd H' a (.frz od (.dK xs))) := S1.cutG hle hc (by rw [hcut]; exact e3) fun b hb => upd_ne fun z => old (by rw [hcut] at hb; rw [← z]; exact hb)
          rw [hcut] at S3
          refine h v _ r ⟨⟨[], by simp⟩, rfl, fun b hb o ho => ?_, fun b u hb => e3 b u (n1.same b u hb)⟩ S3 ?_
          · have hne : b ≠ a := fun z => old (by rw [← z]; exact .inr hb)
            rw [upd_ne hne]; exact n1.prv b hb o ho
          · show Rp K (fz r (upd H' a (.frz od (.dK xs)))) (.dct ks l) v
            simp only [Rp]
            exact ⟨a, xs, od, e2, by rw [fz_out old, upd_same], q4, RpL.mono e3 q3⟩
        · rename_i ks l hl
          obtain ⟨xs, q2, q4, q3⟩ := S1.cell k a _ e1 hl
          have inr : r'.has a := .inl (List.mem_of_getElem? e1)
          refine .inr ⟨a, _, q2, trivial, fun od => ?_⟩
          have hfz : ∀ ob, fz r' (upd H' a ob) = fz r' H' := fun ob => by
            funext b
            by_cases z : r'.has b
            · rw [fz_in z, fz_in z]
            · have hb : b ≠ a := fun y => z (by rw [y]; exact inr)
              rw [fz_out z, fz_out z, upd_ne hb]
          have hcut : r'.cut n = r := by rw [← hn]; exact nxt_cut n1
          have e3 : Same (fz r' H') (fz r (upd H' a (.frz od (.dT xs)))) := fun b u hb => by
            rw [← hcut]
            exact fz_less (fun a z => has_cut z) (Same.refl _) b u (by rw [hfz]; exact hb)
          have S3 : Sta K (r'.cut n) M1 (upd H' a (.frz od (.dT xs))) := S1.cutG hle hc (by rw [hcut]; exact e3) fun b hb => upd_ne fun z => old (by rw [hcut] at hb; rw [← z]; exact hb)
          rw [hcut] at S3
          refine h v _ r ⟨⟨[], by simp⟩, rfl, fun b hb o ho => ?_, fun b u hb => e3 b u (n1.same b u hb)⟩ S3 ?_
          · have hne : b ≠ a := fun z => old (by rw [← z]; exact .inr hb)
            rw [upd_ne hne]; exact n1.prv b hb o ho
          · show Rp K (fz r (upd H' a (.frz od (.dT xs)))) (.dctT ks l) v
            simp only [Rp]
            exact ⟨a, xs, od, e2, by rw [fz_out old, upd_same], q4, RpL.mono e3 q3⟩
        · exact h.elim
theorem fin_post {n : Nat} {x : R Out} {Q : VK} (h : Post K E r H (relW K) (fin n x) Q) (hn : r.c.length = n) : PostS K E r H x { nx := fun _ H' => Q .non H', rt := lockQ Q } := by
  cases x with
  | bad => exact h
  | ok o M =>
    cases o with
    | nx δ =>
      refine fun σ' H' r' n1 S1 _ => ?_
      have h : Post K E r H (relW K) (fin1 n (.d .non) M) Q := h
      unfold fin1 at h
      cases hc : cutM n M with
      | none => rw [hc] at h; exact h.elim
      | some M1 =>
        rw [hc] at h
        have hle : n ≤ r'.c.length := by obtain ⟨t, e⟩ := n1.ext; rw [e, List.length_append, ← hn]; exact Nat.le_add_right _ _
        have S2 := S1.cut hle hc
        rw [← hn, nxt_cut n1] at S2
        exact h .non H' r n1.cut S2 (by simp only [relW, RW, Rp])
    | rt w => exact fin1_post h hn
    | bk δ => exact h.elim
    | ct δ => exact h.elim
  | ex e M =>
    unfold fin at h
    simp only at h
    cases hc : cutM n M with
    | none => rw [hc] at h; exact h.elim
    | some M1 =>
      rw [hc] at h
      refine fun H' r' cls od n1 S1 q1 => ?_
      have hle : n ≤ r'.c.length := by obtain ⟨t, e⟩ := n1.ext; rw [e, List.length_append, ← hn]; exact Nat.le_add_right _ _
      have S2 := S1.cut hle hc
      rw [← hn, nxt_cut n1] at S2
      refine h H' r cls od n1.cut S2 ⟨q1.1, ?_⟩
      have q2 := q1.2
      cases od with
      | none => exact q2
      | some d =>
        obtain ⟨fs, a1, a2, a3⟩ := q2
        exact ⟨fs, a1, a2, RpL.mono (fz_less (fun a z => n1.has z) (Same.refl _)) a3⟩
theorem finN_post {n : Nat} {x : R Out} {Q : VK} (h : PostN K E0 r H (finN n x) Q) (hn : r.c.length = n) : PostS K E0 r H x { nx := fun _ H' => Q .non H', rt := Q } := by
  unfold finN at h
  split at h
  · rename_i k M
    cases hc : cutM n M with
    | none => rw [hc] at h; exact h.elim
    | some M1 =>
      rw [hc] at h
      simp only at h
      split at h
      · exact h.elim
      · rename_i hk
        split at h
        · rename_i l hl
          refine fun v H' r' n1 S1 ⟨a, e1, e2⟩ => ?_
          subst e2
          have hle : n ≤ r'.c.length := by obtain ⟨t, e⟩ := n1.ext; rw [e, List.length_append, ← hn]; exact Nat.le_add_right _ _
          have S2 := S1.cut hle hc
          rw [← hn, nxt_cut n1] at S2
          have less : Same (fz r' H') (fz r H') := fz_less (fun a z => n1.has z) (Same.refl _)
          have har : ¬ r.has a := by
            intro z
            rcases z with z | z
            · obtain ⟨t, et⟩ := n1.ext
              obtain ⟨j, hj, e4⟩ := List.getElem_of_mem z
              have e5 : r'.c[j]? = some a := by rw [et, List.getElem?_append_left hj, List.getElem?_eq_getElem hj, e4]
              have : j = k := nd_ix S1.nd.1 e5 e1
              omega
            · exact S1.dj a (n1.eu ▸ z) (List.mem_of_getElem? e1)
          obtain ⟨xs, q2, q3⟩ := S1.cell k a _ e1 hl
          have less2 : Same (fz r' H') (fz (r.add a) H') := fz_less (fun b z => (has_add.mp z).elim (fun z => n1.has z) fun z => z ▸ .inl (List.mem_of_getElem? e1)) (Same.refl _)
          refine h a H' r ⟨n1.cut, S2, ?_, fun b o hb => less2 b o (n1.same b o hb)⟩
          -- the store with the new list behind it
          have hlen : r.c.length = M1.length := S2.len
          refine ⟨by simp [Rg.add, hlen], ⟨?_, S2.nd.2⟩, fun b hb z => ?_, S2.prv, fun j b c e3 e4 => ?_⟩
          · show (r.c ++ [a]).Nodup
            rw [List.nodup_append]
            exact ⟨S2.nd.1, by simp, fun b hb c hc z => by simp at hc; subst hc; exact har (z ▸ .inl hb)⟩
          · have z : b ∈ r.c ++ [a] := z
            rcases List.mem_append.mp z with z | z
            · exact S2.dj b hb z
            · have : b = a := by simpa using z
              exact har (this ▸ .inr hb)
          · have e3 : (r.c ++ [a])[j]? = some b := e3
            by_cases hj : j < r.c.length
            · rw [List.getElem?_append_left hj] at e3
              rw [List.getElem?_append_left (by rw [← hlen]; exact hj)] at e4
              have q := S2.cell j b c e3 e4
              have q' : ∃ c', r'.c[j]? = some b ∧ M[j]? = some c' ∧ c' = c := by
                obtain ⟨t, et⟩ := n1.ext
                refine ⟨c, by rw [et, List.getElem?_append_left hj]; exact e3, ?_, rfl⟩
                unfold cutM at hc
                split at hc
                · cases hc; exact e4
                · split at hc
                  · cases hc
                    rw [List.getElem?_take_of_lt (by rw [← hn]; exact hj)] at e4
                    exact e4
                  · cases hc
              obtain ⟨c', g1, g2, rfl⟩ := q'
              have qq := S1.cell j b c' g1 g2
              cases c' with
              | lst l => obtain ⟨ys, y1, y2⟩ := qq; exact ⟨ys, y1, RpL.mono less2 y2⟩
              | dct ks l => obtain ⟨ys, y1, y3, y2⟩ := qq; exact ⟨ys, y1, y3, RpL.mono less2 y2⟩
              | dctT ks l => obtain ⟨ys, y1, y3, y2⟩ := qq; exact ⟨ys, y1, y3, RpL.mono less2 y2⟩
              | ins C ns ws =>
                obtain ⟨dx, fs, y1, y3, y2⟩ := q
                obtain ⟨dx', fs', z1, z3, z2⟩ := qq
                rw [y1] at z1
                cases z1
                have up : ∀ {vs : List V} {ws : List W}, RWL K r H' vs ws → RWL K r' H' vs ws → RWL K (r.add a) H' vs ws := by
                  intro vs
                  induction vs with
                  | nil => intro ws h _; exact h
                  | cons v vs ih =>
                    intro ws h g
                    obtain ⟨w, ws', e, h1, h2⟩ := h
                    obtain ⟨w2, ws2, e', g1, g2⟩ := g
                    rw [e] at e'
                    cases e'
                    refine ⟨w, ws', e, ?_, ih h2 g2⟩
                    cases w with
                    | d x => exact Rp.mono less2 g1
                    | loc kk =>
                      obtain ⟨b, t1, t2⟩ := h1
                      exact ⟨b, by show (r.c ++ [a])[kk]? = _; rw [List.getElem?_append_left (List.getElem?_eq_some_iff.mp t1).1]; exact t1, t2⟩
                exact ⟨dx, fs, y1, y3, up y2 z2⟩
              | lsW ws =>
                obtain ⟨ys, y1, y2⟩ := q
                obtain ⟨ys', z1, z2⟩ := qq
                rw [y1] at z1
                cases z1
                have up : ∀ {vs : List V} {ws : List W}, RWL K r H' vs ws → RWL K r' H' vs ws → RWL K (r.add a) H' vs ws := by
                  intro vs
                  induction vs with
                  | nil => intro ws h _; exact h
                  | cons v vs ih =>
                    intro ws h g
                    obtain ⟨w, ws', e, h1, h2⟩ := h
                    obtain ⟨w2, ws2, e', g1, g2⟩ := g
                    rw [e] at e'
                    cases e'
                    refine ⟨w, ws', e, ?_, ih h2 g2⟩
                    cases w with
                    | d x => exact Rp.mono less2 g1
                    | loc kk =>
                      obtain ⟨b, t1, t2⟩ := h1
                      exact ⟨b, by show (r.c ++ [a])[kk]? = _; rw [List.getElem?_append_left (List.getElem?_eq_some_iff.mp t1).1]; exact t1, t2⟩
                exact ⟨ys, y1, up y2 z2⟩
            · have e5 : j = r.c.length := by
                have := (List.getElem?_eq_some_iff.mp e3).1
                simp at this
                omega
              subst e5
              have e6 : b = a := by simpa using e3.symm
              have e7 : c = .lst l := by rw [hlen] at e4; simpa using e4.symm
              subst e6
              subst e7
              exact ⟨xs, q2, RpL.mono less2 q3⟩
        · exact h.elim
  · exact h.elim
end
def fCall0 (n : Nat) (φ : FF) (fs : FA) : FE := fun δ M => (fs δ M).bind fun ws M1 => if ws.length = n then (φ ws M1).noEx else .bad
def fCallN (n : Nat) (φ : List W → Sto → R (List D)) (fs : FA) : FN := fun δ M => (fs δ M).bind fun ws M1 => if ws.length = n then (φ ws M1).noEx else .bad
section
variable {X : Cx} {E E' : XK} {fs : FA} {n : Nat} {φ : FF} {ψ : List W → Sto → R (List D)}
theorem call0_imp : ∀ σ H Q, tR X.K E (fCall0 n φ fs) σ H Q → tCall (sp0 X.K n φ) [] E' (tA X.K E fs) σ H Q := fun σ H Q ⟨r, δ, M, Ev, S, k⟩ =>
  ⟨r, δ, M, Ev, S, Post.bind k fun ws M1 vs H1 r1 _ n1 S1 q1 k1 => by
    split at k1
    · rename_i hl
      refine ⟨r1, M1, ws, hl, by rw [List.append_nil]; exact q1, S1, ?_⟩
      revert k1
      cases φ ws M1 with
      | bad => exact fun h => h
      | ok w M2 => exact fun h => h
      | ex e M2 => exact fun h => h.elim
    · exact k1.elim⟩
theorem callN_imp : ∀ σ H Q, tN X.K E (fCallN n ψ fs) σ H Q → tCall (spN X.K n ψ) [] E' (tA X.K E fs) σ H Q := fun σ H Q ⟨r, δ, M, Ev, S, k⟩ =>
  ⟨r, δ, M, Ev, S, PostN.bind k fun ws M1 vs H1 r1 _ n1 S1 q1 k1 => by
    split at k1
    · rename_i hl
      refine ⟨r1, M1, ws, hl, by rw [List.append_nil]; exact q1, S1, ?_⟩
      revert k1
      cases ψ ws M1 with
      | bad => exact fun h => h
      | ok w M2 => exact fun h => h
      | ex e M2 => exact fun h => h.elim
    · exact k1.elim⟩
variable {CX : CXT} {k : Nat} {f : Addr} {fd : FuncData} {ps : List Str} {x : Str} {p pos : Pos} {e : Expr} {es : List Expr}
end
section
variable {P : Program} {w : World} {K : PySem.W.Frag} {mg : Str → Option Value} {base : Heap} {x qual : Str} {st : Stmt} {f : Addr} {fd : FuncData} {N ps : List Str} {k : Nat}
end
end S9
namespace S9
open PySem PySem.Spec PyProof.Rows L2
mutual
def D.toP : D → Option PyData
  | .non => some .none
  | .bl b => some (.bool b)
  | .int i => some (.int i)
  | .str x => some (.str x)
  | .tup l => (D.toPs l).map .tuple
  | .ktp l => (D.toPs l).map .tuple
  | .lst l => (D.toPs l).map .list
  | .frl l => (D.toPs l).map .list
  | .dct _ _ => none
  | .dctT _ _ => none
  | .ins _ _ _ => none
  | .ty _ => none
  | .cls _ => none
def D.toPs : List D → Option (List PyData)
  | [] => some []
  | d :: l => d.toP.bind fun p => (D.toPs l).map fun q => p :: q
end
section
variable {K : PySem.W.Frag} {H H' : Hp} {r : Rg}
mutual
theorem Rp.dp : ∀ {d : D} {v : V} {p : PyData}, Rp K H d v → d.toP = some p → L2.Dp K H v p
  | .non, v, p, h, e => by simp only [Rp, D.toP, Option.some.injEq] at h e; subst h; subst e; exact .non
  | .bl b, v, p, h, e => by simp only [Rp, D.toP, Option.some.injEq] at h e; subst h; subst e; exact .bl b
  | .int i, v, p, h, e => by simp only [Rp, D.toP, Option.some.injEq] at h e; subst h; subst e; exact .int i
  | .str x, v, p, h, e => by simp only [Rp, D.toP, Option.some.injEq] at h e; subst h; subst e; exact .str x
  | .tup l, v, p, h, e => by
    simp only [Rp, D.toP, Option.map_eq_some_iff] at h e
    obtain ⟨a, xs, rfl, h1, h2⟩ := h
    obtain ⟨q, e1, rfl⟩ := e
    exact .tup (sq_t h1) (RpL.dp h2 e1)
  | .ktp l, v, p, h, e => by
    simp only [Rp, D.toP, Option.map_eq_some_iff] at h e
    obtain ⟨a, xs, rfl, h1, h2⟩ := h
    obtain ⟨q, e1, rfl⟩ := e
    exact .tup h1 (RpL.dp h2 e1)
  | .lst l, v, p, h, e => by
    simp only [Rp, D.toP, Option.map_eq_some_iff] at h e
    obtain ⟨a, xs, rfl, h1, h2⟩ := h
    obtain ⟨q, e1, rfl⟩ := e
    exact .lst (.inl (.inl h1)) (RpL.dp h2 e1)
  | .frl l, v, p, h, e => by
    simp only [Rp, D.toP, Option.map_eq_some_iff] at h e
    obtain ⟨a, xs, rfl, h1, h2⟩ := h
    obtain ⟨q, e1, rfl⟩ := e
    exact .lst h1 (RpL.dp h2 e1)
  | .dct _ _, v, p, h, e => by simp only [D.toP] at e; cases e
  | .dctT _ _, v, p, h, e => by simp only [D.toP] at e; cases e
  | .ins _ _ _, v, p, h, e => by simp only [D.toP] at e; cases e
  | .ty _, v, p, h, e => by simp only [D.toP] at e; cases e
  | .cls _, v, p, h, e => by simp only [D.toP] at e; cases e
theorem RpL.dp : ∀ {l : List D} {vs : List V} {ps : List PyData}, RpL K H l vs → D.toPs l = some ps → L2.DpAll K H vs ps
  | [], vs, ps, h, e => by simp only [RpL, D.toPs, Option.some.injEq] at h e; subst h; subst e; exact .nil
  | d :: l, vs, ps, h, e => by
    simp only [RpL, D.toPs, Option.bind_eq_some_iff, Option.map_eq_some_iff] at h e
    obtain ⟨x, t, rfl, h1, h2⟩ := h
    obtain ⟨p, e1, q, e2, rfl⟩ := e
    exact .cons (Rp.dp h1 e1) (RpL.dp h2 e2)
end
theorem RD.dp {d : D} {v : V} {p : PyData} (h : RD K r H v d) (e : d.toP = some p) : L2.Dp K H v p := by
  cases d with
  | lst l =>
    simp only [D.toP, Option.map_eq_some_iff] at e
    obtain ⟨a, xs, rfl, h1, h2⟩ := h
    obtain ⟨q, e1, rfl⟩ := e
    exact .lst (.inl (.inl h1)) (RpL.dp (RpL.mono fz_sub h2) e1)
  | dct ks l => simp only [D.toP] at e; cases e
  | dctT ks l => simp only [D.toP] at e; cases e
  | ins _ _ _ => simp only [D.toP] at e; cases e
  | ty _ => simp only [D.toP] at e; cases e
  | cls _ => simp only [D.toP] at e; cases e
  | non => exact Rp.dp (Rp.mono fz_sub h) e
  | bl b => exact Rp.dp (Rp.mono fz_sub h) e
  | int i => exact Rp.dp (Rp.mono fz_sub h) e
  | str x => exact Rp.dp (Rp.mono fz_sub h) e
  | tup l => exact Rp.dp (Rp.mono fz_sub h) e
  | ktp l => exact Rp.dp (Rp.mono fz_sub h) e
  | frl l => exact Rp.dp (Rp.mono fz_sub h) e
def itsD : D → Option (List D)
  | .lst l => some l
  | .frl l => some l
  | .tup l => some l
  | .ktp l => some l
  | _ => none
theorem RD.seq {d : D} {v : V} {l : List D} (h : RD K r H v d) (e : itsD d = some l) : ∃ a xs, v = .ref a ∧ (SqL K H a xs ∨ SqT K H a xs) ∧ RpL K (fz r H) l xs := by
  cases d with
  | lst l =>
    cases e
    obtain ⟨a, xs, rfl, h1, h2⟩ := h
    exact ⟨a, xs, rfl, .inl (.inl (.inl h1)), h2⟩
  | frl l =>
    cases e
    simp only [RD, Rp] at h
    obtain ⟨a, xs, rfl, h1, h2⟩ := h
    exact ⟨a, xs, rfl, .inl (fz_sub.seq h1), h2⟩
  | tup l =>
    cases e
    simp only [RD, Rp] at h
    obtain ⟨a, xs, rfl, h1, h2⟩ := h
    exact ⟨a, xs, rfl, .inr (same_p fz_sub h1), h2⟩
  | ktp l =>
    cases e
    simp only [RD, Rp] at h
    obtain ⟨a, xs, rfl, h1, h2⟩ := h
    exact ⟨a, xs, rfl, .inr (same_t fz_sub h1), h2⟩
  | _ => cases e
end
section
variable {K : PySem.W.Frag}
def gI (f : Int → Int → D) : D → D → Option D
  | .int i, .int j => some (f i j)
  | _, _ => none
theorem od_I0 {f : Int → Int → V} {g : Int → Int → D} (h : ∀ i j H, Rp K H (g i j) (f i j)) : OpD K (rI0 f) (gI g) := fun r M H x y d1 d2 d S h1 h2 e Q q => by
  unfold gI at e
  split at e
  · cases e
    simp only [RD, Rp] at h1 h2
    exact ⟨_, _, h1, h2, q _ H (Same.refl _) (h _ _ _)⟩
  · cases e
def gIc (C : Int → Int → Bool) (f : Int → Int → D) : D → D → Option D
  | .int i, .int j => match C i j with
    | true => some (f i j)
    | false => none
  | _, _ => none
theorem od_I {C : Int → Int → Prop} {c : Int → Int → Bool} {f : Int → Int → V} {g : Int → Int → D} (hc : ∀ i j, c i j = true → C i j) (h : ∀ i j H, Rp K H (g i j) (f i j)) : OpD K (rI C f) (gIc c g) := fun r M H x y d1 d2 d S h1 h2 e Q q => by
  unfold gIc at e
  split at e
  · split at e
    · rename_i hh
      cases e
      simp only [RD, Rp] at h1 h2
      exact ⟨_, _, h1, h2, hc _ _ hh, q _ H (Same.refl _) (h _ _ _)⟩
    · cases e
  · cases e
theorem rp_int {H : Hp} {i : Int} : Rp K H (.int i) (.int i) := by simp only [Rp]
theorem rp_bl {H : Hp} {i : Bool} : Rp K H (.bl i) (.bl i) := by simp only [Rp]
theorem rp_str {H : Hp} {i : Str} : Rp K H (.str i) (.str i) := by simp only [Rp]
theorem OpD.or {rr rr' : R2} {g g' : D → D → Option D} (h : OpD K rr g) (h' : OpD K rr' g') : OpD K (fun x y H Q => rr x y H Q ∨ rr' x y H Q) (fun a b => (g a b).orElse fun _ => g' a b) := fun r M H x y d1 d2 d S h1 h2 e Q q => by
  simp only at e
  cases e1 : g d1 d2 with
  | some z => rw [e1] at e; cases e; exact .inl (h r M H x y d1 d2 _ S h1 h2 e1 Q q)
  | none => rw [e1] at e; exact .inr (h' r M H x y d1 d2 d S h1 h2 e Q q)
def gAddS : D → D → Option D
  | .str a, .str b => if a.length + b.length ≤ 100000 then some (.str (a ++ b)) else none
  | _, _ => none
theorem od_addS : OpD K (fun x y H Q => ∃ i j, x = V.str i ∧ y = V.str j ∧ i.length + j.length ≤ sizeLine ∧ Q (.str (i ++ j)) H) gAddS := fun r M H x y d1 d2 d S h1 h2 e Q q => by
  unfold gAddS at e
  split at e
  · split at e
    · rename_i hl
      cases e
      simp only [RD, Rp] at h1 h2
      exact ⟨_, _, h1, h2, Nat.le_trans hl (by decide), q _ H (Same.refl _) rp_str⟩
    · cases e
  · cases e
def gAddT : D → D → Option D
  | .tup a, .tup b => if a.length + b.length ≤ 100000 then some (.tup (a ++ b)) else none
  | _, _ => none
theorem od_addT : OpD K (rCatA K) gAddT := fun r M H x y d1 d2 d S h1 h2 e Q q => by
  unfold gAddT at e
  split at e
  · split at e
    · rename_i l m hl
      cases e
      simp only [RD, Rp] at h1 h2
      obtain ⟨a, xs, rfl, q1, q2⟩ := h1
      obtain ⟨b, ys, rfl, q3, q4⟩ := h2
      refine ⟨a, b, xs, ys, rfl, rfl, same_p fz_sub q1, same_p fz_sub q3, by rw [q2.length, q4.length]; exact Nat.le_trans hl (by decide), fun e1 => ?_, fun _ e2 => ?_, fun _ _ p hp => ?_⟩
      · subst e1
        have : l = [] := List.eq_nil_of_length_eq_zero q2.length.symm
        subst this
        exact q _ H (Same.refl _) (by simp only [Rp, List.nil_append]; exact ⟨b, ys, rfl, q3, q4⟩)
      · subst e2
        have : m = [] := List.eq_nil_of_length_eq_zero q4.length.symm
        subst this
        exact q _ H (Same.refl _) (by simp only [Rp, List.append_nil]; exact ⟨a, xs, rfl, q1, q2⟩)
      · exact q _ _ (same_up hp) (rp_tup S hp (q2.append q4))
    · cases e
  · cases e
def gAdd : D → D → Option D := fun a b => (gI (fun i j => .int (i + j)) a b).orElse fun _ => (gAddS a b).orElse fun _ => gAddT a b
theorem op_addA {X : Cx} : OpR X (binaryOp .Add) (fun x y H Q => rI0 (fun i j => .int (i + j)) x y H Q ∨ ((∃ i j, x = V.str i ∧ y = V.str j ∧ i.length + j.length ≤ sizeLine ∧ Q (.str (i ++ j)) H) ∨ rCatA X.K x y H Q)) := OpR.or op_add (OpR.or op_add_str op_catA)
theorem od_add : OpD K (fun x y H Q => rI0 (fun i j => .int (i + j)) x y H Q ∨ ((∃ i j, x = V.str i ∧ y = V.str j ∧ i.length + j.length ≤ sizeLine ∧ Q (.str (i ++ j)) H) ∨ rCatA K x y H Q)) gAdd := OpD.or (od_I0 fun _ _ _ => rp_int) (OpD.or od_addS od_addT)
def gSub : D → D → Option D := gI fun i j => .int (i - j)
theorem od_sub : OpD K (rI0 fun i j => .int (i - j)) gSub := od_I0 fun _ _ _ => rp_int
def cMul (i j : Int) : Bool := decide (i.natAbs.log2 + j.natAbs.log2 < 1000000)
def gMul : D → D → Option D := gIc cMul fun i j => .int (i * j)
theorem od_mul : OpD K (rI CMulW fun i j => .int (i * j)) gMul := od_I (fun _ _ h => show _ < _ from of_decide_eq_true h) fun _ _ _ => rp_int
def cPos (_ j : Int) : Bool := decide (0 < j)
def gMod : D → D → Option D := gIc cPos fun i j => .int (i % j)
theorem od_mod : OpD K (rI (fun _ j => 0 < j) fun i j => .int (i % j)) gMod := od_I (fun _ _ h => of_decide_eq_true h) fun _ _ _ => rp_int
def cDiv (_ j : Int) : Bool := decide (0 < j) && decide (j.natAbs.log2 < 9000)
def gDiv : D → D → Option D := gIc cDiv fun i j => .int (i / j)
theorem od_div : OpD K (rI CDivW fun i j => .int (i / j)) gDiv := od_I (fun _ _ h => by
  unfold cDiv at h
  simp only [Bool.and_eq_true, decide_eq_true_eq] at h
  exact h) fun _ _ _ => rp_int
def CPowW (i j : Int) : Prop := 0 ≤ j ∧ (Builtin.Int.intBits i : Int) * j ≤ 2 ^ 27
def cPow (i j : Int) : Bool := decide (0 ≤ j) && decide ((Builtin.Int.intBits i : Int) * j ≤ 2 ^ 27)
theorem op_powW {X : Cx} : OpR X (binaryOp .Pow) (rI CPowW fun i j => .int (i ^ j.toNat)) := opI fun _ _ _ _ _ _ _ hc q => pow_int hc.1 hc.2 q
def gPow : D → D → Option D := gIc cPow fun i j => .int (i ^ j.toNat)
theorem od_pow : OpD K (rI CPowW fun i j => .int (i ^ j.toNat)) gPow := od_I (fun _ _ h => by
  unfold cPow at h
  simp only [Bool.and_eq_true, decide_eq_true_eq] at h
  exact h) fun _ _ _ => rp_int
def gLt : D → D → Option D := gI fun i j => .bl (decide (i < j))
def gLe : D → D → Option D := gI fun i j => .bl (decide (i ≤ j))
def gGt : D → D → Option D := gI fun i j => .bl (decide (j < i))
def gGe : D → D → Option D := gI fun i j => .bl (decide (j ≤ i))
theorem od_lt : OpD K (rI0 fun i j => .bl (decide (i < j))) gLt := od_I0 fun _ _ _ => rp_bl
theorem od_le : OpD K (rI0 fun i j => .bl (decide (i ≤ j))) gLe := od_I0 fun _ _ _ => rp_bl
theorem od_gt : OpD K (rI0 fun i j => .bl (decide (j < i))) gGt := od_I0 fun _ _ _ => rp_bl
theorem od_ge : OpD K (rI0 fun i j => .bl (decide (j ≤ i))) gGe := od_I0 fun _ _ _ => rp_bl
def eqS : D → D → Option Bool
  | .int i, .int j => some (decide (i = j))
  | .bl i, .bl j => some (decide (i = j))
  | .str i, .str j => some (decide (i = j))
  | _, _ => none
def eqP (a b : D) : Option Bool := a.toP.bind fun p => b.toP.bind fun q => if SeqAt.shaped p = true ∧ SeqAt.shaped q = true then some (PyData.eqv p q) else none
def eqD (a b : D) : Option Bool := (eqS a b).orElse fun _ => eqP a b
def gEq (a b : D) : Option D := (eqD a b).map D.bl
def gNe (a b : D) : Option D := (eqD a b).map fun k => D.bl (!k)
theorem eqS_of {r : Rg} {H : Hp} {x y : V} {a b : D} {k : Bool} (h1 : RD K r H x a) (h2 : RD K r H y b) (e : eqS a b = some k) : scal x y = true ∧ decide (x = y) = k := by
  unfold eqS at e
  split at e
  · cases e
    simp only [RD, Rp] at h1 h2
    subst h1; subst h2
    exact ⟨rfl, by simp⟩
  · cases e
    simp only [RD, Rp] at h1 h2
    subst h1; subst h2
    exact ⟨rfl, by simp⟩
  · cases e
    simp only [RD, Rp] at h1 h2
    subst h1; subst h2
    exact ⟨rfl, by simp⟩
  · cases e
theorem eqP_of {r : Rg} {H : Hp} {x y : V} {a b : D} {k : Bool} (h1 : RD K r H x a) (h2 : RD K r H y b) (e : eqP a b = some k) : ∃ p q, L2.Dp K H x p ∧ L2.Dp K H y q ∧ SeqAt.shaped p = true ∧ SeqAt.shaped q = true ∧ PyData.eqv p q = k := by
  unfold eqP at e
  simp only [Option.bind_eq_some_iff] at e
  obtain ⟨p, e1, q, e2, e3⟩ := e
  split at e3
  · rename_i hs
    cases e3
    exact ⟨p, q, RD.dp h1 e1, RD.dp h2 e2, hs.1, hs.2, rfl⟩
  · cases e3
theorem op_eqA {X : Cx} (hu : X.A.units + 64 < cLine) : OpR X (compareOp .Eq) (fun x y H Q => rEq x y H Q ∨ rEqD X.K x y H Q) := OpR.or op_eq (op_eqD hu)
theorem op_neA {X : Cx} (hu : X.A.units + 64 < cLine) : OpR X (compareOp .NotEq) (fun x y H Q => rNe x y H Q ∨ rNeD X.K x y H Q) := OpR.or op_ne (op_neD hu)
theorem od_eq : OpD K (fun x y H Q => rEq x y H Q ∨ rEqD K x y H Q) gEq := fun r M H x y d1 d2 d S h1 h2 e Q q => by
  unfold gEq at e
  simp only [Option.map_eq_some_iff] at e
  obtain ⟨k, e, rfl⟩ := e
  unfold eqD at e
  cases e1 : eqS d1 d2 with
  | some z =>
    rw [e1] at e
    cases e
    obtain ⟨a1, a2⟩ := eqS_of h1 h2 e1
    exact .inl ⟨a1, by rw [a2]; exact q _ H (Same.refl _) rp_bl⟩
  | none =>
    rw [e1] at e
    obtain ⟨p, z, a1, a2, a3, a4, a5⟩ := eqP_of h1 h2 e
    exact .inr ⟨p, z, a1, a2, a3, a4, by rw [a5]; exact q _ H (Same.refl _) rp_bl⟩
theorem od_ne : OpD K (fun x y H Q => rNe x y H Q ∨ rNeD K x y H Q) gNe := fun r M H x y d1 d2 d S h1 h2 e Q q => by
  unfold gNe at e
  simp only [Option.map_eq_some_iff] at e
  obtain ⟨k, e, rfl⟩ := e
  unfold eqD at e
  cases e1 : eqS d1 d2 with
  | some z =>
    rw [e1] at e
    cases e
    obtain ⟨a1, a2⟩ := eqS_of h1 h2 e1
    exact .inl ⟨a1, by rw [a2]; exact q _ H (Same.refl _) rp_bl⟩
  | none =>
    rw [e1] at e
    obtain ⟨p, z, a1, a2, a3, a4, a5⟩ := eqP_of h1 h2 e
    exact .inr ⟨p, z, a1, a2, a3, a4, by rw [a5]; exact q _ H (Same.refl _) rp_bl⟩
def gNeg : D → Option D
  | .int i => some (.int (-i))
  | _ => none
theorem od_neg : UnD K (rU fun i => .int (-i)) gNeg := fun r M H x d1 d S h e Q q => by
  unfold gNeg at e
  split at e
  · cases e
    simp only [RD, Rp] at h
    exact ⟨_, h, q _ H (Same.refl _) rp_int⟩
  · cases e
def gIx : D → D → Option D
  | a, .int i => (itsD a).bind fun l => atI l i
  | _, _ => none
theorem atI_rp {H : Hp} {l : List D} {xs : List V} {i : Int} {d : D} (h : RpL K H l xs) (e : atI l i = some d) : ∃ v, atI xs i = some v ∧ Rp K H d v := by
  unfold atI at e ⊢
  rw [h.length]
  cases e1 : ixN l.length i with
  | none => rw [e1] at e; cases e
  | some j => rw [e1] at e; exact h.get e
theorem od_ix : OpD K (rIx K) gIx := fun r M H x y d1 d2 d S h1 h2 e Q q => by
  unfold gIx at e
  split at e
  · simp only [Option.bind_eq_some_iff] at e
    obtain ⟨l, e1, e2⟩ := e
    simp only [RD, Rp] at h2
    obtain ⟨a, xs, rfl, g1, g2⟩ := RD.seq h1 e1
    obtain ⟨v, e3, g3⟩ := atI_rp g2 e2
    rcases g1 with g1 | g1
    · exact .inl ⟨a, xs, _, v, rfl, h2, g1, e3, q v H (Same.refl _) g3⟩
    · exact .inr (.inl ⟨a, xs, _, v, rfl, h2, g1, e3, q v H (Same.refl _) g3⟩)
  · cases e
def cutD (l : List D) (lo hi : Option Int) : List D := (l.drop (HT.sIx l.length 0 lo)).take (HT.sIx l.length l.length hi - HT.sIx l.length 0 lo)
theorem cut_rp {H : Hp} {l : List D} {xs : List V} {lo hi : Option Int} (h : RpL K H l xs) : RpL K H (cutD l lo hi) (cutV xs lo hi) := by
  unfold cutD cutV
  rw [h.length]
  exact (h.drop _).take _
def gSlT : D → Option Int → Option Int → Option D
  | .tup l, lo, hi => some (.tup (cutD l lo hi))
  | _, _, _ => none
theorem sd_tup : SlD K (rSlA K) gSlT := fun r M H x d1 d lo hi S h e Q q => by
  unfold gSlT at e
  split at e
  · rename_i l
    cases e
    simp only [RD, Rp] at h
    obtain ⟨a, xs, rfl, g1, g2⟩ := h
    refine ⟨a, xs, rfl, same_p fz_sub g1, fun ⟨e1, e2⟩ => ?_, fun _ p hp => q _ _ (same_up hp) (rp_tup S hp (cut_rp g2))⟩
    have : cutD l lo hi = l := by
      unfold cutD
      rw [← g2.length, e1, e2, g2.length]
      simp
    rw [this] at q
    exact q _ H (Same.refl _) (by simp only [Rp]; exact ⟨a, xs, rfl, g1, g2⟩)
  · cases e
def gSlL : D → Option Int → Option Int → Option (List D)
  | .lst l, lo, hi => some (cutD l lo hi)
  | .frl l, lo, hi => some (cutD l lo hi)
  | _, _, _ => none
def gCat : D → D → Option (List D)
  | .lst a, .lst b => if a.length + b.length ≤ 100000 then some (a ++ b) else none
  | _, _ => none
theorem on_cat : OpN K rCat gCat := fun r M H x y d1 d2 l S h1 h2 e Q q => by
  unfold gCat at e
  split at e
  · split at e
    · rename_i hl
      cases e
      obtain ⟨a, xs, rfl, g1, g2⟩ := h1
      obtain ⟨b, ys, rfl, g3, g4⟩ := h2
      exact ⟨a, b, xs, ys, rfl, rfl, g1, g3, by rw [g2.length, g4.length]; exact Nat.le_trans hl (by decide), fun p hp => q _ (g2.append g4) p hp⟩
    · cases e
  · cases e
def repD (n : Nat) (l : List D) : List D := (List.replicate n l).flatten
theorem rep_rp {H : Hp} {l : List D} {xs : List V} (h : RpL K H l xs) : ∀ n : Nat, RpL K H (repD n l) (List.replicate n xs).flatten
  | 0 => RpL.nil
  | n + 1 => by
    unfold repD
    rw [List.replicate_succ, List.replicate_succ, List.flatten_cons, List.flatten_cons]
    exact h.append (rep_rp h n)
end
section
variable {K : PySem.W.Frag}
theorem rdl1 {r : Rg} {H : Hp} {vs : List V} {d : D} (h : RDL K r H vs [d]) : ∃ v, vs = [v] ∧ RD K r H v d := by
  cases vs with
  | nil => cases h
  | cons v vs =>
    obtain ⟨x, t, e, h1, h2⟩ := h
    cases e
    cases vs with
    | nil => exact ⟨v, rfl, h1⟩
    | cons u us => obtain ⟨_, _, e, _⟩ := h2; cases e
theorem rdl2 {r : Rg} {H : Hp} {vs : List V} {d e : D} (h : RDL K r H vs [d, e]) : ∃ v u, vs = [v, u] ∧ RD K r H v d ∧ RD K r H u e := by
  cases vs with
  | nil => cases h
  | cons v vs =>
    obtain ⟨x, t, e, h1, h2⟩ := h
    cases e
    obtain ⟨u, rfl, h3⟩ := rdl1 h2
    exact ⟨v, u, rfl, h1, h3⟩
def gAbs : List D → Option D
  | [.int i] => some (.int (if i < 0 then -i else i))
  | _ => none
theorem cd_abs : CallD K (fun xs H Q => ∃ i, xs = [V.int i] ∧ Q (.int (if i < 0 then -i else i)) H) gAbs := fun r M H vs ds d S h e Q q => by
  unfold gAbs at e
  split at e
  · cases e
    obtain ⟨v, rfl, h1⟩ := rdl1 h
    simp only [RD, Rp] at h1
    exact ⟨_, by rw [h1], q _ H (Same.refl _) rp_int⟩
  · cases e
def gI2 (f : Int → Int → Int) : List D → Option D
  | [.int i, .int j] => some (.int (f i j))
  | _ => none
theorem cd_I2 {f : Int → Int → Int} : CallD K (fun xs H Q => ∃ i j, xs = [V.int i, V.int j] ∧ Q (.int (f i j)) H) (gI2 f) := fun r M H vs ds d S h e Q q => by
  unfold gI2 at e
  split at e
  · cases e
    obtain ⟨v, u, rfl, h1, h2⟩ := rdl2 h
    simp only [RD, Rp] at h1 h2
    exact ⟨_, _, by rw [h1, h2], q _ H (Same.refl _) rp_int⟩
  · cases e
def max2 (i j : Int) : Int := if j > i then j else i
def min2 (i j : Int) : Int := if j < i then j else i
def gLen : List D → Option D
  | [.str x] => if x.length ≤ 100000 then some (.int x.length) else none
  | [d] => (itsD d).map fun l => .int l.length
  | _ => none
theorem cd_len : CallD K (fun xs H Q => ∃ x n, xs = [x] ∧ LenV K x H n ∧ Q (.int n) H) gLen := fun r M H vs ds d S h e Q q => by
  unfold gLen at e
  split at e
  · split at e
    · rename_i hl
      cases e
      obtain ⟨v, rfl, h1⟩ := rdl1 h
      simp only [RD, Rp] at h1
      subst h1
      exact ⟨_, _, rfl, ⟨Nat.le_trans hl (by decide), rfl⟩, q _ H (Same.refl _) rp_int⟩
    · cases e
  · simp only [Option.map_eq_some_iff] at e
    obtain ⟨l, e1, rfl⟩ := e
    obtain ⟨v, rfl, h1⟩ := rdl1 h
    obtain ⟨a, xs, rfl, g1, g2⟩ := RD.seq h1 e1
    refine ⟨_, l.length, rfl, ?_, q _ H (Same.refl _) rp_int⟩
    rcases g1 with g1 | g1
    · exact .inl ⟨xs, g1, g2.length.symm⟩
    · exact .inr ⟨xs, g1, g2.length.symm⟩
  · cases e
def b2n (k : Bool) : Int := if k then 1 else 0
def gInt : List D → Option D
  | [.int i] => some (.int i)
  | [.bl k] => some (.int (b2n k))
  | _ => none
theorem cd_int : CallD K (fun xs H Q => (∃ i, xs = [V.int i] ∧ Q (.int i) H) ∨ ∃ k, xs = [V.bl k] ∧ Q (.int (if k then 1 else 0)) H) gInt := fun r M H vs ds d S h e Q q => by
  unfold gInt at e
  split at e
  · cases e
    obtain ⟨v, rfl, h1⟩ := rdl1 h
    simp only [RD, Rp] at h1
    exact .inl ⟨_, by rw [h1], q _ H (Same.refl _) rp_int⟩
  · cases e
    obtain ⟨v, rfl, h1⟩ := rdl1 h
    simp only [RD, Rp] at h1
    exact .inr ⟨_, by rw [h1], q _ H (Same.refl _) (by unfold b2n; exact rp_int)⟩
  · cases e
def blsD : List D → Option (List Bool)
  | [] => some []
  | .bl i :: l => (blsD l).map fun t => i :: t
  | _ :: _ => none
theorem blsD_of : ∀ {l : List D} {ns : List Bool}, blsD l = some ns → l = ns.map D.bl
  | [], ns, e => by simp only [blsD, Option.some.injEq] at e; subst e; rfl
  | d :: l, ns, e => by
    cases d with
    | bl i =>
      simp only [blsD, Option.map_eq_some_iff] at e
      obtain ⟨t, e, rfl⟩ := e
      rw [blsD_of e]; rfl
    | _ => cases e
theorem blsD_map (ns : List Bool) : blsD (ns.map D.bl) = some ns := by
  induction ns with
  | nil => rfl
  | cons n ns ih => simp only [List.map_cons, blsD, ih, Option.map_some]
def lstOf : D → Option (List D)
  | .lst l => some l
  | .frl l => some l
  | _ => none
theorem RD.lstOf {r : Rg} {H : Hp} {d : D} {v : V} {l : List D} (h : RD K r H v d) (e : lstOf d = some l) : ∃ a xs, v = .ref a ∧ SqL K H a xs ∧ RpL K (fz r H) l xs := by
  cases d with
  | lst l =>
    cases e
    obtain ⟨a, xs, rfl, h1, h2⟩ := h
    exact ⟨a, xs, rfl, .inl (.inl h1), h2⟩
  | frl l =>
    cases e
    simp only [RD, Rp] at h
    obtain ⟨a, xs, rfl, h1, h2⟩ := h
    exact ⟨a, xs, rfl, fz_sub.seq h1, h2⟩
  | _ => cases e
def gAll : List D → Option D
  | [d] => (lstOf d).bind fun l => (blsD l).map fun ns => .bl (ns.all id)
  | _ => none
theorem cd_all : CallD K (rAll K) gAll := fun r M H vs ds d S h e Q q => by
  unfold gAll at e
  split at e
  · simp only [Option.bind_eq_some_iff, Option.map_eq_some_iff] at e
    obtain ⟨l, e1, ns, e2, rfl⟩ := e
    obtain ⟨v, rfl, h1⟩ := rdl1 h
    obtain ⟨a, xs, rfl, g1, g2⟩ := RD.lstOf h1 e1
    rw [blsD_of e2] at g2
    rw [g2.bls] at g1
    exact ⟨a, ns, rfl, g1, q _ H (Same.refl _) rp_bl⟩
  · cases e
def itsT : D → Option (List D)
  | .lst l => some l
  | .frl l => some l
  | .tup l => some l
  | _ => none
def gTuple : List D → Option D
  | [d] => (itsT d).map D.tup
  | _ => none
theorem cd_tuple : CallD K (fun xs H Q => ∃ p ys, xs = [V.ref p] ∧ ((SqL K H p ys ∧ ∀ l, H l = none → Q (.ref l) (upd H l (.tup ys))) ∨ (SqT K H p ys ∧ Q (.ref p) H))) gTuple := fun r M H vs ds d S h e Q q => by
  unfold gTuple at e
  split at e
  · rename_i d1
    obtain ⟨v, rfl, h1⟩ := rdl1 h
    simp only [Option.map_eq_some_iff] at e
    obtain ⟨l, e1, rfl⟩ := e
    cases d1 with
    | lst m =>
      cases e1
      obtain ⟨a, xs, rfl, g1, g2⟩ := h1
      exact ⟨a, xs, rfl, .inl ⟨.inl (.inl g1), fun p hp => q _ _ (same_up hp) (rp_tup S hp g2)⟩⟩
    | frl m =>
      cases e1
      simp only [RD, Rp] at h1
      obtain ⟨a, xs, rfl, g1, g2⟩ := h1
      exact ⟨a, xs, rfl, .inl ⟨fz_sub.seq g1, fun p hp => q _ _ (same_up hp) (rp_tup S hp g2)⟩⟩
    | tup m =>
      cases e1
      have h2 : Rp K (fz r H) (.tup l) v := h1
      simp only [RD, Rp] at h1
      obtain ⟨a, xs, rfl, g1, g2⟩ := h1
      exact ⟨a, xs, rfl, .inr ⟨same_p fz_sub g1, q _ H (Same.refl _) h2⟩⟩
    | _ => cases e1
  · cases e
def gList : List D → Option (List D)
  | [d] => itsD d
  | _ => none
theorem cn_list : CallN K (fun xs H Q => ∃ p ys, xs = [V.ref p] ∧ (SqL K H p ys ∨ SqT K H p ys) ∧ ∀ l, H l = none → Q (.ref l) (upd H l (.lst ys))) gList := fun r M H vs ds l S h e Q q => by
  unfold gList at e
  split at e
  · obtain ⟨v, rfl, h1⟩ := rdl1 h
    obtain ⟨a, xs, rfl, g1, g2⟩ := RD.seq h1 e
    exact ⟨a, xs, rfl, g1, fun p hp => q xs g2 p hp⟩
  · cases e
end
end S9
namespace S9
open PySem PySem.Spec PyProof.Rows L2
section
variable {K : PySem.W.Frag} {r : Rg} {M : Sto} {H : Hp}
theorem fz_cell {a : Addr} {o : HO} (h : r.has a) : fz r (upd H a o) = fz r H := by
  funext b
  by_cases z : r.has b
  · rw [fz_in z, fz_in z]
  · rw [fz_out z, fz_out z, upd_ne (fun e => z (by rw [e]; exact h))]
theorem Sta.put {k : Nat} {a : Addr} {o : HO} {c : Cell} (S : Sta K r M H) (h : r.c[k]? = some a) (q : CellOk K r (upd H a o) a c) : Nxt r H r (upd H a o) ∧ Sta K r (M.set k c) (upd H a o) := by
  have hm : a ∈ r.c := List.mem_of_getElem? h
  have hfz : fz r (upd H a o) = fz r H := fz_cell (.inl hm)
  have nu : ∀ b ∈ r.u, b ≠ a := fun b hb z => S.dj b hb (z ▸ hm)
  have n : Nxt r H r (upd H a o) := ⟨⟨[], by simp⟩, rfl, fun b hb u e => by rw [upd_ne (nu b hb)]; exact e, by rw [hfz]; exact Same.refl _⟩
  refine ⟨n, by rw [List.length_set]; exact S.len, S.nd, S.dj, fun b hb => ?_, fun j b c' e1 e2 => ?_⟩
  · rw [upd_ne (nu b hb)]; exact S.prv b hb
  · by_cases e : k = j
    · subst e
      rw [h] at e1
      cases e1
      have hk : k < M.length := by rw [← S.len]; exact (List.getElem?_eq_some_iff.mp h).1
      rw [List.getElem?_set_self hk] at e2
      cases e2
      exact q
    · rw [List.getElem?_set_ne e] at e2
      have hne : b ≠ a := fun z => e (nd_ix S.nd.1 h (z ▸ e1))
      exact (S.cell j b c' e1 e2).next n (upd_ne hne)
end
section
variable {X : Cx} {E : XK} {pos : Pos} {a b e : Expr} {fa fb fe : FE}
def setC (k : Nat) (i : W) (w : W) (M : Sto) : R Unit := match fr w, intW i, M[k]? with
  | some x, some j, some (.lst l) => match ixN l.length j with
    | some m => .ok () (M.set k (.lst (l.set m x)))
    | none => .bad
  | _, _, _ => .bad
def sSetI (fo fi fe : FE) : FS := fun δ M => (fe δ M).bind fun w M1 => (fo δ M1).bind fun o M2 => (fi δ M2).bind fun i M3 => match o with
  | .loc k => (setC k i w M3).bind fun _ M4 => .ok (.nx δ) M4
  | _ => .bad
theorem rs_seti {tpos : Pos} (ho : RE X E a fa) (hi : RE X E b fb) (he : RE X E e fe)
    (ha : ∀ v, assign (.Subscript a b tpos) X.env v = (do
      let ov ← holding [v] (eval a X.env)
      let iv ← holding [v, ov] (eval b X.env)
      standAt tpos
      holding [v, ov, iv] (setItem ov iv v)
      release [v, ov, iv] []) := by intro _; rfl) (hs : swapsWithSole [.Subscript a b tpos] e pos.line X.env = pure false := by rfl) (hw : swappedStores [.Subscript a b tpos] e X.env = pure none := by rfl)
    (h1 : (assignEach [.Subscript a b tpos] X.env).map (·.2) = [assign (.Subscript a b tpos) X.env] := by rfl) : RS X E (.Assign [.Subscript a b tpos] e pos) (sSetI fa fb fe) :=
  ps_imp (ps_asg he (pg_sub ho hi set_list ha) hs hw h1) fun D σ H ⟨r, δ, M, Ev, S, k⟩ =>
  ⟨r, δ, M, Ev, S, PostS.bind k fun w M1 v H1 r1 _ n1 S1 q1 k1 => ⟨r1, δ, M1, Ev.mono n1, S1, PostS.bind k1 fun o M2 vo H2 r2 _ n2 S2 q2 k2 => ⟨r2, δ, M2, (Ev.mono n1).mono n2, S2, PostS.bind k2 fun i M3 vi H3 r3 _ n3 S3 q3 k3 => by
    cases o with
    | d x => exact k3.elim
    | loc kk =>
      obtain ⟨p, e1, rfl⟩ := q2
      simp only at k3
      unfold setC at k3
      cases ew : fr w with
      | none => rw [ew] at k3; exact k3.elim
      | some x =>
        cases ei : intW i with
        | none => rw [ew, ei] at k3; exact k3.elim
        | some j =>
          rw [ew, ei] at k3
          cases hc2 : M3[kk]? with
          | none => rw [hc2] at k3; exact k3.elim
          | some c =>
            rw [hc2] at k3
            cases c with
            | dct _ _ => exact k3.elim
            | dctT _ _ => exact k3.elim
            | ins _ _ _ => exact k3.elim
            | lsW _ => exact k3.elim
            | lst l =>
              simp only at k3
              cases em : ixN l.length j with
              | none => rw [em] at k3; exact k3.elim
              | some m =>
                rw [em] at k3
                obtain ⟨t, et⟩ := n3.ext
                have e2 : r3.c[kk]? = some p := by rw [et, List.getElem?_append_left (List.getElem?_eq_some_iff.mp e1).1]; exact e1
                obtain ⟨xs, g1, g2⟩ := S3.cell kk p _ e2 hc2
                refine ⟨p, xs, j, m, rfl, int_rw ei q3, g1, by rw [g2.length]; exact em, ?_⟩
                have hfz : fz r3 (upd H3 p (.lst (xs.set m v))) = fz r3 H3 := fz_cell (.inl (List.mem_of_getElem? e2))
                have q5 := RW.fr (RW.mono (n2.trans n3) q1) ew
                obtain ⟨n4, S4⟩ := S3.put (o := .lst (xs.set m v)) (c := .lst (l.set m x)) e2 ⟨xs.set m v, upd_same, by rw [hfz]; exact RpL.set q5 m g2⟩
                exact k3 σ _ r3 n4 S4 ((((Ev.mono n1).mono n2).mono n3).mono n4)⟩⟩⟩
end
end S9
set_option maxHeartbeats 1000000
namespace Z9
open PySem
open PySem.Sem (wp)
def Owd (f0 : Value) : Prop := f0 = Value.none ∨ ∃ T : Nat, f0 = rawInt T
abbrev ZAt (h : Heap) (z TI TO : Addr) (f0 f1 : Value) : Prop := h.get? z = some { cls := .type "zip", dict := none, data := .fields #[f0, f1, .bool false, .ref TI, .ref TO], slots := #[] }
abbrev TupA (h : Heap) (T : Addr) (vs : List Value) : Prop := h.get? T = some { cls := .type "tuple", data := .seq vs.toArray }
structure Src where
  tp : Bool
  it : Addr
  l : Addr
def Src.at_ (q : Src) (h : Heap) (i : Nat) : Prop := if q.tp = true then h.IsTupleIter q.it q.l i else h.IsListIter q.it q.l i
def Src.its (q : Src) (h : Heap) (xs : Array Value) : Prop := if q.tp = true then h.IsTuple q.l xs else h.IsList q.l xs
theorem Src.keep {q : Src} {h h' : Heap} {i : Nat} (x : q.at_ h i) (e : ∀ o, h.get? q.it = some o → h'.get? q.it = some o) : q.at_ h' i := by
  unfold Src.at_ at x ⊢
  split at x
  · rename_i hh; rw [if_pos hh]; obtain ⟨o, a, b⟩ := x; exact ⟨o, e o a, b⟩
  · rename_i hh; rw [if_neg hh]; obtain ⟨o, a, b⟩ := x; exact ⟨o, e o a, b⟩
theorem Src.keepI {q : Src} {h h' : Heap} {xs : Array Value} (x : q.its h xs) (e : ∀ o, h.get? q.l = some o → h'.get? q.l = some o) : q.its h' xs := by
  unfold Src.its at x ⊢
  split at x
  · rename_i hh; rw [if_pos hh]; obtain ⟨o, a, b⟩ := x; exact ⟨o, e o a, b⟩
  · rename_i hh; rw [if_neg hh]; obtain ⟨o, a, b⟩ := x; exact ⟨o, e o a, b⟩
theorem Src.obj {q : Src} {h : Heap} {i : Nat} (x : q.at_ h i) : ∃ o, h.get? q.it = some o ∧ ∀ v, o.data ≠ .cell v := by
  unfold Src.at_ at x
  split at x
  · obtain ⟨o, a, _, b⟩ := x; exact ⟨o, a, fun v e => by rw [b] at e; cases e⟩
  · obtain ⟨o, a, _, b⟩ := x; exact ⟨o, a, fun v e => by rw [b] at e; cases e⟩
section
variable {prog : Program} {w : World} {A : Around} {E : Value → Shared → Prop} {s : Shared}
structure Apart (z TI TO : Addr) (qs : List Src) : Prop where
  TIz : TI ≠ z
  TOz : TO ≠ z
  TITO : TI ≠ TO
  itz : ∀ q ∈ qs, q.it ≠ z
  itTO : ∀ q ∈ qs, q.it ≠ TO
  itTI : ∀ q ∈ qs, q.it ≠ TI
  lz : ∀ q ∈ qs, q.l ≠ z
  lTO : ∀ q ∈ qs, q.l ≠ TO
  lit : ∀ q ∈ qs, ∀ p ∈ qs, q.l ≠ p.it
  nd : (qs.map (·.it)).Nodup
def Kept (z TO : Addr) (qs : List Src) (h h' : Heap) : Prop := ∀ c o, c ≠ z → c ≠ TO → (∀ q ∈ qs, c ≠ q.it) → h.get? c = some o → h'.get? c = some o
structure Upto (z TI TO : Addr) (qs : List Src) (i : Nat) (f0 f1 : Value) (h0 : Heap) (os : List Value) (j : Nat) (h : Heap) : Prop where
  sz : h.objs.size = h0.objs.size
  kept : Kept z TO qs h0 h
  zat : ZAt h z TI TO f0 f1
  to : TupA h TO os
  at_ : ∀ (k : Nat) (q : Src), qs[k]? = some q → q.at_ h (if k < j then i + 1 else i)
structure Next (z TI TO : Addr) (qs : List Src) (i : Nat) (vs : List Value) (h0 h : Heap) : Prop where
  zat : ∃ f0 f1, Owd f0 ∧ ZAt h z TI TO f0 f1
  to : ∃ os, os.length = qs.length ∧ TupA h TO os
  at_ : ∀ (k : Nat) (q : Src), qs[k]? = some q → q.at_ h (i + 1)
  new : TupA h h0.objs.size vs
  sz : h.objs.size = h0.objs.size + 1
  kept : Kept z TO qs h0 h
end
def itObj (tp : Bool) (l : Addr) : Obj := { cls := .type (if tp = true then "tuple_iterator" else "list_iterator"), data := .fields #[.ref l, .int 0 0] }
def SrcIts (h : Heap) (tp : Bool) (l : Addr) (xs : Array Value) : Prop := if tp = true then h.IsTuple l xs else h.IsList l xs
theorem SrcIts.keep {h h' : Heap} {tp : Bool} {l : Addr} {xs : Array Value} (x : SrcIts h tp l xs) (e : ∀ o, h.get? l = some o → h'.get? l = some o) : SrcIts h' tp l xs := Src.keepI (q := ⟨tp, l, l⟩) x e
section
variable {prog : Program} {w : World} {A : Around} {E : Value → Shared → Prop} {s : Shared}
end
abbrev zA (h : Heap) (t : Bool) (a : Addr) : Heap := h.push (itObj t a)
abbrev l2 (h : Heap) (t1 : Bool) (a : Addr) : List Value := [.ref h.objs.size, .ref (zA h t1 a).objs.size]
abbrev l3 (h : Heap) (t1 t2 : Bool) (a b : Addr) : List Value := [.ref h.objs.size, .ref (zA h t1 a).objs.size, .ref (zA (zA h t1 a) t2 b).objs.size]
abbrev g2 (h : Heap) (t1 t2 : Bool) (a b : Addr) : Heap := zA (zA h t1 a) t2 b
abbrev g3 (h : Heap) (t1 t2 t3 : Bool) (a b c : Addr) : Heap := zA (zA (zA h t1 a) t2 b) t3 c
structure Laid (qs : List Src) (h h' : Heap) (z : Addr) : Prop where
  zat : ZAt h' z (h.objs.size + qs.length) (h.objs.size + qs.length + 1) .none (.bool false)
  zis : z = h.objs.size + qs.length + 2
  ti : TupA h' (h.objs.size + qs.length) (qs.map fun q => .ref q.it)
  to : ∃ os, os.length = qs.length ∧ TupA h' (h.objs.size + qs.length + 1) os
  at_ : ∀ (k : Nat) (q : Src), qs[k]? = some q → q.it = h.objs.size + k ∧ q.at_ h' 0
  kept : ∀ c o, h.get? c = some o → h'.get? c = some o
section
variable {prog : Program} {w : World} {A : Around} {E : Value → Shared → Prop} {s : Shared}
end
end Z9
namespace S9
open PySem PySem.Spec PyProof.Rows L2 Z9
section
variable {X : Cx} {pins : List (Addr × Obj)} {σ : L2.St} {H : Hp} {s : Shared}
end
end S9
namespace S9
open PySem PySem.Spec PyProof.Rows L2 Z9
section
variable {X : Cx}
end
structure ZipOf (ls : List (List D)) (l : List D) : Prop where
  item : ∀ (i : Nat) (d : D), l[i]? = some d → ∃ ys : List D, d = D.tup ys ∧ ys.length = ls.length ∧ ∀ (k : Nat) (m : List D), ls[k]? = some m → ∃ y, ys[k]? = some y ∧ m[i]? = some y
  end_ : ∀ (i : Nat), l.length ≤ i → ∃ (k : Nat) (m : List D), ls[k]? = some m ∧ m.length ≤ i
section
variable {X : Cx} {E : XK} {tg e e2 e3 : Expr} {fs : FA} {p pos : Pos}
end
section
variable {prog : Program} {w : World} {A : Around} {E : Value → Shared → Prop} {s : Shared}
theorem collect_tup {t : Addr} {us : List Value} {Q : List Value → Shared → Prop} (ht : s.heap.IsTuple t us.toArray) (hsz : us.length ≤ sizeLine)
    (h : Q us { s with heap := (s.heap.push (seqObj "list" #[] 0)).update s.heap.objs.size (Obj.mapSeq (· ++ us.toArray)) }) : wpAny (model prog w) A (collect (.ref t)) Q E s := by
  obtain ⟨ob, h1, h2, m, h4⟩ := id ht
  unfold collect
  refine wpAny_bind (wpAny_runValue (codeAny_builtin entry_proto_collect' ?_))
  show wpAny _ _ (do again (.builtin "list.__iadd__" ⟨[← newList [], .ref t], []⟩)) _ _ s
  refine wpAny_bind (wpAny_newList (wpAny_pure ⟨Code.quiet_builtin _ (by decide +kernel), codeAny_builtin entry_list_iadd' ?_⟩))
  show wpAny _ _ (Builtin.List.listExtendWith (.ref s.heap.objs.size) (.ref t) (.ref s.heap.objs.size)) _ _ { s with heap := s.heap.push (seqObj "list" #[] 0) }
  unfold Builtin.List.listExtendWith
  have hg : (s.heap.push (seqObj "list" #[] 0)).get? t = some ob := Heap.get?_push_of_some _ h1
  have hn : (s.heap.push (seqObj "list" #[] 0)).get? s.heap.objs.size = some (seqObj "list" #[] 0) := Heap.get?_push_size _ rfl
  refine wpAny_bind (wpAny_typeOf (T := "tuple") ⟨ob, hg, h2⟩ ?_)
  rw [if_pos (by rw [show (Value.type "tuple" == Value.type "tuple") = true from rfl]; simp)]
  refine wpAny_bind (listItems_at hg h4 ?_)
  refine wpAny_bind (listItems_at (xs := #[]) (n := 0) hn rfl ?_)
  rw [if_neg (by simp)]
  refine wpAny_bind (listUpdate_at (xs := #[]) (n := 0) hn rfl ?_ (Nat.zero_le _) (by
    have : (#[] ++ us.toArray).size = us.length := by simp
    rw [this]
    exact Nat.le_succ_of_le hsz))
  refine wpAny_pure ?_
  show wpAny (model prog w) A (load s.heap.objs.size >>= fun o => match o.data with | .seq xs _ => pure xs.toList | _ => unsupported "internal:collect") Q E { s with heap := (s.heap.push (seqObj "list" #[] 0)).update s.heap.objs.size (Obj.mapSeq (· ++ us.toArray)) }
  refine wpAny_bind (wpAny_load (get?_update_seq hn _) ?_)
  have e : ((#[] : Array Value) ++ us.toArray).toList = us := by simp
  show wpAny _ _ (pure ((#[] : Array Value) ++ us.toArray).toList) Q E _
  rw [e]
  exact wpAny_pure h
end
end S9
namespace S9
open PySem PySem.Spec PyProof.Rows L2
structure FnG (P : Program) (w : World) (K : PySem.W.Frag) (mg : Str → Option Value) (base : Heap) (CX : CXT) (k : Nat) (f : Addr) (fd : FuncData) (ps : List Str) (sp : Sp) : Prop where
  len : ∀ vs H Q E, sp vs H Q E → vs.length = ps.length
  go : ∀ (A : Around) (out : List Env) (s : Shared) (H : Hp) (args : Args) (us : List Value) (vs : List V) (Q : VK) (E : XK), A.guards = some [] → Room k A → Env0 P w K mg base A out s H → BindsTo s fd args (ps.zip us) → Vals vs us → sp vs H Q E →
    codeAny (model P w) A (.call (.ref f) args) (CR CX out P w H s Q E) s
section
variable {P : Program} {w : World} {K : PySem.W.Frag} {mg : Str → Option Value} {base : Heap} {CX : CXT} {k : Nat} {f : Addr} {fd : FuncData} {N ps : List Str} {sp sp' : Sp}
theorem FnG.of (F : FnOk P w K mg base CX k f fd ps sp) : FnG P w K mg base CX k f fd ps sp := ⟨F.len, fun A out s H args us vs Q E _ hr => F.run A out s H args us vs Q E hr⟩
theorem FnG.mono {j : Nat} (F : FnG P w K mg base CX j f fd ps sp) (h : j ≤ k) : FnG P w K mg base CX k f fd ps sp := ⟨F.len, fun A out s H args us vs Q E hg hr => F.go A out s H args us vs Q E hg (hr.mono h)⟩
theorem FnG.imp (F : FnG P w K mg base CX k f fd ps sp) (h : ∀ vs H Q E, sp' vs H Q E → sp vs H Q E) : FnG P w K mg base CX k f fd ps sp' :=
  ⟨fun vs H Q E q => F.len vs H Q E (h _ _ _ _ q), fun A out s H args us vs Q E hg hr he hb hv hs => F.go A out s H args us vs Q E hg hr he hb hv (h _ _ _ _ hs)⟩
theorem fng_of {name qual : Str} {params : Arguments} {bd : List Stmt} {scope : Scope} {dV kV doc pm cdv ct oc : Value} {an od : Option Addr} {osl : Array (Option Value)} (lk : K.lookup f = some ⟨oc, od, .func (PySem.W.fnOf name qual params bd scope dV kV doc pm an cdv ct), osl⟩)
    (hc : PySem.W.codeIn K cdv qual = true) (S : FnScope N ps scope) (len : ∀ vs H Q E, sp vs H Q E → vs.length = ps.length)
    (bdy : ∀ (A : Around) (out : List Env) (s : Shared) (H : Hp) (vs : List V) (Q : VK) (E : XK), A.guards = some [] → Room k (A.deeper (envOfC qual scope s.heap.objs.size f cdv)) → sp vs H Q E →
      ∃ t, PSs (cxOf CX P w K mg base N qual scope f cdv A out s H E) bd t ∧ t { nx := fun _ H' => Q .non H', rt := Q } (L2.start N vs) H) : FnG P w K mg base CX (k + 1) f (PySem.W.fnOf name qual params bd scope dV kV doc pm an cdv ct) ps sp := by
  refine ⟨len, fun A out s H args us vs Q E hg hr z hb r hsp => ?_⟩
  have hl := len _ _ _ _ hsp
  have kin : K.In s.heap := z.mod.kin.keeps fun b o e => (z.bs b o e).1
  have nol : s.heap.NoLimit := z.mod.nolimit.keeps fun b o e => (z.bs b o e).1
  have kinds : ∀ y ∈ ps.zip us, scope.names.lookup y.1 = some .local ∨ (scope.names.lookup y.1 = some .cell ∧ ((cellsFrom (s.heap.objs.size + 1) scope.names []).lookup y.1).isSome = true) := by
    rintro ⟨n, v⟩ hy
    exact (S.par n (List.of_mem_zip hy).1).imp id fun q => ⟨q, PySem.W.cellsFrom_some _ _ _ (.inl q)⟩
  refine codeAny_call_function hr.depth (kin _ _ lk) rfl S.co S.gen rfl (PySem.W.codeRec_of kin hc) (hb _ _ _ _ (wpAny_newFunctionEnv_cells S.kind kinds fun env e1 s1 x => ?_))
  subst e1
  refine ⟨nol.keeps x.toInCall.keep, codeAny_func ?_⟩
  obtain ⟨t, ht, hq⟩ := bdy A out s H vs Q E hg (hr.deeper _) hsp
  have J0 : Inv (cxOf CX P w K mg base N qual scope f cdv A out s H E) [] (L2.start N vs) H s1 := inv_start S hr.hd z hl r x
  refine wpAny_mono (ht.run [] s1 (L2.start N vs) H _ J0 hq) (fun fl s2 hs => ?_) fun _ _ h => h
  match fl, hs with
  | .ret u, ⟨v, σ2, H2, J, rv, q⟩ => exact ⟨v, H2, J.os, J.bare, J.base, J.hok, rv, q⟩
  | .next, ⟨σ2, H2, J, q⟩ => exact ⟨.non, H2, J.os, J.bare, J.base, J.hok, rfl, q⟩
  | .brk, ⟨_, _, _, q⟩ => exact False.elim q
  | .cont, ⟨_, _, _, q⟩ => exact False.elim q
theorem gokN {x qual : Str} {st : Stmt} (F : Fun K x qual st f fd) (S : FnScope N ps (defScope st)) (len : ∀ vs H Q E, sp vs H Q E → vs.length = ps.length)
    (bdy : ∀ (cdv : Value) (A : Around) (out : List Env) (s : Shared) (H : Hp) (vs : List V) (Q : VK) (E : XK), A.guards = some [] → Room k (A.deeper (envOfC qual (defScope st) s.heap.objs.size f cdv)) → sp vs H Q E →
      ∃ t, PSs (cxOf CX P w K mg base N qual (defScope st) f cdv A out s H E) (defBody st) t ∧ t { nx := fun _ H' => Q .non H', rt := Q } (L2.start N vs) H) : FnG P w K mg base CX (k + 1) f fd ps sp := by
  obtain ⟨oc, od, kV, doc, pm, an, cdv, ct, osl, rfl, lk, hc⟩ := F.ex
  exact fng_of lk hc S len (bdy cdv)
theorem g_body {x qual : Str} {st : Stmt} {g : FS} (F : Fun K x qual st f fd) (S : FnScope N ps (defScope st))
    (bdy : ∀ (cdv : Value) (A : Around) (out : List Env) (s : Shared) (H : Hp) (E : XK), A.guards = some [] → Room k (A.deeper (envOfC qual (defScope st) s.heap.objs.size f cdv)) →
      RSs (cxOf CX0 P w K mg base N qual (defScope st) f cdv A out s H E).nox E0 (defBody st) g) : FnG P w K mg base CX0 (k + 1) f fd ps (sp0 K ps.length (body N.length g)) :=
  gokN F S (fun vs H Q E ⟨r, M, ws, hl, q, _⟩ => (RWL.length q).trans hl) fun cdv A out s H vs Q E hg hr ⟨r, M, ws, hl, q, T, h⟩ => ⟨_, pss_lockEnd (bdy cdv A out s H E hg hr).nox, r, _, M, env_start q, T, fin_post h T.len⟩
theorem gn_body {x qual : Str} {st : Stmt} {g : FS} (F : Fun K x qual st f fd) (S : FnScope N ps (defScope st))
    (bdy : ∀ (cdv : Value) (A : Around) (out : List Env) (s : Shared) (H : Hp) (E : XK), A.guards = some [] → Room k (A.deeper (envOfC qual (defScope st) s.heap.objs.size f cdv)) →
      RSs (cxOf CX0 P w K mg base N qual (defScope st) f cdv A out s H E).nox E0 (defBody st) g) : FnG P w K mg base CX0 (k + 1) f fd ps (spN K ps.length (bodyN N.length g)) :=
  gokN F S (fun vs H Q E ⟨r, M, ws, hl, q, _⟩ => (RWL.length q).trans hl) fun cdv A out s H vs Q E hg hr ⟨r, M, ws, hl, q, T, h⟩ => ⟨_, (bdy cdv A out s H E hg hr).nox, r, _, M, env_start q, T, finN_post h T.len⟩
end
section
variable {X : Cx} {CX : CXT} {k : Nat} {f : Addr} {fd : FuncData} {ps : List Str} {sp : Sp} {E E' : XK} {x : Str} {p pos : Pos} {e : Expr} {es : List Expr} {t : TA} {fs : FA} {n : Nat} {φ : FF} {ψ : List W → Sto → R (List D)}
theorem run_g {pins : List (Addr × Obj)} {σ : L2.St} {H : Hp} {s : Shared} {Q : VK} {us : List Value} {vs : List V} (F : FnG X.prog X.w X.K X.mg X.base CX k f fd ps sp) (hg : X.A.guards = some []) (hr : Room k X.A) (hb : Binds X.K fd ps []) (hx : Passes CX X E)
    (I : Inv X pins σ H s) (r : Vals vs us) (h : sp vs H Q E) : wpAny (model X.prog X.w) X.A (call (.ref f) us) (EP X pins σ Q) X.xe s := by
  have hl : us.length = ps.length := r.length.symm.trans (F.len _ _ _ _ h)
  have hb2 := hb s us I.kIn (by rw [List.append_nil]; exact hl)
  rw [List.append_nil] at hb2
  refine wpAny_call (codeAny_mono (F.go X.A X.stack s H ⟨us, []⟩ us vs Q E hg hr I.env0 hb2 r h) fun z s2 hq => ?_)
  match z, hq with
  | .error e, hq => exact hx pins σ H s e s2 I hq
  | .ok (.ret u), hq => exact I.after hq
  | .ok .next, hq => exact False.elim hq
  | .ok .brk, hq => exact False.elim hq
  | .ok .cont, hq => exact False.elim hq
theorem pe_g (F : FnG X.prog X.w X.K X.mg X.base CX k f fd ps sp) (gd : X.A.guards = some []) (hr : Room k X.A) (hg : Gl X x) (hm : X.mg x = some (.ref f)) (hk : PySem.W.keepIn X.K (.ref f) = true) (hb : Binds X.K fd ps []) (hx : Passes CX X E)
    (ha : PA X (e :: es) t) (hdb : (x == ("__debug__" : Str)) = false) (he : starEach (e :: es) X.env = (false, eval e X.env) :: starEach es X.env) (hpl : (backTo pos (starEach es X.env)).any (·.1) = false) :
    PE X (.Call (.Name x p) (e :: es) [] pos) (tCall sp [] E t) :=
  ⟨fun pins s σ H Q I h => wpAny_Call_Name_kw (ld_glob I hg hm (PySem.W.callWith_K (h₀ := X.base) I.ok.mod.kin hk (thn (ha.run pos pins s σ H _ I h) fun us s1 ⟨vs, H1, I1, r, q⟩ => ⟨I1.kIn, run_g F gd hr hb hx I1 r (by have q : sp (vs ++ []) H1 Q E := q; rw [List.append_nil] at q; exact q)⟩) he hpl) hdb)⟩
theorem re_g (F : FnG X.prog X.w X.K X.mg X.base CX k f fd ps (sp0 X.K n φ)) (gd : X.A.guards = some []) (hr : Room k X.A) (hg : Gl X x) (hm : X.mg x = some (.ref f)) (hk : PySem.W.keepIn X.K (.ref f) = true) (hb : Binds X.K fd ps []) (hx : Passes CX X E')
    (ha : RA X E (e :: es) fs) (hdb : (x == ("__debug__" : Str)) = false := by decide) (he : starEach (e :: es) X.env = (false, eval e X.env) :: starEach es X.env := by rfl) (hpl : (backTo pos (starEach es X.env)).any (·.1) = false := by rfl) :
    RE X E (.Call (.Name x p) (e :: es) [] pos) (fCall0 n φ fs) := pe_imp (pe_g F gd hr hg hm hk hb hx ha hdb he hpl) call0_imp
theorem rn_g (F : FnG X.prog X.w X.K X.mg X.base CX k f fd ps (spN X.K n ψ)) (gd : X.A.guards = some []) (hr : Room k X.A) (hg : Gl X x) (hm : X.mg x = some (.ref f)) (hk : PySem.W.keepIn X.K (.ref f) = true) (hb : Binds X.K fd ps []) (hx : Passes CX X E')
    (ha : RA X E (e :: es) fs) (hdb : (x == ("__debug__" : Str)) = false := by decide) (he : starEach (e :: es) X.env = (false, eval e X.env) :: starEach es X.env := by rfl) (hpl : (backTo pos (starEach es X.env)).any (·.1) = false := by rfl) :
    RN X E (.Call (.Name x p) (e :: es) [] pos) (fCallN n ψ fs) := pe_imp (pe_g F gd hr hg hm hk hb hx ha hdb he hpl) callN_imp
end
def reprOk (p : PyData) : Bool := p.showable && (!p.hasDict && (decide (p.depth ≤ 60) && decide (p.shown.length ≤ 1000000)))
def rRepr (K : PySem.W.Frag) : List V → Hp → VK → Prop := fun vs H Q => ∃ v p, vs = [v] ∧ L2.Dp K H v p ∧ reprOk p = true ∧ Q (.str p.shown) H
theorem reprOk_of {p : PyData} (h : reprOk p = true) : p.showable = true ∧ p.hasDict = false ∧ p.depth ≤ 60 ∧ p.shown.length ≤ 1000000 := by
  unfold reprOk at h
  simp only [Bool.and_eq_true, Bool.not_eq_true', decide_eq_true_eq] at h
  exact ⟨h.1, h.2.1, h.2.2.1, h.2.2.2⟩
theorem cr_repr {X : Cx} (gd : X.A.guards = some []) (hu : X.A.units + 64 < cLine) : CallR X (.builtin "repr") (rRepr X.K) := by
  intro pins s σ H vs us Q I r ⟨v, p, e, hd, ho, q⟩
  subst e
  obtain ⟨u, rfl, rv⟩ : ∃ u, us = [u] ∧ RelV v u := by
    cases r with
    | cons a b => cases b; exact ⟨_, rfl, a⟩
  obtain ⟨h1, h2, h3, h4⟩ := reprOk_of ho
  have h5 : p.shown.length ≤ sizeLine := Nat.le_trans h4 (by decide)
  obtain ⟨as, rd⟩ := L2.Dp.reads I p v u hd rv
  cases hd with
  | non => cases rv; exact PySem.P.repr_of_none ⟨.str _, H, I.kept fun _ _ h => h, ⟨_, rfl⟩, q⟩
  | bl b => cases rv; exact PySem.P.repr_of_bool ⟨.str _, H, I.kept fun _ _ h => h, ⟨_, rfl⟩, q⟩
  | int i =>
    obtain ⟨t, rfl⟩ := rv
    exact PySem.P.repr_of_int (by simpa only [PyData.showable, decide_eq_true_eq] using h1) ⟨.str _, H, I.kept fun _ _ h => h, ⟨_, rfl⟩, q⟩
  | str x =>
    obtain ⟨t, rfl⟩ := rv
    exact PySem.P.repr_of_str ⟨.str _, H, I.kept fun _ _ h => h, ⟨_, rfl⟩, q⟩ h5
  | lst _ _ =>
    cases rv
    exact repr_of_reads' rd h1 (PyData.noDict_hsm h2) gd (by omega) (fun _ _ h => h) (fun h' u tk hk => ⟨.str _, H, I.kept hk, ⟨_, rfl⟩, q⟩) h5
  | tup _ _ =>
    cases rv
    exact repr_of_reads' rd h1 (PyData.noDict_hsm h2) gd (by omega) (fun _ _ h => h) (fun h' u tk hk => ⟨.str _, H, I.kept hk, ⟨_, rfl⟩, q⟩) h5
def gRepr : List D → Option D
  | [d] => d.toP.bind fun p => if reprOk p = true then some (.str p.shown) else none
  | _ => none
theorem cd_repr {K : PySem.W.Frag} : CallD K (rRepr K) gRepr := fun r M H vs ds d S h e Q q => by
  unfold gRepr at e
  split at e
  · simp only [Option.bind_eq_some_iff] at e
    obtain ⟨p, e1, e2⟩ := e
    split at e2
    · rename_i ho
      cases e2
      obtain ⟨v, rfl, h1⟩ := rdl1 h
      exact ⟨v, p, rfl, RD.dp h1 e1, ho, q _ H (Same.refl _) rp_str⟩
    · cases e2
  · cases e
end S9
namespace S9
open PySem PySem.Spec PyProof.Rows L2
abbrev Told (h : Heap) (os : OsState) (r : Result) (s' : Shared) : Prop := r = .ok (.ret (.bool true)) ∧ OldK h s'.heap ∧ s'.os = os ∧ AllBare s'.gens
section
variable {P : Program} {w : World} {K : PySem.W.Frag} {mg mb : Str → Option Value} {k : Nat} {fa a : Addr} {fd : FuncData} {x : Str} {sp : Sp} {s : Shared} {vs : List Value} {ns : List Int}
theorem told_at (kin : K.In s.heap) (nsg : s.heap.Ns mainGlobals mg) (nsb : s.heap.Ns builtinsNs mb) (bb : ∀ y : Str, y ≠ "__name__" → mb y = bootBuiltins y) (nol : s.heap.NoLimit) (gen : s.gens = #[])
    (obj : s.heap.get? a = some { cls := .type "list", data := .seq vs.toArray }) (room : Room k callerA) (F : ∀ base : Heap, K.In base → base.Ns mainGlobals mg → FnG P w K mg base CX0 k fa fd [x] sp) (bnd : ∀ (s : Shared) (u : Value), BindsTo s fd ⟨[u], []⟩ [(x, u)])
    (H : Hp) (only : Only H) (hok : HOk P w H s.heap) (just : ∀ b, H b ≠ none → b = a) (nok : H a ≠ none → K.lookup a = none) (h : sp [.ref a] H (fun v _ => v = .bl true) fun _ _ _ => False) :
    codeAny (model P w) callerA (.call (.ref fa) ⟨[.ref a], []⟩) (Told s.heap s.os) s := by
  have hid : ∀ {b : Addr} {o : Obj}, s.heap.get? b = some o → H b = none → (hidT s.heap H).get? b = some o := fun e n => hidT_get e n
  have off : ∀ {b : Addr} {o : Obj}, (∀ u, H b = some u → b = a → False) → s.heap.get? b = some o → (hidT s.heap H).get? b = some o := fun {b o} g e => hid e (by
    cases q : H b with
    | none => rfl
    | some u => exact (g u q (just b (by rw [q]; simp))).elim)
  have ns' : ∀ {b : Addr} {m : Str → Option Value}, s.heap.Ns b m → (hidT s.heap H).Ns b m := fun {b m} ⟨o, es, ep, e, d, r⟩ => ⟨o, es, ep, off (fun u q eb => by
    subst eb
    rw [obj] at e
    cases e
    exact nomatch d) e, d, r⟩
  have kin' : K.In (hidT s.heap H) := fun b o e => off (fun u q eb => by
    subst eb
    rw [nok (by rw [q]; simp)] at e
    cases e) (kin b o e)
  have modl : Mod K mg (hidT s.heap H) := ⟨kin', ns' nsg, ⟨mb, ns' nsb, bb⟩, let ⟨mc, h1, h2⟩ := nol; ⟨mc, ns' h1, h2⟩⟩
  have env : Env0 P w K mg (hidT s.heap H) callerA [] s H := ⟨rfl, modl, fun _ _ e => of_hidT e, Nat.le_of_eq (hidT_size _ _), trivial, fun b hb => absurd (show b ∈ ([] : List Addr) from hb) List.not_mem_nil, hok, .of_eq gen⟩
  refine codeAny_mono ((F _ kin' (ns' nsg)).go callerA [] s H ⟨[.ref a], []⟩ [.ref a] [.ref a] _ _ rfl room env (bnd s (.ref a)) (.cons rfl .nil) h) fun r s2 hr => ?_
  match r, hr with
  | .error e, hr => exact False.elim hr
  | .ok .next, hr => exact False.elim hr
  | .ok .brk, hr => exact False.elim hr
  | .ok .cont, hr => exact False.elim hr
  | .ok (.ret u), ⟨v, H2, os, bare, un, hok2, rv, q⟩ =>
    have q : v = .bl true := q
    subst q
    obtain rfl : u = Value.bool true := rv
    refine ⟨rfl, OldK.of_keep fun b o e => ?_, os, bare⟩
    rcases only b with z | ⟨ob, xs, z⟩
    · exact un.keep b o e z (fun y => nomatch y) (by simp)
    · obtain ⟨e2, _⟩ := hok2 b _ (un.frzs b ob _ z)
      obtain ⟨e1, _⟩ := hok b _ z
      rw [e] at e1
      cases e1
      exact e2
theorem told (kin : K.In s.heap) (nsg : s.heap.Ns mainGlobals mg) (nsb : s.heap.Ns builtinsNs mb) (bb : ∀ y : Str, y ≠ "__name__" → mb y = bootBuiltins y) (nol : s.heap.NoLimit) (gen : s.gens = #[])
    (obj : s.heap.get? a = some { cls := .type "list", data := .seq vs.toArray }) (hin : IntsAre vs ns) (short : ns.length ≤ sizeLine) (room : Room k callerA) (F : ∀ base : Heap, K.In base → base.Ns mainGlobals mg → FnG P w K mg base CX0 k fa fd [x] sp)
    (bnd : ∀ (s : Shared) (u : Value), BindsTo s fd ⟨[u], []⟩ [(x, u)]) (h : ∀ H : Hp, Only H → SqL K H a (ns.map V.int) → sp [.ref a] H (fun v _ => v = .bl true) fun _ _ _ => False) : codeAny (model P w) callerA (.call (.ref fa) ⟨[.ref a], []⟩) (Told s.heap s.os) s := by
  have rv := vals_ints hin
  cases hk : K.lookup a with
  | some o =>
    have e := kin a o hk
    rw [obj] at e
    cases e
    have only : Only fun _ => none := fun _ => .inl rfl
    refine told_at kin nsg nsb bb nol gen obj room F bnd (fun _ => none) only (fun b u z => nomatch z) (fun b z => absurd rfl z) (fun z => absurd rfl z) (h _ only (.inr ⟨_, vs.toArray, _, hk, rfl, rfl, rfl, ?_, by simpa using rv⟩))
    rw [List.size_toArray, hin.length]
    exact short
  | none =>
    have at_ : (fun b => if b = a then some (HO.frz { cls := .type "list", data := .seq vs.toArray } (.lst (ns.map V.int))) else none : Hp) a = some (.frz { cls := .type "list", data := .seq vs.toArray } (.lst (ns.map V.int))) := if_pos rfl
    have else_ : ∀ b, b ≠ a → (fun b => if b = a then some (HO.frz { cls := .type "list", data := .seq vs.toArray } (.lst (ns.map V.int))) else none : Hp) b = none := fun b n => if_neg n
    revert at_ else_
    generalize (fun b => if b = a then some (HO.frz { cls := .type "list", data := .seq vs.toArray } (.lst (ns.map V.int))) else none : Hp) = H
    intro at_ else_
    have only : Only H := fun b => if e : b = a then .inr ⟨_, _, e ▸ at_⟩ else .inl (else_ b e)
    refine told_at kin nsg nsb bb nol gen obj room F bnd H only (fun b u z => ?_) (fun b z => Decidable.by_contra fun n => z (else_ b n)) (fun _ => hk) (h _ only (.inl (.inr ⟨_, at_⟩)))
    by_cases e : b = a
    · subst e
      rw [at_] at z
      cases z
      exact ⟨obj, by rw [List.length_map]; exact short, vs, _, rv, obj⟩
    · rw [else_ b e] at z
      cases z
end
theorem walk_g {l : PySem.W.OpenLaw} {n k : Nat} {q : Program} {loose : List Str} {XP : (Str → Option Value) → Heap → Prop} {YP : World → Heap → Prop} {d : DefRec} {K : Params → PySem.W.Frag} {sp : PySem.W.Frag → Sp} {x : Str}
    (hn : l.most = some n) (hn2 : n ≤ sizeLine) (hdf : d.params.defaults = []) (hr : Room k callerA) (hY : ∀ (w : World) (h : Heap), YP w h → (K w.params).In h)
    (F : ∀ (w : World) (mg : Str → Option Value) (fa : Addr) (h : Heap), (K w.params).In h → h.Ns mainGlobals mg → mg d.name = some (.ref fa) →
      ∃ fd : FuncData, (∀ (s : Shared) (u : Value), BindsTo s fd ⟨[u], []⟩ [(x, u)]) ∧ ∀ base : Heap, (K w.params).In base → base.Ns mainGlobals mg → FnG l.prog w (K w.params) mg base CX0 k fa fd [x] (sp (K w.params)))
    (hsp : ∀ (K : PySem.W.Frag) (H : Hp) (a : Addr) (ns : List Int), ns.length ≤ n → (∀ k ∈ ns, Builtin.Int.intBits k ≤ 1048576) → Only H → SqL K H a (ns.map V.int) → sp K [.ref a] H (fun v _ => v = .bl true) fun _ _ _ => False) :
    PySem.W.WalkO q loose XP YP l.row.toRowW d [] (fun f vs => PySem.call f vs) := by
  refine Att.attach_callB hn hdf fun w s₀ s₁ mg mb fa o pm cd doc a vs ns G Y _ _ _ hmg obj hin hlen bits gen => ?_
  obtain ⟨fd, hb, hF⟩ := F w mg fa _ (hY w _ Y) G.T.g hmg
  exact told (hY w _ Y) G.T.g G.T.b G.T.builtins G.T.nolimit gen obj hin (Nat.le_trans hlen hn2) hr hF hb fun H hO hS => hsp _ H a ns hlen bits hO hS
theorem told_of {φ : FF} (h : ∀ ns : List Int, ns.length ≤ 63 → (∀ k ∈ ns, Builtin.Int.intBits k ≤ 1048576) → ∃ M, φ [.d (.frl (ns.map D.int))] [] = .ok (.d (.bl true)) M) (K : PySem.W.Frag) (H : Hp) (a : Addr) (ns : List Int) (h1 : ns.length ≤ 63)
    (h2 : ∀ k ∈ ns, Builtin.Int.intBits k ≤ 1048576) (_ : Only H) (h3 : SqL K H a (ns.map V.int)) : sp0 K 1 φ [.ref a] H (fun v _ => v = .bl true) fun _ _ _ => False := by
  obtain ⟨M, e⟩ := h ns h1 h2
  have hz : fz ⟨[], []⟩ H = H := by
    funext b
    exact fz_out (fun z => by rcases z with z | z <;> cases z)
  refine ⟨⟨[], []⟩, [], [.d (.frl (ns.map D.int))], rfl, RWL.cons ?_ RWL.nil, ⟨rfl, ⟨List.nodup_nil, List.nodup_nil⟩, fun _ z => absurd z List.not_mem_nil, fun _ z => absurd z List.not_mem_nil, fun k b c z => by simp at z⟩, ?_⟩
  · show Rp K (fz ⟨[], []⟩ H) (.frl (ns.map D.int)) (.ref a)
    rw [hz]
    simp only [Rp]
    exact ⟨a, _, rfl, h3, RpL.of_ints⟩
  · rw [e]
    intro v H' r' _ _ q
    simpa only [relW, RW, Rp] using q
end S9
namespace S9
open PySem PySem.Spec PyProof.Rows L2
section
variable {X : Cx} {E : XK} {a b c : Expr} {fs : FA} {i j l : Nat} {x y z : Str} {px py pz pt pos : Pos} {kt : Nat} {k2 : Nat} {pt2 : Pos}
theorem rs_par (hc : X.calm = true) (hN : X.N.Nodup) (hi : X.N[i]? = some x) (hj : X.N[j]? = some y) (hij : i ≠ j) (hx : X.env.scope.names.lookup x = some .local) (hy : X.env.scope.names.lookup y = some .local) (ha : RA X E [a, b] fs)
    (hw : swappedStores [.Tuple [.Name x px, .Name y py] kt pt] (.Tuple [a, b] k2 pt2) X.env = pure (some [x, y]) := by rfl) (hs : swapsWithSole [.Tuple [.Name x px, .Name y py] kt pt] (.Tuple [a, b] k2 pt2) pos.line X.env = pure false := by rfl) :
    RS X E (.Assign [.Tuple [.Name x px, .Name y py] kt pt] (.Tuple [a, b] k2 pt2) pos) (sPar i j fs) := ps_imp (ps_par hc hN hi hj hij hx hy ha hw hs) fun D σ H ⟨r, δ, M, Ev, S, k⟩ =>
  ⟨r, δ, M, Ev, S, PostS.bind k fun ws M1 vs H1 r1 _ n1 S1 q1 k1 => by
    match ws, k1, q1 with
    | [], k1, _ => exact k1.elim
    | [_], k1, _ => exact k1.elim
    | _ :: _ :: _ :: _, k1, _ => exact k1.elim
    | [v, w], k1, q1 =>
      match vs, q1 with
      | [], q1 => cases q1
      | [_], ⟨_, _, e, _, q⟩ => cases e; cases q
      | _ :: _ :: _ :: _, ⟨_, _, e, _, ⟨_, _, e2, _, q⟩⟩ => cases e; cases e2; obtain ⟨_, _, e3, _⟩ := q; cases e3
      | [v1, w1], ⟨_, _, e, h1, ⟨_, _, e2, h2, _⟩⟩ =>
        cases e
        cases e2
        exact ⟨v1, w1, rfl, k1 _ H1 r1 Nxt.refl S1 (((Ev.mono n1).set h1).set h2)⟩⟩
end
end S9
set_option maxHeartbeats 1000000
namespace S9
open PySem PySem.Spec PyProof.Rows L2 Z9
section
variable {prog : Program} {w : World} {A : Around} {E : Value → Shared → Prop} {s : Shared}
end
end S9
namespace S9
open PySem PySem.Spec PyProof.Rows L2 Z9
section
variable {X : Cx} {E : XK} {tg e : Expr} {fa : FE} {p pos tpos : Pos} {elts : List Expr} {kk : Nat}
end
section
variable {X : Cx} {E : XK} {pos : Pos} {K : PySem.W.Frag}
theorem re_ty {x : Str} {T : String} (hg : Gl X x) (hm : X.mg x = none) (hv : bootBuiltins x = some (.type T)) (hn : x ≠ "__name__" := by decide) (hd : (x == ("__debug__" : Str)) = false := by decide) : RE X E (.Name x pos) (fC (.ty T)) :=
  re_c (v := .ty T) (pe_bltn hg hm hv rfl hn hd) fun _ => by simp only [Rp]
def tyD : D → Option String
  | .non => some "NoneType"
  | .bl _ => some "bool"
  | .int _ => some "int"
  | .str _ => some "str"
  | .tup _ => some "tuple"
  | .ktp _ => some "tuple"
  | .lst _ => some "list"
  | .frl _ => some "list"
  | .dct _ _ => some "dict"
  | _ => none
theorem tyx_t {H : Hp} {a : Addr} {xs : List V} (h : SqT K H a xs) : TyX K H (.ref a) (.type "tuple") := by
  rcases h with (h | ⟨o, h⟩) | ⟨o, its, n, h1, h2, _⟩
  · exact .base (.tup h)
  · exact .fTuple h
  · exact .kTuple h1 h2
theorem tyx_l {H : Hp} {a : Addr} {xs : List V} (h : SqL K H a xs) : TyX K H (.ref a) (.type "list") := by
  rcases h with (h | ⟨o, h⟩) | ⟨o, its, n, h1, h2, _⟩
  · exact .base (.lst h)
  · exact .base (.frz h)
  · exact .kList h1 h2
theorem RD.tyx {r : Rg} {H : Hp} {d : D} {v : V} {T : String} (h : RD K r H v d) (e : tyD d = some T) : TyX K H v (.type T) := by
  cases d with
  | non => cases e; simp only [RD, Rp] at h; subst h; exact .base .non
  | bl b => cases e; simp only [RD, Rp] at h; subst h; exact .base (.bl b)
  | int b => cases e; simp only [RD, Rp] at h; subst h; exact .base (.int b)
  | str b => cases e; simp only [RD, Rp] at h; subst h; exact .base (.str b)
  | tup l =>
    cases e
    simp only [RD, Rp] at h
    obtain ⟨a, xs, rfl, h1, _⟩ := h
    exact tyx_t (same_p fz_sub h1)
  | ktp l =>
    cases e
    simp only [RD, Rp] at h
    obtain ⟨a, xs, rfl, h1, _⟩ := h
    exact tyx_t (same_t fz_sub h1)
  | lst l =>
    cases e
    obtain ⟨a, xs, rfl, h1, _⟩ := h
    exact .base (.lst h1)
  | frl l =>
    cases e
    simp only [RD, Rp] at h
    obtain ⟨a, xs, rfl, h1, _⟩ := h
    exact tyx_l (fz_sub.seq h1)
  | dct ks l =>
    cases e
    obtain ⟨a, kvs, rfl, h1, _⟩ := h
    rcases h1 with h1 | ⟨o, h1⟩
    · exact .base (.dK h1)
    · exact .fDict h1
  | dctT ks l => cases e
  | ins _ _ _ => cases e
  | ty _ => cases e
  | cls _ => cases e
def gIsi : List D → Option D
  | [d, .ty n] => (tyD d).bind fun m => (kitB m n).map D.bl
  | _ => none
theorem cd_isi : CallD K (rIsi K) gIsi := fun r M H vs ds d S h e Q q => by
  unfold gIsi at e
  split at e
  · simp only [Option.bind_eq_some_iff, Option.map_eq_some_iff] at e
    obtain ⟨m, e1, b, e2, rfl⟩ := e
    obtain ⟨v, u, rfl, h1, h2⟩ := rdl2 h
    simp only [RD, Rp] at h2
    subst h2
    exact ⟨v, _, _, _, b, rfl, .ty _, RD.tyx h1 e1, kit_ty e2, q _ H (Same.refl _) rp_bl⟩
  · cases e
def isN (d : D) : Bool := match d with
  | .non => true
  | _ => false
theorem isN_v {r : Rg} {H : Hp} {d : D} {v : V} (h : RD K r H v d) : decide (v = .non) = isN d := by
  cases d with
  | non => simp only [RD, Rp] at h; subst h; rfl
  | bl b => simp only [RD, Rp] at h; subst h; rfl
  | int b => simp only [RD, Rp] at h; subst h; rfl
  | str b => simp only [RD, Rp] at h; subst h; rfl
  | tup l => simp only [RD, Rp] at h; obtain ⟨a, xs, rfl, _⟩ := h; rfl
  | ktp l => simp only [RD, Rp] at h; obtain ⟨a, xs, rfl, _⟩ := h; rfl
  | lst l => obtain ⟨a, xs, rfl, _⟩ := h; rfl
  | frl l => simp only [RD, Rp] at h; obtain ⟨a, xs, rfl, _⟩ := h; rfl
  | dct ks l => obtain ⟨a, xs, rfl, _⟩ := h; rfl
  | dctT ks l => obtain ⟨a, xs, rfl, _⟩ := h; rfl
  | ins _ _ _ => simp only [RD, Rp] at h; obtain ⟨a, dx, fs, rfl, _⟩ := h; rfl
  | ty _ => simp only [RD, Rp] at h; subst h; rfl
  | cls _ => simp only [RD, Rp] at h; subst h; rfl
def gIsN : D → D → Option D
  | a, .non => some (.bl (isN a))
  | _, _ => none
theorem od_isN : OpD K (fun x y H Q => y = .non ∧ Q (.bl (decide (x = .non))) H) gIsN := fun r M H x y d1 d2 d S h1 h2 e Q q => by
  unfold gIsN at e
  split at e
  · cases e
    simp only [RD, Rp] at h2
    exact ⟨h2, by rw [isN_v h1]; exact q _ H (Same.refl _) rp_bl⟩
  · cases e
def flatD : D → Option V
  | .non => some .non
  | .bl b => some (.bl b)
  | .int i => some (.int i)
  | .str x => some (.str x)
  | _ => none
def flatsD : List D → Option (List V)
  | [] => some []
  | d :: l => (flatD d).bind fun v => (flatsD l).map fun vs => v :: vs
theorem flat_rd {r : Rg} {H : Hp} {d : D} {v u : V} (h : RD K r H v d) (e : flatD d = some u) : v = u ∧ flatV u = true := by
  cases d <;> simp only [flatD, Option.some.injEq] at e <;> first | cases e | skip
  all_goals simp only [RD, Rp] at h
  all_goals exact ⟨h, rfl⟩
theorem flat_rp {H : Hp} {d : D} {v u : V} (h : Rp K H d v) (e : flatD d = some u) : v = u ∧ flatV u = true := by
  cases d <;> simp only [flatD, Option.some.injEq] at e <;> first | cases e | skip
  all_goals simp only [Rp] at h
  all_goals exact ⟨h, rfl⟩
theorem flats_rp {H : Hp} : ∀ {l : List D} {vs us : List V}, RpL K H l vs → flatsD l = some us → vs = us ∧ us.all flatV = true
  | [], vs, us, h, e => by simp only [RpL, flatsD, Option.some.injEq] at h e; subst h; subst e; exact ⟨rfl, rfl⟩
  | d :: l, vs, us, h, e => by
    simp only [RpL, flatsD, Option.bind_eq_some_iff, Option.map_eq_some_iff] at h e
    obtain ⟨x, t, rfl, h1, h2⟩ := h
    obtain ⟨v, e1, ws, e2, rfl⟩ := e
    obtain ⟨rfl, f1⟩ := flat_rp h1 e1
    obtain ⟨rfl, f2⟩ := flats_rp h2 e2
    exact ⟨rfl, by simp [f1, f2]⟩
def gInB (neg : Bool) (a b : D) : Option D := (itsD b).bind fun l => (flatsD l).bind fun vs => (flatD a).map fun v => .bl (if neg then !inV v vs else inV v vs)
theorem od_in (neg : Bool) : OpD K (rIn K neg) (gInB neg) := fun r M H x y d1 d2 d S h1 h2 e Q q => by
  unfold gInB at e
  simp only [Option.bind_eq_some_iff, Option.map_eq_some_iff] at e
  obtain ⟨l, e1, vs, e2, v, e3, rfl⟩ := e
  obtain ⟨a, xs, rfl, g1, g2⟩ := RD.seq h2 e1
  obtain ⟨rfl, f2⟩ := flats_rp g2 e2
  obtain ⟨rfl, f1⟩ := flat_rd h1 e3
  exact ⟨a, xs, rfl, g1, f1, f2, q _ H (Same.refl _) rp_bl⟩
end
end S9
namespace S9
open PySem PySem.Spec PyProof.Rows L2
section
variable {K : PySem.W.Frag} {r : Rg} {H : Hp}
end
section
variable {X : Cx} {E : XK} {pos pos' : Pos} {o e : Expr} {fo fe : FE} {C : Addr} {f : Str}
end
abbrev FH := D → DEnv → Sto → R DEnv
def PostH (K : PySem.W.Frag) (r : Rg) (H : Hp) : R DEnv → (L2.St → Hp → Prop) → Prop
  | .ok δ M', Q => ∀ σ' H' r', Nxt r H r' H' → Sta K r' M' H' → EnvR K r' H' σ' δ → Q σ' H'
  | _, _ => False
abbrev FHs := List D → DEnv → Sto → R DEnv
theorem PostH.nxt {K : PySem.W.Frag} {r r1 : Rg} {H H1 : Hp} {x : R DEnv} {Q : L2.St → Hp → Prop} (n : Nxt r H r1 H1) (h : PostH K r H x Q) : PostH K r1 H1 x Q := by
  cases x with
  | bad => exact h
  | ex e M => exact h
  | ok δ M => exact fun σ' H' r' n' S E => h σ' H' r' (n.trans n') S E
section
variable {X : Cx} {pos : Pos} {h : FH} {hs : FHs} {o : Expr} {fo : FE} {C : Addr} {f : Str}
variable {E : XK} {a : Expr} {fa : FE}
end
section
variable {K : PySem.W.Frag} {r r3 : Rg} {M M2 : Sto} {H H3 : Hp}
end
section
variable {X : Cx} {CX : CXT} {k n : Nat} {C f : Addr} {fd : FuncData} {ps : List Str} {sp : Sp} {E E' : XK} {x : Str} {p pos : Pos} {e : Expr} {es : List Expr} {t : TA} {fs : FA} {φ : FF} {dvs : List V} {ds : List Value}
structure Dfl (K : PySem.W.Frag) (dvs : List V) (dw : List D) : Prop where
  rp : ∀ H, RpL K H dw dvs
end
end S9
namespace S9
open PySem PySem.Spec PyProof.Rows L2
section
variable {prog : Program} {w : World} {A : Around} {E : Value → Shared → Prop} {s : Shared}
end
section
variable {X : Cx} {E : XK} {a b : Expr} {fa fb : FE} {te ts : TE} {p2 pos : Pos}
def revD : D → D → Option D
  | .tup l, .int i => if i = -1 then some (.tup l.reverse) else none
  | _, _ => none
end
section
variable {P : Program} {w : World} {K : PySem.W.Frag} {mg : Str → Option Value} {base : Heap} {CX : CXT} {k : Nat} {f : Addr} {fd : FuncData} {N ps : List Str} {x qual : Str} {st : Stmt} {dvs : List V} {kws : List (Str × V)}
end
section
variable {X : Cx} {E : XK} {pos : Pos} {x : Str}
theorem re_globI {i : Int} (hg : Gl X x) (h : ∃ t, X.mg x = some (.int i t)) (hd : (x == ("__debug__" : Str)) = false := by decide) : RE X E (.Name x pos) (fC (.int i)) := by
  obtain ⟨t, h⟩ := h
  exact re_glob (v := .int i) hg h ⟨t, rfl⟩ (fun _ => rp_int) hd
end
def spA (K : PySem.W.Frag) (n : Nat) (Φ : (Nat → Addr) → FF) : Sp := fun vs H Q E => ∀ κ, sp0 K n (Φ κ) vs H Q E
theorem g_all {P : Program} {w : World} {K : PySem.W.Frag} {mg : Str → Option Value} {base : Heap} {k n : Nat} {f : Addr} {fd : FuncData} {ps : List Str} {Φ : (Nat → Addr) → FF} {κ : Nat → Addr} (F : FnG P w K mg base CX0 k f fd ps (sp0 K n (Φ κ))) : FnG P w K mg base CX0 k f fd ps (spA K n Φ) := F.imp fun _ _ _ _ h => h κ
end S9
namespace S9
open PySem PySem.Spec PyProof.Rows L2
section
variable {X : Cx} {E : XK} {a b c : Expr} {fs : FA} {i j l : Nat} {x y z : Str} {px py pz pt pos : Pos} {kt k2 : Nat} {pt2 : Pos}
end
section
variable {X : Cx} {E : XK} {a e : Expr} {fa fe : FE}
end
end S9
namespace S9
open PySem PySem.Spec PyProof.Rows L2
@[simp] theorem R.of_none {A : Type} {M : Sto} : (R.of M (none : Option A)) = .bad := rfl
@[simp] theorem R.noEx_ok {A : Type} {a : A} {M : Sto} : (R.ok a M).noEx = .ok a M := rfl
@[simp] theorem rd_d {M : Sto} {x : D} : rd M (.d x) = some x := rfl
@[simp] theorem fr_d {x : D} : fr (.d x) = some x := rfl
theorem rd_lst {M : Sto} {k : Nat} {l : List D} (h : M[k]? = some (.lst l)) : rd M (.loc k) = some (.lst l) := by unfold rd; simp only [h]
section
variable {δ : DEnv} {M M1 M2 M3 : Sto} {fa fb fc : FE} {w w1 w2 : W} {d d1 d2 d3 : D}
theorem v_var {i : Nat} (h : δ[i]? = some (some w)) : fVar i δ M = .ok w M := by unfold fVar; simp only [h]
theorem v_op {g : D → D → Option D} (ha : fa δ M = .ok w1 M1) (hb : fb δ M1 = .ok w2 M2) (h1 : rd M2 w1 = some d1) (h2 : rd M2 w2 = some d2) (hg : g d1 d2 = some d) : fOp g fa fb δ M = .ok (.d d) M2 := by
  simp only [fOp, f2, ha, hb, h1, h2, hg, R.bind_ok, Option.bind_some, Option.map_some, R.of_some]
end
@[simp] theorem gSub_int {i j : Int} : gSub (.int i) (.int j) = some (.int (i - j)) := rfl
@[simp] theorem gAdd_int {i j : Int} : gAdd (.int i) (.int j) = some (.int (i + j)) := rfl
theorem gAdd_tup {a b : List D} (h : a.length + b.length ≤ 100000) : gAdd (.tup a) (.tup b) = some (.tup (a ++ b)) := by
  simp [gAdd, gI, gAddS, gAddT, h]
theorem gMul_int {i j : Int} (h : i.natAbs.log2 + j.natAbs.log2 < 1000000) : gMul (.int i) (.int j) = some (.int (i * j)) := by simp [gMul, gIc, cMul, h]
theorem gMod_int {i j : Int} (h : 0 < j) : gMod (.int i) (.int j) = some (.int (i % j)) := by simp [gMod, gIc, cPos, h]
theorem gDiv_int {i j : Int} (h : 0 < j) (h2 : j.natAbs.log2 < 9000) : gDiv (.int i) (.int j) = some (.int (i / j)) := by simp [gDiv, gIc, cDiv, h, h2]
theorem gPow_int {i j : Int} (h : 0 ≤ j) (h2 : (Builtin.Int.intBits i : Int) * j ≤ 2 ^ 27) : gPow (.int i) (.int j) = some (.int (i ^ j.toNat)) := by simp only [gPow, gIc, cPow, h, h2, decide_true, Bool.and_self]
@[simp] theorem gLt_int {i j : Int} : gLt (.int i) (.int j) = some (.bl (decide (i < j))) := rfl
@[simp] theorem gLe_int {i j : Int} : gLe (.int i) (.int j) = some (.bl (decide (i ≤ j))) := rfl
@[simp] theorem gGt_int {i j : Int} : gGt (.int i) (.int j) = some (.bl (decide (j < i))) := rfl
@[simp] theorem gGe_int {i j : Int} : gGe (.int i) (.int j) = some (.bl (decide (j ≤ i))) := rfl
@[simp] theorem gEq_int {i j : Int} : gEq (.int i) (.int j) = some (.bl (decide (i = j))) := rfl
@[simp] theorem gNe_int {i j : Int} : gNe (.int i) (.int j) = some (.bl (!decide (i = j))) := rfl
@[simp] theorem gEq_bl {i j : Bool} : gEq (.bl i) (.bl j) = some (.bl (decide (i = j))) := rfl
@[simp] theorem gNe_bl {i j : Bool} : gNe (.bl i) (.bl j) = some (.bl (!decide (i = j))) := rfl
@[simp] theorem gEq_str {i j : Str} : gEq (.str i) (.str j) = some (.bl (decide (i = j))) := rfl
@[simp] theorem gNe_str {i j : Str} : gNe (.str i) (.str j) = some (.bl (!decide (i = j))) := rfl
@[simp] theorem tru_bl {b : Bool} : tru (.d (.bl b)) = some b := rfl
theorem log2_lt {n k : Nat} (hk : 0 < k) (h : n < 2 ^ k) : n.log2 < k := by
  by_cases e : n = 0
  · subst e; simpa using hk
  · exact (Nat.log2_lt e).mpr h
theorem log2_lt' {i : Int} {k : Nat} (hk : 0 < k) (h1 : -(2 : Int) ^ k < i) (h2 : i < (2 : Int) ^ k) : i.natAbs.log2 < k := log2_lt hk (by
  have e : ((2 ^ k : Nat) : Int) = (2 : Int) ^ k := by simp
  omega)
theorem bits_le {i : Int} {k : Nat} (hk : 0 < k) (h1 : -(2 : Int) ^ k < i) (h2 : i < (2 : Int) ^ k) : Builtin.Int.intBits i ≤ k := by
  unfold Builtin.Int.intBits
  split
  · exact Nat.zero_le _
  · exact log2_lt' hk h1 h2
theorem powOk {i : Int} {a j : Nat} (ha : 0 < a) (haj : a * j ≤ 100000000) (h1 : -(2 : Int) ^ a < i) (h2 : i < (2 : Int) ^ a) : gPow (.int i) (.int (j : Nat)) = some (.int (i ^ j)) := by
  have hb := bits_le ha h1 h2
  have e := gPow_int (i := i) (j := (j : Nat)) (by omega) (by
    have h3 : Builtin.Int.intBits i * j ≤ a * j := Nat.mul_le_mul_right j hb
    have h4 : (Builtin.Int.intBits i : Int) * (j : Nat) = ((Builtin.Int.intBits i * j : Nat) : Int) := (Int.natCast_mul _ _).symm
    rw [h4]
    have : ((Builtin.Int.intBits i * j : Nat) : Int) ≤ ((100000000 : Nat) : Int) := Int.ofNat_le.mpr (Nat.le_trans h3 haj)
    have e2 : (2 : Int) ^ 27 = 134217728 := by decide
    omega)
  rw [e]
  simp
end S9
namespace S9
open PySem PySem.Spec PyProof.Rows L2
def Pot (c : Nat) (l : List D) : Prop := ∃ g m n : Int, l = [.int g, .int m, .int n] ∧ 0 ≤ g ∧ 0 ≤ m ∧ m < 4611686018427387904 ∧ 0 ≤ n ∧ n ≤ (c : Int)
theorem Pot.mono {c d : Nat} {l : List D} (h : Pot c l) (e : c ≤ d) : Pot d l := by
  obtain ⟨g, m, n, rfl, h1, h2, h3, h4, h5⟩ := h
  exact ⟨g, m, n, rfl, h1, h2, h3, h4, by omega⟩
end S9
namespace S9
open PySem PySem.Spec PyProof.Rows L2
end S9
namespace S9
open PySem PySem.Spec PyProof.Rows L2
structure Shw (B k : Nat) (p : PyData) : Prop where
  sh : p.showable = true
  nd : p.hasDict = false
  dp : p.depth ≤ k
  ln : p.shown.length ≤ B
theorem Shw.ok {B k : Nat} {p : PyData} (h : Shw B k p) (h1 : B ≤ 1000000) (h2 : k ≤ 60) : reprOk p = true := by
  unfold reprOk
  simp only [h.sh, h.nd, Bool.not_false, Bool.true_and, Bool.and_eq_true, decide_eq_true_eq]
  exact ⟨Nat.le_trans h.dp h2, Nat.le_trans h.ln h1⟩
theorem Shw.mono {B k B' k' : Nat} {p : PyData} (h : Shw B k p) (h1 : B ≤ B') (h2 : k ≤ k') : Shw B' k' p := ⟨h.sh, h.nd, Nat.le_trans h.dp h2, Nat.le_trans h.ln h1⟩
theorem shw_bl {b : Bool} : Shw 5 0 (.bool b) := ⟨by simp only [PyData.showable], by simp only [PyData.hasDict], by simp only [PyData.depth]; exact Nat.le_refl _, by cases b <;> decide⟩
theorem shw_non : Shw 5 0 .none := ⟨by simp only [PyData.showable], by simp only [PyData.hasDict], by simp only [PyData.depth]; exact Nat.le_refl _, by decide⟩
theorem shw_int {i : Int} {m : Nat} (hm : 0 < m) (hm2 : m < 1920) (h : i.natAbs.log2 < m) : Shw (m + 1) 0 (.int i) := ⟨by simp only [PyData.showable, decide_eq_true_eq]; omega, by simp only [PyData.hasDict], by simp only [PyData.depth]; exact Nat.le_refl _, by
  have e := int_text_length_le hm h
  simp only [PyData.shown]
  rw [PySem.ofString_length]
  exact e⟩
theorem gRepr_of {d : D} {p : PyData} {B k : Nat} (h : d.toP = some p) (r : Shw B k p) (h1 : B ≤ 1000000) (h2 : k ≤ 60) : gRepr [d] = some (.str p.shown) := by
  unfold gRepr
  simp only [h, Option.bind_some, r.ok h1 h2, if_true]
theorem shw_small {i : Int} (h1 : -(2 : Int) ^ 300 < i) (h2 : i < 2 ^ 300) : Shw 301 0 (.int i) := shw_int (by decide) (by decide) (log2_lt' (by decide) h1 h2)
end S9
namespace S9
open PySem PySem.Spec PyProof.Rows L2
def Flat (M : Sto) : Prop := ∀ c ∈ M, ∃ l, c = Cell.lst l
theorem Flat.all {M : Sto} (h : Flat M) (n : Nat) : M.all (Cell.clo n) = true := List.all_eq_true.mpr fun c hc => by
  obtain ⟨l, rfl⟩ := h c hc
  rfl
theorem Flat.set {M : Sto} (h : Flat M) (k : Nat) (l : List D) : Flat (M.set k (.lst l)) := fun c hc => by
  rcases List.mem_or_eq_of_mem_set hc with h1 | h1
  · exact h c h1
  · exact ⟨l, h1⟩
theorem Flat.add {M : Sto} (h : Flat M) (l : List D) : Flat (M ++ [.lst l]) := fun c hc => by
  rcases List.mem_append.mp hc with h1 | h1
  · exact h c h1
  · exact ⟨l, List.mem_singleton.mp h1⟩
def Adv (M0 : Sto) (k c : Nat) (ext M : Sto) : Prop := ∃ l, M = M0.set k (.lst l) ++ ext ∧ Pot c l
theorem Adv.mono {M0 M ext : Sto} {k c d : Nat} (h : Adv M0 k c ext M) (e : c ≤ d) : Adv M0 k d ext M := by
  obtain ⟨l, h1, h2⟩ := h
  exact ⟨l, h1, h2.mono e⟩
theorem Adv.len {M0 M ext : Sto} {k c : Nat} (h : Adv M0 k c ext M) : M.length = M0.length + ext.length := by
  obtain ⟨l, rfl, _⟩ := h
  rw [List.length_append, List.length_set]
theorem Adv.more {M0 M ext x : Sto} {k c : Nat} (h : Adv M0 k c ext M) : Adv M0 k c (ext ++ x) (M ++ x) := by
  obtain ⟨l, rfl, h2⟩ := h
  exact ⟨l, by rw [List.append_assoc], h2⟩
theorem fin_ext {M1 ext : Sto} {n : Nat} {x : D} (hf : Flat M1) (hn : M1.length = n) : fin n (.ok (.rt (.d x)) (M1 ++ ext)) = .ok (.d x) M1 := by
  subst hn
  simp only [fin, fin1, cutM]
  by_cases h : (M1 ++ ext).length ≤ M1.length
  · have : ext = [] := by
      rw [List.length_append] at h
      exact List.eq_nil_of_length_eq_zero (by omega)
    subst this
    simp
  · rw [if_neg h, List.take_left, if_pos (hf.all _)]
theorem finN_loc {M1 : Sto} {n : Nat} {l : List D} (hf : Flat M1) (hn : M1.length = n) : finN n (.ok (.rt (.loc n)) (M1 ++ [.lst l])) = .ok l M1 := by
  subst hn
  simp only [finN, cutM]
  rw [if_neg (by simp), List.take_left, if_pos (hf.all _)]
  simp
theorem Adv.fin {M0 M ext : Sto} {k c n : Nat} {x : D} (h : Adv M0 k c ext M) (hf : Flat M0) (hn : M0.length = n) : ∃ M', S9.fin n (.ok (.rt (.d x)) M) = .ok (.d x) M' ∧ Adv M0 k c [] M' := by
  obtain ⟨l, rfl, hp⟩ := h
  exact ⟨_, fin_ext (hf.set k l) (by rw [List.length_set]; exact hn), l, by rw [List.append_nil], hp⟩
theorem gLen_lst {l : List D} : gLen [.lst l] = some (.int l.length) := rfl
theorem gLen_frl {l : List D} : gLen [.frl l] = some (.int l.length) := rfl
theorem Adv.new {M : Sto} {l : List D} {c : Nat} (h : Pot c l) : Adv (M ++ [.lst l]) M.length c [] (M ++ [.lst l]) := by
  refine ⟨l, ?_, h⟩
  rw [List.set_append_right _ _ (Nat.le_refl _), Nat.sub_self, List.append_nil]
  rfl
end S9
namespace S9
open PySem PySem.Spec PyProof.Rows L2
def keyD : D → Option Key
  | .int i => some (.inl i)
  | .str s => some (.inr s)
  | _ => none
def keysD : List D → Option (List Key)
  | [] => some []
  | d :: l => (keyD d).bind fun k => (keysD l).map fun ks => k :: ks
section
variable {K : PySem.W.Frag} {r : Rg} {M : Sto} {H H' : Hp}
variable {κ : Type} [DecidableEq κ]
end
section
variable {X : Cx} {E : XK} {pos : Pos} {a b c : Expr} {fa fb fc : FE}
end
end S9
namespace S9
open PySem PySem.Spec PyProof.Rows L2
end S9
namespace S9
open PySem PySem.Spec PyProof.Rows L2
def lexLe : List Int → List Int → Bool
  | [], _ => true
  | _ :: _, [] => false
  | x :: xs, y :: ys => if x < y then true else if x = y then lexLe xs ys else false
end S9
namespace S9
open PySem PySem.Spec PyProof.Rows L2
section
variable {X : Cx}
variable {e : Expr} {te : L2.St → Hp → (Int → Int → Nat → Hp → Prop) → Prop}
variable {E : XK}
variable {a b c : Expr} {fs : FA} {p p2 pos pos2 : Pos}
def flD : D → Option V
  | .int i => some (.int i)
  | .bl b => some (.bl b)
  | .str x => some (.str x)
  | .non => some .non
  | _ => none
end
end S9
namespace S9
open PySem PySem.Spec PyProof.Rows L2
section
variable {X : Cx} {CX : CXT} {k : Nat} {f C : Addr} {fd : FuncData} {ps : List Str} {E E' : XK} {x : Str} {p pos : Pos} {a b e : Expr} {fa fb : FE} {n : Nat} {φ : FF}
end
end S9
namespace N60
open PySem PySem.Spec PyProof.Rows L2 S9
noncomputable def g__law_pot : FS :=
  (sSeq (sSet 2 (fIf (fB (fOp gLt (fVar 1) (fCB gLen (fCons (fVar 0) fNil)))) (fOp gIx (fVar 0) (fVar 1)) (fOp gAdd (fOp gMul (fC (.int 7)) (fVar 1)) (fC (.int 3)))))
    (sSeq (sSet 3 (fOp gMul (fOp gMod (fCB gAbs (fCons (fVar 2) fNil)) (fOp gPow (fOp gPow (fC (.int 10)) (fC (.int 60))) (fC (.int 5)))) (fCB gInt (fCons (fOp gGe (fCB gAbs (fCons (fVar 2) fNil)) (fOp gPow (fC (.int 10)) (fC (.int 18)))) fNil))))
    (sRet (fNew (fLst (fCons (fVar 3) (fCons (fOp gMod (fOp gMul (fOp gAdd (fOp gAdd (fOp gMod (fVar 2) (fC (.int 2305843009213693951))) (fOp gMul (fOp gMul (fC (.int 7919)) (fVar 1)) (fVar 1))) (fC (.int 17))) (fC (.int 48271))) (fC (.int 2305843009213693921))) (fCons (fC (.int 0)) fNil))))))))
noncomputable def fn__law_pot : List W → Sto → R (List D) := bodyN 4 g__law_pot
noncomputable def g__law_take : FS :=
  (sSeq (sIf (fB (fOp gGt (fOp gIx (fVar 0) (fC (.int 0))) (fC (.int 0))))
      (sSeq (sSet 2 (fOp gMod (fOp gIx (fVar 0) (fC (.int 0))) (fVar 1)))
      (sSeq (sSetI (fVar 0) (fC (.int 0)) (fOp gDiv (fOp gIx (fVar 0) (fC (.int 0))) (fVar 1)))
      (sRet (fVar 2))))
      sNil)
    (sSeq (sSetI (fVar 0) (fC (.int 2)) (fOp gAdd (fOp gIx (fVar 0) (fC (.int 2))) (fC (.int 1))))
    (sSeq (sSet 3 (fOp gIx (fFro (fLst (fCons (fC (.int 2305843009213693951)) (fCons (fC (.int 999999999989)) (fCons (fC (.int 1000000000039)) (fCons (fC (.int 67280421310721)) fNil)))))) (fOp gMod (fOp gIx (fVar 0) (fC (.int 2))) (fC (.int 4)))))
    (sSeq (sSet 4 (fOp gMod (fOp gAdd (fOp gAdd (fOp gIx (fVar 0) (fC (.int 1))) (fOp gMul (fOp gMul (fC (.int 7919)) (fOp gIx (fVar 0) (fC (.int 2)))) (fOp gIx (fVar 0) (fC (.int 2))))) (fOp gMul (fC (.int 65537)) (fOp gIx (fVar 0) (fC (.int 2))))) (fVar 3)))
    (sSeq (sSet 4 (fOp gMod (fOp gPow (fVar 4) (fC (.int 5))) (fVar 3)))
    (sRet (fOp gMod (fOp gAdd (fOp gDiv (fVar 4) (fC (.int 4099))) (fOp gMul (fOp gDiv (fVar 4) (fC (.int 1000003))) (fC (.int 7)))) (fVar 1))))))))
noncomputable def f__law_take : FF := body 5 g__law_take
noncomputable def g__law_of : FS :=
  (sRet (fOp gIx (fVar 1) (fCall0 2 f__law_take (fCons (fVar 0) (fCons (fCB gLen (fCons (fVar 1) fNil)) fNil)))))
noncomputable def f__law_of : FF := body 2 g__law_of
noncomputable def g_is_whole : FS :=
  (sRet (fAnd (fCB gIsi (fCons (fVar 0) (fCons (fC (.ty "int")) fNil))) (fNot (fCB gIsi (fCons (fVar 0) (fCons (fC (.ty "bool")) fNil))))))
noncomputable def f_is_whole : FF := body 1 g_is_whole
end N60
namespace S9
open PySem PySem.Spec PyProof.Rows L2
section
variable {K : PySem.W.Frag}
end
section
variable {X : Cx} {E : XK} {pos : Pos} {a b : Expr} {es : List Expr} {fa fb : FE} {fs : FA}
theorem RWL.at {K : PySem.W.Frag} {r : Rg} {H : Hp} : ∀ {vs : List V} {ws : List W} {j : Nat} {w : W}, RWL K r H vs ws → ws[j]? = some w → ∃ v, vs[j]? = some v ∧ RW K r H v w
  | [], ws, j, w, h, e => by cases (show ws = [] from h); simp at e
  | v :: vs, ws, j, w, h, e => by
    obtain ⟨w1, ws', rfl, h1, h2⟩ := h
    cases j with
    | zero => simp at e; subst e; exact ⟨v, rfl, h1⟩
    | succ j => exact RWL.at (vs := vs) (ws := ws') (j := j) h2 (by simpa using e)
end
end S9
namespace S9
open PySem PySem.Spec PyProof.Rows L2
section
variable {X : Cx} {E : XK} {pos : Pos} {a e1 e2 : Expr} {fa : FE} {fs : FA}
end
section
variable {X : Cx} {E : XK} {pos : Pos}
end
end S9
namespace S9
open PySem PySem.Spec PyProof.Rows L2
section
variable {X : Cx} {E : XK} {pos pos2 : Pos}
end
end S9
namespace S9
open PySem PySem.Spec PyProof.Rows L2
section
variable {prog : Program} {w : World} {A : Around} {E : Value → Shared → Prop} {s : Shared} {l : Addr} {its : List Value} {ns : List Int} {Q : Value → Shared → Prop} {d : Value}
end
section
variable {X : Cx} {E : XK} {x : Str} {p pos kp : Pos} {a b : Expr} {fa fb : FE} {id : String} {dn : Str}
end
end S9
namespace S9
open PySem PySem.Spec PyProof.Rows L2
section
variable {K : PySem.W.Frag}
def strI (i : Int) : Str := toString i
def gStr : List D → Option D
  | [.int i] => if i.natAbs.log2 < 1900 then some (.str (strI i)) else none
  | [.str x] => some (.str x)
  | _ => none
end
section
variable {X : Cx} {E : XK} {a b c d : Expr} {fs : FA} {i j l o : Nat} {x y z u : Str} {px py pz pu pt pos : Pos} {kt k2 : Nat} {pt2 : Pos}
end
end S9
namespace S9
open PySem PySem.Spec PyProof.Rows L2
section
variable {X : Cx} {E : XK} {pos : Pos} {a b : Expr} {fa fb : FE}
end
end S9
namespace S9
open PySem PySem.Spec PyProof.Rows L2
structure PrT (H : Hp) (p : Addr) (kb : Addr) (kv : List Key × V) : Prop where
  pair : H p = some (.tup [.ref kb, kv.2])
  key : H kb = some (.tup (kv.1.map kV))
section
variable {X : Cx} {E : XK} {pos p : Pos} {x : Str} {a b : Expr} {fa fb : FE}
end
end S9
namespace S9
open PySem PySem.Spec PyProof.Rows L2
section
variable {X : Cx} {pos : Pos} {ts : List Nat} {gs : FGs}
end
end S9
namespace S9
open PySem PySem.Spec PyProof.Rows L2
section
variable {X : Cx} {E : XK} {pos : Pos}
theorem re_dic0 : RE X E (.Dict [] [] pos) (fC (.dct [] [])) := pe_imp (pe_lockEnd pe_dnewK) fun σ H Q ⟨r, δ, M, Ev, S, k⟩ => fun p hp => by
  have s0 : Same H (upd H p (.dK [])) := same_up hp
  refine .inr ⟨p, .dK [], upd_same, trivial, fun od => ?_⟩
  have e : upd (upd H p (.dK [])) p (.frz od (.dK [])) = upd H p (.frz od (.dK [])) := by
    funext a
    by_cases z : a = p
    · rw [z, upd_same, upd_same]
    · rw [upd_ne z, upd_ne z, upd_ne z]
  rw [e]
  refine k (.ref p) _ r (Nxt.more (same_up hp)) (S.more (same_up hp)) ?_
  show Rp X.K (fz r (upd H p (.frz od (.dK [])))) (.dct [] []) (.ref p)
  simp only [Rp]
  refine ⟨p, [], od, rfl, ?_, rfl, RpL.nil⟩
  rw [fz_out (S.fresh hp)]
  exact upd_same
end
end S9
namespace S9
open PySem PySem.Spec PyProof.Rows L2
section
variable {K : PySem.W.Frag} {r : Rg} {M : Sto} {H : Hp}
end
section
variable {X : Cx} {E : XK} {tg a : Expr} {fa : FE}
end
section
variable {X : Cx} {E : XK} {a : Expr} {fa : FE} {apos cpos : Pos}
end
section
variable {X : Cx} {E : XK} {e : Expr} {fa : FE} {p p2 pos pos2 : Pos}
end
section
variable {P : Program} {w : World} {K : PySem.W.Frag} {mg : Str → Option Value} {base : Heap} {k : Nat} {f : Addr} {fd : FuncData} {N ps : List Str}
end
section
variable {X : Cx} {CX : CXT} {k n : Nat} {C f : Addr} {fd : FuncData} {ps : List Str} {E E' : XK} {x : Str} {p pos : Pos} {e : Expr} {es : List Expr} {fs : FA} {φ : FF}
end
section
variable {X : Cx} {CX : CXT} {k n : Nat} {C f : Addr} {fd : FuncData} {ps : List Str} {sp : Sp} {E E' : XK} {m : Str} {apos pos : Pos} {o e : Expr} {es : List Expr} {t : TA} {ta : TE} {fo : FE} {fs : FA} {φ : FF}
end
end S9
namespace S9
open PySem PySem.Spec PyProof.Rows L2
end S9
namespace S9
open PySem PySem.Spec PyProof.Rows L2
section
variable {X : Cx}
end
theorem R.assoc {A B C : Type} {x : R A} {k : A → Sto → R B} {h : B → Sto → R C} : (x.bind k).bind h = x.bind fun a M => (k a M).bind h := by
  cases x <;> rfl
section
variable {X : Cx} {E : XK} {kx vx tg iter : Expr} {ifs : List Expr} {scope : Scope} {own : List (Str × Nat)} {pos : Pos} {fi : FI} {ts : List Nat} {g : FG} {ft : FT} {fk fv : FE} {t : Bool}
end
end S9
namespace S9
open PySem PySem.Spec PyProof.Rows L2 Z9
section
variable {X : Cx} {A : Around} {pins : List (Addr × Obj)} {σ : L2.St} {z TI TO S : Addr} {q1 q2 : Src} {res : Value} {xs ys : List V} {H0 : Hp} {R : Result → Shared → Prop}
end
section
variable {prog : Program} {w : World} {A : Around} {E : Value → Shared → Prop} {s : Shared} {r : Addr}
end
section
variable {X : Cx} {e1 e2 : Expr} {ta : TA} {p p2 pos pos2 : Pos}
end
section
variable {X : Cx} {E : XK} {e1 e2 : Expr} {fs : FA} {p p2 pos pos2 : Pos}
end
end S9
namespace S9
open PySem PySem.Spec PyProof.Rows L2
section
variable {X : Cx} {E : XK} {x : Str} {p pos kp : Pos} {a b : Expr} {fa fb : FE} {id : String} {dn : Str}
end
end S9
namespace S9
open PySem PySem.Spec PyProof.Rows L2
end S9
namespace S9
open PySem PySem.Spec PyProof.Rows L2
structure Shn (prog : Program) (w : World) (h : Heap) (u : Value) (d : PyData) : Prop where
  rd : ∃ l, Reads h u d l
  rk : ∃ c, ReadAtMost h d.depth c ∧ ReprK prog w c h d.depth u d.shown
  sh : ∀ p, u = .ref p → ∃ T x, ShowsBy prog w h p d T x
structure Shns (prog : Program) (w : World) (h : Heap) (us : List Value) (ds : List PyData) : Prop where
  rd : ∃ l, ReadsAll h us ds l
  rk : ∃ c, ReadAtMost h (PyData.depthAll ds) c ∧ ReprAllK prog w c h (PyData.depthAll ds) us (PyData.shownAll ds)
section
variable {prog : Program} {w : World} {h : Heap} {p : Addr} {o : Obj} {n : Nat}
theorem shns_nil : Shns prog w h [] [] := ⟨⟨_, .nil⟩, [], (fun _ z => nomatch z), by simp only [PyData.shownAll]; exact .nil⟩
theorem shns_cons {u : Value} {us : List Value} {d : PyData} {ds : List PyData} (a : Shn prog w h u d) (b : Shns prog w h us ds) : Shns prog w h (u :: us) (d :: ds) := by
  obtain ⟨_, r1⟩ := a.rd
  obtain ⟨_, r2⟩ := b.rd
  obtain ⟨c1, m1, k1⟩ := a.rk
  obtain ⟨c2, m2, k2⟩ := b.rk
  have e1 : d.depth ≤ PyData.depthAll (d :: ds) := by simp only [PyData.depthAll]; exact Nat.le_max_left _ _
  have e2 : PyData.depthAll ds ≤ PyData.depthAll (d :: ds) := by simp only [PyData.depthAll]; exact Nat.le_max_right _ _
  refine ⟨⟨_, .cons r1 r2⟩, c1 ++ c2, (m1.mono e1).append (m2.mono e2), ?_⟩
  have q1 := (k1.more (as' := c1 ++ c2) fun x hx => List.mem_append_left _ hx).level_le e1
  have q2 := k2.more_le (as' := c1 ++ c2) (fun x hx => List.mem_append_right _ hx) e2
  simp only [PyData.shownAll]
  exact .cons q1 q2
theorem shn_lst {vs : Array Value} {xs : List PyData} (h1 : h.get? p = some o) (h2 : o.cls = .type "list") (h3 : o.data = .seq vs n) (a : Shns prog w h vs.toList xs) (z : (PyData.list xs).shown.length ≤ sizeLine) : Shn prog w h (.ref p) (.list xs) := by
  obtain ⟨_, r⟩ := a.rd
  obtain ⟨c, m, k⟩ := a.rk
  have r0 : Reads h (.ref p) (.list xs) _ := .list h1 h2 h3 r
  have z' : (listText (PyData.shownAll xs)).length ≤ sizeLine := by simpa only [PyData.shown] using z
  have nm : p ∉ c := not_mem_of_deeper r0 (by simp only [PyData.depth]; omega) m
  refine ⟨⟨_, r0⟩, ⟨p :: c, ReadAtMost.cons r0 (by simp only [PyData.depth]; omega) m, ?_⟩, fun q e => ?_⟩
  · simp only [PyData.depth, PyData.shown]
    obtain ⟨l⟩ := vs
    cases l with
    | nil =>
      have r' : ReadsAll h [] xs _ := r
      cases r'
      simp only [PyData.shownAll, listText_nil]
      exact ReprK.listEmpty h1 h2 h3
    | cons x l => exact ReprK.list h1 h2 h3 nm (by simpa using k.length_eq) fun i y e => k.item i y (by simpa using e)
  · cases e
    refine ⟨"list", "list.__repr__", F.slot_list_repr.toG, F.slot_list_str, F.slot_list_format, fun s g => ⟨o, g _ _ h1, h2⟩, fun A E s Q hg hu g hQ => ?_⟩
    simp only [PyData.depth] at hu
    simp only [PyData.shown] at hQ
    obtain ⟨l⟩ := vs
    cases l with
    | nil =>
      have r' : ReadsAll h [] xs _ := r
      cases r'
      simp only [PyData.shownAll, listText_nil] at hQ
      exact call_list_repr_empty ⟨o, g _ _ h1, h2⟩ (g _ _ h1) h3 (hQ s.heap _ _ fun _ _ e => e)
    | cons x l => exact call_list_reprK h1 h2 h3 nm (by simpa using k.length_eq) (fun i y e => k.item i y (by simpa using e)) hg (fun b _ => Clear.nil b) hu g hQ z'
theorem shn_tup {vs : Array Value} {xs : List PyData} (h1 : h.get? p = some o) (h2 : o.cls = .type "tuple") (h3 : o.data = .seq vs n) (a : Shns prog w h vs.toList xs) (z : (PyData.tuple xs).shown.length ≤ sizeLine) : Shn prog w h (.ref p) (.tuple xs) := by
  obtain ⟨_, r⟩ := a.rd
  obtain ⟨c, m, k⟩ := a.rk
  have r0 : Reads h (.ref p) (.tuple xs) _ := .tuple h1 h2 h3 r
  have z' : (tupleText (PyData.shownAll xs)).length ≤ sizeLine := by simpa only [PyData.shown] using z
  have nm : p ∉ c := not_mem_of_deeper r0 (by simp only [PyData.depth]; omega) m
  refine ⟨⟨_, r0⟩, ⟨p :: c, ReadAtMost.cons r0 (by simp only [PyData.depth]; omega) m, ?_⟩, fun q e => ?_⟩
  · simp only [PyData.depth, PyData.shown]
    exact ReprK.tuple h1 h2 h3 nm k
  · cases e
    refine ⟨"tuple", "tuple.__repr__", F.slot_tuple_repr, F.slot_tuple_str, F.slot_tuple_format, fun s g => ⟨o, g _ _ h1, h2⟩, fun A E s Q hg hu g hQ => ?_⟩
    simp only [PyData.depth] at hu
    simp only [PyData.shown] at hQ
    exact call_tuple_reprK h1 h2 h3 nm k hg (fun b _ => Clear.nil b) hu g hQ z'
theorem shn_dct {es : Array DictEntry} {kvs : List (PyData × PyData)} (h1 : h.get? p = some o) (h2 : o.cls = .type "dict") (h3 : o.data = .dict es n) (hs : (p == sysModules) = false) (a : Shns prog w h (es.toList.map (·.key)) (kvs.map (·.1))) (b : Shns prog w h (es.toList.map (·.val)) (kvs.map (·.2))) (z : (PyData.dict kvs).shown.length ≤ sizeLine) : Shn prog w h (.ref p) (.dict kvs) := by
  obtain ⟨_, r1⟩ := a.rd
  obtain ⟨_, r2⟩ := b.rd
  obtain ⟨c1, m1, k1⟩ := a.rk
  obtain ⟨c2, m2, k2⟩ := b.rk
  have r0 : Reads h (.ref p) (.dict kvs) _ := .dict h1 h2 h3 r1 r2
  have z' : (dictText (PyData.shownKv kvs)).length ≤ sizeLine := by simpa only [PyData.shown] using z
  have m : ReadAtMost h (PyData.depthKv kvs) (c1 ++ c2) := (m1.mono (PyData.depthAll_keys_le kvs)).append (m2.mono (PyData.depthAll_vals_le kvs))
  have nm : p ∉ c1 ++ c2 := not_mem_of_deeper r0 (by simp only [PyData.depth]; omega) m
  have q1 := k1.more_le (as' := c1 ++ c2) (fun x hx => List.mem_append_left _ hx) (PyData.depthAll_keys_le kvs)
  have q2 := k2.more_le (as' := c1 ++ c2) (fun x hx => List.mem_append_right _ hx) (PyData.depthAll_vals_le kvs)
  have en := ReprEntriesK.of_two es.toList _ _ q1 q2
  refine ⟨⟨_, r0⟩, ⟨p :: (c1 ++ c2), ReadAtMost.cons r0 (by simp only [PyData.depth]; omega) m, ?_⟩, fun q e => ?_⟩
  · simp only [PyData.depth, PyData.shown, PyData.shownKv_eq]
    exact ReprK.dict h1 h2 h3 hs nm en
  · cases e
    refine ⟨"dict", "dict.__repr__", F.slot_dict_repr, F.slot_dict_str, F.slot_dict_format, fun s g => ⟨o, g _ _ h1, h2⟩, fun A E s Q hg hu g hQ => ?_⟩
    simp only [PyData.depth] at hu
    simp only [PyData.shown, PyData.shownKv_eq] at hQ
    exact call_dict_reprK h1 h2 h3 hs nm en hg (fun b _ => Clear.nil b) hu g hQ (by rw [← PyData.shownKv_eq]; exact z')
end
def keyP : Key → PyData
  | .inl i => .int i
  | .inr x => .str x
mutual
inductive DpE (K : PySem.W.Frag) (H : Hp) : V → PyData → Prop
  | non : DpE K H .non .none
  | bl (b : Bool) : DpE K H (.bl b) (.bool b)
  | int (i : Int) : DpE K H (.int i) (.int i)
  | str (x : Str) : DpE K H (.str x) (.str x)
  | lst {p : Addr} {xs : List V} {ds : List PyData} : SqL K H p xs → DpEs K H xs ds → DpE K H (.ref p) (.list ds)
  | tup {p : Addr} {xs : List V} {ds : List PyData} : SqT K H p xs → DpEs K H xs ds → DpE K H (.ref p) (.tuple ds)
  | dct {p : Addr} {kvs : List (Key × V)} {ps : List PyData} : Rd H p (.dK kvs) → DpEs K H (kvs.map (·.2)) ps → DpE K H (.ref p) (.dict ((kvs.map fun q => keyP q.1).zip ps))
inductive DpEs (K : PySem.W.Frag) (H : Hp) : List V → List PyData → Prop
  | nil : DpEs K H [] []
  | cons {v : V} {vs : List V} {d : PyData} {ds : List PyData} : DpE K H v d → DpEs K H vs ds → DpEs K H (v :: vs) (d :: ds)
end
theorem DpEs.length {K : PySem.W.Frag} {H : Hp} : ∀ {vs : List V} {ds : List PyData}, DpEs K H vs ds → ds.length = vs.length
  | _, _, .nil => rfl
  | _, _, .cons _ t => by rw [List.length_cons, List.length_cons, t.length]
theorem zip_fst {α β : Type} : ∀ {a : List α} {b : List β}, a.length = b.length → (a.zip b).map (·.1) = a
  | [], [], _ => rfl
  | x :: a, y :: b, e => by rw [List.zip_cons_cons, List.map_cons, zip_fst (by simpa using e)]
theorem zip_snd {α β : Type} : ∀ {a : List α} {b : List β}, a.length = b.length → (a.zip b).map (·.2) = b
  | [], [], _ => rfl
  | x :: a, y :: b, e => by rw [List.zip_cons_cons, List.map_cons, zip_snd (by simpa using e)]
section
variable {X : Cx} {pins : List (Addr × Obj)} {σ : L2.St} {H : Hp} {s : Shared}
theorem shn_key {prog : Program} {w : World} {h : Heap} {k : Key} {u : Value} (e : keyIs k u = true) (z : (keyP k).shown.length ≤ sizeLine) (hs : (keyP k).showable = true) : Shn prog w h u (keyP k) := by
  rcases keyIs_shape e with ⟨i, t, rfl, rfl⟩ | ⟨x, t, rfl, rfl⟩
  · exact ⟨⟨_, .int i t⟩, ⟨[], (fun _ z => nomatch z), by simp only [keyP, PyData.shown]; exact .of_is (ReprIs.int t (by simpa [keyP, PyData.showable] using hs)) _ _ _⟩, fun p z => nomatch z⟩
  · exact ⟨⟨_, .str x t⟩, ⟨[], (fun _ z => nomatch z), by simp only [keyP, PyData.shown]; exact .of_is (ReprIs.str x t (by simpa only [keyP, PyData.shown] using z)) _ _ _⟩, fun p z => nomatch z⟩
theorem shns_keys {prog : Program} {w : World} {h : Heap} : ∀ {es : List DictEntry} {vs : List (Key × Value)}, Pairs (mixKind prog w) es vs → (∀ k ∈ vs.map (·.1), (keyP k).shown.length ≤ sizeLine ∧ (keyP k).showable = true) → Shns prog w h (es.map (·.key)) (vs.map fun q => keyP q.1)
  | _, _, .nil, _ => shns_nil
  | _, _, .cons (kv := kv) a b c, g => by
    have q := g kv.1 (List.mem_cons_self ..)
    exact shns_cons (shn_key a q.1 q.2) (shns_keys c fun k hk => g k (List.mem_cons_of_mem _ hk))
theorem pairs_vals {prog : Program} {w : World} : ∀ {es : List DictEntry} {vs : List (Key × Value)}, Pairs (mixKind prog w) es vs → es.map (·.val) = vs.map (·.2)
  | _, _, .nil => rfl
  | _, _, .cons a b c => by rw [List.map_cons, List.map_cons, b, pairs_vals c]
theorem kv_keys : ∀ {a : List (Key × V)} {b : List (Key × Value)}, KV a b → a.map (·.1) = b.map (·.1)
  | _, _, .nil => rfl
  | _, _, .cons r t => by rw [List.map_cons, List.map_cons, r.1, kv_keys t]
theorem kv_vals : ∀ {a : List (Key × V)} {b : List (Key × Value)}, KV a b → Vals (a.map (·.2)) (b.map (·.2))
  | _, _, .nil => .nil
  | _, _, .cons r t => .cons r.2 (kv_vals t)
theorem shown_mem {d : PyData} : ∀ {ds : List PyData}, d ∈ ds → d.shown ∈ PyData.shownAll ds
  | x :: ds, h => by
    simp only [PyData.shownAll]
    rcases List.mem_cons.mp h with rfl | h
    · exact List.mem_cons_self ..
    · exact List.mem_cons_of_mem _ (shown_mem h)
theorem showable_mem {d : PyData} : ∀ {ds : List PyData}, PyData.showableAll ds = true → d ∈ ds → d.showable = true
  | x :: ds, s, h => by
    simp only [PyData.showableAll, Bool.and_eq_true] at s
    rcases List.mem_cons.mp h with rfl | h
    · exact s.1
    · exact showable_mem s.2 h
mutual
theorem DpE.shn (I : Inv X pins σ H s) : ∀ {v : V} {d : PyData} {u : Value}, DpE X.K H v d → RelV v u → d.showable = true → d.shown.length ≤ sizeLine → Shn X.prog X.w s.heap u d
  | _, _, _, .non, r, _, _ => by
    cases r
    exact ⟨⟨_, .none⟩, ⟨[], (fun _ z => nomatch z), by simp only [PyData.shown]; exact .of_is ReprIs.none _ _ _⟩, fun p z => nomatch z⟩
  | _, _, _, .bl b, r, _, _ => by
    cases r
    exact ⟨⟨_, .bool b⟩, ⟨[], (fun _ z => nomatch z), by simp only [PyData.shown]; exact .of_is (ReprIs.bool b) _ _ _⟩, fun p z => nomatch z⟩
  | _, _, _, .int i, r, hs, _ => by
    obtain ⟨t, rfl⟩ := r
    exact ⟨⟨_, .int i t⟩, ⟨[], (fun _ z => nomatch z), by simp only [PyData.shown]; exact .of_is (ReprIs.int t (by simpa [PyData.showable] using hs)) _ _ _⟩, fun p z => nomatch z⟩
  | _, _, _, .str x, r, _, z => by
    obtain ⟨t, rfl⟩ := r
    exact ⟨⟨_, .str x t⟩, ⟨[], (fun _ z => nomatch z), by simp only [PyData.shown]; exact .of_is (ReprIs.str x t (by simpa only [PyData.shown] using z)) _ _ _⟩, fun p z => nomatch z⟩
  | _, _, _, .lst (ds := ds) hq ha, r, hs, z => by
    cases r
    obtain ⟨its, rv, ⟨o, n, ho, hc, _, hd⟩, _⟩ := I.list hq
    have z' : (listText (PyData.shownAll ds)).length ≤ sizeLine := by simpa only [PyData.shown] using z
    exact shn_lst ho hc hd (DpEs.shns I ha rv (by simpa [PyData.showable] using hs) fun t ht => Nat.le_trans (listText_mem_le ht) z') z
  | _, _, _, .tup (ds := ds) hq ha, r, hs, z => by
    cases r
    obtain ⟨its, rv, ⟨o, ho, hc, n, hd⟩, _⟩ := I.tuple hq
    have z' : (tupleText (PyData.shownAll ds)).length ≤ sizeLine := by simpa only [PyData.shown] using z
    exact shn_tup ho hc hd (DpEs.shns I ha rv (by simpa [PyData.showable] using hs) fun t ht => Nat.le_trans (tupleText_mem_le ht) z') z
  | _, _, _, .dct (kvs := kvs) (ps := ps) hq ha, r, hs, z => by
    cases r
    obtain ⟨_, hm, vs, kv, o, es, ep, ho, hx, hd, _, pr, _⟩ := dk_rd I.hok hq
    have l : (kvs.map fun q => keyP q.1).length = ps.length := by rw [List.length_map, ha.length, List.length_map]
    obtain ⟨s1, s2⟩ := PyData.showableKv_split _ (by simpa [PyData.showable] using hs)
    rw [zip_fst l] at s1
    rw [zip_snd l] at s2
    have z' : (dictText (PyData.shownKv ((kvs.map fun q => keyP q.1).zip ps))).length ≤ sizeLine := by simpa only [PyData.shown] using z
    have zk : ∀ t ∈ PyData.shownAll (kvs.map fun q => keyP q.1), t.length ≤ sizeLine := fun t ht => by
      obtain ⟨p, hp, hl⟩ := PyData.shownKv_key_le ((kvs.map fun q => keyP q.1).zip ps) t (by rw [zip_fst l]; exact ht)
      exact Nat.le_trans hl (Nat.le_trans (dictText_mem_le hp) z')
    have zv : ∀ t ∈ PyData.shownAll ps, t.length ≤ sizeLine := fun t ht => by
      obtain ⟨p, hp, hl⟩ := PyData.shownKv_val_le ((kvs.map fun q => keyP q.1).zip ps) t (by rw [zip_snd l]; exact ht)
      exact Nat.le_trans hl (Nat.le_trans (dictText_mem_le hp) z')
    have ke : vs.map (fun q => keyP q.1) = kvs.map fun q => keyP q.1 := by
      have := congrArg (List.map keyP) (kv_keys kv)
      rw [List.map_map, List.map_map] at this
      exact this.symm
    refine shn_dct ho hx.1 hd hm ?_ ?_ z
    · rw [zip_fst l, ← ke]
      refine shns_keys pr fun k hk => ?_
      have h1 : keyP k ∈ kvs.map fun q => keyP q.1 := by
        obtain ⟨q, hq, rfl⟩ := List.mem_map.mp hk
        rw [← ke]
        exact List.mem_map.mpr ⟨q, hq, rfl⟩
      exact ⟨zk _ (shown_mem h1), showable_mem s1 h1⟩
    · rw [zip_snd l, pairs_vals pr]
      exact DpEs.shns I ha (kv_vals kv) s2 zv
theorem DpEs.shns (I : Inv X pins σ H s) : ∀ {vs : List V} {ds : List PyData} {us : List Value}, DpEs X.K H vs ds → Vals vs us → PyData.showableAll ds = true → (∀ t ∈ PyData.shownAll ds, t.length ≤ sizeLine) → Shns X.prog X.w s.heap us ds
  | _, _, _, .nil, r, _, _ => by cases r; exact shns_nil
  | _, _, _, .cons a b, r, hs, z => by
    cases r with
    | cons r1 r2 =>
      simp only [PyData.showableAll, Bool.and_eq_true] at hs
      exact shns_cons (DpE.shn I a r1 hs.1 (z _ (by simp only [PyData.shownAll]; exact List.mem_cons_self ..))) (DpEs.shns I b r2 hs.2 fun t ht => z t (by simp only [PyData.shownAll]; exact List.mem_cons_of_mem _ ht))
end
end
def reprOkE (p : PyData) : Bool := p.showable && (decide (p.depth ≤ 60) && decide (p.shown.length ≤ 1000000))
def rReprE (K : PySem.W.Frag) : List V → Hp → VK → Prop := fun vs H Q => ∃ v p, vs = [v] ∧ DpE K H v p ∧ reprOkE p = true ∧ Q (.str p.shown) H
theorem cr_reprE {X : Cx} (gd : X.A.guards = some []) (hu : X.A.units + 64 < cLine) : CallR X (.builtin "repr") (rReprE X.K) := by
  intro pins s σ H vs us Q I r ⟨v, p, e, hd, ho, q⟩
  subst e
  obtain ⟨u, rfl, rv⟩ : ∃ u, us = [u] ∧ RelV v u := by
    cases r with
    | cons a b => cases b; exact ⟨_, rfl, a⟩
  unfold reprOkE at ho
  simp only [Bool.and_eq_true, decide_eq_true_eq] at ho
  obtain ⟨h1, h3, h4⟩ := ho
  have h5 : p.shown.length ≤ sizeLine := Nat.le_trans h4 (by decide)
  have S := DpE.shn I hd rv h1 h5
  have fin : ∀ a, u = .ref a → wpAny (model X.prog X.w) X.A (call (.builtin "repr") [u]) (EP X pins σ Q) X.xe s := fun a ea => by
    subst ea
    obtain ⟨T, x, B⟩ := S.sh a rfl
    exact call_repr_slot (by omega) (B.typeIs s fun _ _ h => h) B.slotRepr (B.call X.A.in1 _ s _ gd (by show X.A.units + 1 + p.depth < cLine; omega) (fun _ _ h => h) fun h' u tk hk => ⟨_, _, rfl, ⟨.str _, H, I.kept hk, ⟨_, rfl⟩, q⟩⟩)
  cases hd with
  | non => cases rv; exact PySem.P.repr_of_none ⟨.str _, H, I.kept fun _ _ h => h, ⟨_, rfl⟩, q⟩
  | bl b => cases rv; exact PySem.P.repr_of_bool ⟨.str _, H, I.kept fun _ _ h => h, ⟨_, rfl⟩, q⟩
  | int i =>
    obtain ⟨t, rfl⟩ := rv
    exact PySem.P.repr_of_int (by simpa only [PyData.showable, decide_eq_true_eq] using h1) ⟨.str _, H, I.kept fun _ _ h => h, ⟨_, rfl⟩, q⟩
  | str x =>
    obtain ⟨t, rfl⟩ := rv
    exact PySem.P.repr_of_str ⟨.str _, H, I.kept fun _ _ h => h, ⟨_, rfl⟩, q⟩ h5
  | lst _ _ => cases rv; exact fin _ rfl
  | tup _ _ => cases rv; exact fin _ rfl
  | dct _ _ => cases rv; exact fin _ rfl
mutual
def D.toE : D → Option PyData
  | .non => some .none
  | .bl b => some (.bool b)
  | .int i => some (.int i)
  | .str x => some (.str x)
  | .tup l => (D.toEs l).map .tuple
  | .ktp l => (D.toEs l).map .tuple
  | .lst l => (D.toEs l).map .list
  | .frl l => (D.toEs l).map .list
  | .dct ks l => (D.toEs l).map fun q => .dict ((ks.map keyP).zip q)
  | .dctT _ _ => none
  | .ins _ _ _ => none
  | .ty _ => none
  | .cls _ => none
def D.toEs : List D → Option (List PyData)
  | [] => some []
  | d :: l => d.toE.bind fun p => (D.toEs l).map fun q => p :: q
end
section
variable {K : PySem.W.Frag} {H H' : Hp} {r : Rg}
mutual
theorem Rp.dpE : ∀ {d : D} {v : V} {p : PyData}, Rp K H d v → d.toE = some p → DpE K H v p
  | .non, v, p, h, e => by simp only [Rp, D.toE, Option.some.injEq] at h e; subst h; subst e; exact .non
  | .bl b, v, p, h, e => by simp only [Rp, D.toE, Option.some.injEq] at h e; subst h; subst e; exact .bl b
  | .int i, v, p, h, e => by simp only [Rp, D.toE, Option.some.injEq] at h e; subst h; subst e; exact .int i
  | .str x, v, p, h, e => by simp only [Rp, D.toE, Option.some.injEq] at h e; subst h; subst e; exact .str x
  | .tup l, v, p, h, e => by
    simp only [Rp, D.toE, Option.map_eq_some_iff] at h e
    obtain ⟨a, xs, rfl, h1, h2⟩ := h
    obtain ⟨q, e1, rfl⟩ := e
    exact .tup (sq_t h1) (RpL.dpE h2 e1)
  | .ktp l, v, p, h, e => by
    simp only [Rp, D.toE, Option.map_eq_some_iff] at h e
    obtain ⟨a, xs, rfl, h1, h2⟩ := h
    obtain ⟨q, e1, rfl⟩ := e
    exact .tup h1 (RpL.dpE h2 e1)
  | .lst l, v, p, h, e => by
    simp only [Rp, D.toE, Option.map_eq_some_iff] at h e
    obtain ⟨a, xs, rfl, h1, h2⟩ := h
    obtain ⟨q, e1, rfl⟩ := e
    exact .lst (.inl (.inl h1)) (RpL.dpE h2 e1)
  | .frl l, v, p, h, e => by
    simp only [Rp, D.toE, Option.map_eq_some_iff] at h e
    obtain ⟨a, xs, rfl, h1, h2⟩ := h
    obtain ⟨q, e1, rfl⟩ := e
    exact .lst h1 (RpL.dpE h2 e1)
  | .dct ks l, v, p, h, e => by
    simp only [Rp, D.toE, Option.map_eq_some_iff] at h e
    obtain ⟨a, kvs, o, rfl, h1, rfl, h2⟩ := h
    obtain ⟨q, e1, rfl⟩ := e
    rw [List.map_map]
    exact .dct (.inr ⟨o, h1⟩) (RpL.dpE h2 e1)
  | .dctT _ _, v, p, h, e => by simp only [D.toE] at e; cases e
  | .ins _ _ _, v, p, h, e => by simp only [D.toE] at e; cases e
  | .ty _, v, p, h, e => by simp only [D.toE] at e; cases e
  | .cls _, v, p, h, e => by simp only [D.toE] at e; cases e
theorem RpL.dpE : ∀ {l : List D} {vs : List V} {ps : List PyData}, RpL K H l vs → D.toEs l = some ps → DpEs K H vs ps
  | [], vs, ps, h, e => by simp only [RpL, D.toEs, Option.some.injEq] at h e; subst h; subst e; exact .nil
  | d :: l, vs, ps, h, e => by
    simp only [RpL, D.toEs, Option.bind_eq_some_iff, Option.map_eq_some_iff] at h e
    obtain ⟨x, t, rfl, h1, h2⟩ := h
    obtain ⟨p, e1, q, e2, rfl⟩ := e
    exact .cons (Rp.dpE h1 e1) (RpL.dpE h2 e2)
end
theorem RD.dpE {d : D} {v : V} {p : PyData} (h : RD K r H v d) (e : d.toE = some p) : DpE K H v p := by
  cases d with
  | lst l =>
    simp only [D.toE, Option.map_eq_some_iff] at e
    obtain ⟨a, xs, rfl, h1, h2⟩ := h
    obtain ⟨q, e1, rfl⟩ := e
    exact .lst (.inl (.inl h1)) (RpL.dpE (RpL.mono fz_sub h2) e1)
  | dct ks l =>
    simp only [D.toE, Option.map_eq_some_iff] at e
    obtain ⟨a, kvs, rfl, h1, rfl, h2⟩ := h
    obtain ⟨q, e1, rfl⟩ := e
    rw [List.map_map]
    exact .dct h1 (RpL.dpE (RpL.mono fz_sub h2) e1)
  | dctT ks l => simp only [D.toE] at e; cases e
  | ins _ _ _ => simp only [D.toE] at e; cases e
  | ty _ => simp only [D.toE] at e; cases e
  | cls _ => simp only [D.toE] at e; cases e
  | non => exact Rp.dpE (Rp.mono fz_sub h) e
  | bl b => exact Rp.dpE (Rp.mono fz_sub h) e
  | int i => exact Rp.dpE (Rp.mono fz_sub h) e
  | str x => exact Rp.dpE (Rp.mono fz_sub h) e
  | tup l => exact Rp.dpE (Rp.mono fz_sub h) e
  | ktp l => exact Rp.dpE (Rp.mono fz_sub h) e
  | frl l => exact Rp.dpE (Rp.mono fz_sub h) e
end
def gReprE : List D → Option D
  | [d] => d.toE.bind fun p => if reprOkE p = true then some (.str p.shown) else none
  | _ => none
theorem cd_reprE {K : PySem.W.Frag} : CallD K (rReprE K) gReprE := fun r M H vs ds d S h e Q q => by
  unfold gReprE at e
  split at e
  · simp only [Option.bind_eq_some_iff] at e
    obtain ⟨p, e1, e2⟩ := e
    split at e2
    · rename_i ho
      cases e2
      obtain ⟨v, rfl, h1⟩ := rdl1 h
      exact ⟨v, p, rfl, RD.dpE h1 e1, ho, q _ H (Same.refl _) rp_str⟩
    · cases e2
  · cases e
end S9
namespace S9
open PySem PySem.Spec PyProof.Rows L2
def gUpper : List D → Option D
  | [.str a] => if a.length ≤ 5592405 then some (.str (Txt.upper a)) else none
  | _ => none
end S9
namespace S9
open PySem PySem.Spec PyProof.Rows L2
def rEq0 (K : PySem.W.Frag) : R2 := fun x y H Q => ∃ a b xs, x = .ref a ∧ y = .ref b ∧ SqT K H a xs ∧ SqT K H b [] ∧ Q (.bl xs.isEmpty) H
theorem op_eq0 {X : Cx} (hu : X.A.units + 64 < cLine) : OpR X (compareOp .Eq) (rEq0 X.K) := by
  intro pins s σ H x y v u Q I rx ry ⟨a, b, xs, e1, e2, h1, h2, q⟩
  subst e1 e2
  cases rx
  cases ry
  obtain ⟨its, r1, ⟨o, ho, hc, n, hd⟩, _⟩ := I.tuple h1
  obtain ⟨jts, r2, ⟨o', ho', hc', n', hd'⟩, _⟩ := I.tuple h2
  have ej : jts = [] := by cases r2; rfl
  subst ej
  have k := SeqAt.RcAt.tuples (A := X.A) (e := fun _ => true) ⟨o, ho, hc, n, hd⟩ ⟨o', ho', hc', n', hd'⟩ (by omega) (fun j _ j2 => absurd j2 (Nat.not_lt_zero j))
  refine k X.prog X.w _ _ ⟨.bl xs.isEmpty, H, I, ?_, q⟩
  have el := Vals.length r1
  show RelV _ _
  have : ((List.range (min its.toArray.size (#[] : Array Value).size)).all (fun _ => true) && its.toArray.size == (#[] : Array Value).size) = xs.isEmpty := by
    cases xs with
    | nil => cases r1; rfl
    | cons x xs => cases r1; rfl
  exact congrArg Value.bool this
def gEq0 : D → D → Option D
  | .tup l, .tup [] => some (.bl l.isEmpty)
  | _, _ => none
theorem od_eq0 {K : PySem.W.Frag} : OpD K (rEq0 K) gEq0 := fun r M H x y d1 d2 d S h1 h2 e Q q => by
  unfold gEq0 at e
  split at e
  · rename_i l
    cases e
    simp only [RD, Rp] at h1 h2
    obtain ⟨a, xs, rfl, g1, g2⟩ := h1
    obtain ⟨b, ys, rfl, g3, g4⟩ := h2
    simp only [RpL] at g4
    subst g4
    have hl := g2.length
    refine ⟨a, b, xs, rfl, rfl, sq_t (fz_sub _ _ g1), sq_t (fz_sub _ _ g3), ?_⟩
    have : xs.isEmpty = l.isEmpty := by
      cases xs <;> cases l <;> first | rfl | cases hl
    rw [this]
    exact q _ H (Same.refl _) rp_bl
  · cases e
end S9
namespace S9
open PySem PySem.Spec PyProof.Rows L2 Builtin
theorem tupleMul1 (l : Addr) (us : Array Value) (n : Nat) (dd : Option Addr) (sl : Array (Option Value)) (u : Tok) :
    Meets (Builtin.«tuple.__mul__» ⟨[.ref l, .int 1 u], []⟩) (fun _ R s => s.heap.get? l = some { cls := .type "tuple", dict := dd, data := .seq us n, slots := sl } ∧ R (.ok (.ret (Value.ref l))) s) := .of_wp fun P w A R s h => by
  obtain ⟨hp, g, d, tk, os⟩ := s
  obtain ⟨hl, h⟩ := h
  have f1 := AutoSeq1.idx_int
  wp_walk using wpAny_loadPart' hl
  repeat (first
    | (refine wpAny_ite_false (decide_eq_false (by decide)) ?_; wp_walk using wpAny_loadPart' hl)
    | (refine wpAny_ite_true (decide_eq_true (by simp)) ?_; wp_walk using wpAny_loadPart' hl))
  exact ⟨_, rfl, h⟩
def rRep1 (K : PySem.W.Frag) : R2 := fun x y H Q => ∃ l xs, x = .ref l ∧ y = .int 1 ∧ SqT K H l xs ∧ Q (.ref l) H
theorem op_rep1 {X : Cx} : OpR X (binaryOp .Mult) (rRep1 X.K) := by
  intro pins s σ H x y v u Q I rx ry h
  obtain ⟨l, xs, e1, e2, hT, q⟩ := h
  subst e1 e2
  cases rx
  obtain ⟨t, rfl⟩ := ry
  obtain ⟨its, r, ⟨⟨cls, dd, data, sl⟩, ho, hc, n, hd⟩, hs⟩ := I.tuple hT
  simp only at hc hd
  subst hc hd
  exact wpAny_binaryOp_repeat_ref (T := "tuple") (U := "int") (by decide) ⟨_, ho, rfl⟩ (fun s' => typeIs_int s' 1 t) noFill_tuple_mul F.fills_int_mul F.slot_int_rmul repeat_tuple F.slot_int_index.lookup
    (call_meets F.slot_int_rmul (typeIs_int s 1 t) F.entry_int_rmul (F.args_int_rmul_2 _ _) (int_rmul_tuple 1 t l its.toArray n dd sl) ⟨ho, rfl, ⟨_, ho, rfl⟩, call_meets F.slot_tuple_mul ⟨_, ho, rfl⟩ F.entry_tuple_mul (F.args_tuple_mul_2 _ _) (tupleMul1 l its.toArray n dd sl t) ⟨ho, ⟨.ref l, H, I, rfl, q⟩⟩⟩)
theorem op_repA {X : Cx} : OpR X (binaryOp .Mult) (fun x y H Q => rRepT X.K x y H Q ∨ rRep1 X.K x y H Q) := OpR.or op_repT op_rep1
def gRepT : D → D → Option D
  | .tup a, .int k => if k = 1 then some (.tup a) else if a ≠ [] ∧ 2 ≤ k ∧ k ≤ 1000 ∧ a.length ≤ 1000 then some (.tup (repD k.toNat a)) else none
  | _, _ => none
theorem od_repT {K : PySem.W.Frag} : OpD K (fun x y H Q => rRepT K x y H Q ∨ rRep1 K x y H Q) gRepT := fun r M H x y d1 d2 d S h1 h2 e Q q => by
  unfold gRepT at e
  split at e
  · split at e
    · rename_i l k hk
      cases e
      subst hk
      simp only [RD, Rp] at h1 h2
      obtain ⟨a, xs, rfl, q1, q2⟩ := h1
      refine .inr ⟨a, xs, rfl, h2, same_p fz_sub q1, q _ H (Same.refl _) ?_⟩
      simp only [Rp]
      exact ⟨a, xs, rfl, q1, q2⟩
    · split at e
      · rename_i l k _ hl
        cases e
        simp only [RD, Rp] at h1 h2
        obtain ⟨a, xs, rfl, q1, q2⟩ := h1
        have ln := q2.length
        refine .inl ⟨a, k, xs, rfl, h2, same_p fz_sub q1, fun z => ?_, hl.2.1, hl.2.2.1, by rw [ln]; exact hl.2.2.2, fun p hp => q _ _ (same_up hp) (rp_tup S hp (rep_rp q2 _))⟩
        subst z
        exact hl.1 (List.eq_nil_of_length_eq_zero ln.symm)
      · cases e
  · cases e
end S9
namespace S9
open PySem PySem.Spec PyProof.Rows L2
end S9
namespace S9
open PySem PySem.Spec PyProof.Rows L2
structure KInts (K : PySem.W.Frag) (w : World) (a : Addr) (kvs : List (Str × Int)) : Prop where
  d : ∃ es n, KDict K w a es n
  at_ : ∀ z, ∃ r, PySem.W.nsIn K a z = some r ∧ match kvs.lookup z with
    | some i => ∃ t, r = some (.int i t)
    | none => r = none
def EntL : List DictEntry → List (Str × Int) → Prop
  | [], [] => True
  | e :: es, p :: ps => (∃ t, e.key = .str p.1 t) ∧ (∃ t, e.val = .int p.2 t) ∧ EntL es ps
  | _, _ => False
theorem kints_of {K : PySem.W.Frag} {w : World} {a : Addr} {es : Array DictEntry} {n : Nat} {kvs : List (Str × Int)} (hl : K.lookup a = some ⟨.type "dict", none, .dict es n, #[]⟩) (kl : PySem.W.KeysLit w.params es.toList) (lo : (a == sysModules) = false) (h : EntL es.toList kvs) : KInts K w a kvs := by
  refine ⟨⟨es, n, hl, kl, lo⟩, fun z => ?_⟩
  unfold PySem.W.nsIn
  rw [hl]
  have key : ∀ (l : List DictEntry) (kvs : List (Str × Int)), EntL l kvs → (l.any (·.refKey) = false) ∧ (match kvs.lookup z with
      | some i => ∃ e t, l.find? (·.key.isStr z) = some e ∧ e.val = .int i t
      | none => l.find? (·.key.isStr z) = none) := by
    intro l
    induction l with
    | nil => intro kvs h; cases kvs with
      | nil => exact ⟨rfl, rfl⟩
      | cons p ps => exact h.elim
    | cons e l ih => intro kvs h; cases kvs with
      | nil => exact h.elim
      | cons p ps =>
        obtain ⟨⟨t1, h1⟩, ⟨t2, h2⟩, h3⟩ := h
        obtain ⟨g1, g2⟩ := ih ps h3
        obtain ⟨k, i⟩ := p
        have rk : e.refKey = false := by
          unfold DictEntry.refKey
          rw [h1]
        refine ⟨by rw [List.any_cons, rk, g1]; rfl, ?_⟩
        have e1 : e.key.isStr z = decide (k = z) := by
          rw [h1]
          show (k == z) = _
          by_cases q : k = z
          · subst q; simp
          · rw [decide_eq_false q]; simp [q]
        rw [List.lookup_cons, List.find?_cons, e1]
        by_cases q : k = z
        · subst q
          have : (k == k) = true := by simp
          rw [this, decide_eq_true rfl]
          exact ⟨e, t2, rfl, h2⟩
        · have : (z == k) = false := by simp; exact fun z' => q z'.symm
          rw [this, decide_eq_false q]
          exact g2
  obtain ⟨k1, k2⟩ := key es.toList kvs h
  revert k2
  cases kvs.lookup z with
  | some i =>
    rintro ⟨e, t, h1, h2⟩
    exact ⟨some e.val, by simp only [h1], t, by rw [h2]⟩
  | none =>
    intro h1
    exact ⟨none, by simp only [h1, k1]; rfl, rfl⟩
def gKGet (kvs : List (Str × Int)) : D → D → Option D
  | .str z, .int j => some (.int ((kvs.lookup z).getD j))
  | _, _ => none
def rKGet (kvs : List (Str × Int)) : R2 := fun x y H Q => ∃ z, x = .str z ∧ Q (match kvs.lookup z with | some i => .int i | none => y) H
theorem pe_kget {X : Cx} {a : Addr} {kvs : List (Str × Int)} {o e f : Expr} {apos cpos : Pos} {ty tx : TE} (D : KInts X.K X.w a kvs) (ho : PE X o (tC (.ref a))) (he : PE X e ty) (hf : PE X f tx) (m : M2 X o "get" apos e f cpos) : PE X (.Call (.Attribute o "get" apos) [e, f] [] cpos) (tOp (rKGet kvs) ty tx) := by
  obtain ⟨⟨es, n, kd⟩, at_⟩ := D
  refine ⟨fun pins s σ H Q I h => ?_⟩
  refine wpAny_Call_method m.base m.few m.line PySem.F.plainAttrs_dict PySem.F.slot_dict_get PySem.F.type_dict_get (thn (ho.run pins s σ H (fun x H1 => x = .ref a ∧ tOp (rKGet kvs) ty tx σ H1 Q) I ⟨rfl, h⟩) fun u s1 ⟨x, H1, I1, rx, ex, q1⟩ => ?_)
  subst ex
  obtain rfl : u = Value.ref a := rx
  have hm := PySem.W.mapOf_K (prog := X.prog) (w := X.w) I1.kIn kd.at_ kd.lit
  refine ⟨hm.typeIs, fun b q => ?_, ?_⟩
  · cases q
    exact ⟨_, I1.kIn _ _ kd.at_, rfl⟩
  rw [m.trees]
  refine Calls.callWith_builtin rfl (Calls.evalArgs_plain (Calls.spliced_cons (thn (he.run pins s1 σ H1 _ I1 q1) fun iv s2 ⟨y, H2, I2, ry, q2⟩ =>
    Calls.spliced_cons (thn (hf.run pins s2 σ H2 _ I2 q2) fun fv s3 ⟨z, H3, I3, rz, k, ey, q3⟩ => Calls.spliced_nil ?_))))
  subst ey
  obtain ⟨t, rfl⟩ := (show ∃ t, iv = Value.str k t from ry)
  have hm3 := PySem.W.mapOf_K (prog := X.prog) (w := X.w) I3.kIn kd.at_ kd.lit
  refine call_meetsIn PySem.F.slot_dict_get hm3.typeIs PySem.F.entry_dict_get (PySem.F.args_dict_get_3 _ _ _) (meets_dict_get_default _ a (PySem.strKind_is X.prog X.w k t) kd.low fv) ⟨_, hm3, ?_⟩
  obtain ⟨r, e1, e2⟩ := at_ k
  rw [PySem.W.find_K kd.at_ e1]
  cases q : kvs.lookup k with
  | some i =>
    rw [q] at e2 q3
    obtain ⟨t, rfl⟩ := e2
    exact ⟨.int i, H3, I3.tok _, ⟨t, rfl⟩, q3⟩
  | none =>
    rw [q] at e2 q3
    subst e2
    exact ⟨z, H3, I3.tok _, rz, q3⟩
theorem od_kget {K : PySem.W.Frag} {kvs : List (Str × Int)} : OpD K (rKGet kvs) (gKGet kvs) := fun r M H x y d1 d2 d S h1 h2 e Q q => by
  cases d1 with
  | str z =>
    cases d2 with
    | int j =>
      unfold gKGet at e
      cases e
      have h1 : x = V.str z := by simpa only [RD, Rp] using h1
      have h2 : y = V.int j := by simpa only [RD, Rp] using h2
      refine ⟨z, h1, ?_⟩
      cases hq : kvs.lookup z with
      | some i => exact q _ H (Same.refl _) (by rw [hq]; simp only [Rp, Option.getD_some])
      | none => exact q _ H (Same.refl _) (by rw [hq]; simp only [Rp, Option.getD_none, h2])
    | _ => exact absurd e (by simp [gKGet])
  | _ => exact absurd e (by simp [gKGet])
theorem re_kget {X : Cx} {E : XK} {y : Str} {p : Pos} {kvs : List (Str × Int)} {e f : Expr} {fa fb : FE} {apos cpos : Pos} (hg : Gl X y) (hv : ∃ a, X.mg y = some (.ref a) ∧ KInts X.K X.w a kvs) (ha : RE X E e fa) (hb : RE X E f fb)
    (hd : (y == ("__debug__" : Str)) = false := by decide) (hbase : attributeBase (.Name y p) "get" X.env (eval (.Name y p) X.env) = eval (.Name y p) X.env := by rfl)
    (hfew : ((backTo cpos (starEach [e, f] X.env)).all (fun x => !x.1) && (backToKw cpos (keywordEach [] X.env)).all (fun x => x.1.isSome) && decide (([e, f] : List Expr).length + ([] : List Keyword).length + (if ([] : List Keyword).isEmpty then 0 else 1) < 30)) = true := by rfl)
    (hline : (apos.endLine == cpos.line) = true := by rfl) (htrees : backTo cpos (starEach [e, f] X.env) = [(false, eval e X.env), (false, eval f X.env)] := by rfl) :
    RE X E (.Call (.Attribute (.Name y p) "get" apos) [e, f] [] cpos) (fOp (gKGet kvs) fa fb) := by
  obtain ⟨a, hm, D⟩ := hv
  exact pe_imp (pe_kget D (pe_glob hg hm rfl hd) ha hb ⟨hbase, hfew, hline, htrees⟩) (op_imp od_kget)
end S9
namespace S9
open PySem PySem.Spec PyProof.Rows L2
section
variable {P : Program} {w : World} {K : PySem.W.Frag} {mg : Str → Option Value} {base : Heap} {CX : CXT} {k0 : Nat} {f : Addr} {fd : FuncData} {ps : List Str}
theorem fnG_bad {k n : Nat} (hn : ps.length = n) : FnG P w K mg base CX k f fd ps (sp0 K n fun _ _ => .bad) :=
  ⟨fun vs H Q E ⟨r, M, ws, hl, q, _⟩ => ((RWL.length q).trans hl).trans hn.symm, fun A out s H args us vs Q E hg hr he hb hv ⟨r, M, ws, hl, q, T, h⟩ => h.elim⟩
def fuelF (b : FF → FF) : Nat → FF
  | 0 => fun _ _ => .bad
  | n + 1 => b (fuelF b n)
theorem fnG_fuel {b : FF → FF} {n : Nat} (hn : ps.length = n) (h : ∀ (k : Nat) (ψ : FF), k0 ≤ k → FnG P w K mg base CX k f fd ps (sp0 K n ψ) → FnG P w K mg base CX (k + 1) f fd ps (sp0 K n (b ψ))) :
    ∀ m, FnG P w K mg base CX (k0 + m) f fd ps (sp0 K n (fuelF b m))
  | 0 => fnG_bad hn
  | m + 1 => h (k0 + m) _ (Nat.le_add_right _ _) (fnG_fuel hn h m)
end
end S9
namespace N60
open PySem PySem.Spec PyProof.Rows L2 S9
noncomputable def g__law_is_whole : FS :=
  (sRet (fAnd (fCB gIsi (fCons (fVar 0) (fCons (fC (.ty "int")) fNil))) (fNot (fCB gIsi (fCons (fVar 0) (fCons (fC (.ty "bool")) fNil))))))
noncomputable def f__law_is_whole : FF := body 1 g__law_is_whole
end N60
namespace N60
open PySem PySem.Spec PyProof.Rows L2 S9
end N60
namespace N60
open PySem PySem.Spec PyProof.Rows L2 S9
end N60
namespace K58
open PySem PySem.Spec PyProof.Rows L2 S9 N60
noncomputable def g__law_number : FS :=
  (sRet (fCall0 2 f__law_of (fCons (fVar 0) (fCons (fFro (fLst (fCons (fC (.int 0)) (fCons (fC (.int 1)) (fCons (fC (.int 2)) (fCons (fC (.int 7)) (fCons (fCall0 2 f__law_take (fCons (fVar 0) (fCons (fC (.int 1000)) fNil))) (fCons (fOp gSub (fOp gPow (fC (.int 10)) (fC (.int 30))) (fC (.int 1))) (fCons (fOp gPow (fC (.int 10)) (fC (.int 29))) fNil))))))))) fNil))))
noncomputable def f__law_number : FF := body 1 g__law_number
noncomputable def g__law_wish : FS :=
  (sSeq (sIf (fB (fOp gEq (fCall0 2 f__law_take (fCons (fVar 0) (fCons (fC (.int 5)) fNil))) (fC (.int 0))))
      (sRet (fC .non))
      sNil)
    (sSeq (sSet 1 (fCall0 2 f__law_of (fCons (fVar 0) (fCons (fFro (fLst (fCons (fC (.int 1)) (fCons (fC (.int 12)) (fCons (fOp gAdd (fC (.int 1)) (fCall0 2 f__law_take (fCons (fVar 0) (fCons (fC (.int 12)) fNil)))) (fCons (fC (.int 3)) fNil)))))) fNil))))
    (sRet (fTup (fCons (fCall0 1 f__law_number (fCons (fVar 0) fNil)) (fCons (fCB gTuple (fCons (fFro (fLc (fRng1 (fCons (fVar 1) fNil)) (gNm 2) tYesF (fCall0 1 f__law_number (fCons (fVar 0) fNil)) [2])) fNil)) fNil))))))
noncomputable def f__law_wish : FF := body 3 g__law_wish
noncomputable def g__law_letter : FS :=
  (sSeq (sSet 1 (fCall0 2 f__law_of (fCons (fVar 0) (fCons (fFro (fLst (fCons (fC (.str "ask")) (fCons (fC (.str "leave")) (fCons (fC (.str "word")) fNil))))) fNil))))
    (sSeq (sIf (fB (fOp gEq (fVar 1) (fC (.str "word"))))
      (sRet (fTup (fCons (fVar 1) (fCons (fCall0 1 f__law_wish (fCons (fVar 0) fNil)) fNil))))
      sNil)
    (sRet (fTup (fCons (fVar 1) (fCons (fCall0 1 f__law_number (fCons (fVar 0) fNil)) (fCons (fCall0 1 f__law_number (fCons (fVar 0) fNil)) (fCons (fCall0 1 f__law_wish (fCons (fVar 0) fNil)) fNil))))))))
noncomputable def f__law_letter : FF := body 2 g__law_letter
noncomputable def g__law_odd : FS :=
  (sSeq (sSet 1 (fFro (fLst (fCons (fC .non) (fCons (fC (.bl true)) (fCons (fC (.bl false)) (fCons (fC (.int 0)) (fCons (fC (.int 1)) (fCons (fUn gNeg (fC (.int 1))) (fCons (fC (.str "")) (fCons (fC (.str "ask")) (fCons (fC (.str "Ask")) (fCons (fC (.str "words")) (fCons (fTup fNil) (fCons (fFro (fLst fNil)) (fCons (fC (.dct [] [])) (fCons (fTup (fCons (fC (.int 1)) fNil)) (fCons (fTup (fCons (fC (.int 1)) (fCons (fTup (fCons (fC (.int 0)) fNil)) fNil))) (fCons (fTup (fCons (fC (.int 0)) (fCons (fTup (fCons (fC (.int 0)) fNil)) fNil))) fNil)))))))))))))))))))
    (sSeq (sSet 2 (fCall0 2 f__law_of (fCons (fVar 0) (fCons (fFro (fOpN gCat (fVar 1) (fFro (fLst (fCons (fTup (fCons (fC (.int 1)) (fCons (fTup fNil) fNil))) (fCons (fTup (fCons (fC (.int 2)) (fCons (fOp gRepT (fTup (fCons (fC (.int 0)) fNil)) (fC (.int 13))) fNil))) (fCons (fFro (fLst (fCons (fC (.int 1)) (fCons (fTup (fCons (fC (.int 0)) fNil)) fNil)))) (fCons (fTup (fCons (fC (.int 1)) (fCons (fFro (fLst (fCons (fC (.int 0)) fNil))) fNil))) (fCons (fOp gPow (fC (.int 10)) (fC (.int 29))) fNil))))))))) fNil))))
    (sSeq (sFor (fRng1 (fCons (fCall0 2 f__law_of (fCons (fVar 0) (fCons (fFro (fLst (fCons (fC (.int 0)) (fCons (fC (.int 0)) (fCons (fC (.int 0)) (fCons (fC (.int 1)) (fCons (fC (.int 8)) fNil))))))) fNil))) fNil)) (gNm 3)
      (sSet 2 (fOp gIx (fFro (fLst (fCons (fTup (fCons (fVar 2) fNil)) (fCons (fFro (fLst (fCons (fVar 2) fNil))) (fCons (fTup (fCons (fC (.str "word")) (fCons (fVar 2) fNil))) fNil))))) (fCall0 2 f__law_take (fCons (fVar 0) (fCons (fC (.int 3)) fNil))))))
    (sRet (fVar 2)))))
noncomputable def f__law_odd : FF := body 4 g__law_odd
noncomputable def g__law_bent (ψ : FF) : FS :=
  (sSeq (sIf (fOrT (fNotT (fB (fCB gIsi (fCons (fVar 1) (fCons (fC (.ty "tuple")) fNil))))) (fB (fOp gEq0 (fVar 1) (fTup fNil))))
      (sRet (fCall0 1 f__law_odd (fCons (fVar 0) fNil)))
      sNil)
    (sSeq (sPar 2 3 (fCons (fCall0 2 f__law_take (fCons (fVar 0) (fCons (fC (.int 7)) fNil))) (fCons (fCall0 2 f__law_take (fCons (fVar 0) (fCons (fCB gLen (fCons (fVar 1) fNil)) fNil))) fNil)))
    (sSeq (sIf (fB (fOp gLt (fVar 2) (fC (.int 3))))
      (sRet (fOp gAdd (fOp gAdd (fSl gSlT (fVar 1) oNone (oSome (fVar 3))) (fTup (fCons (fCall0 2 ψ (fCons (fVar 0) (fCons (fOp gIx (fVar 1) (fVar 3)) fNil))) fNil))) (fSl gSlT (fVar 1) (oSome (fOp gAdd (fVar 3) (fC (.int 1)))) oNone)))
      sNil)
    (sSeq (sIf (fB (fOp gEq (fVar 2) (fC (.int 3))))
      (sRet (fOp gAdd (fSl gSlT (fVar 1) oNone (oSome (fVar 3))) (fSl gSlT (fVar 1) (oSome (fOp gAdd (fVar 3) (fC (.int 1)))) oNone)))
      sNil)
    (sSeq (sIf (fB (fOp gEq (fVar 2) (fC (.int 4))))
      (sRet (fOp gAdd (fOp gAdd (fSl gSlT (fVar 1) oNone (oSome (fVar 3))) (fTup (fCons (fCall0 1 f__law_odd (fCons (fVar 0) fNil)) fNil))) (fSl gSlT (fVar 1) (oSome (fVar 3)) oNone)))
      sNil)
    (sSeq (sIf (fB (fOp gEq (fVar 2) (fC (.int 5))))
      (sRet (fOp gAdd (fOp gAdd (fSl gSlT (fVar 1) oNone (oSome (fVar 3))) (fTup (fCons (fCall0 1 f__law_odd (fCons (fVar 0) fNil)) fNil))) (fSl gSlT (fVar 1) (oSome (fOp gAdd (fVar 3) (fC (.int 1)))) oNone)))
      sNil)
    (sRet (fFro (fCN gList (fCons (fVar 1) fNil))))))))))
noncomputable def f__law_bent : FF := fuelF (fun ψ => body 4 (g__law_bent ψ)) 24
noncomputable def g_is_count : FS :=
  (sRet (fAnd (fCall0 1 f_is_whole (fCons (fVar 0) fNil)) (fOp gGe (fVar 0) (fC (.int 0)))))
noncomputable def f_is_count : FF := body 1 g_is_count
noncomputable def g_is_wish : FS :=
  (sSeq (sIf (fOrT (fNotT (fB (fCB gIsi (fCons (fVar 0) (fCons (fC (.ty "tuple")) fNil))))) (fOrT (fB (fOp gNe (fCB gLen (fCons (fVar 0) fNil)) (fC (.int 2)))) (fOrT (fNotT (fB (fCall0 1 f_is_count (fCons (fOp gIx (fVar 0) (fC (.int 0))) fNil)))) (fB (fOp gEq (fOp gIx (fVar 0) (fC (.int 0))) (fC (.int 0)))))))
      (sRet (fC (.bl false)))
      sNil)
    (sSeq (sSet 1 (fOp gIx (fVar 0) (fC (.int 1))))
    (sRet (fAnd (fCB gIsi (fCons (fVar 1) (fCons (fC (.ty "tuple")) fNil))) (fAnd (fChain gLe gLe (fC (.int 1)) (fCB gLen (fCons (fVar 1) fNil)) (fC (.int 12))) (fCB gAll (fCons (fFro (fLc (fSeqI (fVar 1)) (gNm 2) tYesF (fCall0 1 f_is_count (fCons (fVar 2) fNil)) [2])) fNil)))))))
noncomputable def f_is_wish : FF := body 3 g_is_wish
noncomputable def g_is_letter : FS :=
  (sSeq (sIf (fOrT (fNotT (fB (fCB gIsi (fCons (fVar 0) (fCons (fC (.ty "tuple")) fNil))))) (fOrT (fB (fOp gEq (fCB gLen (fCons (fVar 0) fNil)) (fC (.int 0)))) (fNotT (fB (fCB gIsi (fCons (fOp gIx (fVar 0) (fC (.int 0))) (fCons (fC (.ty "str")) fNil)))))))
      (sRet (fC (.bl false)))
      sNil)
    (sSeq (sIf (fB (fOp gNe (fOp (gKGet [("ask", 4), ("leave", 4), ("word", 2)]) (fOp gIx (fVar 0) (fC (.int 0))) (fC (.int 0))) (fCB gLen (fCons (fVar 0) fNil))))
      (sRet (fC (.bl false)))
      sNil)
    (sSeq (sIf (fNotT (fB (fCB gAll (fCons (fFro (fLc (fSeqI (fSl gSlT (fVar 0) (oSome (fC (.int 1))) (oSome (fUn gNeg (fC (.int 1)))))) (gNm 1) tYesF (fCall0 1 f_is_count (fCons (fVar 1) fNil)) [1])) fNil))))
      (sRet (fC (.bl false)))
      sNil)
    (sRet (fOr (fCall0 1 f_is_wish (fCons (fOp gIx (fVar 0) (fUn gNeg (fC (.int 1)))) fNil)) (fAnd (fOp gIsN (fOp gIx (fVar 0) (fUn gNeg (fC (.int 1)))) (fC .non)) (fOp gNe (fOp gIx (fVar 0) (fC (.int 0))) (fC (.str "word")))))))))
noncomputable def f_is_letter : FF := body 2 g_is_letter
noncomputable def g__law_is_count : FS :=
  (sRet (fAnd (fCall0 1 f__law_is_whole (fCons (fVar 0) fNil)) (fOp gGe (fVar 0) (fC (.int 0)))))
noncomputable def f__law_is_count : FF := body 1 g__law_is_count
noncomputable def g__law_is_wish : FS :=
  (sSeq (sIf (fOrT (fNotT (fB (fCB gIsi (fCons (fVar 0) (fCons (fC (.ty "tuple")) fNil))))) (fOrT (fB (fOp gNe (fCB gLen (fCons (fVar 0) fNil)) (fC (.int 2)))) (fOrT (fNotT (fB (fCall0 1 f__law_is_count (fCons (fOp gIx (fVar 0) (fC (.int 0))) fNil)))) (fB (fOp gEq (fOp gIx (fVar 0) (fC (.int 0))) (fC (.int 0)))))))
      (sRet (fC (.bl false)))
      sNil)
    (sSeq (sIf (fOrT (fNotT (fB (fCB gIsi (fCons (fOp gIx (fVar 0) (fC (.int 1))) (fCons (fC (.ty "tuple")) fNil))))) (fNotT (fB (fChain gLt gLt (fC (.int 0)) (fCB gLen (fCons (fOp gIx (fVar 0) (fC (.int 1))) fNil)) (fC (.int 13))))))
      (sRet (fC (.bl false)))
      sNil)
    (sRet (fCB gAll (fCons (fFro (fLc (fSeqI (fOp gIx (fVar 0) (fC (.int 1)))) (gNm 1) tYesF (fCall0 1 f__law_is_count (fCons (fVar 1) fNil)) [1])) fNil)))))
noncomputable def f__law_is_wish : FF := body 2 g__law_is_wish
noncomputable def g__law_due : FS :=
  (sSeq (sIf (fOrT (fNotT (fB (fCB gIsi (fCons (fVar 0) (fCons (fC (.ty "tuple")) fNil))))) (fOrT (fB (fOp gEq0 (fVar 0) (fTup fNil))) (fNotT (fB (fCB gIsi (fCons (fOp gIx (fVar 0) (fC (.int 0))) (fCons (fC (.ty "str")) fNil)))))))
      (sRet (fC (.bl false)))
      sNil)
    (sSeq (sIf (fB (fOp gEq (fOp gIx (fVar 0) (fC (.int 0))) (fC (.str "word"))))
      (sRet (fAnd (fOp gEq (fCB gLen (fCons (fVar 0) fNil)) (fC (.int 2))) (fCall0 1 f__law_is_wish (fCons (fOp gIx (fVar 0) (fC (.int 1))) fNil))))
      sNil)
    (sSeq (sIf (fOrT (fB (fOp (gInB true) (fOp gIx (fVar 0) (fC (.int 0))) (fTup (fCons (fC (.str "ask")) (fCons (fC (.str "leave")) fNil))))) (fB (fOp gNe (fCB gLen (fCons (fVar 0) fNil)) (fC (.int 4)))))
      (sRet (fC (.bl false)))
      sNil)
    (sSeq (sIf (fOrT (fNotT (fB (fCall0 1 f__law_is_count (fCons (fOp gIx (fVar 0) (fC (.int 1))) fNil)))) (fNotT (fB (fCall0 1 f__law_is_count (fCons (fOp gIx (fVar 0) (fC (.int 2))) fNil)))))
      (sRet (fC (.bl false)))
      sNil)
    (sRet (fOr (fOp gIsN (fOp gIx (fVar 0) (fC (.int 3))) (fC .non)) (fCall0 1 f__law_is_wish (fCons (fOp gIx (fVar 0) (fC (.int 3))) fNil))))))))
noncomputable def f__law_due : FF := body 1 g__law_due
noncomputable def g_law : FS :=
  (sSeq (sFor (fRng1 (fCons (fCB (gI2 max2) (fCons (fC (.int 1)) (fCons (fCB (gI2 min2) (fCons (fC (.int 3)) (fCons (fCB gLen (fCons (fVar 0) fNil)) fNil))) fNil))) fNil)) (gNm 1)
      (sSeq (sSet 2 (fNew (fCallN 2 fn__law_pot (fCons (fVar 0) (fCons (fVar 1) fNil)))))
      (sSeq (sFor (fRng1 (fCons (fC (.int 24)) fNil)) (gNm 3)
        (sSeq (sSet 4 (fCall0 1 f__law_letter (fCons (fVar 2) fNil)))
        (sSeq (sFor (fRng1 (fCons (fCall0 2 f__law_of (fCons (fVar 2) (fCons (fFro (fLst (fCons (fC (.int 0)) (fCons (fC (.int 1)) (fCons (fC (.int 1)) (fCons (fC (.int 2)) fNil)))))) fNil))) fNil)) (gNm 5)
          (sSet 4 (fCall0 2 f__law_bent (fCons (fVar 2) (fCons (fVar 4) fNil)))))
        (sSeq (sSet 6 (fCB gReprE (fCons (fVar 4) fNil)))
        (sIf (fOrT (fB (fOp gNe (fCB gRepr (fCons (fCall0 1 f_is_letter (fCons (fVar 4) fNil)) fNil)) (fCB gRepr (fCons (fCall0 1 f__law_due (fCons (fVar 4) fNil)) fNil)))) (fB (fOp gNe (fCB gReprE (fCons (fVar 4) fNil)) (fVar 6))))
          (sRet (fC (.bl false)))
          sNil)))))
      (sFor (fSeqI (fTup (fCons (fCall0 1 f__law_odd (fCons (fVar 2) fNil)) (fCons (fTup (fCons (fC (.str "ask")) fNil)) (fCons (fTup (fCons (fC (.str "word")) (fCons (fC .non) fNil))) (fCons (fTup (fCons (fC (.str "ask")) (fCons (fC (.int 0)) (fCons (fC (.int 0)) (fCons (fC .non) fNil))))) (fCons (fTup (fCons (fFro (fLst (fCons (fC (.str "ask")) fNil))) (fCons (fC (.int 0)) (fCons (fC (.int 0)) (fCons (fC .non) fNil))))) fNil))))))) (gNm 4)
        (sIf (fB (fOp gNe (fCB gRepr (fCons (fCall0 1 f_is_letter (fCons (fVar 4) fNil)) fNil)) (fCB gRepr (fCons (fCall0 1 f__law_due (fCons (fVar 4) fNil)) fNil))))
          (sRet (fC (.bl false)))
          sNil)))))
    (sRet (fC (.bl true))))
noncomputable def f_law : FF := body 7 g_law
end K58
namespace K58
open PySem PySem.Spec PyProof.Rows L2 S9 N60
def topS (i : Nat) : Stmt := PySem.Challenge.pw_notbothout_k58_letters_of_anything.main.body.getD i (.Pass ⟨0, 0, 0, 0⟩)
abbrev s__law_pot : Stmt := topS 9
theorem sc__law_pot : FnScope ["_law_script", "_law_k", "_law_cell", "_law_great"] ["_law_script", "_law_k"] (defScope s__law_pot) := ⟨rfl, rfl, rfl, by decide +kernel, rfl, by decide +kernel, by decide +kernel⟩
abbrev s__law_take : Stmt := topS 10
theorem sc__law_take : FnScope ["_law_pot_here", "_law_many", "_law_digit", "_law_prime", "_law_mixed"] ["_law_pot_here", "_law_many"] (defScope s__law_take) := ⟨rfl, rfl, rfl, by decide +kernel, rfl, by decide +kernel, by decide +kernel⟩
abbrev s__law_of : Stmt := topS 11
theorem sc__law_of : FnScope ["_law_pot_here", "_law_some"] ["_law_pot_here", "_law_some"] (defScope s__law_of) := ⟨rfl, rfl, rfl, by decide +kernel, rfl, by decide +kernel, by decide +kernel⟩
abbrev s__law_number : Stmt := topS 13
theorem sc__law_number : FnScope ["_law_pot_here"] ["_law_pot_here"] (defScope s__law_number) := ⟨rfl, rfl, rfl, by decide +kernel, rfl, by decide +kernel, by decide +kernel⟩
abbrev s__law_wish : Stmt := topS 14
theorem sc__law_wish : FnScope ["_law_pot_here", "_law_many", "_law_place"] ["_law_pot_here"] (defScope s__law_wish) := ⟨rfl, rfl, rfl, by decide +kernel, rfl, by decide +kernel, by decide +kernel⟩
abbrev s__law_letter : Stmt := topS 15
theorem sc__law_letter : FnScope ["_law_pot_here", "_law_word"] ["_law_pot_here"] (defScope s__law_letter) := ⟨rfl, rfl, rfl, by decide +kernel, rfl, by decide +kernel, by decide +kernel⟩
abbrev s__law_odd : Stmt := topS 16
theorem sc__law_odd : FnScope ["_law_pot_here", "_law_some", "_law_thing", "_law_turn"] ["_law_pot_here"] (defScope s__law_odd) := ⟨rfl, rfl, rfl, by decide +kernel, rfl, by decide +kernel, by decide +kernel⟩
abbrev s__law_bent : Stmt := topS 17
theorem sc__law_bent : FnScope ["_law_pot_here", "_law_thing", "_law_sort", "_law_at"] ["_law_pot_here", "_law_thing"] (defScope s__law_bent) := ⟨rfl, rfl, rfl, by decide +kernel, rfl, by decide +kernel, by decide +kernel⟩
abbrev s_is_whole : Stmt := topS 1
theorem sc_is_whole : FnScope ["thing"] ["thing"] (defScope s_is_whole) := ⟨rfl, rfl, rfl, by decide +kernel, rfl, by decide +kernel, by decide +kernel⟩
abbrev s_is_count : Stmt := topS 2
theorem sc_is_count : FnScope ["thing"] ["thing"] (defScope s_is_count) := ⟨rfl, rfl, rfl, by decide +kernel, rfl, by decide +kernel, by decide +kernel⟩
abbrev s_is_wish : Stmt := topS 6
theorem sc_is_wish : FnScope ["thing", "places", "place"] ["thing"] (defScope s_is_wish) := ⟨rfl, rfl, rfl, by decide +kernel, rfl, by decide +kernel, by decide +kernel⟩
abbrev s_is_letter : Stmt := topS 7
theorem sc_is_letter : FnScope ["thing", "part"] ["thing"] (defScope s_is_letter) := ⟨rfl, rfl, rfl, by decide +kernel, rfl, by decide +kernel, by decide +kernel⟩
abbrev s__law_is_whole : Stmt := topS 12
theorem sc__law_is_whole : FnScope ["_law_thing"] ["_law_thing"] (defScope s__law_is_whole) := ⟨rfl, rfl, rfl, by decide +kernel, rfl, by decide +kernel, by decide +kernel⟩
abbrev s__law_is_count : Stmt := topS 18
theorem sc__law_is_count : FnScope ["_law_thing"] ["_law_thing"] (defScope s__law_is_count) := ⟨rfl, rfl, rfl, by decide +kernel, rfl, by decide +kernel, by decide +kernel⟩
abbrev s__law_is_wish : Stmt := topS 19
theorem sc__law_is_wish : FnScope ["_law_thing", "_law_place"] ["_law_thing"] (defScope s__law_is_wish) := ⟨rfl, rfl, rfl, by decide +kernel, rfl, by decide +kernel, by decide +kernel⟩
abbrev s__law_due : Stmt := topS 20
theorem sc__law_due : FnScope ["_law_thing"] ["_law_thing"] (defScope s__law_due) := ⟨rfl, rfl, rfl, by decide +kernel, rfl, by decide +kernel, by decide +kernel⟩
abbrev s_law : Stmt := topS 21
theorem sc_law : FnScope ["_law_script", "_law_k", "_law_pot_here", "_law_turn", "_law_thing", "_law_bend", "_law_kept"] ["_law_script"] (defScope s_law) := ⟨rfl, rfl, rfl, by decide +kernel, rfl, by decide +kernel, by decide +kernel⟩
set_option maxHeartbeats 0 in
structure Ctx (w : World) (K : PySem.W.Frag) (mg : Str → Option Value) where
  a__law_pot : Addr
  d__law_pot : FuncData
  F__law_pot : Fun K "_law_pot" "_law_pot" s__law_pot a__law_pot d__law_pot
  m__law_pot : mg "_law_pot" = some (.ref a__law_pot)
  b__law_pot : Binds K d__law_pot ["_law_script", "_law_k"] []
  a__law_take : Addr
  d__law_take : FuncData
  F__law_take : Fun K "_law_take" "_law_take" s__law_take a__law_take d__law_take
  m__law_take : mg "_law_take" = some (.ref a__law_take)
  b__law_take : Binds K d__law_take ["_law_pot_here", "_law_many"] []
  a__law_of : Addr
  d__law_of : FuncData
  F__law_of : Fun K "_law_of" "_law_of" s__law_of a__law_of d__law_of
  m__law_of : mg "_law_of" = some (.ref a__law_of)
  b__law_of : Binds K d__law_of ["_law_pot_here", "_law_some"] []
  a__law_number : Addr
  d__law_number : FuncData
  F__law_number : Fun K "_law_number" "_law_number" s__law_number a__law_number d__law_number
  m__law_number : mg "_law_number" = some (.ref a__law_number)
  b__law_number : Binds K d__law_number ["_law_pot_here"] []
  a__law_wish : Addr
  d__law_wish : FuncData
  F__law_wish : Fun K "_law_wish" "_law_wish" s__law_wish a__law_wish d__law_wish
  m__law_wish : mg "_law_wish" = some (.ref a__law_wish)
  b__law_wish : Binds K d__law_wish ["_law_pot_here"] []
  a__law_letter : Addr
  d__law_letter : FuncData
  F__law_letter : Fun K "_law_letter" "_law_letter" s__law_letter a__law_letter d__law_letter
  m__law_letter : mg "_law_letter" = some (.ref a__law_letter)
  b__law_letter : Binds K d__law_letter ["_law_pot_here"] []
  a__law_odd : Addr
  d__law_odd : FuncData
  F__law_odd : Fun K "_law_odd" "_law_odd" s__law_odd a__law_odd d__law_odd
  m__law_odd : mg "_law_odd" = some (.ref a__law_odd)
  b__law_odd : Binds K d__law_odd ["_law_pot_here"] []
  a__law_bent : Addr
  d__law_bent : FuncData
  F__law_bent : Fun K "_law_bent" "_law_bent" s__law_bent a__law_bent d__law_bent
  m__law_bent : mg "_law_bent" = some (.ref a__law_bent)
  b__law_bent : Binds K d__law_bent ["_law_pot_here", "_law_thing"] []
  a_is_whole : Addr
  d_is_whole : FuncData
  F_is_whole : Fun K "is_whole" "is_whole" s_is_whole a_is_whole d_is_whole
  m_is_whole : mg "is_whole" = some (.ref a_is_whole)
  b_is_whole : Binds K d_is_whole ["thing"] []
  a_is_count : Addr
  d_is_count : FuncData
  F_is_count : Fun K "is_count" "is_count" s_is_count a_is_count d_is_count
  m_is_count : mg "is_count" = some (.ref a_is_count)
  b_is_count : Binds K d_is_count ["thing"] []
  a_is_wish : Addr
  d_is_wish : FuncData
  F_is_wish : Fun K "is_wish" "is_wish" s_is_wish a_is_wish d_is_wish
  m_is_wish : mg "is_wish" = some (.ref a_is_wish)
  b_is_wish : Binds K d_is_wish ["thing"] []
  a_is_letter : Addr
  d_is_letter : FuncData
  F_is_letter : Fun K "is_letter" "is_letter" s_is_letter a_is_letter d_is_letter
  m_is_letter : mg "is_letter" = some (.ref a_is_letter)
  b_is_letter : Binds K d_is_letter ["thing"] []
  a__law_is_whole : Addr
  d__law_is_whole : FuncData
  F__law_is_whole : Fun K "_law_is_whole" "_law_is_whole" s__law_is_whole a__law_is_whole d__law_is_whole
  m__law_is_whole : mg "_law_is_whole" = some (.ref a__law_is_whole)
  b__law_is_whole : Binds K d__law_is_whole ["_law_thing"] []
  a__law_is_count : Addr
  d__law_is_count : FuncData
  F__law_is_count : Fun K "_law_is_count" "_law_is_count" s__law_is_count a__law_is_count d__law_is_count
  m__law_is_count : mg "_law_is_count" = some (.ref a__law_is_count)
  b__law_is_count : Binds K d__law_is_count ["_law_thing"] []
  a__law_is_wish : Addr
  d__law_is_wish : FuncData
  F__law_is_wish : Fun K "_law_is_wish" "_law_is_wish" s__law_is_wish a__law_is_wish d__law_is_wish
  m__law_is_wish : mg "_law_is_wish" = some (.ref a__law_is_wish)
  b__law_is_wish : Binds K d__law_is_wish ["_law_thing"] []
  a__law_due : Addr
  d__law_due : FuncData
  F__law_due : Fun K "_law_due" "_law_due" s__law_due a__law_due d__law_due
  m__law_due : mg "_law_due" = some (.ref a__law_due)
  b__law_due : Binds K d__law_due ["_law_thing"] []
  a_law : Addr
  d_law : FuncData
  F_law : Fun K "law" "law" s_law a_law d_law
  m_law : mg "law" = some (.ref a_law)
  b_law : Binds K d_law ["_law_script"] []
  v_MOST_THINGS : ∃ t, mg "MOST_THINGS" = some (.int 12 t)
  v_PARTS : ∃ a, mg "PARTS" = some (.ref a) ∧ KInts K w a [("ask", 4), ("leave", 4), ("word", 2)]
  z_abs : mg "abs" = none
  z_all : mg "all" = none
  z_bool : mg "bool" = none
  z_int : mg "int" = none
  z_isinstance : mg "isinstance" = none
  z_len : mg "len" = none
  z_list : mg "list" = none
  z_max : mg "max" = none
  z_min : mg "min" = none
  z_range : mg "range" = none
  z_repr : mg "repr" = none
  z_str : mg "str" = none
  z_tuple : mg "tuple" = none
section
variable {P : Program} {w : World} {K : PySem.W.Frag} {mg : Str → Option Value} {base : Heap}
theorem okn__law_pot (c : Ctx w K mg) : FnG P w K mg base CX0 1 c.a__law_pot c.d__law_pot ["_law_script", "_law_k"] (spN K 2 fn__law_pot) :=
  gn_body c.F__law_pot sc__law_pot fun cdv A out s H E gd hr =>
    (rss_cons (rs_set (i := 2) sc__law_pot.nd rfl (.inl rfl) (re_if (rt_cmp op_lt od_lt (re_var (pv 1)) (re_callB call_len cd_len (by rfl) c.z_len PySem.boot_len (ra_cons (re_var (pv 0)) ra_nil)) (nomark _)) (re_ix ix_seq od_ix (re_var (pv 0)) (re_var (pv 1)) (fun _ _ => rfl)) (re_op op_addA od_add (re_op op_mulW od_mul re_int (re_var (pv 1))) re_int)))
    (rss_cons (rs_set (i := 3) sc__law_pot.nd rfl (.inl rfl) (re_op op_mulW od_mul (re_op op_mod od_mod (re_callB call_abs cd_abs (by rfl) c.z_abs boot_abs (ra_cons (re_var (pv 2)) ra_nil)) (re_op op_powW od_pow (re_op op_powW od_pow re_int re_int) re_int)) (re_callTy call_int1 cd_int (by rfl) c.z_int boot_int (ra_cons (re_cmp op_ge od_ge (re_callB call_abs cd_abs (by rfl) c.z_abs boot_abs (ra_cons (re_var (pv 2)) ra_nil)) (re_op op_powW od_pow re_int re_int) (nomark _)) ra_nil))))
    (rss_one (rs_ret (re_new (rn_lst (ra_cons (re_var (pv 3)) (ra_cons (re_op op_mod od_mod (re_op op_mulW od_mul (re_op op_addA od_add (re_op op_addA od_add (re_op op_mod od_mod (re_var (pv 2)) re_int) (re_op op_mulW od_mul (re_op op_mulW od_mul re_int (re_var (pv 1))) (re_var (pv 1)))) re_int) re_int) re_int) (ra_cons re_int ra_nil)))))))))
theorem ok__law_take (c : Ctx w K mg) : FnG P w K mg base CX0 1 c.a__law_take c.d__law_take ["_law_pot_here", "_law_many"] (sp0 K 2 f__law_take) :=
  g_body c.F__law_take sc__law_take fun cdv A out s H E gd hr =>
    (rss_cons (rs_if (rt_cmp op_gt od_gt (re_ix ix_seq od_ix (re_var (pv 0)) re_int (fun _ _ => rfl)) re_int (nomark _))
      (rss_cons (rs_set (i := 2) sc__law_take.nd rfl (.inl rfl) (re_op op_mod od_mod (re_ix ix_seq od_ix (re_var (pv 0)) re_int (fun _ _ => rfl)) (re_var (pv 1))))
      (rss_cons (rs_seti (re_var (pv 0)) re_int (re_op op_fdivW od_div (re_ix ix_seq od_ix (re_var (pv 0)) re_int (fun _ _ => rfl)) (re_var (pv 1))))
      (rss_one (rs_ret (re_var (pv 2))))))
      rss_nil)
    (rss_cons (rs_seti (re_var (pv 0)) re_int (re_op op_addA od_add (re_ix ix_seq od_ix (re_var (pv 0)) re_int (fun _ _ => rfl)) re_int))
    (rss_cons (rs_set (i := 3) sc__law_take.nd rfl (.inl rfl) (re_ix ix_seq od_ix (re_fro (rn_lst (ra_cons re_int (ra_cons re_int (ra_cons re_int (ra_cons re_int ra_nil)))))) (re_op op_mod od_mod (re_ix ix_seq od_ix (re_var (pv 0)) re_int (fun _ _ => rfl)) re_int) (fun _ _ => rfl)))
    (rss_cons (rs_set (i := 4) sc__law_take.nd rfl (.inl rfl) (re_op op_mod od_mod (re_op op_addA od_add (re_op op_addA od_add (re_ix ix_seq od_ix (re_var (pv 0)) re_int (fun _ _ => rfl)) (re_op op_mulW od_mul (re_op op_mulW od_mul re_int (re_ix ix_seq od_ix (re_var (pv 0)) re_int (fun _ _ => rfl))) (re_ix ix_seq od_ix (re_var (pv 0)) re_int (fun _ _ => rfl)))) (re_op op_mulW od_mul re_int (re_ix ix_seq od_ix (re_var (pv 0)) re_int (fun _ _ => rfl)))) (re_var (pv 3))))
    (rss_cons (rs_set (i := 4) sc__law_take.nd rfl (.inl rfl) (re_op op_mod od_mod (re_op op_powW od_pow (re_var (pv 4)) re_int) (re_var (pv 3))))
    (rss_one (rs_ret (re_op op_mod od_mod (re_op op_addA od_add (re_op op_fdivW od_div (re_var (pv 4)) re_int) (re_op op_mulW od_mul (re_op op_fdivW od_div (re_var (pv 4)) re_int) re_int)) (re_var (pv 1))))))))))
theorem ok__law_of (c : Ctx w K mg) : FnG P w K mg base CX0 2 c.a__law_of c.d__law_of ["_law_pot_here", "_law_some"] (sp0 K 2 f__law_of) :=
  g_body c.F__law_of sc__law_of fun cdv A out s H E gd hr =>
    (rss_one (rs_ret (re_ix ix_seq od_ix (re_var (pv 1)) (re_g (ok__law_take c) gd (hr.mono (by decide)) (by rfl) c.m__law_take c.F__law_take.kp c.b__law_take pass0 (ra_cons (re_var (pv 0)) (ra_cons (re_callB call_len cd_len (by rfl) c.z_len PySem.boot_len (ra_cons (re_var (pv 1)) ra_nil)) ra_nil))) (fun _ _ => rfl))))
theorem ok__law_number (c : Ctx w K mg) : FnG P w K mg base CX0 3 c.a__law_number c.d__law_number ["_law_pot_here"] (sp0 K 1 f__law_number) :=
  g_body c.F__law_number sc__law_number fun cdv A out s H E gd hr =>
    (rss_one (rs_ret (re_g (ok__law_of c) gd (hr.mono (by decide)) (by rfl) c.m__law_of c.F__law_of.kp c.b__law_of pass0 (ra_cons (re_var (pv 0)) (ra_cons (re_fro (rn_lst (ra_cons re_int (ra_cons re_int (ra_cons re_int (ra_cons re_int (ra_cons (re_g (ok__law_take c) gd (hr.mono (by decide)) (by rfl) c.m__law_take c.F__law_take.kp c.b__law_take pass0 (ra_cons (re_var (pv 0)) (ra_cons re_int ra_nil))) (ra_cons (re_op op_sub od_sub (re_op op_powW od_pow re_int re_int) re_int) (ra_cons (re_op op_powW od_pow re_int re_int) ra_nil))))))))) ra_nil)))))
theorem ok__law_wish (c : Ctx w K mg) : FnG P w K mg base CX0 4 c.a__law_wish c.d__law_wish ["_law_pot_here"] (sp0 K 1 f__law_wish) :=
  g_body c.F__law_wish sc__law_wish fun cdv A out s H E gd hr =>
    (rss_cons (rs_if (rt_cmp (op_eqA hr.units) od_eq (re_g (ok__law_take c) gd (hr.mono (by decide)) (by rfl) c.m__law_take c.F__law_take.kp c.b__law_take pass0 (ra_cons (re_var (pv 0)) (ra_cons re_int ra_nil))) re_int (nomark _))
      (rss_one (rs_ret re_non))
      rss_nil)
    (rss_cons (rs_set (i := 1) sc__law_wish.nd rfl (.inl rfl) (re_g (ok__law_of c) gd (hr.mono (by decide)) (by rfl) c.m__law_of c.F__law_of.kp c.b__law_of pass0 (ra_cons (re_var (pv 0)) (ra_cons (re_fro (rn_lst (ra_cons re_int (ra_cons re_int (ra_cons (re_op op_addA od_add re_int (re_g (ok__law_take c) gd (hr.mono (by decide)) (by rfl) c.m__law_take c.F__law_take.kp c.b__law_take pass0 (ra_cons (re_var (pv 0)) (ra_cons re_int ra_nil)))) (ra_cons re_int ra_nil)))))) ra_nil))))
    (rss_one (rs_ret (re_tup (ra_cons (re_g (ok__law_number c) gd (hr.mono (by decide)) (by rfl) c.m__law_number c.F__law_number.kp c.b__law_number pass0 (ra_cons (re_var (pv 0)) ra_nil)) (ra_cons (re_callTy call_tuple_of cd_tuple (by rfl) c.z_tuple boot_tuple (ra_cons (re_fro (rn_lc (own := [("_law_place", 2)]) rfl sc__law_wish.nd (ri_range1 (by rfl) c.z_range (ra_cons (re_var (pv 1)) ra_nil)) (blkOk_by (by kernel_rfl)) (fun _ _ _ _ _ => (rg_name (i := 2) sc__law_wish.nd rfl (.inl rfl))) (fun _ _ _ _ _ => rts_nil) (fun _ _ _ _ _ => (re_g (ok__law_number c) gd (hr.mono (by decide)) (by rfl) c.m__law_number c.F__law_number.kp c.b__law_number pass0 (ra_cons (re_var (pv 0)) ra_nil))) (by decide))) ra_nil)) ra_nil)))))))
theorem ok__law_letter (c : Ctx w K mg) : FnG P w K mg base CX0 5 c.a__law_letter c.d__law_letter ["_law_pot_here"] (sp0 K 1 f__law_letter) :=
  g_body c.F__law_letter sc__law_letter fun cdv A out s H E gd hr =>
    (rss_cons (rs_set (i := 1) sc__law_letter.nd rfl (.inl rfl) (re_g (ok__law_of c) gd (hr.mono (by decide)) (by rfl) c.m__law_of c.F__law_of.kp c.b__law_of pass0 (ra_cons (re_var (pv 0)) (ra_cons (re_fro (rn_lst (ra_cons re_str (ra_cons re_str (ra_cons re_str ra_nil))))) ra_nil))))
    (rss_cons (rs_if (rt_cmp (op_eqA hr.units) od_eq (re_var (pv 1)) re_str (nomark _))
      (rss_one (rs_ret (re_tup (ra_cons (re_var (pv 1)) (ra_cons (re_g (ok__law_wish c) gd (hr.mono (by decide)) (by rfl) c.m__law_wish c.F__law_wish.kp c.b__law_wish pass0 (ra_cons (re_var (pv 0)) ra_nil)) ra_nil)))))
      rss_nil)
    (rss_one (rs_ret (re_tup (ra_cons (re_var (pv 1)) (ra_cons (re_g (ok__law_number c) gd (hr.mono (by decide)) (by rfl) c.m__law_number c.F__law_number.kp c.b__law_number pass0 (ra_cons (re_var (pv 0)) ra_nil)) (ra_cons (re_g (ok__law_number c) gd (hr.mono (by decide)) (by rfl) c.m__law_number c.F__law_number.kp c.b__law_number pass0 (ra_cons (re_var (pv 0)) ra_nil)) (ra_cons (re_g (ok__law_wish c) gd (hr.mono (by decide)) (by rfl) c.m__law_wish c.F__law_wish.kp c.b__law_wish pass0 (ra_cons (re_var (pv 0)) ra_nil)) ra_nil)))))))))
theorem ok__law_odd (c : Ctx w K mg) : FnG P w K mg base CX0 3 c.a__law_odd c.d__law_odd ["_law_pot_here"] (sp0 K 1 f__law_odd) :=
  g_body c.F__law_odd sc__law_odd fun cdv A out s H E gd hr =>
    (rss_cons (rs_set (i := 1) sc__law_odd.nd rfl (.inl rfl) (re_fro (rn_lst (ra_cons re_non (ra_cons re_bl (ra_cons re_bl (ra_cons re_int (ra_cons re_int (ra_cons (re_un un_neg od_neg re_int) (ra_cons re_str (ra_cons re_str (ra_cons re_str (ra_cons re_str (ra_cons (re_tup ra_nil) (ra_cons (re_fro (rn_lst ra_nil)) (ra_cons re_dic0 (ra_cons (re_tup (ra_cons re_int ra_nil)) (ra_cons (re_tup (ra_cons re_int (ra_cons (re_tup (ra_cons re_int ra_nil)) ra_nil))) (ra_cons (re_tup (ra_cons re_int (ra_cons (re_tup (ra_cons re_int ra_nil)) ra_nil))) ra_nil)))))))))))))))))))
    (rss_cons (rs_set (i := 2) sc__law_odd.nd rfl (.inl rfl) (re_g (ok__law_of c) gd (hr.mono (by decide)) (by rfl) c.m__law_of c.F__law_of.kp c.b__law_of pass0 (ra_cons (re_var (pv 0)) (ra_cons (re_fro (rn_op op_cat on_cat (re_var (pv 1)) (re_fro (rn_lst (ra_cons (re_tup (ra_cons re_int (ra_cons (re_tup ra_nil) ra_nil))) (ra_cons (re_tup (ra_cons re_int (ra_cons (re_op op_repA od_repT (re_tup (ra_cons re_int ra_nil)) re_int) ra_nil))) (ra_cons (re_fro (rn_lst (ra_cons re_int (ra_cons (re_tup (ra_cons re_int ra_nil)) ra_nil)))) (ra_cons (re_tup (ra_cons re_int (ra_cons (re_fro (rn_lst (ra_cons re_int ra_nil))) ra_nil))) (ra_cons (re_op op_powW od_pow re_int re_int) ra_nil))))))))) ra_nil))))
    (rss_cons (rs_for PassesOwn.never rfl (ri_range1 (by rfl) c.z_range (ra_cons (re_g (ok__law_of c) gd (hr.mono (by decide)) (by rfl) c.m__law_of c.F__law_of.kp c.b__law_of pass0 (ra_cons (re_var (pv 0)) (ra_cons (re_fro (rn_lst (ra_cons re_int (ra_cons re_int (ra_cons re_int (ra_cons re_int (ra_cons re_int ra_nil))))))) ra_nil))) ra_nil)) (rg_name (i := 3) sc__law_odd.nd rfl (.inl rfl))
      (rss_one (rs_set (i := 2) sc__law_odd.nd rfl (.inl rfl) (re_ix ix_seq od_ix (re_fro (rn_lst (ra_cons (re_tup (ra_cons (re_var (pv 2)) ra_nil)) (ra_cons (re_fro (rn_lst (ra_cons (re_var (pv 2)) ra_nil))) (ra_cons (re_tup (ra_cons re_str (ra_cons (re_var (pv 2)) ra_nil))) ra_nil))))) (re_g (ok__law_take c) gd (hr.mono (by decide)) (by rfl) c.m__law_take c.F__law_take.kp c.b__law_take pass0 (ra_cons (re_var (pv 0)) (ra_cons re_int ra_nil))) (fun _ _ => rfl)))))
    (rss_one (rs_ret (re_var (pv 2)))))))
theorem st__law_bent (c : Ctx w K mg) (k : Nat) (ψ : FF) (hk : 3 ≤ k) (F0 : FnG P w K mg base CX0 k c.a__law_bent c.d__law_bent ["_law_pot_here", "_law_thing"] (sp0 K 2 ψ)) : FnG P w K mg base CX0 (k + 1) c.a__law_bent c.d__law_bent ["_law_pot_here", "_law_thing"] (sp0 K 2 (body 4 (g__law_bent ψ))) :=
  g_body c.F__law_bent sc__law_bent fun cdv A out s H E gd hr =>
    (rss_cons (rs_if (rt_of (rb_or (rt_not (rt_val (re_callB call_isi cd_isi (by rfl) c.z_isinstance boot_isinstance (ra_cons (re_var (pv 1)) (ra_cons (re_ty (by rfl) c.z_tuple boot_tuple) ra_nil))))) (rb_or1 (rt_cmp (op_eq0 hr.units) od_eq0 (re_var (pv 1)) (re_tup ra_nil) (nomark _)))))
      (rss_one (rs_ret (re_g (ok__law_odd c) gd (hr.mono (Nat.le_trans (by decide) hk)) (by rfl) c.m__law_odd c.F__law_odd.kp c.b__law_odd pass0 (ra_cons (re_var (pv 0)) ra_nil))))
      rss_nil)
    (rss_cons (rs_par (i := 2) (j := 3) rfl sc__law_bent.nd rfl rfl (by decide) rfl rfl (ra_cons (re_g (ok__law_take c) gd (hr.mono (Nat.le_trans (by decide) hk)) (by rfl) c.m__law_take c.F__law_take.kp c.b__law_take pass0 (ra_cons (re_var (pv 0)) (ra_cons re_int ra_nil))) (ra_cons (re_g (ok__law_take c) gd (hr.mono (Nat.le_trans (by decide) hk)) (by rfl) c.m__law_take c.F__law_take.kp c.b__law_take pass0 (ra_cons (re_var (pv 0)) (ra_cons (re_callB call_len cd_len (by rfl) c.z_len PySem.boot_len (ra_cons (re_var (pv 1)) ra_nil)) ra_nil))) ra_nil)))
    (rss_cons (rs_if (rt_cmp op_lt od_lt (re_var (pv 2)) re_int (nomark _))
      (rss_one (rs_ret (re_op op_addA od_add (re_op op_addA od_add (re_sl sl_tupA sd_tup (re_var (pv 1)) ro_none (ro_some (re_var (pv 3)))) (re_tup (ra_cons (re_g F0 gd (hr.mono (Nat.le_refl _)) (by rfl) c.m__law_bent c.F__law_bent.kp c.b__law_bent pass0 (ra_cons (re_var (pv 0)) (ra_cons (re_ix ix_seq od_ix (re_var (pv 1)) (re_var (pv 3)) (fun _ _ => rfl)) ra_nil))) ra_nil))) (re_sl sl_tupA sd_tup (re_var (pv 1)) (ro_some (re_op op_addA od_add (re_var (pv 3)) re_int)) ro_none))))
      rss_nil)
    (rss_cons (rs_if (rt_cmp (op_eqA hr.units) od_eq (re_var (pv 2)) re_int (nomark _))
      (rss_one (rs_ret (re_op op_addA od_add (re_sl sl_tupA sd_tup (re_var (pv 1)) ro_none (ro_some (re_var (pv 3)))) (re_sl sl_tupA sd_tup (re_var (pv 1)) (ro_some (re_op op_addA od_add (re_var (pv 3)) re_int)) ro_none))))
      rss_nil)
    (rss_cons (rs_if (rt_cmp (op_eqA hr.units) od_eq (re_var (pv 2)) re_int (nomark _))
      (rss_one (rs_ret (re_op op_addA od_add (re_op op_addA od_add (re_sl sl_tupA sd_tup (re_var (pv 1)) ro_none (ro_some (re_var (pv 3)))) (re_tup (ra_cons (re_g (ok__law_odd c) gd (hr.mono (Nat.le_trans (by decide) hk)) (by rfl) c.m__law_odd c.F__law_odd.kp c.b__law_odd pass0 (ra_cons (re_var (pv 0)) ra_nil)) ra_nil))) (re_sl sl_tupA sd_tup (re_var (pv 1)) (ro_some (re_var (pv 3))) ro_none))))
      rss_nil)
    (rss_cons (rs_if (rt_cmp (op_eqA hr.units) od_eq (re_var (pv 2)) re_int (nomark _))
      (rss_one (rs_ret (re_op op_addA od_add (re_op op_addA od_add (re_sl sl_tupA sd_tup (re_var (pv 1)) ro_none (ro_some (re_var (pv 3)))) (re_tup (ra_cons (re_g (ok__law_odd c) gd (hr.mono (Nat.le_trans (by decide) hk)) (by rfl) c.m__law_odd c.F__law_odd.kp c.b__law_odd pass0 (ra_cons (re_var (pv 0)) ra_nil)) ra_nil))) (re_sl sl_tupA sd_tup (re_var (pv 1)) (ro_some (re_op op_addA od_add (re_var (pv 3)) re_int)) ro_none))))
      rss_nil)
    (rss_one (rs_ret (re_fro (rn_callTy call_list_of cn_list (by rfl) c.z_list boot_list (ra_cons (re_var (pv 1)) ra_nil)))))))))))
theorem ok__law_bent (c : Ctx w K mg) : FnG P w K mg base CX0 27 c.a__law_bent c.d__law_bent ["_law_pot_here", "_law_thing"] (sp0 K 2 f__law_bent) := fnG_fuel (k0 := 3) rfl (st__law_bent c) 24
theorem ok_is_whole (c : Ctx w K mg) : FnG P w K mg base CX0 1 c.a_is_whole c.d_is_whole ["thing"] (sp0 K 1 f_is_whole) :=
  g_body c.F_is_whole sc_is_whole fun cdv A out s H E gd hr =>
    (rss_one (rs_ret (re_and (re_callB call_isi cd_isi (by rfl) c.z_isinstance boot_isinstance (ra_cons (re_var (pv 0)) (ra_cons (re_ty (by rfl) c.z_int boot_int) ra_nil))) (re_one (re_not (re_callB call_isi cd_isi (by rfl) c.z_isinstance boot_isinstance (ra_cons (re_var (pv 0)) (ra_cons (re_ty (by rfl) c.z_bool boot_bool) ra_nil))))))))
theorem ok_is_count (c : Ctx w K mg) : FnG P w K mg base CX0 2 c.a_is_count c.d_is_count ["thing"] (sp0 K 1 f_is_count) :=
  g_body c.F_is_count sc_is_count fun cdv A out s H E gd hr =>
    (rss_one (rs_ret (re_and (re_g (ok_is_whole c) gd (hr.mono (by decide)) (by rfl) c.m_is_whole c.F_is_whole.kp c.b_is_whole pass0 (ra_cons (re_var (pv 0)) ra_nil)) (re_one (re_cmp op_ge od_ge (re_var (pv 0)) re_int (nomark _))))))
theorem ok_is_wish (c : Ctx w K mg) : FnG P w K mg base CX0 3 c.a_is_wish c.d_is_wish ["thing"] (sp0 K 1 f_is_wish) :=
  g_body c.F_is_wish sc_is_wish fun cdv A out s H E gd hr =>
    (rss_cons (rs_if (rt_of (rb_or (rt_not (rt_val (re_callB call_isi cd_isi (by rfl) c.z_isinstance boot_isinstance (ra_cons (re_var (pv 0)) (ra_cons (re_ty (by rfl) c.z_tuple boot_tuple) ra_nil))))) (rb_or (rt_cmp (op_neA hr.units) od_ne (re_callB call_len cd_len (by rfl) c.z_len PySem.boot_len (ra_cons (re_var (pv 0)) ra_nil)) re_int (nomark _)) (rb_or (rt_not (rt_val (re_g (ok_is_count c) gd (hr.mono (by decide)) (by rfl) c.m_is_count c.F_is_count.kp c.b_is_count pass0 (ra_cons (re_ix ix_seq od_ix (re_var (pv 0)) re_int (fun _ _ => rfl)) ra_nil)))) (rb_or1 (rt_cmp (op_eqA hr.units) od_eq (re_ix ix_seq od_ix (re_var (pv 0)) re_int (fun _ _ => rfl)) re_int (nomark _)))))))
      (rss_one (rs_ret re_bl))
      rss_nil)
    (rss_cons (rs_set (i := 1) sc_is_wish.nd rfl (.inl rfl) (re_ix ix_seq od_ix (re_var (pv 0)) re_int (fun _ _ => rfl)))
    (rss_one (rs_ret (re_and (re_callB call_isi cd_isi (by rfl) c.z_isinstance boot_isinstance (ra_cons (re_var (pv 1)) (ra_cons (re_ty (by rfl) c.z_tuple boot_tuple) ra_nil))) (re_and (re_chain op_le op_le od_le od_le re_int (re_callB call_len cd_len (by rfl) c.z_len PySem.boot_len (ra_cons (re_var (pv 1)) ra_nil)) (re_globI (by rfl) c.v_MOST_THINGS)) (re_one (re_callB (cr_all rfl) cd_all (by rfl) c.z_all boot_all (ra_cons (re_fro (rn_lc (own := [("place", 2)]) rfl sc_is_wish.nd (ri_seq (re_var (pv 1))) (blkOk_by (by kernel_rfl)) (fun _ _ _ _ _ => (rg_name (i := 2) sc_is_wish.nd rfl (.inl rfl))) (fun _ _ _ _ _ => rts_nil) (fun _ _ _ _ _ => (re_g (ok_is_count c) gd (hr.mono (by decide)) (by rfl) c.m_is_count c.F_is_count.kp c.b_is_count pass0 (ra_cons (re_var (pv 2)) ra_nil))) (by decide))) ra_nil)))))))))
theorem ok_is_letter (c : Ctx w K mg) : FnG P w K mg base CX0 4 c.a_is_letter c.d_is_letter ["thing"] (sp0 K 1 f_is_letter) :=
  g_body c.F_is_letter sc_is_letter fun cdv A out s H E gd hr =>
    (rss_cons (rs_if (rt_of (rb_or (rt_not (rt_val (re_callB call_isi cd_isi (by rfl) c.z_isinstance boot_isinstance (ra_cons (re_var (pv 0)) (ra_cons (re_ty (by rfl) c.z_tuple boot_tuple) ra_nil))))) (rb_or (rt_cmp (op_eqA hr.units) od_eq (re_callB call_len cd_len (by rfl) c.z_len PySem.boot_len (ra_cons (re_var (pv 0)) ra_nil)) re_int (nomark _)) (rb_or1 (rt_not (rt_val (re_callB call_isi cd_isi (by rfl) c.z_isinstance boot_isinstance (ra_cons (re_ix ix_seq od_ix (re_var (pv 0)) re_int (fun _ _ => rfl)) (ra_cons (re_ty (by rfl) c.z_str boot_str) ra_nil)))))))))
      (rss_one (rs_ret re_bl))
      rss_nil)
    (rss_cons (rs_if (rt_cmp (op_neA hr.units) od_ne (re_kget (by rfl) c.v_PARTS (re_ix ix_seq od_ix (re_var (pv 0)) re_int (fun _ _ => rfl)) re_int) (re_callB call_len cd_len (by rfl) c.z_len PySem.boot_len (ra_cons (re_var (pv 0)) ra_nil)) (nomark _))
      (rss_one (rs_ret re_bl))
      rss_nil)
    (rss_cons (rs_if (rt_not (rt_val (re_callB (cr_all rfl) cd_all (by rfl) c.z_all boot_all (ra_cons (re_fro (rn_lc (own := [("part", 1)]) rfl sc_is_letter.nd (ri_seq (re_sl sl_tupA sd_tup (re_var (pv 0)) (ro_some re_int) (ro_some (re_un un_neg od_neg re_int)))) (blkOk_by (by kernel_rfl)) (fun _ _ _ _ _ => (rg_name (i := 1) sc_is_letter.nd rfl (.inl rfl))) (fun _ _ _ _ _ => rts_nil) (fun _ _ _ _ _ => (re_g (ok_is_count c) gd (hr.mono (by decide)) (by rfl) c.m_is_count c.F_is_count.kp c.b_is_count pass0 (ra_cons (re_var (pv 1)) ra_nil))) (by decide))) ra_nil))))
      (rss_one (rs_ret re_bl))
      rss_nil)
    (rss_one (rs_ret (re_or (re_g (ok_is_wish c) gd (hr.mono (by decide)) (by rfl) c.m_is_wish c.F_is_wish.kp c.b_is_wish pass0 (ra_cons (re_ix ix_seq od_ix (re_var (pv 0)) (re_un un_neg od_neg re_int) (fun _ _ => rfl)) ra_nil)) (re_one (re_and (re_cmp op_isN od_isN (re_ix ix_seq od_ix (re_var (pv 0)) (re_un un_neg od_neg re_int) (fun _ _ => rfl)) re_non (nomark _)) (re_one (re_cmp (op_neA hr.units) od_ne (re_ix ix_seq od_ix (re_var (pv 0)) re_int (fun _ _ => rfl)) re_str (nomark _)))))))))))
theorem ok__law_is_whole (c : Ctx w K mg) : FnG P w K mg base CX0 1 c.a__law_is_whole c.d__law_is_whole ["_law_thing"] (sp0 K 1 f__law_is_whole) :=
  g_body c.F__law_is_whole sc__law_is_whole fun cdv A out s H E gd hr =>
    (rss_one (rs_ret (re_and (re_callB call_isi cd_isi (by rfl) c.z_isinstance boot_isinstance (ra_cons (re_var (pv 0)) (ra_cons (re_ty (by rfl) c.z_int boot_int) ra_nil))) (re_one (re_not (re_callB call_isi cd_isi (by rfl) c.z_isinstance boot_isinstance (ra_cons (re_var (pv 0)) (ra_cons (re_ty (by rfl) c.z_bool boot_bool) ra_nil))))))))
theorem ok__law_is_count (c : Ctx w K mg) : FnG P w K mg base CX0 2 c.a__law_is_count c.d__law_is_count ["_law_thing"] (sp0 K 1 f__law_is_count) :=
  g_body c.F__law_is_count sc__law_is_count fun cdv A out s H E gd hr =>
    (rss_one (rs_ret (re_and (re_g (ok__law_is_whole c) gd (hr.mono (by decide)) (by rfl) c.m__law_is_whole c.F__law_is_whole.kp c.b__law_is_whole pass0 (ra_cons (re_var (pv 0)) ra_nil)) (re_one (re_cmp op_ge od_ge (re_var (pv 0)) re_int (nomark _))))))
theorem ok__law_is_wish (c : Ctx w K mg) : FnG P w K mg base CX0 3 c.a__law_is_wish c.d__law_is_wish ["_law_thing"] (sp0 K 1 f__law_is_wish) :=
  g_body c.F__law_is_wish sc__law_is_wish fun cdv A out s H E gd hr =>
    (rss_cons (rs_if (rt_of (rb_or (rt_not (rt_val (re_callB call_isi cd_isi (by rfl) c.z_isinstance boot_isinstance (ra_cons (re_var (pv 0)) (ra_cons (re_ty (by rfl) c.z_tuple boot_tuple) ra_nil))))) (rb_or (rt_cmp (op_neA hr.units) od_ne (re_callB call_len cd_len (by rfl) c.z_len PySem.boot_len (ra_cons (re_var (pv 0)) ra_nil)) re_int (nomark _)) (rb_or (rt_not (rt_val (re_g (ok__law_is_count c) gd (hr.mono (by decide)) (by rfl) c.m__law_is_count c.F__law_is_count.kp c.b__law_is_count pass0 (ra_cons (re_ix ix_seq od_ix (re_var (pv 0)) re_int (fun _ _ => rfl)) ra_nil)))) (rb_or1 (rt_cmp (op_eqA hr.units) od_eq (re_ix ix_seq od_ix (re_var (pv 0)) re_int (fun _ _ => rfl)) re_int (nomark _)))))))
      (rss_one (rs_ret re_bl))
      rss_nil)
    (rss_cons (rs_if (rt_of (rb_or (rt_not (rt_val (re_callB call_isi cd_isi (by rfl) c.z_isinstance boot_isinstance (ra_cons (re_ix ix_seq od_ix (re_var (pv 0)) re_int (fun _ _ => rfl)) (ra_cons (re_ty (by rfl) c.z_tuple boot_tuple) ra_nil))))) (rb_or1 (rt_not (rt_chain op_lt op_lt od_lt od_lt re_int (re_callB call_len cd_len (by rfl) c.z_len PySem.boot_len (ra_cons (re_ix ix_seq od_ix (re_var (pv 0)) re_int (fun _ _ => rfl)) ra_nil)) re_int)))))
      (rss_one (rs_ret re_bl))
      rss_nil)
    (rss_one (rs_ret (re_callB (cr_all rfl) cd_all (by rfl) c.z_all boot_all (ra_cons (re_fro (rn_lc (own := [("_law_place", 1)]) rfl sc__law_is_wish.nd (ri_seq (re_ix ix_seq od_ix (re_var (pv 0)) re_int (fun _ _ => rfl))) (blkOk_by (by kernel_rfl)) (fun _ _ _ _ _ => (rg_name (i := 1) sc__law_is_wish.nd rfl (.inl rfl))) (fun _ _ _ _ _ => rts_nil) (fun _ _ _ _ _ => (re_g (ok__law_is_count c) gd (hr.mono (by decide)) (by rfl) c.m__law_is_count c.F__law_is_count.kp c.b__law_is_count pass0 (ra_cons (re_var (pv 1)) ra_nil))) (by decide))) ra_nil))))))
theorem ok__law_due (c : Ctx w K mg) : FnG P w K mg base CX0 4 c.a__law_due c.d__law_due ["_law_thing"] (sp0 K 1 f__law_due) :=
  g_body c.F__law_due sc__law_due fun cdv A out s H E gd hr =>
    (rss_cons (rs_if (rt_of (rb_or (rt_not (rt_val (re_callB call_isi cd_isi (by rfl) c.z_isinstance boot_isinstance (ra_cons (re_var (pv 0)) (ra_cons (re_ty (by rfl) c.z_tuple boot_tuple) ra_nil))))) (rb_or (rt_cmp (op_eq0 hr.units) od_eq0 (re_var (pv 0)) (re_tup ra_nil) (nomark _)) (rb_or1 (rt_not (rt_val (re_callB call_isi cd_isi (by rfl) c.z_isinstance boot_isinstance (ra_cons (re_ix ix_seq od_ix (re_var (pv 0)) re_int (fun _ _ => rfl)) (ra_cons (re_ty (by rfl) c.z_str boot_str) ra_nil)))))))))
      (rss_one (rs_ret re_bl))
      rss_nil)
    (rss_cons (rs_if (rt_cmp (op_eqA hr.units) od_eq (re_ix ix_seq od_ix (re_var (pv 0)) re_int (fun _ _ => rfl)) re_str (nomark _))
      (rss_one (rs_ret (re_and (re_cmp (op_eqA hr.units) od_eq (re_callB call_len cd_len (by rfl) c.z_len PySem.boot_len (ra_cons (re_var (pv 0)) ra_nil)) re_int (nomark _)) (re_one (re_g (ok__law_is_wish c) gd (hr.mono (by decide)) (by rfl) c.m__law_is_wish c.F__law_is_wish.kp c.b__law_is_wish pass0 (ra_cons (re_ix ix_seq od_ix (re_var (pv 0)) re_int (fun _ _ => rfl)) ra_nil))))))
      rss_nil)
    (rss_cons (rs_if (rt_of (rb_or (rt_cmp op_notIn_seq (od_in true) (re_ix ix_seq od_ix (re_var (pv 0)) re_int (fun _ _ => rfl)) (re_tup (ra_cons re_str (ra_cons re_str ra_nil))) (by with_unfolding_all rfl)) (rb_or1 (rt_cmp (op_neA hr.units) od_ne (re_callB call_len cd_len (by rfl) c.z_len PySem.boot_len (ra_cons (re_var (pv 0)) ra_nil)) re_int (nomark _)))))
      (rss_one (rs_ret re_bl))
      rss_nil)
    (rss_cons (rs_if (rt_of (rb_or (rt_not (rt_val (re_g (ok__law_is_count c) gd (hr.mono (by decide)) (by rfl) c.m__law_is_count c.F__law_is_count.kp c.b__law_is_count pass0 (ra_cons (re_ix ix_seq od_ix (re_var (pv 0)) re_int (fun _ _ => rfl)) ra_nil)))) (rb_or1 (rt_not (rt_val (re_g (ok__law_is_count c) gd (hr.mono (by decide)) (by rfl) c.m__law_is_count c.F__law_is_count.kp c.b__law_is_count pass0 (ra_cons (re_ix ix_seq od_ix (re_var (pv 0)) re_int (fun _ _ => rfl)) ra_nil)))))))
      (rss_one (rs_ret re_bl))
      rss_nil)
    (rss_one (rs_ret (re_or (re_cmp op_isN od_isN (re_ix ix_seq od_ix (re_var (pv 0)) re_int (fun _ _ => rfl)) re_non (nomark _)) (re_one (re_g (ok__law_is_wish c) gd (hr.mono (by decide)) (by rfl) c.m__law_is_wish c.F__law_is_wish.kp c.b__law_is_wish pass0 (ra_cons (re_ix ix_seq od_ix (re_var (pv 0)) re_int (fun _ _ => rfl)) ra_nil))))))))))
theorem ok_law (c : Ctx w K mg) : FnG P w K mg base CX0 28 c.a_law c.d_law ["_law_script"] (sp0 K 1 f_law) :=
  g_body c.F_law sc_law fun cdv A out s H E gd hr =>
    (rss_cons (rs_for PassesOwn.never rfl (ri_range1 (by rfl) c.z_range (ra_cons (re_callB (call_max2 rfl) cd_I2 (by rfl) c.z_max boot_max (ra_cons re_int (ra_cons (re_callB (call_min2 rfl) cd_I2 (by rfl) c.z_min boot_min (ra_cons re_int (ra_cons (re_callB call_len cd_len (by rfl) c.z_len PySem.boot_len (ra_cons (re_var (pv 0)) ra_nil)) ra_nil))) ra_nil))) ra_nil)) (rg_name (i := 1) sc_law.nd rfl (.inl rfl))
      (rss_cons (rs_set (i := 2) sc_law.nd rfl (.inl rfl) (re_new (rn_g (okn__law_pot c) gd (hr.mono (by decide)) (by rfl) c.m__law_pot c.F__law_pot.kp c.b__law_pot pass0 (ra_cons (re_var (pv 0)) (ra_cons (re_var (pv 1)) ra_nil)))))
      (rss_cons (rs_for PassesOwn.never rfl (ri_range1 (by rfl) c.z_range (ra_cons re_int ra_nil)) (rg_name (i := 3) sc_law.nd rfl (.inl rfl))
        (rss_cons (rs_set (i := 4) sc_law.nd rfl (.inl rfl) (re_g (ok__law_letter c) gd (hr.mono (by decide)) (by rfl) c.m__law_letter c.F__law_letter.kp c.b__law_letter pass0 (ra_cons (re_var (pv 2)) ra_nil)))
        (rss_cons (rs_for PassesOwn.never rfl (ri_range1 (by rfl) c.z_range (ra_cons (re_g (ok__law_of c) gd (hr.mono (by decide)) (by rfl) c.m__law_of c.F__law_of.kp c.b__law_of pass0 (ra_cons (re_var (pv 2)) (ra_cons (re_fro (rn_lst (ra_cons re_int (ra_cons re_int (ra_cons re_int (ra_cons re_int ra_nil)))))) ra_nil))) ra_nil)) (rg_name (i := 5) sc_law.nd rfl (.inl rfl))
          (rss_one (rs_set (i := 4) sc_law.nd rfl (.inl rfl) (re_g (ok__law_bent c) gd (hr.mono (by decide)) (by rfl) c.m__law_bent c.F__law_bent.kp c.b__law_bent pass0 (ra_cons (re_var (pv 2)) (ra_cons (re_var (pv 4)) ra_nil))))))
        (rss_cons (rs_set (i := 6) sc_law.nd rfl (.inl rfl) (re_callB (cr_reprE gd hr.units) cd_reprE (by rfl) c.z_repr boot_repr (ra_cons (re_var (pv 4)) ra_nil)))
        (rss_one (rs_if (rt_of (rb_or (rt_cmp (op_neA hr.units) od_ne (re_callB (cr_repr gd hr.units) cd_repr (by rfl) c.z_repr boot_repr (ra_cons (re_g (ok_is_letter c) gd (hr.mono (by decide)) (by rfl) c.m_is_letter c.F_is_letter.kp c.b_is_letter pass0 (ra_cons (re_var (pv 4)) ra_nil)) ra_nil)) (re_callB (cr_repr gd hr.units) cd_repr (by rfl) c.z_repr boot_repr (ra_cons (re_g (ok__law_due c) gd (hr.mono (by decide)) (by rfl) c.m__law_due c.F__law_due.kp c.b__law_due pass0 (ra_cons (re_var (pv 4)) ra_nil)) ra_nil)) (nomark _)) (rb_or1 (rt_cmp (op_neA hr.units) od_ne (re_callB (cr_reprE gd hr.units) cd_reprE (by rfl) c.z_repr boot_repr (ra_cons (re_var (pv 4)) ra_nil)) (re_var (pv 6)) (nomark _)))))
          (rss_one (rs_ret re_bl))
          rss_nil))))))
      (rss_one (rs_for PassesOwn.never rfl (ri_seq (re_tup (ra_cons (re_g (ok__law_odd c) gd (hr.mono (by decide)) (by rfl) c.m__law_odd c.F__law_odd.kp c.b__law_odd pass0 (ra_cons (re_var (pv 2)) ra_nil)) (ra_cons (re_tup (ra_cons re_str ra_nil)) (ra_cons (re_tup (ra_cons re_str (ra_cons re_non ra_nil))) (ra_cons (re_tup (ra_cons re_str (ra_cons re_int (ra_cons re_int (ra_cons re_non ra_nil))))) (ra_cons (re_tup (ra_cons (re_fro (rn_lst (ra_cons re_str ra_nil))) (ra_cons re_int (ra_cons re_int (ra_cons re_non ra_nil))))) ra_nil))))))) (rg_name (i := 4) sc_law.nd rfl (.inl rfl))
        (rss_one (rs_if (rt_cmp (op_neA hr.units) od_ne (re_callB (cr_repr gd hr.units) cd_repr (by rfl) c.z_repr boot_repr (ra_cons (re_g (ok_is_letter c) gd (hr.mono (by decide)) (by rfl) c.m_is_letter c.F_is_letter.kp c.b_is_letter pass0 (ra_cons (re_var (pv 4)) ra_nil)) ra_nil)) (re_callB (cr_repr gd hr.units) cd_repr (by rfl) c.z_repr boot_repr (ra_cons (re_g (ok__law_due c) gd (hr.mono (by decide)) (by rfl) c.m__law_due c.F__law_due.kp c.b__law_due pass0 (ra_cons (re_var (pv 4)) ra_nil)) ra_nil)) (nomark _))
          (rss_one (rs_ret re_bl))
          rss_nil)))))))
    (rss_one (rs_ret re_bl)))
end
set_option maxHeartbeats 0 in
theorem ctx_of {w : World} {K : PySem.W.Frag} {h : Heap} {mg : Str → Option Value} (X : K.In h) (G : h.Ns mainGlobals mg)
    {f0 : Addr} {od0 an0 : Option Addr} {sl0 : Array (Option Value)} {oc0 kV0 dc0 pm0 cd0 ct0 : Value}
    (a0 : PySem.W.nsIn K mainGlobals "_law_pot" = some (some (.ref f0)))
    (l0 : K.lookup f0 = some ⟨oc0, od0, .func (PySem.W.fnOf "_law_pot" "_law_pot" (defArgs s__law_pot) (defBody s__law_pot) (defScope s__law_pot) .none kV0 dc0 pm0 an0 cd0 ct0), sl0⟩) (c0 : PySem.W.codeIn K cd0 "_law_pot" = true) (k0 : PySem.W.keepIn K (.ref f0) = true)
    {f1 : Addr} {od1 an1 : Option Addr} {sl1 : Array (Option Value)} {oc1 kV1 dc1 pm1 cd1 ct1 : Value}
    (a1 : PySem.W.nsIn K mainGlobals "_law_take" = some (some (.ref f1)))
    (l1 : K.lookup f1 = some ⟨oc1, od1, .func (PySem.W.fnOf "_law_take" "_law_take" (defArgs s__law_take) (defBody s__law_take) (defScope s__law_take) .none kV1 dc1 pm1 an1 cd1 ct1), sl1⟩) (c1 : PySem.W.codeIn K cd1 "_law_take" = true) (k1 : PySem.W.keepIn K (.ref f1) = true)
    {f2 : Addr} {od2 an2 : Option Addr} {sl2 : Array (Option Value)} {oc2 kV2 dc2 pm2 cd2 ct2 : Value}
    (a2 : PySem.W.nsIn K mainGlobals "_law_of" = some (some (.ref f2)))
    (l2 : K.lookup f2 = some ⟨oc2, od2, .func (PySem.W.fnOf "_law_of" "_law_of" (defArgs s__law_of) (defBody s__law_of) (defScope s__law_of) .none kV2 dc2 pm2 an2 cd2 ct2), sl2⟩) (c2 : PySem.W.codeIn K cd2 "_law_of" = true) (k2 : PySem.W.keepIn K (.ref f2) = true)
    {f3 : Addr} {od3 an3 : Option Addr} {sl3 : Array (Option Value)} {oc3 kV3 dc3 pm3 cd3 ct3 : Value}
    (a3 : PySem.W.nsIn K mainGlobals "_law_number" = some (some (.ref f3)))
    (l3 : K.lookup f3 = some ⟨oc3, od3, .func (PySem.W.fnOf "_law_number" "_law_number" (defArgs s__law_number) (defBody s__law_number) (defScope s__law_number) .none kV3 dc3 pm3 an3 cd3 ct3), sl3⟩) (c3 : PySem.W.codeIn K cd3 "_law_number" = true) (k3 : PySem.W.keepIn K (.ref f3) = true)
    {f4 : Addr} {od4 an4 : Option Addr} {sl4 : Array (Option Value)} {oc4 kV4 dc4 pm4 cd4 ct4 : Value}
    (a4 : PySem.W.nsIn K mainGlobals "_law_wish" = some (some (.ref f4)))
    (l4 : K.lookup f4 = some ⟨oc4, od4, .func (PySem.W.fnOf "_law_wish" "_law_wish" (defArgs s__law_wish) (defBody s__law_wish) (defScope s__law_wish) .none kV4 dc4 pm4 an4 cd4 ct4), sl4⟩) (c4 : PySem.W.codeIn K cd4 "_law_wish" = true) (k4 : PySem.W.keepIn K (.ref f4) = true)
    {f5 : Addr} {od5 an5 : Option Addr} {sl5 : Array (Option Value)} {oc5 kV5 dc5 pm5 cd5 ct5 : Value}
    (a5 : PySem.W.nsIn K mainGlobals "_law_letter" = some (some (.ref f5)))
    (l5 : K.lookup f5 = some ⟨oc5, od5, .func (PySem.W.fnOf "_law_letter" "_law_letter" (defArgs s__law_letter) (defBody s__law_letter) (defScope s__law_letter) .none kV5 dc5 pm5 an5 cd5 ct5), sl5⟩) (c5 : PySem.W.codeIn K cd5 "_law_letter" = true) (k5 : PySem.W.keepIn K (.ref f5) = true)
    {f6 : Addr} {od6 an6 : Option Addr} {sl6 : Array (Option Value)} {oc6 kV6 dc6 pm6 cd6 ct6 : Value}
    (a6 : PySem.W.nsIn K mainGlobals "_law_odd" = some (some (.ref f6)))
    (l6 : K.lookup f6 = some ⟨oc6, od6, .func (PySem.W.fnOf "_law_odd" "_law_odd" (defArgs s__law_odd) (defBody s__law_odd) (defScope s__law_odd) .none kV6 dc6 pm6 an6 cd6 ct6), sl6⟩) (c6 : PySem.W.codeIn K cd6 "_law_odd" = true) (k6 : PySem.W.keepIn K (.ref f6) = true)
    {f7 : Addr} {od7 an7 : Option Addr} {sl7 : Array (Option Value)} {oc7 kV7 dc7 pm7 cd7 ct7 : Value}
    (a7 : PySem.W.nsIn K mainGlobals "_law_bent" = some (some (.ref f7)))
    (l7 : K.lookup f7 = some ⟨oc7, od7, .func (PySem.W.fnOf "_law_bent" "_law_bent" (defArgs s__law_bent) (defBody s__law_bent) (defScope s__law_bent) .none kV7 dc7 pm7 an7 cd7 ct7), sl7⟩) (c7 : PySem.W.codeIn K cd7 "_law_bent" = true) (k7 : PySem.W.keepIn K (.ref f7) = true)
    {f8 : Addr} {od8 an8 : Option Addr} {sl8 : Array (Option Value)} {oc8 kV8 dc8 pm8 cd8 ct8 : Value}
    (a8 : PySem.W.nsIn K mainGlobals "is_whole" = some (some (.ref f8)))
    (l8 : K.lookup f8 = some ⟨oc8, od8, .func (PySem.W.fnOf "is_whole" "is_whole" (defArgs s_is_whole) (defBody s_is_whole) (defScope s_is_whole) .none kV8 dc8 pm8 an8 cd8 ct8), sl8⟩) (c8 : PySem.W.codeIn K cd8 "is_whole" = true) (k8 : PySem.W.keepIn K (.ref f8) = true)
    {f9 : Addr} {od9 an9 : Option Addr} {sl9 : Array (Option Value)} {oc9 kV9 dc9 pm9 cd9 ct9 : Value}
    (a9 : PySem.W.nsIn K mainGlobals "is_count" = some (some (.ref f9)))
    (l9 : K.lookup f9 = some ⟨oc9, od9, .func (PySem.W.fnOf "is_count" "is_count" (defArgs s_is_count) (defBody s_is_count) (defScope s_is_count) .none kV9 dc9 pm9 an9 cd9 ct9), sl9⟩) (c9 : PySem.W.codeIn K cd9 "is_count" = true) (k9 : PySem.W.keepIn K (.ref f9) = true)
    {f10 : Addr} {od10 an10 : Option Addr} {sl10 : Array (Option Value)} {oc10 kV10 dc10 pm10 cd10 ct10 : Value}
    (a10 : PySem.W.nsIn K mainGlobals "is_wish" = some (some (.ref f10)))
    (l10 : K.lookup f10 = some ⟨oc10, od10, .func (PySem.W.fnOf "is_wish" "is_wish" (defArgs s_is_wish) (defBody s_is_wish) (defScope s_is_wish) .none kV10 dc10 pm10 an10 cd10 ct10), sl10⟩) (c10 : PySem.W.codeIn K cd10 "is_wish" = true) (k10 : PySem.W.keepIn K (.ref f10) = true)
    {f11 : Addr} {od11 an11 : Option Addr} {sl11 : Array (Option Value)} {oc11 kV11 dc11 pm11 cd11 ct11 : Value}
    (a11 : PySem.W.nsIn K mainGlobals "is_letter" = some (some (.ref f11)))
    (l11 : K.lookup f11 = some ⟨oc11, od11, .func (PySem.W.fnOf "is_letter" "is_letter" (defArgs s_is_letter) (defBody s_is_letter) (defScope s_is_letter) .none kV11 dc11 pm11 an11 cd11 ct11), sl11⟩) (c11 : PySem.W.codeIn K cd11 "is_letter" = true) (k11 : PySem.W.keepIn K (.ref f11) = true)
    {f12 : Addr} {od12 an12 : Option Addr} {sl12 : Array (Option Value)} {oc12 kV12 dc12 pm12 cd12 ct12 : Value}
    (a12 : PySem.W.nsIn K mainGlobals "_law_is_whole" = some (some (.ref f12)))
    (l12 : K.lookup f12 = some ⟨oc12, od12, .func (PySem.W.fnOf "_law_is_whole" "_law_is_whole" (defArgs s__law_is_whole) (defBody s__law_is_whole) (defScope s__law_is_whole) .none kV12 dc12 pm12 an12 cd12 ct12), sl12⟩) (c12 : PySem.W.codeIn K cd12 "_law_is_whole" = true) (k12 : PySem.W.keepIn K (.ref f12) = true)
    {f13 : Addr} {od13 an13 : Option Addr} {sl13 : Array (Option Value)} {oc13 kV13 dc13 pm13 cd13 ct13 : Value}
    (a13 : PySem.W.nsIn K mainGlobals "_law_is_count" = some (some (.ref f13)))
    (l13 : K.lookup f13 = some ⟨oc13, od13, .func (PySem.W.fnOf "_law_is_count" "_law_is_count" (defArgs s__law_is_count) (defBody s__law_is_count) (defScope s__law_is_count) .none kV13 dc13 pm13 an13 cd13 ct13), sl13⟩) (c13 : PySem.W.codeIn K cd13 "_law_is_count" = true) (k13 : PySem.W.keepIn K (.ref f13) = true)
    {f14 : Addr} {od14 an14 : Option Addr} {sl14 : Array (Option Value)} {oc14 kV14 dc14 pm14 cd14 ct14 : Value}
    (a14 : PySem.W.nsIn K mainGlobals "_law_is_wish" = some (some (.ref f14)))
    (l14 : K.lookup f14 = some ⟨oc14, od14, .func (PySem.W.fnOf "_law_is_wish" "_law_is_wish" (defArgs s__law_is_wish) (defBody s__law_is_wish) (defScope s__law_is_wish) .none kV14 dc14 pm14 an14 cd14 ct14), sl14⟩) (c14 : PySem.W.codeIn K cd14 "_law_is_wish" = true) (k14 : PySem.W.keepIn K (.ref f14) = true)
    {f15 : Addr} {od15 an15 : Option Addr} {sl15 : Array (Option Value)} {oc15 kV15 dc15 pm15 cd15 ct15 : Value}
    (a15 : PySem.W.nsIn K mainGlobals "_law_due" = some (some (.ref f15)))
    (l15 : K.lookup f15 = some ⟨oc15, od15, .func (PySem.W.fnOf "_law_due" "_law_due" (defArgs s__law_due) (defBody s__law_due) (defScope s__law_due) .none kV15 dc15 pm15 an15 cd15 ct15), sl15⟩) (c15 : PySem.W.codeIn K cd15 "_law_due" = true) (k15 : PySem.W.keepIn K (.ref f15) = true)
    {f16 : Addr} {od16 an16 : Option Addr} {sl16 : Array (Option Value)} {oc16 kV16 dc16 pm16 cd16 ct16 : Value}
    (a16 : PySem.W.nsIn K mainGlobals "law" = some (some (.ref f16)))
    (l16 : K.lookup f16 = some ⟨oc16, od16, .func (PySem.W.fnOf "law" "law" (defArgs s_law) (defBody s_law) (defScope s_law) .none kV16 dc16 pm16 an16 cd16 ct16), sl16⟩) (c16 : PySem.W.codeIn K cd16 "law" = true) (k16 : PySem.W.keepIn K (.ref f16) = true)
    {vt0 : Tok} (v0 : PySem.W.nsIn K mainGlobals "MOST_THINGS" = some (some (.int 12 vt0)))
    {va1 : Addr} {ve1 : Array DictEntry} {vn1 : Nat} (v1 : PySem.W.nsIn K mainGlobals "PARTS" = some (some (.ref va1))) (w1 : K.lookup va1 = some ⟨.type "dict", none, .dict ve1 vn1, #[]⟩) (yk1 : PySem.W.KeysLit w.params ve1.toList) (yl1 : (va1 == sysModules) = false) (yh1 : EntL ve1.toList [("ask", 4), ("leave", 4), ("word", 2)])
    (z_abs : PySem.W.nsIn K mainGlobals "abs" = some none)
    (z_all : PySem.W.nsIn K mainGlobals "all" = some none)
    (z_bool : PySem.W.nsIn K mainGlobals "bool" = some none)
    (z_int : PySem.W.nsIn K mainGlobals "int" = some none)
    (z_isinstance : PySem.W.nsIn K mainGlobals "isinstance" = some none)
    (z_len : PySem.W.nsIn K mainGlobals "len" = some none)
    (z_list : PySem.W.nsIn K mainGlobals "list" = some none)
    (z_max : PySem.W.nsIn K mainGlobals "max" = some none)
    (z_min : PySem.W.nsIn K mainGlobals "min" = some none)
    (z_range : PySem.W.nsIn K mainGlobals "range" = some none)
    (z_repr : PySem.W.nsIn K mainGlobals "repr" = some none)
    (z_str : PySem.W.nsIn K mainGlobals "str" = some none)
    (z_tuple : PySem.W.nsIn K mainGlobals "tuple" = some none) :
    ∃ c : Ctx w K mg, c.a_law = f16 ∧ c.d_law = PySem.W.fnOf "law" "law" (defArgs s_law) (defBody s_law) (defScope s_law) .none kV16 dc16 pm16 an16 cd16 ct16 :=
  ⟨{
    a__law_pot := f0
    d__law_pot := _
    F__law_pot := fun_mk (st := s__law_pot) l0 c0 k0
    b__law_pot := (fun_mk (st := s__law_pot) l0 c0 k0).binds (ps := ["_law_script", "_law_k"]) fun _ _ _ _ _ _ us hl => match us, hl with | [_, _], _ => rfl
    m__law_pot := PySem.W.mg_of X G a0
    a__law_take := f1
    d__law_take := _
    F__law_take := fun_mk (st := s__law_take) l1 c1 k1
    b__law_take := (fun_mk (st := s__law_take) l1 c1 k1).binds (ps := ["_law_pot_here", "_law_many"]) fun _ _ _ _ _ _ us hl => match us, hl with | [_, _], _ => rfl
    m__law_take := PySem.W.mg_of X G a1
    a__law_of := f2
    d__law_of := _
    F__law_of := fun_mk (st := s__law_of) l2 c2 k2
    b__law_of := (fun_mk (st := s__law_of) l2 c2 k2).binds (ps := ["_law_pot_here", "_law_some"]) fun _ _ _ _ _ _ us hl => match us, hl with | [_, _], _ => rfl
    m__law_of := PySem.W.mg_of X G a2
    a__law_number := f3
    d__law_number := _
    F__law_number := fun_mk (st := s__law_number) l3 c3 k3
    b__law_number := (fun_mk (st := s__law_number) l3 c3 k3).binds (ps := ["_law_pot_here"]) fun _ _ _ _ _ _ us hl => match us, hl with | [_], _ => rfl
    m__law_number := PySem.W.mg_of X G a3
    a__law_wish := f4
    d__law_wish := _
    F__law_wish := fun_mk (st := s__law_wish) l4 c4 k4
    b__law_wish := (fun_mk (st := s__law_wish) l4 c4 k4).binds (ps := ["_law_pot_here"]) fun _ _ _ _ _ _ us hl => match us, hl with | [_], _ => rfl
    m__law_wish := PySem.W.mg_of X G a4
    a__law_letter := f5
    d__law_letter := _
    F__law_letter := fun_mk (st := s__law_letter) l5 c5 k5
    b__law_letter := (fun_mk (st := s__law_letter) l5 c5 k5).binds (ps := ["_law_pot_here"]) fun _ _ _ _ _ _ us hl => match us, hl with | [_], _ => rfl
    m__law_letter := PySem.W.mg_of X G a5
    a__law_odd := f6
    d__law_odd := _
    F__law_odd := fun_mk (st := s__law_odd) l6 c6 k6
    b__law_odd := (fun_mk (st := s__law_odd) l6 c6 k6).binds (ps := ["_law_pot_here"]) fun _ _ _ _ _ _ us hl => match us, hl with | [_], _ => rfl
    m__law_odd := PySem.W.mg_of X G a6
    a__law_bent := f7
    d__law_bent := _
    F__law_bent := fun_mk (st := s__law_bent) l7 c7 k7
    b__law_bent := (fun_mk (st := s__law_bent) l7 c7 k7).binds (ps := ["_law_pot_here", "_law_thing"]) fun _ _ _ _ _ _ us hl => match us, hl with | [_, _], _ => rfl
    m__law_bent := PySem.W.mg_of X G a7
    a_is_whole := f8
    d_is_whole := _
    F_is_whole := fun_mk (st := s_is_whole) l8 c8 k8
    b_is_whole := (fun_mk (st := s_is_whole) l8 c8 k8).binds (ps := ["thing"]) fun _ _ _ _ _ _ us hl => match us, hl with | [_], _ => rfl
    m_is_whole := PySem.W.mg_of X G a8
    a_is_count := f9
    d_is_count := _
    F_is_count := fun_mk (st := s_is_count) l9 c9 k9
    b_is_count := (fun_mk (st := s_is_count) l9 c9 k9).binds (ps := ["thing"]) fun _ _ _ _ _ _ us hl => match us, hl with | [_], _ => rfl
    m_is_count := PySem.W.mg_of X G a9
    a_is_wish := f10
    d_is_wish := _
    F_is_wish := fun_mk (st := s_is_wish) l10 c10 k10
    b_is_wish := (fun_mk (st := s_is_wish) l10 c10 k10).binds (ps := ["thing"]) fun _ _ _ _ _ _ us hl => match us, hl with | [_], _ => rfl
    m_is_wish := PySem.W.mg_of X G a10
    a_is_letter := f11
    d_is_letter := _
    F_is_letter := fun_mk (st := s_is_letter) l11 c11 k11
    b_is_letter := (fun_mk (st := s_is_letter) l11 c11 k11).binds (ps := ["thing"]) fun _ _ _ _ _ _ us hl => match us, hl with | [_], _ => rfl
    m_is_letter := PySem.W.mg_of X G a11
    a__law_is_whole := f12
    d__law_is_whole := _
    F__law_is_whole := fun_mk (st := s__law_is_whole) l12 c12 k12
    b__law_is_whole := (fun_mk (st := s__law_is_whole) l12 c12 k12).binds (ps := ["_law_thing"]) fun _ _ _ _ _ _ us hl => match us, hl with | [_], _ => rfl
    m__law_is_whole := PySem.W.mg_of X G a12
    a__law_is_count := f13
    d__law_is_count := _
    F__law_is_count := fun_mk (st := s__law_is_count) l13 c13 k13
    b__law_is_count := (fun_mk (st := s__law_is_count) l13 c13 k13).binds (ps := ["_law_thing"]) fun _ _ _ _ _ _ us hl => match us, hl with | [_], _ => rfl
    m__law_is_count := PySem.W.mg_of X G a13
    a__law_is_wish := f14
    d__law_is_wish := _
    F__law_is_wish := fun_mk (st := s__law_is_wish) l14 c14 k14
    b__law_is_wish := (fun_mk (st := s__law_is_wish) l14 c14 k14).binds (ps := ["_law_thing"]) fun _ _ _ _ _ _ us hl => match us, hl with | [_], _ => rfl
    m__law_is_wish := PySem.W.mg_of X G a14
    a__law_due := f15
    d__law_due := _
    F__law_due := fun_mk (st := s__law_due) l15 c15 k15
    b__law_due := (fun_mk (st := s__law_due) l15 c15 k15).binds (ps := ["_law_thing"]) fun _ _ _ _ _ _ us hl => match us, hl with | [_], _ => rfl
    m__law_due := PySem.W.mg_of X G a15
    a_law := f16
    d_law := _
    F_law := fun_mk (st := s_law) l16 c16 k16
    b_law := (fun_mk (st := s_law) l16 c16 k16).binds (ps := ["_law_script"]) fun _ _ _ _ _ _ us hl => match us, hl with | [_], _ => rfl
    m_law := PySem.W.mg_of X G a16
    v_MOST_THINGS := ⟨vt0, PySem.W.mg_of X G v0⟩
    v_PARTS := ⟨va1, PySem.W.mg_of X G v1, kints_of w1 yk1 yl1 yh1⟩
    z_abs := PySem.W.mg_none_of X G z_abs
    z_all := PySem.W.mg_none_of X G z_all
    z_bool := PySem.W.mg_none_of X G z_bool
    z_int := PySem.W.mg_none_of X G z_int
    z_isinstance := PySem.W.mg_none_of X G z_isinstance
    z_len := PySem.W.mg_none_of X G z_len
    z_list := PySem.W.mg_none_of X G z_list
    z_max := PySem.W.mg_none_of X G z_max
    z_min := PySem.W.mg_none_of X G z_min
    z_range := PySem.W.mg_none_of X G z_range
    z_repr := PySem.W.mg_none_of X G z_repr
    z_str := PySem.W.mg_none_of X G z_str
    z_tuple := PySem.W.mg_none_of X G z_tuple
  }, rfl, rfl⟩
theorem law_F {l : PySem.W.OpenLaw} {w : World} {K : PySem.W.Frag} {h : Heap} {mg : Str → Option Value} {fa : Addr} (X : K.In h) (G : h.Ns mainGlobals mg) (hfa : mg "law" = some (.ref fa))
    {f0 : Addr} {od0 an0 : Option Addr} {sl0 : Array (Option Value)} {oc0 kV0 dc0 pm0 cd0 ct0 : Value}
    (a0 : PySem.W.nsIn K mainGlobals "_law_pot" = some (some (.ref f0)))
    (l0 : K.lookup f0 = some ⟨oc0, od0, .func (PySem.W.fnOf "_law_pot" "_law_pot" (defArgs s__law_pot) (defBody s__law_pot) (defScope s__law_pot) .none kV0 dc0 pm0 an0 cd0 ct0), sl0⟩) (c0 : PySem.W.codeIn K cd0 "_law_pot" = true) (k0 : PySem.W.keepIn K (.ref f0) = true)
    {f1 : Addr} {od1 an1 : Option Addr} {sl1 : Array (Option Value)} {oc1 kV1 dc1 pm1 cd1 ct1 : Value}
    (a1 : PySem.W.nsIn K mainGlobals "_law_take" = some (some (.ref f1)))
    (l1 : K.lookup f1 = some ⟨oc1, od1, .func (PySem.W.fnOf "_law_take" "_law_take" (defArgs s__law_take) (defBody s__law_take) (defScope s__law_take) .none kV1 dc1 pm1 an1 cd1 ct1), sl1⟩) (c1 : PySem.W.codeIn K cd1 "_law_take" = true) (k1 : PySem.W.keepIn K (.ref f1) = true)
    {f2 : Addr} {od2 an2 : Option Addr} {sl2 : Array (Option Value)} {oc2 kV2 dc2 pm2 cd2 ct2 : Value}
    (a2 : PySem.W.nsIn K mainGlobals "_law_of" = some (some (.ref f2)))
    (l2 : K.lookup f2 = some ⟨oc2, od2, .func (PySem.W.fnOf "_law_of" "_law_of" (defArgs s__law_of) (defBody s__law_of) (defScope s__law_of) .none kV2 dc2 pm2 an2 cd2 ct2), sl2⟩) (c2 : PySem.W.codeIn K cd2 "_law_of" = true) (k2 : PySem.W.keepIn K (.ref f2) = true)
    {f3 : Addr} {od3 an3 : Option Addr} {sl3 : Array (Option Value)} {oc3 kV3 dc3 pm3 cd3 ct3 : Value}
    (a3 : PySem.W.nsIn K mainGlobals "_law_number" = some (some (.ref f3)))
    (l3 : K.lookup f3 = some ⟨oc3, od3, .func (PySem.W.fnOf "_law_number" "_law_number" (defArgs s__law_number) (defBody s__law_number) (defScope s__law_number) .none kV3 dc3 pm3 an3 cd3 ct3), sl3⟩) (c3 : PySem.W.codeIn K cd3 "_law_number" = true) (k3 : PySem.W.keepIn K (.ref f3) = true)
    {f4 : Addr} {od4 an4 : Option Addr} {sl4 : Array (Option Value)} {oc4 kV4 dc4 pm4 cd4 ct4 : Value}
    (a4 : PySem.W.nsIn K mainGlobals "_law_wish" = some (some (.ref f4)))
    (l4 : K.lookup f4 = some ⟨oc4, od4, .func (PySem.W.fnOf "_law_wish" "_law_wish" (defArgs s__law_wish) (defBody s__law_wish) (defScope s__law_wish) .none kV4 dc4 pm4 an4 cd4 ct4), sl4⟩) (c4 : PySem.W.codeIn K cd4 "_law_wish" = true) (k4 : PySem.W.keepIn K (.ref f4) = true)
    {f5 : Addr} {od5 an5 : Option Addr} {sl5 : Array (Option Value)} {oc5 kV5 dc5 pm5 cd5 ct5 : Value}
    (a5 : PySem.W.nsIn K mainGlobals "_law_letter" = some (some (.ref f5)))
    (l5 : K.lookup f5 = some ⟨oc5, od5, .func (PySem.W.fnOf "_law_letter" "_law_letter" (defArgs s__law_letter) (defBody s__law_letter) (defScope s__law_letter) .none kV5 dc5 pm5 an5 cd5 ct5), sl5⟩) (c5 : PySem.W.codeIn K cd5 "_law_letter" = true) (k5 : PySem.W.keepIn K (.ref f5) = true)
    {f6 : Addr} {od6 an6 : Option Addr} {sl6 : Array (Option Value)} {oc6 kV6 dc6 pm6 cd6 ct6 : Value}
    (a6 : PySem.W.nsIn K mainGlobals "_law_odd" = some (some (.ref f6)))
    (l6 : K.lookup f6 = some ⟨oc6, od6, .func (PySem.W.fnOf "_law_odd" "_law_odd" (defArgs s__law_odd) (defBody s__law_odd) (defScope s__law_odd) .none kV6 dc6 pm6 an6 cd6 ct6), sl6⟩) (c6 : PySem.W.codeIn K cd6 "_law_odd" = true) (k6 : PySem.W.keepIn K (.ref f6) = true)
    {f7 : Addr} {od7 an7 : Option Addr} {sl7 : Array (Option Value)} {oc7 kV7 dc7 pm7 cd7 ct7 : Value}
    (a7 : PySem.W.nsIn K mainGlobals "_law_bent" = some (some (.ref f7)))
    (l7 : K.lookup f7 = some ⟨oc7, od7, .func (PySem.W.fnOf "_law_bent" "_law_bent" (defArgs s__law_bent) (defBody s__law_bent) (defScope s__law_bent) .none kV7 dc7 pm7 an7 cd7 ct7), sl7⟩) (c7 : PySem.W.codeIn K cd7 "_law_bent" = true) (k7 : PySem.W.keepIn K (.ref f7) = true)
    {f8 : Addr} {od8 an8 : Option Addr} {sl8 : Array (Option Value)} {oc8 kV8 dc8 pm8 cd8 ct8 : Value}
    (a8 : PySem.W.nsIn K mainGlobals "is_whole" = some (some (.ref f8)))
    (l8 : K.lookup f8 = some ⟨oc8, od8, .func (PySem.W.fnOf "is_whole" "is_whole" (defArgs s_is_whole) (defBody s_is_whole) (defScope s_is_whole) .none kV8 dc8 pm8 an8 cd8 ct8), sl8⟩) (c8 : PySem.W.codeIn K cd8 "is_whole" = true) (k8 : PySem.W.keepIn K (.ref f8) = true)
    {f9 : Addr} {od9 an9 : Option Addr} {sl9 : Array (Option Value)} {oc9 kV9 dc9 pm9 cd9 ct9 : Value}
    (a9 : PySem.W.nsIn K mainGlobals "is_count" = some (some (.ref f9)))
    (l9 : K.lookup f9 = some ⟨oc9, od9, .func (PySem.W.fnOf "is_count" "is_count" (defArgs s_is_count) (defBody s_is_count) (defScope s_is_count) .none kV9 dc9 pm9 an9 cd9 ct9), sl9⟩) (c9 : PySem.W.codeIn K cd9 "is_count" = true) (k9 : PySem.W.keepIn K (.ref f9) = true)
    {f10 : Addr} {od10 an10 : Option Addr} {sl10 : Array (Option Value)} {oc10 kV10 dc10 pm10 cd10 ct10 : Value}
    (a10 : PySem.W.nsIn K mainGlobals "is_wish" = some (some (.ref f10)))
    (l10 : K.lookup f10 = some ⟨oc10, od10, .func (PySem.W.fnOf "is_wish" "is_wish" (defArgs s_is_wish) (defBody s_is_wish) (defScope s_is_wish) .none kV10 dc10 pm10 an10 cd10 ct10), sl10⟩) (c10 : PySem.W.codeIn K cd10 "is_wish" = true) (k10 : PySem.W.keepIn K (.ref f10) = true)
    {f11 : Addr} {od11 an11 : Option Addr} {sl11 : Array (Option Value)} {oc11 kV11 dc11 pm11 cd11 ct11 : Value}
    (a11 : PySem.W.nsIn K mainGlobals "is_letter" = some (some (.ref f11)))
    (l11 : K.lookup f11 = some ⟨oc11, od11, .func (PySem.W.fnOf "is_letter" "is_letter" (defArgs s_is_letter) (defBody s_is_letter) (defScope s_is_letter) .none kV11 dc11 pm11 an11 cd11 ct11), sl11⟩) (c11 : PySem.W.codeIn K cd11 "is_letter" = true) (k11 : PySem.W.keepIn K (.ref f11) = true)
    {f12 : Addr} {od12 an12 : Option Addr} {sl12 : Array (Option Value)} {oc12 kV12 dc12 pm12 cd12 ct12 : Value}
    (a12 : PySem.W.nsIn K mainGlobals "_law_is_whole" = some (some (.ref f12)))
    (l12 : K.lookup f12 = some ⟨oc12, od12, .func (PySem.W.fnOf "_law_is_whole" "_law_is_whole" (defArgs s__law_is_whole) (defBody s__law_is_whole) (defScope s__law_is_whole) .none kV12 dc12 pm12 an12 cd12 ct12), sl12⟩) (c12 : PySem.W.codeIn K cd12 "_law_is_whole" = true) (k12 : PySem.W.keepIn K (.ref f12) = true)
    {f13 : Addr} {od13 an13 : Option Addr} {sl13 : Array (Option Value)} {oc13 kV13 dc13 pm13 cd13 ct13 : Value}
    (a13 : PySem.W.nsIn K mainGlobals "_law_is_count" = some (some (.ref f13)))
    (l13 : K.lookup f13 = some ⟨oc13, od13, .func (PySem.W.fnOf "_law_is_count" "_law_is_count" (defArgs s__law_is_count) (defBody s__law_is_count) (defScope s__law_is_count) .none kV13 dc13 pm13 an13 cd13 ct13), sl13⟩) (c13 : PySem.W.codeIn K cd13 "_law_is_count" = true) (k13 : PySem.W.keepIn K (.ref f13) = true)
    {f14 : Addr} {od14 an14 : Option Addr} {sl14 : Array (Option Value)} {oc14 kV14 dc14 pm14 cd14 ct14 : Value}
    (a14 : PySem.W.nsIn K mainGlobals "_law_is_wish" = some (some (.ref f14)))
    (l14 : K.lookup f14 = some ⟨oc14, od14, .func (PySem.W.fnOf "_law_is_wish" "_law_is_wish" (defArgs s__law_is_wish) (defBody s__law_is_wish) (defScope s__law_is_wish) .none kV14 dc14 pm14 an14 cd14 ct14), sl14⟩) (c14 : PySem.W.codeIn K cd14 "_law_is_wish" = true) (k14 : PySem.W.keepIn K (.ref f14) = true)
    {f15 : Addr} {od15 an15 : Option Addr} {sl15 : Array (Option Value)} {oc15 kV15 dc15 pm15 cd15 ct15 : Value}
    (a15 : PySem.W.nsIn K mainGlobals "_law_due" = some (some (.ref f15)))
    (l15 : K.lookup f15 = some ⟨oc15, od15, .func (PySem.W.fnOf "_law_due" "_law_due" (defArgs s__law_due) (defBody s__law_due) (defScope s__law_due) .none kV15 dc15 pm15 an15 cd15 ct15), sl15⟩) (c15 : PySem.W.codeIn K cd15 "_law_due" = true) (k15 : PySem.W.keepIn K (.ref f15) = true)
    {f16 : Addr} {od16 an16 : Option Addr} {sl16 : Array (Option Value)} {oc16 kV16 dc16 pm16 cd16 ct16 : Value}
    (a16 : PySem.W.nsIn K mainGlobals "law" = some (some (.ref f16)))
    (l16 : K.lookup f16 = some ⟨oc16, od16, .func (PySem.W.fnOf "law" "law" (defArgs s_law) (defBody s_law) (defScope s_law) .none kV16 dc16 pm16 an16 cd16 ct16), sl16⟩) (c16 : PySem.W.codeIn K cd16 "law" = true) (k16 : PySem.W.keepIn K (.ref f16) = true)
    {vt0 : Tok} (v0 : PySem.W.nsIn K mainGlobals "MOST_THINGS" = some (some (.int 12 vt0)))
    {va1 : Addr} {ve1 : Array DictEntry} {vn1 : Nat} (v1 : PySem.W.nsIn K mainGlobals "PARTS" = some (some (.ref va1))) (w1 : K.lookup va1 = some ⟨.type "dict", none, .dict ve1 vn1, #[]⟩) (yk1 : PySem.W.KeysLit w.params ve1.toList) (yl1 : (va1 == sysModules) = false) (yh1 : EntL ve1.toList [("ask", 4), ("leave", 4), ("word", 2)])
    (z_abs : PySem.W.nsIn K mainGlobals "abs" = some none)
    (z_all : PySem.W.nsIn K mainGlobals "all" = some none)
    (z_bool : PySem.W.nsIn K mainGlobals "bool" = some none)
    (z_int : PySem.W.nsIn K mainGlobals "int" = some none)
    (z_isinstance : PySem.W.nsIn K mainGlobals "isinstance" = some none)
    (z_len : PySem.W.nsIn K mainGlobals "len" = some none)
    (z_list : PySem.W.nsIn K mainGlobals "list" = some none)
    (z_max : PySem.W.nsIn K mainGlobals "max" = some none)
    (z_min : PySem.W.nsIn K mainGlobals "min" = some none)
    (z_range : PySem.W.nsIn K mainGlobals "range" = some none)
    (z_repr : PySem.W.nsIn K mainGlobals "repr" = some none)
    (z_str : PySem.W.nsIn K mainGlobals "str" = some none)
    (z_tuple : PySem.W.nsIn K mainGlobals "tuple" = some none) :
    ∃ fd : FuncData, (∀ (s : Shared) (v : Value), BindsTo s fd ⟨[v], []⟩ [("_law_script", v)]) ∧ ∀ base : Heap, K.In base → base.Ns mainGlobals mg → FnG l.prog w K mg base CX0 28 fa fd ["_law_script"] (sp0 K 1 f_law) := by
  obtain ⟨c, e1, e2⟩ := ctx_of (w := w) X G a0 l0 c0 k0 a1 l1 c1 k1 a2 l2 c2 k2 a3 l3 c3 k3 a4 l4 c4 k4 a5 l5 c5 k5 a6 l6 c6 k6 a7 l7 c7 k7 a8 l8 c8 k8 a9 l9 c9 k9 a10 l10 c10 k10 a11 l11 c11 k11 a12 l12 c12 k12 a13 l13 c13 k13 a14 l14 c14 k14 a15 l15 c15 k15 a16 l16 c16 k16 v0 v1 w1 yk1 yl1 yh1 z_abs z_all z_bool z_int z_isinstance z_len z_list z_max z_min z_range z_repr z_str z_tuple
  have e3 := hfa.symm.trans c.m_law
  cases e3
  exact ⟨c.d_law, fun s v => by rw [e2]; exact .of_eq rfl, fun base _ _ => ok_law c⟩
end K58
namespace T9
open PySem PySem.Spec PyProof.Rows L2 S9
def Has (Γ δ : DEnv) : Prop := δ.length = Γ.length ∧ ∀ (i : Nat) (w : W), Γ[i]? = some (some w) → δ[i]? = some (some w)
theorem Has.refl {Γ : DEnv} : Has Γ Γ := ⟨rfl, fun _ _ h => h⟩
theorem Has.set {Γ δ : DEnv} (h : Has Γ δ) {i : Nat} {w : W} : Has (Γ.set i (some w)) (δ.set i (some w)) := by
  refine ⟨by rw [List.length_set, List.length_set]; exact h.1, fun j u hj => ?_⟩
  by_cases e : i = j
  · subst e
    by_cases l : i < Γ.length
    · rw [List.getElem?_set_self l] at hj
      rw [List.getElem?_set_self (by rw [h.1]; exact l)]
      exact hj
    · rw [List.getElem?_eq_none (by rw [List.length_set]; omega)] at hj; cases hj
  · rw [List.getElem?_set_ne e] at hj ⊢
    exact h.2 j u hj
theorem Has.setN {Γ δ : DEnv} (h : Has Γ δ) {i : Nat} : Has (Γ.set i none) (δ.set i none) := by
  refine ⟨by rw [List.length_set, List.length_set]; exact h.1, fun j u hj => ?_⟩
  by_cases e : i = j
  · subst e
    by_cases l : i < Γ.length
    · rw [List.getElem?_set_self l] at hj; cases hj
    · rw [List.getElem?_eq_none (by rw [List.length_set]; omega)] at hj; cases hj
  · rw [List.getElem?_set_ne e] at hj ⊢
    exact h.2 j u hj
theorem Has.wipe {Γ δ : DEnv} (h : Has Γ δ) : ∀ vs : List Nat, Has (wipeD Γ vs) (wipeD δ vs)
  | [] => h
  | v :: vs => (Has.wipe h vs).setN
inductive Le : DEnv → DEnv → Prop
  | nil : Le [] []
  | keep {x : Option W} {a b : DEnv} : Le a b → Le (x :: a) (x :: b)
  | drop {y : Option W} {a b : DEnv} : Le a b → Le (none :: a) (y :: b)
theorem Le.has {Γ Γ' : DEnv} (l : Le Γ' Γ) : ∀ {δ : DEnv}, Has Γ δ → Has Γ' δ := by
  induction l with
  | nil => exact fun h => h
  | keep l ih =>
    rename_i x a b
    rintro (_ | ⟨y, δ⟩) h
    · have := h.1; simp at this
    · have q := ih (δ := δ) ⟨by have := h.1; simpa using this, fun i w hi => h.2 (i + 1) w (by simpa using hi)⟩
      refine ⟨by have := q.1; simpa using this, fun i w hi => ?_⟩
      cases i with
      | zero => exact h.2 0 w (by simpa using hi)
      | succ i => simpa using q.2 i w (by simpa using hi)
  | drop l ih =>
    rename_i x a b
    rintro (_ | ⟨y, δ⟩) h
    · have := h.1; simp at this
    · have q := ih (δ := δ) ⟨by have := h.1; simpa using this, fun i w hi => h.2 (i + 1) w (by simpa using hi)⟩
      refine ⟨by have := q.1; simpa using this, fun i w hi => ?_⟩
      cases i with
      | zero => simp at hi
      | succ i => simpa using q.2 i w (by simpa using hi)
def V {A : Type} (Γ : DEnv) (M : Sto) (f : DEnv → Sto → R A) (w : A) : Prop := ∀ δ, Has Γ δ → f δ M = .ok w M
def E {A α : Type} (Γ : DEnv) (M : Sto) (f : DEnv → Sto → R A) (p : Option α) (v : α → A) (m : α → Sto) : Prop := ∀ a, p = some a → ∀ δ, Has Γ δ → f δ M = .ok (v a) (m a)
def Rr {A α : Type} (x : R A) (p : Option α) (v : α → A) (m : α → Sto) : Prop := ∀ a, p = some a → x = .ok (v a) (m a)
abbrev eI : Int → D := D.int
abbrev eB : Bool → D := D.bl
abbrev eS : Str → D := D.str
abbrev eU : Unit → D := fun _ => D.non
abbrev eA : D → D := fun d => d
abbrev eT {α : Type} (e : α → D) : List α → D := fun l => D.tup (l.map e)
abbrev eL {α : Type} (e : α → D) : List α → D := fun l => D.lst (l.map e)
abbrev eF {α : Type} (e : α → D) : List α → D := fun l => D.frl (l.map e)
abbrev eP2 {α β : Type} (e1 : α → D) (e2 : β → D) : α × β → D := fun p => D.tup [e1 p.1, e2 p.2]
abbrev eP3 {α β γ : Type} (e1 : α → D) (e2 : β → D) (e3 : γ → D) : α × β × γ → D := fun p => D.tup [e1 p.1, e2 p.2.1, e3 p.2.2]
abbrev eP4 {α β γ η : Type} (e1 : α → D) (e2 : β → D) (e3 : γ → D) (e4 : η → D) : α × β × γ × η → D := fun p => D.tup [e1 p.1, e2 p.2.1, e3 p.2.2.1, e4 p.2.2.2]
abbrev eO {α : Type} (e : α → D) : Option α → D := fun o => match o with
  | none => D.non
  | some a => e a
abbrev wE {α : Type} (e : α → D) : α → W := fun a => W.d (e a)
section
variable {A α β γ : Type} {Γ Γ' : DEnv} {M : Sto} {fa fb fc : FE} {fs : FA} {w wa wb wc : W} {d da db dc : D} {ws : List W} {ds l : List D} {p : Option α} {m : α → Sto} {v : α → W} {vs : α → List W}
theorem v_var {i : Nat} (h : Γ[i]? = some (some w)) : V Γ M (fVar i) w := fun δ k => by
  unfold fVar
  simp only [k.2 i w h]
theorem v_c {x : D} : V Γ M (fC x) (.d x) := fun _ _ => rfl
theorem v_op {g : D → D → Option D} (ha : V Γ M fa wa) (hb : V Γ M fb wb) (ra : rd M wa = some da) (rb : rd M wb = some db) (hg : g da db = some d) : V Γ M (fOp g fa fb) (.d d) := fun δ k => S9.v_op (ha δ k) (hb δ k) ra rb hg
theorem v_un {g : D → Option D} (ha : V Γ M fa wa) (ra : rd M wa = some da) (hg : g da = some d) : V Γ M (fUn g fa) (.d d) := fun δ k => by
  simp only [fUn, ha δ k, ra, hg, R.bind_ok, Option.bind_some, Option.map_some, R.of_some]
theorem v_nil : V Γ M fNil [] := fun _ _ => rfl
theorem v_cons (ha : V Γ M fa wa) (hs : V Γ M fs ws) : V Γ M (fCons fa fs) (wa :: ws) := fun δ k => by
  simp only [fCons, ha δ k, hs δ k, R.bind_ok]
theorem v_cb {g : List D → Option D} (hs : V Γ M fs ws) (rs : rds M ws = some ds) (hg : g ds = some d) : V Γ M (fCB g fs) (.d d) := fun δ k => by
  simp only [fCB, hs δ k, rs, hg, R.bind_ok, Option.bind_some, Option.map_some, R.of_some]
theorem v_tup (hs : V Γ M fs ws) (rs : frs9 ws = some l) (hl : Nat.ble l.length 1000 = true) : V Γ M (fTup fs) (.d (.tup l)) := fun δ k => by
  simp only [fTup, hs δ k, rs, R.bind_ok, R.of_some, if_pos (Nat.le_of_ble_eq_true hl)]
theorem v_lst (hs : V Γ M fs ws) (rs : frs9 ws = some l) (hl : Nat.ble l.length 1000 = true) : V Γ M (fLst fs) l := fun δ k => by
  simp only [fLst, hs δ k, rs, R.bind_ok, R.of_some, if_pos (Nat.le_of_ble_eq_true hl)]
theorem v_fro {f : FN} (h : V Γ M f l) : V Γ M (fFro f) (.d (.lst l)) := fun δ k => by
  simp only [fFro, h δ k, R.bind_ok]
theorem v_B {b : Bool} (h : V Γ M fa (.d (.bl b))) : V Γ M (fB fa) b := fun δ k => by
  simp only [fB, h δ k, R.bind_ok, tru_bl, R.of_some]
variable {ft fg : FT} {b c : Bool}
variable {lo hi : Option Int} {fl fh : FO}
theorem v_oN : V Γ M oNone none := fun _ _ => rfl
theorem v_oS {i : Int} (h : V Γ M fa (.d (.int i))) : V Γ M (oSome fa) (some i) := fun δ k => by
  simp only [oSome, h δ k, R.bind_ok, intW, Option.map_some, R.of_some]
theorem v_slN {g : D → Option Int → Option Int → Option (List D)} (ha : V Γ M fa wa) (hl : V Γ M fl lo) (hh : V Γ M fh hi) (ra : rd M wa = some da) (e : g da lo hi = some l) : V Γ M (fSlN g fa fl fh) l := fun δ k => by
  simp only [fSlN, ha δ k, hl δ k, hh δ k, R.bind_ok, ra, e, Option.bind_some, R.of_some]
end
def Cl (M : Sto) : Prop := M.all (Cell.clo M.length) = true
def flatC : Cell → Bool
  | .lst _ => true
  | .dct _ _ => true
  | .dctT _ _ => true
  | _ => false
abbrev Fl (ext : Sto) : Prop := ext.all flatC = true
theorem clo_mono {n k : Nat} (h : n ≤ k) : ∀ {c : Cell}, c.clo n = true → c.clo k = true
  | .lst _, _ => rfl
  | .dct _ _, _ => rfl
  | .dctT _ _, _ => rfl
  | .ins _ _ ws, e => by
    unfold Cell.clo at e ⊢
    refine List.all_eq_true.mpr fun w hw => ?_
    have := List.all_eq_true.mp e w hw
    cases w with
    | d _ => rfl
    | loc j => exact decide_eq_true (Nat.lt_of_lt_of_le (of_decide_eq_true this) h)
  | .lsW ws, e => by
    unfold Cell.clo at e ⊢
    refine List.all_eq_true.mpr fun w hw => ?_
    have := List.all_eq_true.mp e w hw
    cases w with
    | d _ => rfl
    | loc j => exact decide_eq_true (Nat.lt_of_lt_of_le (of_decide_eq_true this) h)
theorem clo_flat {n : Nat} : ∀ {c : Cell}, flatC c = true → c.clo n = true
  | .lst _, _ => rfl
  | .dct _ _, _ => rfl
  | .dctT _ _, _ => rfl
  | .ins _ _ _, e => nomatch e
  | .lsW _, e => nomatch e
theorem Cl.app {M ext : Sto} (h : Cl M) (f : Fl ext) : Cl (M ++ ext) := by
  refine List.all_eq_true.mpr fun c hc => ?_
  rcases List.mem_append.mp hc with hc | hc
  · exact clo_mono (by rw [List.length_append]; omega) (List.all_eq_true.mp h c hc)
  · exact clo_flat (List.all_eq_true.mp f c hc)
theorem Cl.set {M : Sto} (h : Cl M) {k : Nat} {c : Cell} (f : flatC c = true) : Cl (M.set k c) := by
  refine List.all_eq_true.mpr fun x hx => ?_
  rw [List.length_set]
  rcases List.mem_or_eq_of_mem_set hx with hx | hx
  · exact List.all_eq_true.mp h x hx
  · subst hx; exact clo_flat f
theorem cut_app {B ext : Sto} {n : Nat} (h : Cl B) (hn : B.length = n) : cutM n (B ++ ext) = some B := by
  subst hn
  unfold cutM
  by_cases hl : (B ++ ext).length ≤ B.length
  · have : ext = [] := by
      rw [List.length_append] at hl
      exact List.eq_nil_of_length_eq_zero (by omega)
    subst this
    rw [if_pos hl, List.append_nil]
  · rw [if_neg hl, List.take_left]
    exact if_pos h
theorem fin1_d {B ext : Sto} {n : Nat} {x : D} (h : Cl B) (hn : B.length = n) : fin1 n (.d x) (B ++ ext) = .ok (.d x) B := by
  unfold fin1
  rw [cut_app h hn]
theorem ext_at {B ext : Sto} {n j : Nat} {c : Cell} (hn : B.length = n) (h : ext[j]? = some c) : (B ++ ext)[n + j]? = some c := by
  subst hn
  rw [List.getElem?_append_right (Nat.le_add_right _ _), Nat.add_sub_cancel_left]
  exact h
theorem finN_loc {B ext : Sto} {n j : Nat} {l : List D} (h : Cl B) (hn : B.length = n) (hj : ext[j]? = some (.lst l)) : finN n (.ok (.rt (.loc (n + j))) (B ++ ext)) = .ok l B := by
  unfold finN
  simp only
  rw [cut_app h hn]
  simp only
  rw [if_neg (by omega), ext_at hn hj]
theorem set_ext {B ext : Sto} {n j : Nat} {c : Cell} (hn : B.length = n) : (B ++ ext).set (n + j) c = B ++ ext.set j c := by
  subst hn
  rw [List.set_append_right _ _ (Nat.le_add_right _ _), Nat.add_sub_cancel_left]
theorem len_ext {B ext : Sto} {n : Nat} (hn : B.length = n) : (B ++ ext).length = n + ext.length := by rw [List.length_append, hn]
abbrev potC (p : List Int) : Cell := .lst (p.map D.int)
theorem pot_len {M : Sto} {k : Nat} {c : Cell} : (M.set k c).length = M.length := List.length_set
theorem rd_pot {M ext : Sto} {k : Nat} {l : List D} (hk : k < M.length) : rd (M.set k (.lst l) ++ ext) (.loc k) = some (.lst l) := S9.rd_lst (by
  rw [List.getElem?_append_left (by rw [List.length_set]; exact hk), List.getElem?_set_self hk])
theorem set_pot {M ext : Sto} {k : Nat} {c c' : Cell} (hk : k < M.length) : (M.set k c ++ ext).set k c' = M.set k c' ++ ext := by
  rw [List.set_append_left _ _ (by rw [List.length_set]; exact hk), List.set_set]
theorem app_pot {M ext : Sto} {k : Nat} {c : Cell} (hk : k < M.length) : (M ++ ext).set k c = M.set k c ++ ext := List.set_append_left _ _ hk
theorem lt_app {M ext : Sto} {k : Nat} (hk : k < M.length) : k < (M ++ ext).length := by rw [List.length_append]; omega
theorem rr_pot {A α : Type} {φ : Sto → R A} {M ext : Sto} {k : Nat} {c : Cell} {p : Option α} {v : α → A} {m : α → Cell} (hk : k < M.length) (h : Rr (φ ((M ++ ext).set k c)) p v (fun a => (M ++ ext).set k (m a))) : Rr (φ (M.set k c ++ ext)) p v (fun a => M.set k (m a) ++ ext) := by
  rw [app_pot hk] at h
  intro a ha
  rw [h a ha]
  show R.ok (v a) ((M ++ ext).set k (m a)) = _
  rw [app_pot hk]
end T9
namespace T9
open PySem PySem.Spec PyProof.Rows L2 S9
section
variable {A α β γ σ ρ : Type} {Γ Γ1 Γ2 : DEnv} {M M1 : Sto} {fa fb fe fo : FE} {fs : FA} {ft : FT} {f g h : FS} {w : W} {b : Bool} {p : Option α} {m : α → Sto} {v : α → W} {κ : γ → R Out → Prop}
def SV (Γ : DEnv) (M : Sto) (f : FS) (Γ' : DEnv) (M' : Sto) : Prop := ∀ δ, Has Γ δ → ∃ δ', f δ M = .ok (.nx δ') M' ∧ Has Γ' δ'
def SE (Γ : DEnv) (M : Sto) (f : FS) (p : Option α) (Γ' : α → DEnv) (m : α → Sto) : Prop := ∀ a, p = some a → SV Γ M f (Γ' a) (m a)
def TL (Γ : DEnv) (M : Sto) (f : FS) (p : Option γ) (κ : γ → R Out → Prop) : Prop := ∀ c, p = some c → ∀ δ, Has Γ δ → κ c (f δ M)
theorem tl_seq {Γ' : α → DEnv} {q : α → Option γ} (hf : SE Γ M f p Γ' m) (hg : ∀ a, TL (Γ' a) (m a) g (q a) κ) : TL Γ M (sSeq f g) (p.bind q) κ := fun c hc δ k => by
  obtain ⟨a, h1, h2⟩ := Option.bind_eq_some_iff.mp hc
  obtain ⟨δ', e, k'⟩ := hf a h1 δ k
  show κ c ((f δ M).thenS g)
  rw [e]
  exact hg a c h2 δ' k'
theorem thenS_assoc {x : R Out} : (x.thenS g).thenS h = x.thenS fun δ M => (g δ M).thenS h := by
  cases x with
  | bad => rfl
  | ex e M => rfl
  | ok o M => cases o <;> rfl
theorem tl_assoc {q : Option γ} (hh : TL Γ M (sSeq f (sSeq g h)) q κ) : TL Γ M (sSeq (sSeq f g) h) q κ := fun c hc δ k => by
  have := hh c hc δ k
  show κ c (((f δ M).thenS g).thenS h)
  rw [thenS_assoc]
  exact this
theorem tl_nilS {q : Option γ} (hh : TL Γ M h q κ) : TL Γ M (sSeq sNil h) q κ := hh
theorem tl_retS {q : Option γ} (hh : TL Γ M (sRet fe) q κ) : TL Γ M (sSeq (sRet fe) h) q κ := fun c hc δ k => by
  have := hh c hc δ k
  revert this
  show κ c ((fe δ M).bind fun w M1 => .ok (.rt w) M1) → κ c (((fe δ M).bind fun w M1 => .ok (.rt w) M1).thenS h)
  cases fe δ M <;> exact fun h => h
def KN (Γ' : σ → DEnv) (m : σ → Sto) (s : σ) (x : R Out) : Prop := ∃ δ', x = .ok (.nx δ') (m s) ∧ Has (Γ' s) δ'
def KG (Γ' : σ → DEnv) (m : σ → Sto) (s : σ) (x : R Out) : Prop := ∃ δ', (x = .ok (.nx δ') (m s) ∨ x = .ok (.ct δ') (m s)) ∧ Has (Γ' s) δ'
def KF (n : Nat) (v : ρ → W) (m : ρ → Sto) (r : ρ) (x : R Out) : Prop := ∃ w M1, x = .ok (.rt w) M1 ∧ fin1 n w M1 = .ok (v r) (m r)
def KFN (n : Nat) (v : ρ → List D) (m : ρ → Sto) (r : ρ) (x : R Out) : Prop := ∃ w M1, x = .ok (.rt w) M1 ∧ finN n (.ok (.rt w) M1) = .ok (v r) (m r)
inductive Ctl (σ ρ : Type) where
  | go (s : σ)
  | bk (s : σ)
  | rt (r : ρ)
def KC (Γ' : σ → DEnv) (m : σ → Sto) (κr : ρ → R Out → Prop) : Ctl σ ρ → R Out → Prop
  | .go s, x => KG Γ' m s x
  | .bk s, x => ∃ δ', x = .ok (.bk δ') (m s) ∧ Has (Γ' s) δ'
  | .rt r, x => κr r x ∧ ∃ w M1, x = .ok (.rt w) M1
variable {Γ' : σ → DEnv} {ms : σ → Sto}
theorem se_of {p : Option σ} (h : TL Γ M f p (KN Γ' ms)) : SE Γ M f p Γ' ms := fun a ha δ k => h a ha δ k
theorem tl_endN {s : σ} (l : Le (Γ' s) Γ) (e : M = ms s) : TL Γ M sNil (some s) (KN Γ' ms) := fun c hc δ k => by
  cases hc
  exact ⟨δ, by rw [← e]; rfl, l.has k⟩
theorem tl_endG {s : σ} (l : Le (Γ' s) Γ) (e : M = ms s) : TL Γ M sNil (some s) (KG Γ' ms) := fun c hc δ k => by
  cases hc
  exact ⟨δ, .inl (by rw [← e]; rfl), l.has k⟩
theorem tl_endC {κr : ρ → R Out → Prop} {s : σ} (l : Le (Γ' s) Γ) (e : M = ms s) : TL Γ M sNil (some (.go s)) (KC Γ' ms κr) := fun c hc δ k => by
  cases hc
  exact ⟨δ, .inl (by rw [← e]; rfl), l.has k⟩
theorem kc_ret {κr : ρ → R Out → Prop} {r : ρ} {w : W} (h : κr r (.ok (.rt w) M)) : KC Γ' ms κr (.rt r) (.ok (.rt w) M) := ⟨h, _, _, rfl⟩
def pSet {α : Type} (l : List α) (i : Int) (x : α) : Option (List α) := match ixN l.length i with
  | some k => some (l.set k x)
  | none => none
theorem ok_setC {n k : Nat} {M : Sto} {e : α → D} {l l' : List α} {i : Int} {x : α} (hk : M[k]? = some (.lst (l.map e))) (h : pSet l i x = some l') : setC k (.d (.int i)) (.d (e x)) M = .ok () (M.set k (.lst (l'.map e))) := by
  unfold pSet at h
  simp only [setC, fr_d, intW, hk, List.length_map]
  split at h
  · rename_i j hj
    cases h
    first
      | (rw [hj]; simp only [List.map_set])
      | simp only [List.map_set]
  · cases h
end
section
variable {A α β γ σ ρ ι : Type} {Γ : DEnv} {M M0 : Sto} {ft : FT} {fe : FE} {fi : FI} {g : FG} {fb fk : FS} {κ : γ → R Out → Prop} {e : ι → D} {Γl : σ → DEnv} {m : σ → Sto}
def forN {ι σ : Type} (f : ι → σ → Option σ) : List ι → σ → Option σ
  | [], s => some s
  | x :: xs, s => (f x s).bind (forN f xs)
def forC {ι σ ρ : Type} (f : ι → σ → Option (Ctl σ ρ)) : List ι → σ → Option (σ ⊕ ρ)
  | [], s => some (.inl s)
  | x :: xs, s => (f x s).bind fun c => match c with
    | .go s' => forC f xs s'
    | .bk s' => some (.inl s')
    | .rt r => some (.inr r)
def forR {ι σ ρ γ : Type} (f : ι → σ → Option (Ctl σ ρ)) (xs : List ι) (s : σ) (q : σ → Option γ) (q' : ρ → Option γ) : Option γ := (forC f xs s).bind fun c => match c with
  | .inl s => q s
  | .inr r => q' r
theorem forF_N {lk : List Nat} {xs : List ι} {f : ι → σ → Option σ} {Γb : ι → σ → DEnv} (hg : ∀ x s δ, Has (Γl s) δ → ∃ δ1, g (e x) δ = some δ1 ∧ Has (Γb x s) δ1)
    (hb : ∀ x s, TL (Γb x s) (m s) fb (f x s) (KG Γl m)) (hlk : ∀ s, lkOk lk M0 (m s)) :
    ∀ (xs : List ι) (s s' : σ), forN f xs s = some s' → ∀ δ, Has (Γl s) δ → ∃ δ', forF lk M0 g fb (xs.map e) δ (m s) = .ok (.nx δ') (m s') ∧ Has (Γl s') δ'
  | [], s, s', h, δ, k => by cases h; exact ⟨δ, rfl, k⟩
  | x :: xs, s, s', h, δ, k => by
    obtain ⟨s1, h1, h2⟩ := Option.bind_eq_some_iff.mp h
    obtain ⟨δ1, e1, k1⟩ := hg x s δ k
    obtain ⟨δ2, e2, k2⟩ := hb x s s1 h1 δ1 k1
    obtain ⟨δ3, e3, k3⟩ := forF_N (xs := xs) hg hb hlk xs s1 s' h2 δ2 k2
    refine ⟨δ3, ?_, k3⟩
    rw [List.map_cons]
    unfold forF
    rw [e1]
    rcases e2 with e2 | e2 <;>
    · simp only [e2, lkR, if_pos (hlk s1)]
      exact e3
theorem se_for {lk : List Nat} {xs : List ι} {s0 : σ} {f : ι → σ → Option σ} {Γb : ι → σ → DEnv} (hi : V Γ M fi (xs.map e, lk)) (h0 : Le (Γl s0) Γ) (hm : M = m s0) (hg : ∀ x s δ, Has (Γl s) δ → ∃ δ1, g (e x) δ = some δ1 ∧ Has (Γb x s) δ1)
    (hb : ∀ x s, TL (Γb x s) (m s) fb (f x s) (KG Γl m)) (hlk : ∀ s, lkOk lk M (m s)) : SE Γ M (sFor fi g fb) (forN f xs s0) Γl m := fun s' h δ k => by
  show ∃ δ', (fi δ M).bind _ = _ ∧ _
  rw [hi δ k]
  have := forF_N (xs := xs) hg hb hlk xs s0 s' h δ (h0.has k)
  rw [← hm] at this
  exact this
def cK (Γl : σ → DEnv) (m : σ → Sto) (κr : ρ → R Out → Prop) : σ ⊕ ρ → R Out → Prop
  | .inl s, x => ∃ δ', x = .ok (.nx δ') (m s) ∧ Has (Γl s) δ'
  | .inr r, x => κr r x ∧ ∃ w M1, x = .ok (.rt w) M1
theorem forF_C {lk : List Nat} {κr : ρ → R Out → Prop} {f : ι → σ → Option (Ctl σ ρ)} {Γb : ι → σ → DEnv} (hg : ∀ x s δ, Has (Γl s) δ → ∃ δ1, g (e x) δ = some δ1 ∧ Has (Γb x s) δ1)
    (hb : ∀ x s, TL (Γb x s) (m s) fb (f x s) (KC Γl m κr)) (hlk : ∀ s, lkOk lk M0 (m s)) :
    ∀ (xs : List ι) (s : σ) (c : σ ⊕ ρ), forC f xs s = some c → ∀ δ, Has (Γl s) δ → cK Γl m κr c (forF lk M0 g fb (xs.map e) δ (m s))
  | [], s, c, h, δ, k => by cases h; exact ⟨δ, rfl, k⟩
  | x :: xs, s, c, h, δ, k => by
    obtain ⟨c1, h1, h2⟩ := Option.bind_eq_some_iff.mp h
    obtain ⟨δ1, e1, k1⟩ := hg x s δ k
    have q := hb x s c1 h1 δ1 k1
    rw [List.map_cons]
    unfold forF
    rw [e1]
    cases c1 with
    | go s1 =>
      obtain ⟨δ2, e2, k2⟩ := q
      have := forF_C hg hb hlk xs s1 c h2 δ2 k2
      rcases e2 with e2 | e2 <;>
      · simp only [e2, lkR, if_pos (hlk s1)]
        exact this
    | bk s1 =>
      obtain ⟨δ2, e2, k2⟩ := q
      cases h2
      simp only [e2]
      exact ⟨δ2, rfl, k2⟩
    | rt r =>
      obtain ⟨q1, w, M1, q2⟩ := q
      cases h2
      rw [q2] at q1
      simp only [q2]
      exact ⟨q1, w, M1, rfl⟩
theorem tl_forC {lk : List Nat} {xs : List ι} {s0 : σ} {f : ι → σ → Option (Ctl σ ρ)} {Γb : ι → σ → DEnv} {κr : ρ → R Out → Prop} {q : σ → Option γ} {q' : ρ → Option γ} (hi : V Γ M fi (xs.map e, lk)) (h0 : Le (Γl s0) Γ) (hm : M = m s0) (hg : ∀ x s δ, Has (Γl s) δ → ∃ δ1, g (e x) δ = some δ1 ∧ Has (Γb x s) δ1)
    (hb : ∀ x s, TL (Γb x s) (m s) fb (f x s) (KC Γl m κr)) (hlk : ∀ s, lkOk lk M (m s)) (hq : ∀ s, TL (Γl s) (m s) fk (q s) κ) (hr : ∀ r c w M1, q' r = some c → κr r (.ok (.rt w) M1) → κ c (.ok (.rt w) M1)) :
    TL Γ M (sSeq (sFor fi g fb) fk) (forR f xs s0 q q') κ := fun c hc δ k => by
  obtain ⟨c1, h1, h2⟩ := Option.bind_eq_some_iff.mp hc
  have z := forF_C hg hb hlk xs s0 c1 h1 δ (h0.has k)
  rw [← hm] at z
  show κ c (((fi δ M).bind fun p M1 => forF p.2 M1 g fb p.1 δ M1).thenS fk)
  rw [hi δ k]
  show κ c ((forF lk M g fb (xs.map e) δ M).thenS fk)
  cases c1 with
  | inl s =>
    obtain ⟨δ2, e2, k2⟩ := z
    rw [e2]
    exact hq s c h2 δ2 k2
  | inr r =>
    obtain ⟨z1, w, M1, z2⟩ := z
    rw [z2] at z1 ⊢
    exact hr r c w M1 h2 z1
end
end T9
namespace T9
open PySem PySem.Spec PyProof.Rows L2 S9
section
variable {A α β γ σ ι ι2 ι3 : Type} {Γ : DEnv} {M : Sto} {fa : FE} {fs : FA} {w wa wb wc : W} {ws : List W} {l : List D} {lk lk2 lk3 : List Nat} {p : Option α} {m : α → Sto} {v : α → W} {vs : α → List W}
theorem i_const {x : A} : V Γ M (fun _ M => .ok x M) x := fun _ _ => rfl
def pRng (lo hi : Int) : Option (List Int) := if rngC (lo, hi) = true then some ((List.range (hi - lo).toNat).map fun (i : Nat) => lo + (i : Int)) else none
theorem rng_eq {lo hi : Int} {xs : List Int} (h : pRng lo hi = some xs) (M : Sto) : rngR (lo, hi) M = .ok (xs.map D.int, []) M := by
  unfold pRng at h
  split at h
  · rename_i hc
    cases h
    simp only [rngR, hc, rgD, List.map_map]
    rfl
  · cases h
end
section
variable {A α β γ σ ι : Type} {Γ : DEnv} {M M0 : Sto} {fi : FI} {g : FG} {ft : FT} {fe : FE} {vs : List Nat} {e : ι → D} {e' : β → D} {lk : List Nat} {m : σ → Sto} {Γb : ι → DEnv}
def lcG {ι β σ : Type} (f : ι → σ → Option (Option β × σ)) : List ι → σ → Option (List β × σ)
  | [], s => some ([], s)
  | x :: xs, s => (f x s).bind fun r => (lcG f xs r.2).bind fun z => some ((match r.1 with
    | none => z.1
    | some y => y :: z.1), z.2)
def mapO {ι β : Type} (t : ι → Option β) : List ι → Option (List β)
  | [] => some []
  | x :: xs => (t x).bind fun y => (mapO t xs).bind fun ys => some (y :: ys)
def mapS {ι β σ : Type} (t : ι → σ → Option (β × σ)) : List ι → σ → Option (List β × σ)
  | [], s => some ([], s)
  | x :: xs, s => (t x s).bind fun r => (mapS t xs r.2).bind fun z => some (r.1 :: z.1, z.2)
def lcO {ι β : Type} (xs : List ι) (t : ι → Option β) : Option (List β) := if xs.length ≤ 100000 then mapO t xs else none
def lcS {ι β σ : Type} (xs : List ι) (t : ι → σ → Option (β × σ)) (s : σ) : Option (List β × σ) := if xs.length ≤ 100000 then mapS t xs s else none
theorem lcF_run {f : ι → σ → Option (Option β × σ)} {Γw : DEnv} (hg : ∀ x δ, Has Γw δ → ∃ δ1, g (e x) δ = some δ1 ∧ Has (Γb x) δ1)
    (hb : ∀ x s o s', f x s = some (o, s') → ∀ δ, Has (Γb x) δ → match o with
      | none => ft δ (m s) = .ok false (m s')
      | some y => ∃ M1, ft δ (m s) = .ok true M1 ∧ fe δ M1 = .ok (.d (e' y)) (m s')) (hlk : ∀ s, lkOk lk M0 (m s)) {δ : DEnv} (k : Has Γw δ) :
    ∀ (xs : List ι) (s : σ) (ys : List β) (s' : σ), lcG f xs s = some (ys, s') → lcF lk M0 g ft fe δ (xs.map e) (m s) = .ok (ys.map e') (m s')
  | [], s, ys, s', h => by cases h; rfl
  | x :: xs, s, ys, s', h => by
    obtain ⟨⟨o, s1⟩, h1, h2⟩ := Option.bind_eq_some_iff.mp h
    obtain ⟨⟨zs, s2⟩, h3, h4⟩ := Option.bind_eq_some_iff.mp h2
    have ih := lcF_run hg hb hlk k xs s1 zs s2 h3
    obtain ⟨δ1, e1, k1⟩ := hg x δ k
    have q := hb x s o s1 h1 δ1 k1
    rw [List.map_cons]
    unfold lcF
    rw [e1]
    cases o with
    | none =>
      cases h4
      have q : ft δ1 (m s) = .ok false (m s1) := q
      simp only [q, R.noEx_ok, R.bind_ok, lkR, if_pos (hlk s1)]
      exact ih
    | some y =>
      cases h4
      obtain ⟨M1, q1, q2⟩ := q
      simp only [q1, q2, R.noEx_ok, R.bind_ok, fr_d, R.of_some, lkR, if_pos (hlk s1), ih, List.map_cons]
theorem e_lcG {xs : List ι} {f : ι → σ → Option (Option β × σ)} {s0 : σ} (hi : V Γ M fi (xs.map e, lk)) (hm : M = m s0) (hl : xs.length ≤ 100000) (hg : ∀ x δ, Has (wipeD Γ vs) δ → ∃ δ1, g (e x) δ = some δ1 ∧ Has (Γb x) δ1)
    (hb : ∀ x s o s', f x s = some (o, s') → ∀ δ, Has (Γb x) δ → match o with
      | none => ft δ (m s) = .ok false (m s')
      | some y => ∃ M1, ft δ (m s) = .ok true M1 ∧ fe δ M1 = .ok (.d (e' y)) (m s')) (hlk : ∀ s, lkOk lk M (m s)) :
    E Γ M (fLc fi g ft fe vs) (lcG f xs s0) (fun z => z.1.map e') (fun z => m z.2) := fun z hz δ k => by
  show (fi δ M).bind _ = _
  rw [hi δ k]
  simp only [R.bind_ok, List.length_map, if_pos hl]
  have := lcF_run (M0 := M) hg hb hlk (k.wipe vs) xs s0 z.1 z.2 hz
  rw [← hm] at this
  exact this
theorem lcG_mapO (t : ι → Option β) : ∀ (xs : List ι) (ys : List β), mapO t xs = some ys → lcG (fun x (_ : Unit) => (t x).bind fun y => some (some y, ())) xs () = some (ys, ())
  | [], ys, h => by cases h; rfl
  | x :: xs, ys, h => by
    obtain ⟨y, h1, h2⟩ := Option.bind_eq_some_iff.mp h
    obtain ⟨zs, h3, h4⟩ := Option.bind_eq_some_iff.mp h2
    cases h4
    simp only [lcG, h1, Option.bind_some, lcG_mapO t xs zs h3]
theorem lcG_mapS (t : ι → σ → Option (β × σ)) : ∀ (xs : List ι) (s : σ) (z : List β × σ), mapS t xs s = some z → lcG (fun x s => (t x s).bind fun r => some (some r.1, r.2)) xs s = some z
  | [], s, z, h => by cases h; rfl
  | x :: xs, s, z, h => by
    obtain ⟨r, h1, h2⟩ := Option.bind_eq_some_iff.mp h
    obtain ⟨z2, h3, h4⟩ := Option.bind_eq_some_iff.mp h2
    cases h4
    simp only [lcG, h1, Option.bind_some, lcG_mapS t xs r.2 z2 h3]
variable {xs : List ι}
theorem e_lcO {t : ι → Option β} (hi : V Γ M fi (xs.map e, lk)) (hg : ∀ x δ, Has (wipeD Γ vs) δ → ∃ δ1, g (e x) δ = some δ1 ∧ Has (Γb x) δ1) (he : ∀ x, E (Γb x) M fe (t x) (wE e') (fun _ => M)) : E Γ M (fLc fi g tYesF fe vs) (lcO xs t) (fun l => l.map e') (fun _ => M) := fun l h δ k => by
  unfold lcO at h
  split at h
  · rename_i hl
    exact e_lcG (m := fun (_ : Unit) => M) (s0 := ()) hi rfl hl hg (fun x s o s' h δ k => by
      obtain ⟨y, h1, h2⟩ := Option.bind_eq_some_iff.mp h
      cases h2
      exact ⟨M, rfl, he x y h1 δ k⟩) (fun _ _ _ => rfl) _ (lcG_mapO t xs l h) δ k
  · cases h
theorem e_lcS {t : ι → σ → Option (β × σ)} {s0 : σ} (hi : V Γ M fi (xs.map e, lk)) (hm : M = m s0) (hg : ∀ x δ, Has (wipeD Γ vs) δ → ∃ δ1, g (e x) δ = some δ1 ∧ Has (Γb x) δ1) (he : ∀ x s, E (Γb x) (m s) fe (t x s) (fun r => .d (e' r.1)) (fun r => m r.2)) (hlk : ∀ s, lkOk lk M (m s)) :
    E Γ M (fLc fi g tYesF fe vs) (lcS xs t s0) (fun z => z.1.map e') (fun z => m z.2) := fun z h δ k => by
  unfold lcS at h
  split at h
  · rename_i hl
    exact e_lcG (m := m) (s0 := s0) hi hm hl hg (fun x s o s' h δ k => by
      obtain ⟨y, h1, h2⟩ := Option.bind_eq_some_iff.mp h
      cases h2
      exact ⟨m s, rfl, he x s y h1 δ k⟩) hlk _ (lcG_mapS t xs s0 z h) δ k
  · cases h
end
section
variable {α β : Type}
def pMul (a b : Int) : Option Int := if a.natAbs.log2 + b.natAbs.log2 < 1000000 then some (a * b) else none
def pMod (a b : Int) : Option Int := if 0 < b then some (a % b) else none
def pDiv (a b : Int) : Option Int := if 0 < b ∧ b.natAbs.log2 < 9000 then some (a / b) else none
def pPow (a b : Int) : Option Int := if 0 ≤ b ∧ (Builtin.Int.intBits a : Int) * b ≤ 2 ^ 27 then some (a ^ b.toNat) else none
theorem g_mul {a b c : Int} (h : pMul a b = some c) : gMul (.int a) (.int b) = some (.int c) := by
  unfold pMul at h
  split at h
  · cases h; exact gMul_int ‹_›
  · cases h
theorem g_mod {a b c : Int} (h : pMod a b = some c) : gMod (.int a) (.int b) = some (.int c) := by
  unfold pMod at h
  split at h
  · cases h; exact gMod_int ‹_›
  · cases h
theorem g_div {a b c : Int} (h : pDiv a b = some c) : gDiv (.int a) (.int b) = some (.int c) := by
  unfold pDiv at h
  split at h
  · rename_i h2; cases h; exact gDiv_int h2.1 h2.2
  · cases h
theorem g_pow {a b c : Int} (h : pPow a b = some c) : gPow (.int a) (.int b) = some (.int c) := by
  unfold pPow at h
  split at h
  · rename_i h2; cases h; exact gPow_int h2.1 h2.2
  · cases h
def pIx (l : List α) (i : Int) : Option α := (ixN l.length i).bind fun j => l[j]?
theorem atI_map {e : α → D} {l : List α} {i : Int} {x : α} (h : pIx l i = some x) : atI (l.map e) i = some (e x) := by
  obtain ⟨j, h1, h2⟩ := Option.bind_eq_some_iff.mp h
  unfold atI
  rw [List.length_map, h1]
  simp only [Option.bind_some, List.getElem?_map, h2, Option.map_some]
theorem g_ixT {e : α → D} {l : List α} {i : Int} {x : α} (h : pIx l i = some x) : gIx (eT e l) (.int i) = some (e x) := atI_map h
theorem g_ixL {e : α → D} {l : List α} {i : Int} {x : α} (h : pIx l i = some x) : gIx (eL e l) (.int i) = some (e x) := atI_map h
theorem g_ixF {e : α → D} {l : List α} {i : Int} {x : α} (h : pIx l i = some x) : gIx (eF e l) (.int i) = some (e x) := atI_map h
def pCat (a b : List α) : Option (List α) := if a.length + b.length ≤ 100000 then some (a ++ b) else none
theorem g_catL {e : α → D} {a b c : List α} (h : pCat a b = some c) : gCat (eL e a) (eL e b) = some (c.map e) := by
  unfold pCat at h
  split at h
  · cases h
    simp only [gCat, List.length_map]
    rw [if_pos ‹_›, List.map_append]
  · cases h
def pCut (l : List α) (lo hi : Option Int) : List α := (l.drop (HT.sIx l.length 0 lo)).take (HT.sIx l.length l.length hi - HT.sIx l.length 0 lo)
theorem cutD_map {e : α → D} {l : List α} {lo hi : Option Int} : S9.cutD (l.map e) lo hi = (pCut l lo hi).map e := by
  unfold S9.cutD pCut
  rw [List.length_map, List.map_take, List.map_drop]
theorem g_slL {e : α → D} {l : List α} {lo hi : Option Int} : gSlL (eL e l) lo hi = some ((pCut l lo hi).map e) := by
  show some (S9.cutD _ _ _) = _
  rw [cutD_map]
theorem g_lenL {e : α → D} {l : List α} : gLen [eL e l] = some (.int (l.length : Int)) := by rw [gLen_lst, List.length_map]
theorem g_lenF {e : α → D} {l : List α} : gLen [eF e l] = some (.int (l.length : Int)) := by rw [gLen_frl, List.length_map]
theorem g_all {l : List Bool} : gAll [eL eB l] = some (.bl (l.all id)) := by
  simp only [gAll, lstOf, Option.bind_some, blsD_map, Option.map_some]
theorem g_abs {i : Int} : gAbs [.int i] = some (.int (if i < 0 then -i else i)) := by
  simp only [gAbs]
  try rfl
structure EqE {α : Type} (e : α → D) (n : Nat) : Prop where
  to : ∀ a, ∃ p, (e a).toP = some p ∧ p.canLay0 = true ∧ p.depth ≤ n
  eq : ∀ a b p q, (e a).toP = some p → (e b).toP = some q → (PyData.eqv p q = true ↔ a = b)
theorem eqP_of [DecidableEq α] {e : α → D} {n : Nat} (h : EqE e n) (hn : n ≤ 64) (a b : α) : eqP (e a) (e b) = some (decide (a = b)) := by
  obtain ⟨p, a1, a2, a3⟩ := h.to a
  obtain ⟨q, b1, b2, b3⟩ := h.to b
  have i := h.eq a b p q a1 b1
  simp only [eqP, a1, b1, Option.bind_some, SeqAt.shaped, a2, b2, Bool.true_and, decide_eq_true (Nat.le_trans a3 hn), decide_eq_true (Nat.le_trans b3 hn), and_self, if_true]
  by_cases e : a = b
  · rw [decide_eq_true e, i.mpr e]
  · rw [decide_eq_false e, Bool.eq_false_iff.mpr fun z => e (i.mp z)]
theorem g_eq {a b : D} {c : Bool} (h : eqD a b = some c) : gEq a b = some (.bl c) := by simp only [gEq, h, Option.map_some]
theorem g_ne {a b : D} {c : Bool} (h : eqD a b = some c) : gNe a b = some (.bl (!c)) := by simp only [gNe, h, Option.map_some]
end
section
variable {A α ρ : Type}
theorem body_of {N : Nat} {f : FS} {ws : List W} {B M : Sto} {p : Option ρ} {v : ρ → W} {m : ρ → Sto} (h : TL (ws.map some ++ List.replicate (N - ws.length) none) (M ++ []) f p (KF M.length v m)) : Rr (body N f ws M) p v m := fun a ha => by
  obtain ⟨w, M1, e1, e2⟩ := h a ha _ Has.refl
  rw [List.append_nil] at e1
  unfold body
  rw [e1]
  exact e2
theorem bodyN_of {N : Nat} {f : FS} {ws : List W} {M : Sto} {p : Option ρ} {v : ρ → List D} {m : ρ → Sto} (h : TL (ws.map some ++ List.replicate (N - ws.length) none) (M ++ []) f p (KFN M.length v m)) : Rr (bodyN N f ws M) p v m := fun a ha => by
  obtain ⟨w, M1, e1, e2⟩ := h a ha _ Has.refl
  rw [List.append_nil] at e1
  unfold bodyN
  rw [e1]
  exact e2
theorem body_ofP {N n : Nat} {f : FS} {ws : List W} {M : Sto} {p : Option ρ} {v : ρ → W} {m : ρ → Sto} (hn : M.length = n) (h : TL (ws.map some ++ List.replicate (N - ws.length) none) (M ++ []) f p (KF n v m)) : Rr (body N f ws M) p v m := by subst hn; exact body_of (B := M) h
theorem bodyN_ofP {N n : Nat} {f : FS} {ws : List W} {M : Sto} {p : Option ρ} {v : ρ → List D} {m : ρ → Sto} (hn : M.length = n) (h : TL (ws.map some ++ List.replicate (N - ws.length) none) (M ++ []) f p (KFN n v m)) : Rr (bodyN N f ws M) p v m := by subst hn; exact bodyN_of h
end
end T9
namespace T9
open PySem PySem.Spec PyProof.Rows L2 S9
section
variable {A B α β γ σ : Type} {Γ : DEnv} {M : Sto}
def Rk (x : R A) (p : Option γ) (Φ : A → Sto → Option γ → Prop) : Prop := ∀ c, p = some c → ∃ w M' p', x = .ok w M' ∧ p' = some c ∧ Φ w M' p'
def Wc (Γ : DEnv) (M : Sto) (f : DEnv → Sto → R A) (p : Option γ) (Φ : A → Sto → Option γ → Prop) : Prop := ∀ δ, Has Γ δ → Rk (f δ M) p Φ
variable {p : Option γ} {Φ : A → Sto → Option γ → Prop} {Ψ : B → Sto → Option γ → Prop}
theorem rk_ok {w : A} (k : Φ w M p) : Rk (.ok w M) p Φ := fun c h => ⟨w, M, p, rfl, h, k⟩
theorem rk_bind {x : R B} {h : B → Sto → R A} (k : Rk x p fun w M1 p1 => Rk (h w M1) p1 Φ) : Rk (x.bind h) p Φ := fun c e => by
  obtain ⟨w, M1, p1, e1, e2, e3⟩ := k c e
  rw [e1]
  exact e3 c e2
theorem rk_R {x : R A} {pa : Option α} {v : α → A} {m : α → Sto} {q : α → Option γ} (h : Rr x pa v m) (k : ∀ a, Φ (v a) (m a) (q a)) : Rk x (pa.bind q) Φ := fun c e => by
  obtain ⟨a, h1, h2⟩ := Option.bind_eq_some_iff.mp e
  exact ⟨_, _, _, h a h1, h2, k a⟩
theorem rk_of {o : Option A} {w : A} (e : o = some w) (k : Φ w M p) : Rk (R.of M o) p Φ := by subst e; exact rk_ok k
theorem rk_ofP {o : Option A} {pa : Option α} {v : α → A} {q : α → Option γ} (e : ∀ c, pa = some c → o = some (v c)) (k : ∀ c, Φ (v c) M (q c)) : Rk (R.of M o) (pa.bind q) Φ := fun c h => by
  obtain ⟨a, h1, h2⟩ := Option.bind_eq_some_iff.mp h
  rw [e a h1]
  exact ⟨_, _, _, rfl, h2, k a⟩
theorem w_V {f : DEnv → Sto → R A} {w : A} (h : V Γ M f w) (k : Φ w M p) : Wc Γ M f p Φ := fun δ e => by rw [h δ e]; exact rk_ok k
theorem w_let {f : DEnv → Sto → R A} {x : α → A} {a : α} {q : α → Option γ} (h : V Γ M f (x a)) (k : ∀ a, Φ (x a) M (q a)) : Wc Γ M f ((some a).bind q) Φ := w_V h (k a)
theorem w_E {f : DEnv → Sto → R A} {pa : Option α} {v : α → A} {m : α → Sto} {q : α → Option γ} (h : E Γ M f pa v m) (k : ∀ a, Φ (v a) (m a) (q a)) : Wc Γ M f (pa.bind q) Φ := fun δ e => rk_R (fun a ha => h a ha δ e) k
def EndK (v : γ → A) (m : γ → Sto) (w : A) (M' : Sto) (p' : Option γ) : Prop := ∀ c, p' = some c → w = v c ∧ M' = m c
theorem e_ofW {f : DEnv → Sto → R A} {v : γ → A} {m : γ → Sto} (h : Wc Γ M f p (EndK v m)) : E Γ M f p v m := fun c e δ k => by
  obtain ⟨w, M', p', e1, e2, e3⟩ := h δ k c e
  obtain ⟨rfl, rfl⟩ := e3 c e2
  exact e1
theorem c_end {v : γ → A} {m : γ → Sto} {w : A} {c : γ} (e1 : w = v c) (e2 : M = m c) : EndK v m w M (some c) := fun _ h => by cases h; exact ⟨e1, e2⟩
theorem w_bind {f : DEnv → Sto → R B} {h : B → Sto → R A} (k : Wc Γ M f p fun w M1 p1 => Rk (h w M1) p1 Φ) : Wc Γ M (fun δ N => (f δ N).bind h) p Φ := fun δ e => rk_bind (k δ e)
end
section
variable {A α β γ σ : Type} {Γ : DEnv} {M : Sto} {fa fb fc fe : FE} {fs : FA} {p : Option γ} {Φ : W → Sto → Option γ → Prop} {ΦA : List W → Sto → Option γ → Prop} {ΦN : List D → Sto → Option γ → Prop} {ΦT : Bool → Sto → Option γ → Prop} {ΦO : Option Int → Sto → Option γ → Prop} {ΦI : List D × List Nat → Sto → Option γ → Prop}
variable {w wa wb wc : W} {ws : List W} {d da db dc : D} {ds l : List D} {pa : Option α} {q : α → Option γ}
def OpK (g : D → D → Option D) (M : Sto) (wa wb : W) (p : Option γ) (Φ : W → Sto → Option γ → Prop) : Prop := Rk ((R.of M ((rd M wa).bind fun x' => (rd M wb).map fun y' => (x', y'))).bind fun p M => R.of M ((g p.1 p.2).map W.d)) p Φ
theorem w_op {g : D → D → Option D} (k : Wc Γ M fa p fun wa M1 p1 => Wc Γ M1 fb p1 fun wb M2 p2 => OpK g M2 wa wb p2 Φ) : Wc Γ M (fOp g fa fb) p Φ := fun δ e => rk_bind fun c hc => by
  obtain ⟨w, M1, p1, e1, e2, e3⟩ := k δ e c hc
  exact ⟨w, M1, p1, e1, e2, rk_bind (e3 δ e)⟩
theorem c_op {g : D → D → Option D} (ra : rd M wa = some da) (rb : rd M wb = some db) (e : g da db = some d) (k : Φ (.d d) M p) : OpK g M wa wb p Φ := by
  unfold OpK
  simp only [ra, rb, Option.bind_some, Option.map_some, R.of_some, R.bind_ok, e]
  exact rk_ok k
theorem c_opP {g : D → D → Option D} {v : α → D} (ra : rd M wa = some da) (rb : rd M wb = some db) (e : ∀ c, pa = some c → g da db = some (v c)) (k : ∀ c, Φ (.d (v c)) M (q c)) : OpK g M wa wb (pa.bind q) Φ := by
  unfold OpK
  simp only [ra, rb, Option.bind_some, Option.map_some, R.of_some, R.bind_ok]
  exact rk_ofP (fun c h => by rw [e c h]; rfl) k
def OpKN (g : D → D → Option (List D)) (M : Sto) (wa wb : W) (p : Option γ) (Φ : List D → Sto → Option γ → Prop) : Prop := Rk ((R.of M ((rd M wa).bind fun x' => (rd M wb).map fun y' => (x', y'))).bind fun p M => R.of M (g p.1 p.2)) p Φ
theorem w_opN {g : D → D → Option (List D)} (k : Wc Γ M fa p fun wa M1 p1 => Wc Γ M1 fb p1 fun wb M2 p2 => OpKN g M2 wa wb p2 ΦN) : Wc Γ M (fOpN g fa fb) p ΦN := fun δ e => rk_bind fun c hc => by
  obtain ⟨w, M1, p1, e1, e2, e3⟩ := k δ e c hc
  exact ⟨w, M1, p1, e1, e2, rk_bind (e3 δ e)⟩
theorem c_opNP {g : D → D → Option (List D)} {v : α → List D} (ra : rd M wa = some da) (rb : rd M wb = some db) (e : ∀ c, pa = some c → g da db = some (v c)) (k : ∀ c, ΦN (v c) M (q c)) : OpKN g M wa wb (pa.bind q) ΦN := by
  unfold OpKN
  simp only [ra, rb, Option.bind_some, Option.map_some, R.of_some, R.bind_ok]
  exact rk_ofP (fun c h => e c h) k
def UnK (g : D → Option D) (M : Sto) (wa : W) (p : Option γ) (Φ : W → Sto → Option γ → Prop) : Prop := Rk (R.of M (((rd M wa).bind g).map W.d)) p Φ
theorem w_un {g : D → Option D} (k : Wc Γ M fa p fun wa M1 p1 => UnK g M1 wa p1 Φ) : Wc Γ M (fUn g fa) p Φ := w_bind k
theorem w_cons (k : Wc Γ M fa p fun wa M1 p1 => Wc Γ M1 fs p1 fun ws M2 p2 => ΦA (wa :: ws) M2 p2) : Wc Γ M (fCons fa fs) p ΦA := fun δ e => rk_bind fun c hc => by
  obtain ⟨w, M1, p1, e1, e2, e3⟩ := k δ e c hc
  exact ⟨w, M1, p1, e1, e2, rk_bind fun c hc => by
    obtain ⟨ws, M2, p2, g1, g2, g3⟩ := e3 δ e c hc
    exact ⟨ws, M2, p2, g1, g2, rk_ok g3⟩⟩
theorem w_nil (k : ΦA [] M p) : Wc Γ M fNil p ΦA := w_V v_nil k
def CbK (g : List D → Option D) (M : Sto) (ws : List W) (p : Option γ) (Φ : W → Sto → Option γ → Prop) : Prop := Rk (R.of M (((rds M ws).bind g).map W.d)) p Φ
theorem w_cb {g : List D → Option D} (k : Wc Γ M fs p fun ws M1 p1 => CbK g M1 ws p1 Φ) : Wc Γ M (fCB g fs) p Φ := w_bind k
theorem c_cb {g : List D → Option D} (rs : rds M ws = some ds) (e : g ds = some d) (k : Φ (.d d) M p) : CbK g M ws p Φ := by
  unfold CbK
  simp only [rs, Option.bind_some, Option.map_some, R.of_some, e]
  exact rk_ok k
theorem c_cbP {g : List D → Option D} {v : α → D} (rs : rds M ws = some ds) (e : ∀ c, pa = some c → g ds = some (v c)) (k : ∀ c, Φ (.d (v c)) M (q c)) : CbK g M ws (pa.bind q) Φ := by
  unfold CbK
  simp only [rs, Option.bind_some]
  exact rk_ofP (fun c h => by rw [e c h]; rfl) k
def CnK (g : List D → Option (List D)) (M : Sto) (ws : List W) (p : Option γ) (Φ : List D → Sto → Option γ → Prop) : Prop := Rk (R.of M ((rds M ws).bind g)) p Φ
theorem w_cn {g : List D → Option (List D)} (k : Wc Γ M fs p fun ws M1 p1 => CnK g M1 ws p1 ΦN) : Wc Γ M (fCN g fs) p ΦN := w_bind k
def TupK (M : Sto) (ws : List W) (p : Option γ) (Φ : W → Sto → Option γ → Prop) : Prop := Rk ((R.of M (frs9 ws)).bind fun l M2 => if l.length ≤ 1000 then .ok (.d (.tup l)) M2 else .bad) p Φ
theorem w_tup (k : Wc Γ M fs p fun ws M1 p1 => TupK M1 ws p1 Φ) : Wc Γ M (fTup fs) p Φ := w_bind k
theorem c_tup (rs : frs9 ws = some l) (hl : Nat.ble l.length 1000 = true) (k : Φ (.d (.tup l)) M p) : TupK M ws p Φ := by
  unfold TupK
  simp only [rs, R.of_some, R.bind_ok, if_pos (Nat.le_of_ble_eq_true hl)]
  exact rk_ok k
def LstK (M : Sto) (ws : List W) (p : Option γ) (Φ : List D → Sto → Option γ → Prop) : Prop := Rk ((R.of M (frs9 ws)).bind fun l M2 => if l.length ≤ 1000 then .ok l M2 else .bad) p Φ
theorem w_lst (k : Wc Γ M fs p fun ws M1 p1 => LstK M1 ws p1 ΦN) : Wc Γ M (fLst fs) p ΦN := w_bind k
theorem c_lst (rs : frs9 ws = some l) (hl : Nat.ble l.length 1000 = true) (k : ΦN l M p) : LstK M ws p ΦN := by
  unfold LstK
  simp only [rs, R.of_some, R.bind_ok, if_pos (Nat.le_of_ble_eq_true hl)]
  exact rk_ok k
theorem w_fro {f : FN} (k : Wc Γ M f p fun l M1 p1 => Φ (.d (.lst l)) M1 p1) : Wc Γ M (fFro f) p Φ := w_bind fun δ e c hc => by
  obtain ⟨w, M1, p1, e1, e2, e3⟩ := k δ e c hc
  exact ⟨w, M1, p1, e1, e2, rk_ok e3⟩
def CallK (n : Nat) (φ : List W → Sto → R A) (ws : List W) (M : Sto) (p : Option γ) (Φ : A → Sto → Option γ → Prop) : Prop := Rk (if ws.length = n then (φ ws M).noEx else .bad) p Φ
theorem w_call {n : Nat} {φ : FF} (k : Wc Γ M fs p fun ws M1 p1 => CallK n φ ws M1 p1 Φ) : Wc Γ M (fCall0 n φ fs) p Φ := w_bind k
theorem w_callN {n : Nat} {φ : List W → Sto → R (List D)} (k : Wc Γ M fs p fun ws M1 p1 => CallK n φ ws M1 p1 ΦN) : Wc Γ M (fCallN n φ fs) p ΦN := w_bind k
theorem c_call {n : Nat} {φ : List W → Sto → R A} {Φ : A → Sto → Option γ → Prop} {v : α → A} {m : α → Sto} (hn : ws.length = n) (h : Rr (φ ws M) pa v m) (k : ∀ a, Φ (v a) (m a) (q a)) : CallK n φ ws M (pa.bind q) Φ := by
  unfold CallK
  rw [if_pos hn]
  exact rk_R (fun a ha => by rw [h a ha]; rfl) k
variable {ft fg : FT}
theorem w_B (k : Wc Γ M fa p fun w M1 p1 => ∃ b, w = .d (.bl b) ∧ ΦT b M1 p1) : Wc Γ M (fB fa) p ΦT := w_bind fun δ e c hc => by
  obtain ⟨w, M1, p1, e1, e2, b, rfl, e3⟩ := k δ e c hc
  exact ⟨_, M1, p1, e1, e2, rk_of tru_bl e3⟩
theorem w_notT (k : Wc Γ M ft p fun b M1 p1 => ΦT (!b) M1 p1) : Wc Γ M (fNotT ft) p ΦT := w_bind fun δ e c hc => by
  obtain ⟨w, M1, p1, e1, e2, e3⟩ := k δ e c hc
  exact ⟨_, M1, p1, e1, e2, rk_ok e3⟩
theorem w_not (k : Wc Γ M fa p fun w M1 p1 => ∃ b, w = .d (.bl b) ∧ Φ (.d (.bl (!b))) M1 p1) : Wc Γ M (fNot fa) p Φ := w_bind fun δ e c hc => by
  obtain ⟨w, M1, p1, e1, e2, b, rfl, e3⟩ := k δ e c hc
  exact ⟨_, M1, p1, e1, e2, rk_of rfl e3⟩
def BrK (b : Bool) (p : Option γ) (P Q : Option γ → Prop) : Prop := ∃ q1 q2, p = (if b = true then q1 else q2) ∧ P q1 ∧ Q q2
theorem c_br {b : Bool} {q1 q2 : Option γ} {P Q : Option γ → Prop} (h1 : P q1) (h2 : Q q2) : BrK b (if b = true then q1 else q2) P Q := ⟨q1, q2, rfl, h1, h2⟩
theorem w_if (k : Wc Γ M ft p fun b M1 p1 => BrK b p1 (fun q1 => Wc Γ M1 fa q1 Φ) (fun q2 => Wc Γ M1 fb q2 Φ)) : Wc Γ M (fIf ft fa fb) p Φ := fun δ e => rk_bind fun c hc => by
  obtain ⟨b, M1, p1, e1, e2, q1, q2, rfl, k1, k2⟩ := k δ e c hc
  refine ⟨b, M1, _, e1, e2, ?_⟩
  cases b
  · exact k2 δ e
  · exact k1 δ e
theorem w_orT (k : Wc Γ M ft p fun b M1 p1 => BrK b p1 (fun q1 => ΦT true M1 q1) (fun q2 => Wc Γ M1 fg q2 ΦT)) : Wc Γ M (fOrT ft fg) p ΦT := fun δ e => rk_bind fun c hc => by
  obtain ⟨b, M1, p1, e1, e2, q1, q2, rfl, k1, k2⟩ := k δ e c hc
  refine ⟨b, M1, _, e1, e2, ?_⟩
  cases b
  · exact k2 δ e
  · exact rk_ok k1
theorem w_and (k : Wc Γ M fa p fun w M1 p1 => ∃ b, w = .d (.bl b) ∧ BrK b p1 (fun q1 => Wc Γ M1 fb q1 Φ) (fun q2 => Φ (.d (.bl false)) M1 q2)) : Wc Γ M (fAnd fa fb) p Φ := fun δ e => rk_bind fun c hc => by
  obtain ⟨w, M1, p1, e1, e2, b, rfl, q1, q2, rfl, k1, k2⟩ := k δ e c hc
  refine ⟨_, M1, _, e1, e2, ?_⟩
  simp only [tru_bl, R.of_some, R.bind_ok]
  cases b
  · exact rk_ok k2
  · exact k1 δ e
theorem w_or (k : Wc Γ M fa p fun w M1 p1 => ∃ b, w = .d (.bl b) ∧ BrK b p1 (fun q1 => Φ (.d (.bl true)) M1 q1) (fun q2 => Wc Γ M1 fb q2 Φ)) : Wc Γ M (fOr fa fb) p Φ := fun δ e => rk_bind fun c hc => by
  obtain ⟨w, M1, p1, e1, e2, b, rfl, q1, q2, rfl, k1, k2⟩ := k δ e c hc
  refine ⟨_, M1, _, e1, e2, ?_⟩
  simp only [tru_bl, R.of_some, R.bind_ok]
  cases b
  · exact k2 δ e
  · exact rk_ok k1
def ChK (g : D → D → Option D) (M : Sto) (wa wb : W) (p : Option γ) (Φ : Bool → Sto → Option γ → Prop) : Prop := Rk (R.of M ((rd M wa).bind fun x' => (rd M wb).bind fun y' => (g x' y').bind fun z => tru (.d z))) p Φ
theorem w_chain {g1 g2 : D → D → Option D} (k : Wc Γ M fa p fun wa M1 p1 => Wc Γ M1 fb p1 fun wb M2 p2 => ChK g1 M2 wa wb p2 fun b M3 p3 => BrK b p3 (fun q1 => Wc Γ M3 fc q1 fun wc M4 p4 => OpK g2 M4 wb wc p4 Φ) (fun q2 => Φ (.d (.bl false)) M3 q2)) : Wc Γ M (fChain g1 g2 fa fb fc) p Φ := fun δ e => rk_bind fun c hc => by
  obtain ⟨w, M1, p1, e1, e2, e3⟩ := k δ e c hc
  refine ⟨w, M1, p1, e1, e2, rk_bind fun c hc => ?_⟩
  obtain ⟨w2, M2, p2, g1', g2', g3⟩ := e3 δ e c hc
  refine ⟨w2, M2, p2, g1', g2', rk_bind fun c hc => ?_⟩
  obtain ⟨b, M3, p3, h1, h2, q1, q2, rfl, k1, k2⟩ := g3 c hc
  refine ⟨b, M3, _, h1, h2, ?_⟩
  cases b
  · exact rk_ok k2
  · refine rk_bind fun c hc => ?_
    obtain ⟨w4, M4, p4, i1, i2, i3⟩ := k1 δ e c hc
    refine ⟨w4, M4, p4, i1, i2, fun c hc => ?_⟩
    obtain ⟨u, M5, p5, j1, j2, j3⟩ := i3 c hc
    refine ⟨u, M5, p5, ?_, j2, j3⟩
    rw [← j1]
    cases e7 : rd M4 w2 with
    | none => simp only [Option.bind_none, R.of_none, R.bind_bad]
    | some y' =>
      cases e8 : rd M4 w4 with
      | none => simp only [Option.bind_some, Option.bind_none, Option.map_none, R.of_none, R.bind_bad]
      | some z' => simp only [Option.bind_some, Option.map_some, R.of_some, R.bind_ok]
theorem c_ch {g : D → D → Option D} {b : Bool} (ra : rd M wa = some da) (rb : rd M wb = some db) (e : g da db = some (.bl b)) (k : ΦT b M p) : ChK g M wa wb p ΦT := rk_of (by simp only [ra, rb, e, Option.bind_some, tru_bl]) k
def SlK (g : D → Option Int → Option Int → Option D) (M : Sto) (w : W) (lo hi : Option Int) (p : Option γ) (Φ : W → Sto → Option γ → Prop) : Prop := Rk (R.of M ((rd M w).bind fun d => (g d lo hi).map W.d)) p Φ
theorem w_sl {g : D → Option Int → Option Int → Option D} {fl fh : FO} (k : Wc Γ M fa p fun w M1 p1 => Wc Γ M1 fl p1 fun lo M2 p2 => Wc Γ M2 fh p2 fun hi M3 p3 => SlK g M3 w lo hi p3 Φ) : Wc Γ M (fSl g fa fl fh) p Φ := fun δ e => rk_bind fun c hc => by
  obtain ⟨w, M1, p1, e1, e2, e3⟩ := k δ e c hc
  refine ⟨w, M1, p1, e1, e2, rk_bind fun c hc => ?_⟩
  obtain ⟨w2, M2, p2, g1', g2', g3⟩ := e3 δ e c hc
  refine ⟨w2, M2, p2, g1', g2', rk_bind fun c hc => ?_⟩
  obtain ⟨w3, M3, p3, h1, h2, h3⟩ := g3 δ e c hc
  exact ⟨w3, M3, p3, h1, h2, h3⟩
def ItK (M : Sto) (w : W) (p : Option γ) (Φ : List D × List Nat → Sto → Option γ → Prop) : Prop := Rk (R.of M (itemsW M w)) p Φ
theorem w_seqI (k : Wc Γ M fa p fun w M1 p1 => ItK M1 w p1 ΦI) : Wc Γ M (fSeqI fa) p ΦI := w_bind k
theorem c_it {x : List D × List Nat} (e : itemsW M w = some x) (k : ΦI x M p) : ItK M w p ΦI := rk_of e k
def RngK (M : Sto) (lo hi : Int) (p : Option γ) (Φ : List D × List Nat → Sto → Option γ → Prop) : Prop := Rk (rngR (lo, hi) M) p Φ
theorem w_rng1 (k : Wc Γ M fs p fun ws M1 p1 => ∃ j, ws = [.d (.int j)] ∧ RngK M1 0 j p1 ΦI) : Wc Γ M (fRng1 fs) p ΦI := w_bind fun δ e c hc => by
  obtain ⟨w, M1, p1, e1, e2, j, rfl, e3⟩ := k δ e c hc
  exact ⟨_, M1, p1, e1, e2, e3⟩
theorem c_rng {lo hi : Int} {q : List Int → Option γ} (k : ∀ xs, ΦI (xs.map eI, []) M (q xs)) : RngK M lo hi ((pRng lo hi).bind q) ΦI := rk_R (v := fun xs : List Int => (xs.map eI, ([] : List Nat))) (fun xs h => rng_eq h M) k
theorem w_lc {ι : Type} {e : ι → D} {fi : FI} {g : FG} {fe : FE} {vs : List Nat} (k : Wc Γ M fi p fun x M1 p1 => Wc Γ M1 (fLc (fun _ N => .ok x N) g ft fe vs) p1 ΦN) : Wc Γ M (fLc fi g ft fe vs) p ΦN := fun δ e => rk_bind fun c hc => by
  obtain ⟨x, M1, p1, e1, e2, e3⟩ := k δ e c hc
  exact ⟨x, M1, p1, e1, e2, e3 δ e⟩
end
section
variable {A α β γ σ ρ ι : Type} {Γ : DEnv} {M : Sto} {fa fb fe fo : FE} {fs : FA} {ft : FT} {f g h fk : FS} {p : Option γ} {κ : γ → R Out → Prop}
theorem ts_set {i : Nat} (k : Wc Γ M fe p fun w M1 p1 => TL (Γ.set i (some w)) M1 fk p1 κ) : TL Γ M (sSeq (sSet i fe) fk) p κ := fun c hc δ e => by
  obtain ⟨w, M1, p1, e1, e2, e3⟩ := k δ e c hc
  show κ c (((fe δ M).bind fun w M1 => .ok (.nx (δ.set i (some w))) M1).thenS fk)
  rw [e1]
  exact e3 c e2 _ e.set
theorem ts_new {i : Nat} {fn : FN} (k : Wc Γ M fn p fun l M1 p1 => TL (Γ.set i (some (.loc M1.length))) (M1 ++ [.lst l]) fk p1 κ) : TL Γ M (sSeq (sSet i (fNew fn)) fk) p κ := fun c hc δ e => by
  obtain ⟨w, M1, p1, e1, e2, e3⟩ := k δ e c hc
  show κ c ((((fn δ M).bind fun l M1 => R.ok (W.loc M1.length) (M1 ++ [Cell.lst l])).bind fun w M1 => .ok (.nx (δ.set i (some w))) M1).thenS fk)
  rw [e1]
  exact e3 c e2 _ e.set
theorem ts_par {i j : Nat} (k : Wc Γ M fs p fun ws M1 p1 => ∃ w1 w2, ws = [w1, w2] ∧ TL ((Γ.set i (some w1)).set j (some w2)) M1 fk p1 κ) : TL Γ M (sSeq (sPar i j fs) fk) p κ := fun c hc δ e => by
  obtain ⟨ws, M1, p1, e1, e2, w1, w2, rfl, e3⟩ := k δ e c hc
  show κ c (((fs δ M).bind _).thenS fk)
  rw [e1]
  exact e3 c e2 _ e.set.set
theorem ts_ite (k : Wc Γ M ft p fun b M1 p1 => BrK b p1 (fun q1 => TL Γ M1 (sSeq f fk) q1 κ) (fun q2 => TL Γ M1 (sSeq g fk) q2 κ)) : TL Γ M (sSeq (sIf ft f g) fk) p κ := fun c hc δ e => by
  obtain ⟨b, M1, p1, e1, e2, q1, q2, rfl, k1, k2⟩ := k δ e c hc
  show κ c ((((ft δ M).bind fun b M1 => match b with
    | true => f δ M1
    | false => g δ M1)).thenS fk)
  rw [e1]
  cases b
  · exact k2 c e2 δ e
  · exact k1 c e2 δ e
theorem ts_iteL (k : Wc Γ M ft p fun b M1 p1 => BrK b p1 (fun q1 => TL Γ M1 f q1 κ) (fun q2 => TL Γ M1 g q2 κ)) : TL Γ M (sIf ft f g) p κ := fun c hc δ e => by
  obtain ⟨b, M1, p1, e1, e2, q1, q2, rfl, k1, k2⟩ := k δ e c hc
  show κ c (((ft δ M).bind fun b M1 => match b with
    | true => f δ M1
    | false => g δ M1))
  rw [e1]
  cases b
  · exact k2 c e2 δ e
  · exact k1 c e2 δ e
def RtK (κ : γ → R Out → Prop) (w : W) (M : Sto) (p : Option γ) : Prop := ∀ c, p = some c → κ c (.ok (.rt w) M)
theorem ts_ret (k : Wc Γ M fe p (RtK κ)) : TL Γ M (sRet fe) p κ := fun c hc δ e => by
  obtain ⟨w, M1, p1, e1, e2, e3⟩ := k δ e c hc
  show κ c ((fe δ M).bind _)
  rw [e1]
  exact e3 c e2
theorem c_rt {w : W} {r : γ} (h : κ r (.ok (.rt w) M)) : RtK κ w M (some r) := fun c e => by cases e; exact h
def SetK (k : Nat) (i w : W) (M : Sto) (p : Option γ) (Φ : Sto → Option γ → Prop) : Prop := ∀ c, p = some c → ∃ M' p', setC k i w M = .ok () M' ∧ p' = some c ∧ Φ M' p'
theorem ts_seti {fi : FE} (k : Wc Γ M fe p fun w M1 p1 => Wc Γ M1 fo p1 fun o M2 p2 => ∃ j, o = .loc j ∧ Wc Γ M2 fi p2 fun i M3 p3 => SetK j i w M3 p3 fun M4 p4 => TL Γ M4 fk p4 κ) : TL Γ M (sSeq (sSetI fo fi fe) fk) p κ := fun c hc δ e => by
  obtain ⟨w, M1, p1, e1, e2, e3⟩ := k δ e c hc
  obtain ⟨o, M2, p2, f1, f2, j, rfl, f3⟩ := e3 δ e c e2
  obtain ⟨i, M3, p3, g1, g2, g3⟩ := f3 δ e c f2
  obtain ⟨M4, p4, h1, h2, h3⟩ := g3 c g2
  have z : sSetI fo fi fe δ M = .ok (.nx δ) M4 := by
    unfold sSetI
    simp only [e1, R.bind_ok, f1, g1, h1]
  show κ c ((sSetI fo fi fe δ M).thenS fk)
  rw [z]
  exact h3 c h2 δ e
theorem c_setp {k : Nat} {N ext : Sto} {l : List Int} {i x : Int} {q : List Int → Option γ} {Φ : Sto → Option γ → Prop} (hk : k < N.length) (kk : ∀ l' : List Int, Φ (N.set k (potC l') ++ ext) (q l')) : SetK k (.d (.int i)) (.d (.int x)) (N.set k (potC l) ++ ext) ((pSet l i x).bind q) Φ := fun c h => by
  obtain ⟨l', h1, h2⟩ := Option.bind_eq_some_iff.mp h
  have hj : (N.set k (potC l) ++ ext)[k]? = some (.lst (l.map D.int)) := by rw [List.getElem?_append_left (by rw [List.length_set]; exact hk), List.getElem?_set_self hk]
  exact ⟨_, _, by rw [ok_setC (n := 0) (e := eI) hj h1, set_pot hk], h2, kk _⟩
theorem ts_for {fi : FI} {g : FG} {fb : FS} (k : Wc Γ M fi p fun x M1 p1 => TL Γ M1 (sSeq (sFor (fun _ N => .ok x N) g fb) fk) p1 κ) : TL Γ M (sSeq (sFor fi g fb) fk) p κ := fun c hc δ e => by
  obtain ⟨x, M1, p1, e1, e2, e3⟩ := k δ e c hc
  have := e3 c e2 δ e
  show κ c (((fi δ M).bind fun p M1 => forF p.2 M1 g fb p.1 δ M1).thenS fk)
  rw [e1]
  exact this
end
end T9
namespace T9
open PySem PySem.Spec PyProof.Rows L2 S9
section
variable {A α β γ σ ρ ι : Type} {Γ : DEnv} {M : Sto} {fa fb fe fo : FE} {fs : FA} {ft : FT} {f g h fk : FS} {p : Option γ} {κ : γ → R Out → Prop} {Φ : W → Sto → Option γ → Prop}
theorem tl_one (k : TL Γ M (sSeq f sNil) p κ) : TL Γ M f p κ := fun c hc δ e => by
  have := k c hc δ e
  revert this
  show κ c ((f δ M).thenS sNil) → _
  cases f δ M with
  | bad => exact fun h => h
  | ex e M => exact fun h => h
  | ok o M => cases o <;> exact fun h => h
theorem w_co {f : DEnv → Sto → R A} {Φ : A → Sto → Option γ → Prop} (k : Wc Γ M f p fun w M1 p1 => Rk (.ok w M1) p1 Φ) : Wc Γ M f p Φ := fun δ e c hc => by
  obtain ⟨w, M1, p1, e1, e2, e3⟩ := k δ e c hc
  rw [e1]
  exact e3 c e2
theorem c_new {n i : Nat} {B ext : Sto} {l : List D} (hn : B.length = n) (k : TL (Γ.set i (some (.loc (n + ext.length)))) (B ++ (ext ++ [.lst l])) fk p κ) : TL (Γ.set i (some (.loc (B ++ ext).length))) ((B ++ ext) ++ [.lst l]) fk p κ := by
  rw [len_ext hn, List.append_assoc]
  exact k
def NwK (M : Sto) (l : List D) (p : Option γ) (Φ : W → Sto → Option γ → Prop) : Prop := Φ (.loc M.length) (M ++ [.lst l]) p
theorem c_nwR {l : List D} (k : Φ (.loc M.length) (M ++ [.lst l]) p) : NwK M l p Φ := k
theorem w_new {fn : FN} (k : Wc Γ M fn p fun l M1 p1 => NwK M1 l p1 Φ) : Wc Γ M (fNew fn) p Φ := w_bind fun δ e c hc => by
  obtain ⟨w, M1, p1, e1, e2, e3⟩ := k δ e c hc
  exact ⟨w, M1, p1, e1, e2, rk_ok e3⟩
def blO : Option D → Option Bool
  | some (.bl b) => some b
  | _ => none
theorem blO_eq {o : Option D} {b : Bool} (h : blO o = some b) : o = some (.bl b) := by
  unfold blO at h
  split at h
  · cases h; rfl
  · cases h
def pIn (neg : Bool) (a b : D) : Option Bool := blO (gInB neg a b)
theorem g_inO {neg : Bool} {a b : D} {c : Bool} (h : pIn neg a b = some c) : gInB neg a b = some (.bl c) := blO_eq h
def pIsi (a b : D) : Option Bool := blO (gIsi [a, b])
theorem g_isiO {a b : D} {c : Bool} (h : pIsi a b = some c) : gIsi [a, b] = some (.bl c) := blO_eq h
end
theorem lt_ext {B ext : Sto} {n j : Nat} (hn : B.length = n) (h : j < ext.length) : n + j < (B ++ ext).length := by rw [List.length_append, hn]; omega
theorem rr_potL {A α : Type} {φ : Sto → R A} {B ext : Sto} {n j : Nat} {c : Cell} {p : Option α} {v : α → A} {m : α → Cell} (hn : B.length = n) (hj : ext[j]? = some c) (h : Rr (φ ((B ++ ext).set (n + j) c)) p v (fun a => (B ++ ext).set (n + j) (m a))) : Rr (φ (B ++ ext)) p v (fun a => B ++ ext.set j (m a)) := by
  rw [set_ext hn] at h
  have e : ext.set j c = ext := by
    apply List.ext_getElem?
    intro i
    by_cases hi : j = i
    · subst hi
      rw [hj, List.getElem?_set_self (List.getElem?_eq_some_iff.mp hj).1]
    · rw [List.getElem?_set_ne hi]
  rw [e] at h
  intro a ha
  rw [h a ha]
  show R.ok (v a) ((B ++ ext).set (n + j) (m a)) = _
  rw [set_ext hn]
theorem rr_potW {A α : Type} {φ : List W → Sto → R A} {ws : List W} {M ext : Sto} {k : Nat} {c : Cell} {p : Option α} {v : α → A} {m : α → Cell} (hk : k < M.length) (h : Rr (φ ws ((M ++ ext).set k c)) p v (fun a => (M ++ ext).set k (m a))) : Rr (φ ws (M.set k c ++ ext)) p v (fun a => M.set k (m a) ++ ext) := rr_pot (φ := φ ws) hk h
theorem rr_potLW {A α : Type} {φ : List W → Sto → R A} {ws : List W} {B ext : Sto} {n j : Nat} {c : Cell} {p : Option α} {v : α → A} {m : α → Cell} (hn : B.length = n) (hj : ext[j]? = some c) (h : Rr (φ ws ((B ++ ext).set (n + j) c)) p v (fun a => (B ++ ext).set (n + j) (m a))) : Rr (φ ws (B ++ ext)) p v (fun a => B ++ ext.set j (m a)) := rr_potL (φ := φ ws) hn hj h
def toI : D → Option Int
  | .int i => some i
  | _ => none
theorem toI_eq {d : D} {i : Int} (h : toI d = some i) : d = .int i := by
  unfold toI at h
  split at h
  · cases h; rfl
  · cases h
def pLenA (d : D) : Option Int := (gLen [d]).bind toI
theorem g_lenO {d : D} {i : Int} (h : pLenA d = some i) : gLen [d] = some (.int i) := by
  obtain ⟨x, h1, h2⟩ := Option.bind_eq_some_iff.mp h
  rw [h1, toI_eq h2]
def itA : D → Option (List D)
  | .lst l => some l
  | .frl l => some l
  | .tup l => some l
  | _ => none
theorem itA_eq {M : Sto} {d : D} {l : List D} (h : itA d = some l) : itemsW M (.d d) = some (l.map eA, []) := by
  have e : l.map eA = l := List.map_id' l
  rw [e]
  unfold itA at h
  split at h <;> cases h <;> rfl
theorem c_itA {γ : Type} {M : Sto} {d : D} {ΦI : List D × List Nat → Sto → Option γ → Prop} {q : List D → Option γ} (k : ∀ l : List D, ΦI (l.map eA, []) M (q l)) : ItK M (.d d) ((itA d).bind q) ΦI := rk_ofP (v := fun l : List D => (l.map eA, ([] : List Nat))) (fun c h => itA_eq h) k
section
variable {α β γ σ ρ ι : Type} {Γ : DEnv} {M : Sto} {fi : FI} {g : FG} {fb fk : FS} {κ : γ → R Out → Prop} {e : ι → D} {Γl : σ → DEnv} {m : σ → Sto} {p : Option γ} {f : FS}
def KGG (Γ' : σ → DEnv) (m : σ → Sto) (s : σ) (x : R Out) : Prop := ∃ δ' G, Fl G ∧ (x = .ok (.nx δ') (m s ++ G) ∨ x = .ok (.ct δ') (m s ++ G)) ∧ Has (Γ' s) δ'
def KCG (Γ' : σ → DEnv) (m : σ → Sto) (κr : ρ → R Out → Prop) : Ctl σ ρ → R Out → Prop
  | .go s, x => KGG Γ' m s x
  | .bk s, x => ∃ δ' G, Fl G ∧ x = .ok (.bk δ') (m s ++ G) ∧ Has (Γ' s) δ'
  | .rt r, x => κr r x ∧ ∃ w M1, x = .ok (.rt w) M1
def cKG (Γl : σ → DEnv) (m : σ → Sto) (κr : ρ → R Out → Prop) : σ ⊕ ρ → R Out → Prop
  | .inl s, x => ∃ δ' G, Fl G ∧ x = .ok (.nx δ') (m s ++ G) ∧ Has (Γl s) δ'
  | .inr r, x => κr r x ∧ ∃ w M1, x = .ok (.rt w) M1
theorem forF_CG {κr : ρ → R Out → Prop} {M0 : Sto} {f : ι → σ → Option (Ctl σ ρ)} {Γb : ι → σ → DEnv} (hg : ∀ x s δ, Has (Γl s) δ → ∃ δ1, g (e x) δ = some δ1 ∧ Has (Γb x s) δ1)
    (hb : ∀ x s G, Fl G → TL (Γb x s) (m s ++ G) fb (f x s) (KCG Γl m κr)) :
    ∀ (xs : List ι) (s : σ) (c : σ ⊕ ρ), forC f xs s = some c → ∀ G, Fl G → ∀ δ, Has (Γl s) δ → cKG Γl m κr c (forF [] M0 g fb (xs.map e) δ (m s ++ G))
  | [], s, c, h, G, hG, δ, k => by cases h; exact ⟨δ, G, hG, rfl, k⟩
  | x :: xs, s, c, h, G, hG, δ, k => by
    obtain ⟨c1, h1, h2⟩ := Option.bind_eq_some_iff.mp h
    obtain ⟨δ1, e1, k1⟩ := hg x s δ k
    have q := hb x s G hG c1 h1 δ1 k1
    rw [List.map_cons]
    unfold forF
    rw [e1]
    cases c1 with
    | go s1 =>
      obtain ⟨δ2, G2, hG2, e2, k2⟩ := q
      have := forF_CG (M0 := M0) hg hb xs s1 c h2 G2 hG2 δ2 k2
      rcases e2 with e2 | e2 <;>
      · simp only [e2, lkR_nil]
        exact this
    | bk s1 =>
      obtain ⟨δ2, G2, hG2, e2, k2⟩ := q
      cases h2
      simp only [e2]
      exact ⟨δ2, G2, hG2, rfl, k2⟩
    | rt r =>
      obtain ⟨q1, w, M1, q2⟩ := q
      cases h2
      rw [q2] at q1
      simp only [q2]
      exact ⟨q1, w, M1, rfl⟩
theorem tl_forCG {xs : List ι} {s0 : σ} {G0 : Sto} {f : ι → σ → Option (Ctl σ ρ)} {Γb : ι → σ → DEnv} {κr : ρ → R Out → Prop} {q : σ → Option γ} {q' : ρ → Option γ} (hi : V Γ (M ++ G0) fi (xs.map e, [])) (h0 : Le (Γl s0) Γ) (hm : M = m s0) (hG0 : Fl G0) (hg : ∀ x s δ, Has (Γl s) δ → ∃ δ1, g (e x) δ = some δ1 ∧ Has (Γb x s) δ1)
    (hb : ∀ x s G, Fl G → TL (Γb x s) (m s ++ G) fb (f x s) (KCG Γl m κr)) (hq : ∀ s G, Fl G → TL (Γl s) (m s ++ G) fk (q s) κ) (hr : ∀ r c w M1, q' r = some c → κr r (.ok (.rt w) M1) → κ c (.ok (.rt w) M1)) :
    TL Γ (M ++ G0) (sSeq (sFor fi g fb) fk) (forR f xs s0 q q') κ := fun c hc δ k => by
  obtain ⟨c1, h1, h2⟩ := Option.bind_eq_some_iff.mp hc
  have z := forF_CG (M0 := M ++ G0) hg hb xs s0 c1 h1 G0 hG0 δ (h0.has k)
  rw [← hm] at z
  show κ c (((fi δ (M ++ G0)).bind fun p M1 => forF p.2 M1 g fb p.1 δ M1).thenS fk)
  rw [hi δ k]
  show κ c ((forF [] (M ++ G0) g fb (xs.map e) δ (M ++ G0)).thenS fk)
  cases c1 with
  | inl s =>
    obtain ⟨δ2, G2, hG2, e2, k2⟩ := z
    rw [e2]
    exact hq s G2 hG2 c h2 δ2 k2
  | inr r =>
    obtain ⟨z1, w, M1, z2⟩ := z
    rw [z2] at z1 ⊢
    exact hr r c w M1 h2 z1
theorem tl_re0 {G : Sto} (k : TL Γ ((M ++ G) ++ []) f p κ) : TL Γ (M ++ G) f p κ := by rw [List.append_nil] at k; exact k
theorem fl_app {G ext : Sto} (h : Fl G) (k : Fl ext) : Fl (G ++ ext) := by rw [Fl, List.all_append, h, k]; rfl
variable {κr : ρ → R Out → Prop} {Γ' : σ → DEnv} {ms : σ → Sto} {s : σ} {G ext : Sto}
theorem tl_endCGm (l : Le (Γ' s) Γ) (hG : Fl G) (he : Fl ext) : TL Γ ((M ++ G) ++ ext) sNil (some (.go s)) (KCG Γ' (fun _ => M) κr) := fun c hc δ k => by
  cases hc
  exact ⟨δ, G ++ ext, fl_app hG he, .inl (by rw [← List.append_assoc]; rfl), l.has k⟩
theorem kf_mG {e : ρ → D} {r : ρ} (hM : Cl M) (hG : Fl G) : KF M.length (fun r => W.d (e r)) (fun _ => M) r (.ok (.rt (.d (e r))) ((M ++ G) ++ ext)) := ⟨_, _, rfl, by rw [List.append_assoc]; exact fin1_d hM rfl⟩
end
section
variable {α ρ : Type} {M ext : Sto} {k : Nat} {e : ρ → D} {e' : α → D}
theorem kf_m {r : ρ} (hM : Cl M) : KF M.length (fun r => W.d (e r)) (fun _ => M) r (.ok (.rt (.d (e r))) (M ++ ext)) := ⟨_, _, rfl, fin1_d hM rfl⟩
theorem kf_p {r : ρ} {l : List Int} (hM : Cl M) : KF M.length (fun r : ρ × List Int => W.d (e r.1)) (fun r => M.set k (potC r.2)) (r, l) (.ok (.rt (.d (e r))) (M.set k (potC l) ++ ext)) := ⟨_, _, rfl, fin1_d (hM.set rfl) pot_len⟩
theorem finN_new {B ext : Sto} {n : Nat} {l : List D} (hc : Cl B) (hn : B.length = n) : finN n (.ok (.rt (.loc (B ++ ext).length)) ((B ++ ext) ++ [.lst l])) = .ok l B := by
  have := finN_loc (ext := ext ++ [.lst l]) (j := ext.length) (l := l) hc hn (by rw [List.getElem?_append_right (Nat.le_refl _), Nat.sub_self]; rfl)
  rw [len_ext hn, List.append_assoc, this]
theorem kfn_newm {l : List α} (hM : Cl M) : KFN M.length (fun r : List α => r.map e') (fun _ => M) l (.ok (.rt (.loc (M ++ ext).length)) ((M ++ ext) ++ [.lst (l.map e')])) := ⟨_, _, rfl, finN_new hM rfl⟩
end
abbrev SideT := Int × Str × Int
abbrev RuleT := SideT × SideT
abbrev Plan := List Int × List RuleT
end T9
namespace N60
open PySem PySem.Spec PyProof.Rows L2 S9 T9 
def p_is_whole (y0 : D) : Option Bool :=
  (Option.bind ((Option.bind (pIsi (eA y0) (eA (D.ty "int"))) fun a8 => (if a8 = true then (Option.bind (pIsi (eA y0) (eA (D.ty "bool"))) fun a9 => (some (!a9))) else (some false))) : Option Bool) fun a10 => (some a10))
theorem q_is_whole {M : Sto} (hM : Cl M) (y0 : D) : Rr (f_is_whole [W.d (eA y0)] M) (p_is_whole y0) (fun r : Bool => W.d (eB r)) (fun _ => M) :=
  body_ofP rfl (show TL _ _ (g_is_whole) (p_is_whole y0) (KF M.length (fun r : Bool => W.d (eB r)) (fun _ => M)) from (ts_ret (w_co (w_E (v := (fun a10 => W.d (eB a10))) (m := (fun a10 => (M ++ ([] : Sto)))) (e_ofW (w_and (w_cb (w_V (v_cons (v_var rfl) (v_cons v_c v_nil)) (c_cbP (v := fun a8 => eB a8) rfl (fun _ h => g_isiO h) fun a8 => ⟨_, rfl, c_br (w_not (w_cb (w_V (v_cons (v_var rfl) (v_cons v_c v_nil)) (c_cbP (v := fun a9 => eB a9) rfl (fun _ h => g_isiO h) fun a9 => ⟨_, rfl, (c_end (c := (!a9)) rfl rfl)⟩)))) (c_end (c := false) rfl rfl)⟩))))) fun a10 => (rk_ok (c_rt (kf_m (e := eB) hM)))))))
end N60
namespace N60
open PySem PySem.Spec PyProof.Rows L2 S9 T9
end N60
namespace N60
open PySem PySem.Spec PyProof.Rows L2 S9 T9
end N60
namespace N60
open PySem PySem.Spec PyProof.Rows L2 S9 T9
def p__law_pot (y0 : (List Int)) (y1 : Int) : Option (List Int) :=
  (Option.bind ((if (decide (y1 < (List.length y0 : Int))) = true then (Option.bind (pIx y0 y1) fun a8 => (some a8)) else (Option.bind (pMul 7 y1) fun a9 => (some (a9 + 3)))) : Option Int) fun a10 => (Option.bind (pPow 10 60) fun a11 => (Option.bind (pPow a11 5) fun a12 => (Option.bind (pMod (if a10 < 0 then -a10 else a10) a12) fun a13 => (Option.bind (pPow 10 18) fun a14 => (Option.bind (pMul a13 (b2n (decide (a14 ≤ (if a10 < 0 then -a10 else a10))))) fun a15 => (Option.bind (pMod a10 2305843009213693951) fun a16 => (Option.bind (pMul 7919 y1) fun a17 => (Option.bind (pMul a17 y1) fun a18 => (Option.bind (pMul ((a16 + a18) + 17) 48271) fun a19 => (Option.bind (pMod a19 2305843009213693921) fun a20 => (some ([a15, a20, 0])))))))))))))
theorem q__law_pot {M : Sto} (hM : Cl M) (y0 : (List Int)) (y1 : Int) : Rr (fn__law_pot [W.d ((eF eI) y0), W.d (eI y1)] M) (p__law_pot y0 y1) (fun r : (List Int) => r.map eI) (fun _ => M) :=
  bodyN_ofP rfl (show TL _ _ (g__law_pot) (p__law_pot y0 y1) (KFN M.length (fun r : (List Int) => r.map eI) (fun _ => M)) from (ts_set (w_E (v := (fun a10 => W.d (eI a10))) (m := (fun a10 => (M ++ ([] : Sto)))) (e_ofW (w_if (w_V (v_B (v_op (v_var rfl) (v_cb (v_cons (v_var rfl) v_nil) rfl g_lenF) rfl rfl rfl)) (c_br (w_op (w_V (v_var rfl) (w_V (v_var rfl) (c_opP (v := fun a8 => eI a8) rfl rfl (fun _ h => g_ixF h) fun a8 => (c_end (c := a8) rfl rfl))))) (w_op (w_op (w_V v_c (w_V (v_var rfl) (c_opP (v := fun a9 => eI a9) rfl rfl (fun _ h => g_mul h) fun a9 => (w_V v_c (c_op rfl rfl rfl (c_end (c := (a9 + 3)) rfl rfl)))))))))))) fun a10 => (ts_set (w_op (w_op (w_V (v_cb (v_cons (v_var rfl) v_nil) rfl g_abs) (w_op (w_op (w_V v_c (w_V v_c (c_opP (v := fun a11 => eI a11) rfl rfl (fun _ h => g_pow h) fun a11 => (w_V v_c (c_opP (v := fun a12 => eI a12) rfl rfl (fun _ h => g_pow h) fun a12 => (c_opP (v := fun a13 => eI a13) rfl rfl (fun _ h => g_mod h) fun a13 => (w_cb (w_cons (w_op (w_V (v_cb (v_cons (v_var rfl) v_nil) rfl g_abs) (w_op (w_V v_c (w_V v_c (c_opP (v := fun a14 => eI a14) rfl rfl (fun _ h => g_pow h) fun a14 => (c_op rfl rfl rfl (w_nil (c_cb rfl rfl (c_opP (v := fun a15 => eI a15) rfl rfl (fun _ h => g_mul h) fun a15 => (ts_ret (w_new (w_lst (w_cons (w_V (v_var rfl) (w_cons (w_op (w_op (w_op (w_op (w_op (w_V (v_var rfl) (w_V v_c (c_opP (v := fun a16 => eI a16) rfl rfl (fun _ h => g_mod h) fun a16 => (w_op (w_op (w_V v_c (w_V (v_var rfl) (c_opP (v := fun a17 => eI a17) rfl rfl (fun _ h => g_mul h) fun a17 => (w_V (v_var rfl) (c_opP (v := fun a18 => eI a18) rfl rfl (fun _ h => g_mul h) fun a18 => (c_op rfl rfl rfl (w_V v_c (c_op rfl rfl rfl (w_V v_c (c_opP (v := fun a19 => eI a19) rfl rfl (fun _ h => g_mul h) fun a19 => (w_V v_c (c_opP (v := fun a20 => eI a20) rfl rfl (fun _ h => g_mod h) fun a20 => (w_V (v_cons v_c v_nil) (c_lst rfl rfl (c_nwR (c_rt (kfn_newm (e' := eI) (l := [a15, a20, 0]) hM))))))))))))))))))))))))))))))))))))))))))))))))))))))))))))
def p__law_take (p0 : List Int) (y1 : Int) : Option (Int × List Int) :=
  (Option.bind (pIx p0 0) fun a22 => (if (decide (0 < a22)) = true then (Option.bind (pIx p0 0) fun a23 => (Option.bind (pMod a23 y1) fun a24 => (Option.bind (pIx p0 0) fun a25 => (Option.bind (pDiv a25 y1) fun a26 => (Option.bind (pSet p0 0 a26) fun l27 => (some (a24, l27))))))) else (Option.bind (pIx p0 2) fun a28 => (Option.bind (pSet p0 2 (a28 + 1)) fun l29 => (Option.bind (pIx l29 2) fun a30 => (Option.bind (pMod a30 4) fun a31 => (Option.bind (pIx ([2305843009213693951, 999999999989, 1000000000039, 67280421310721]) a31) fun a32 => (Option.bind (pIx l29 1) fun a33 => (Option.bind (pIx l29 2) fun a34 => (Option.bind (pMul 7919 a34) fun a35 => (Option.bind (pIx l29 2) fun a36 => (Option.bind (pMul a35 a36) fun a37 => (Option.bind (pIx l29 2) fun a38 => (Option.bind (pMul 65537 a38) fun a39 => (Option.bind (pMod ((a33 + a37) + a39) a32) fun a40 => (Option.bind (pPow a40 5) fun a41 => (Option.bind (pMod a41 a32) fun a42 => (Option.bind (pDiv a42 4099) fun a43 => (Option.bind (pDiv a42 1000003) fun a44 => (Option.bind (pMul a44 7) fun a45 => (Option.bind (pMod (a43 + a45) y1) fun a46 => (some (a46, l29)))))))))))))))))))))))
theorem q__law_take {M : Sto} {k : Nat} (hM : Cl M) (hk : k < M.length) (p0 : List Int) (y1 : Int) : Rr (f__law_take [W.loc k, W.d (eI y1)] (M.set k (potC p0))) (p__law_take p0 y1) (fun r : Int × List Int => W.d (eI r.1)) (fun r => M.set k (potC r.2)) :=
  body_ofP pot_len (show TL _ _ (g__law_take) (p__law_take p0 y1) (KF M.length (fun r : Int × List Int => W.d (eI r.1)) (fun r => M.set k (potC r.2))) from (ts_ite (w_B (w_co (w_op (w_op (w_V (v_var rfl) (w_V v_c (c_opP (v := fun a22 => eI a22) (rd_pot hk) rfl (fun _ h => g_ixL (e := eI) h) fun a22 => (w_V v_c (c_op rfl rfl rfl (rk_ok ⟨_, rfl, (c_br (tl_assoc (ts_set (w_op (w_op (w_V (v_var rfl) (w_V v_c (c_opP (v := fun a23 => eI a23) (rd_pot hk) rfl (fun _ h => g_ixL (e := eI) h) fun a23 => (w_V (v_var rfl) (c_opP (v := fun a24 => eI a24) rfl rfl (fun _ h => g_mod h) fun a24 => (tl_assoc (ts_seti (w_op (w_op (w_V (v_var rfl) (w_V v_c (c_opP (v := fun a25 => eI a25) (rd_pot hk) rfl (fun _ h => g_ixL (e := eI) h) fun a25 => (w_V (v_var rfl) (c_opP (v := fun a26 => eI a26) rfl rfl (fun _ h => g_div h) fun a26 => (w_V (v_var rfl) ⟨_, rfl, (w_V v_c (c_setp hk fun l27 => (tl_retS (ts_ret (w_V (v_var rfl) (c_rt (kf_p (e := eI) hM)))))))⟩))))))))))))))))))) (tl_nilS (ts_seti (w_op (w_op (w_V (v_var rfl) (w_V v_c (c_opP (v := fun a28 => eI a28) (rd_pot hk) rfl (fun _ h => g_ixL (e := eI) h) fun a28 => (w_V v_c (c_op rfl rfl rfl (w_V (v_var rfl) ⟨_, rfl, (w_V v_c (c_setp hk fun l29 => (ts_set (w_op (w_V (v_fro (v_lst (v_cons v_c (v_cons v_c (v_cons v_c (v_cons v_c v_nil)))) rfl rfl)) (w_op (w_op (w_V (v_var rfl) (w_V v_c (c_opP (v := fun a30 => eI a30) (rd_pot hk) rfl (fun _ h => g_ixL (e := eI) h) fun a30 => (w_V v_c (c_opP (v := fun a31 => eI a31) rfl rfl (fun _ h => g_mod h) fun a31 => (c_opP (v := fun a32 => eI a32) rfl rfl (fun _ h => g_ixL h) fun a32 => (ts_set (w_op (w_op (w_op (w_op (w_V (v_var rfl) (w_V v_c (c_opP (v := fun a33 => eI a33) (rd_pot hk) rfl (fun _ h => g_ixL (e := eI) h) fun a33 => (w_op (w_op (w_V v_c (w_op (w_V (v_var rfl) (w_V v_c (c_opP (v := fun a34 => eI a34) (rd_pot hk) rfl (fun _ h => g_ixL (e := eI) h) fun a34 => (c_opP (v := fun a35 => eI a35) rfl rfl (fun _ h => g_mul h) fun a35 => (w_op (w_V (v_var rfl) (w_V v_c (c_opP (v := fun a36 => eI a36) (rd_pot hk) rfl (fun _ h => g_ixL (e := eI) h) fun a36 => (c_opP (v := fun a37 => eI a37) rfl rfl (fun _ h => g_mul h) fun a37 => (c_op rfl rfl rfl (w_op (w_V v_c (w_op (w_V (v_var rfl) (w_V v_c (c_opP (v := fun a38 => eI a38) (rd_pot hk) rfl (fun _ h => g_ixL (e := eI) h) fun a38 => (c_opP (v := fun a39 => eI a39) rfl rfl (fun _ h => g_mul h) fun a39 => (c_op rfl rfl rfl (w_V (v_var rfl) (c_opP (v := fun a40 => eI a40) rfl rfl (fun _ h => g_mod h) fun a40 => (ts_set (w_op (w_op (w_V (v_var rfl) (w_V v_c (c_opP (v := fun a41 => eI a41) rfl rfl (fun _ h => g_pow h) fun a41 => (w_V (v_var rfl) (c_opP (v := fun a42 => eI a42) rfl rfl (fun _ h => g_mod h) fun a42 => (ts_ret (w_co (w_op (w_op (w_op (w_V (v_var rfl) (w_V v_c (c_opP (v := fun a43 => eI a43) rfl rfl (fun _ h => g_div h) fun a43 => (w_op (w_op (w_V (v_var rfl) (w_V v_c (c_opP (v := fun a44 => eI a44) rfl rfl (fun _ h => g_div h) fun a44 => (w_V v_c (c_opP (v := fun a45 => eI a45) rfl rfl (fun _ h => g_mul h) fun a45 => (c_op rfl rfl rfl (w_V (v_var rfl) (c_opP (v := fun a46 => eI a46) rfl rfl (fun _ h => g_mod h) fun a46 => (rk_ok (c_rt (kf_p (e := eI) hM))))))))))))))))))))))))))))))))))))))))))))))))))))))))))))))))))))))))))⟩)))))))))))⟩))))))))))))
def p__law_of (p0 : List Int) (y1 : (List Int)) : Option (Int × List Int) :=
  (Option.bind (p__law_take p0 (List.length y1 : Int)) fun a52 => (Option.bind (pIx y1 a52.1) fun a53 => (some (a53, a52.2))))
theorem q__law_of {M : Sto} {k : Nat} (hM : Cl M) (hk : k < M.length) (p0 : List Int) (y1 : (List Int)) : Rr (f__law_of [W.loc k, W.d ((eL eI) y1)] (M.set k (potC p0))) (p__law_of p0 y1) (fun r : Int × List Int => W.d (eI r.1)) (fun r => M.set k (potC r.2)) :=
  body_ofP pot_len (show TL _ _ (g__law_of) (p__law_of p0 y1) (KF M.length (fun r : Int × List Int => W.d (eI r.1)) (fun r => M.set k (potC r.2))) from (ts_ret (w_co (w_op (w_V (v_var rfl) (w_call (w_V (v_cons (v_var rfl) (v_cons (v_cb (v_cons (v_var rfl) v_nil) rfl g_lenL) v_nil)) (have hq := (rr_potW (c := potC p0) (m := fun (a : Int × List Int) => potC a.2) (ext := []) hk (q__law_take (hM.app (ext := []) rfl) (lt_app hk) p0 (List.length y1 : Int))); c_call rfl hq fun a52 => (c_opP (v := fun a53 => eI a53) rfl rfl (fun _ h => g_ixL h) fun a53 => (rk_ok (c_rt (kf_p (e := eI) hM))))))))))))
def p__law_of_LS (p0 : List Int) (y1 : (List Str)) : Option (Str × List Int) :=
  (Option.bind (p__law_take p0 (List.length y1 : Int)) fun a36 => (Option.bind (pIx y1 a36.1) fun a37 => (some (a37, a36.2))))
theorem q__law_of_LS {M : Sto} {k : Nat} (hM : Cl M) (hk : k < M.length) (p0 : List Int) (y1 : (List Str)) : Rr (f__law_of [W.loc k, W.d ((eL eS) y1)] (M.set k (potC p0))) (p__law_of_LS p0 y1) (fun r : Str × List Int => W.d (eS r.1)) (fun r => M.set k (potC r.2)) :=
  body_ofP pot_len (show TL _ _ (g__law_of) (p__law_of_LS p0 y1) (KF M.length (fun r : Str × List Int => W.d (eS r.1)) (fun r => M.set k (potC r.2))) from (ts_ret (w_co (w_op (w_V (v_var rfl) (w_call (w_V (v_cons (v_var rfl) (v_cons (v_cb (v_cons (v_var rfl) v_nil) rfl g_lenL) v_nil)) (have hq := (rr_potW (c := potC p0) (m := fun (a : Int × List Int) => potC a.2) (ext := []) hk (q__law_take (hM.app (ext := []) rfl) (lt_app hk) p0 (List.length y1 : Int))); c_call rfl hq fun a36 => (c_opP (v := fun a37 => eS a37) rfl rfl (fun _ h => g_ixL h) fun a37 => (rk_ok (c_rt (kf_p (e := eS) hM))))))))))))
end N60
namespace T9
open PySem PySem.Spec PyProof.Rows L2 S9
section
variable {α β γ : Type}
structure KeyT (e : α → D) (kf : α → List Key) : Prop where
  eq : ∀ a, ∃ l, e a = .tup l ∧ keysD l = some (kf a)
  inj : ∀ a b, kf a = kf b → a = b
structure IntT (e : α → D) (tl : α → List Int) : Prop where
  eq : ∀ a, e a = .tup ((tl a).map D.int)
  inj : ∀ a b, tl a = tl b → a = b
def kI (tl : α → List Int) (a : α) : List Key := (tl a).map Sum.inl
theorem keysD_ints : ∀ l : List Int, keysD (l.map D.int) = some (l.map Sum.inl)
  | [] => rfl
  | i :: l => by
    simp only [List.map_cons, keysD, keyD, keysD_ints l, Option.bind_some, Option.map_some]
theorem inl_inj : ∀ {l m : List Int}, (l.map Sum.inl : List Key) = m.map Sum.inl → l = m
  | [], [], _ => rfl
  | [], _ :: _, h => by simp at h
  | _ :: _, [], h => by simp at h
  | a :: l, b :: m, h => by
    simp only [List.map_cons, List.cons.injEq, Sum.inl.injEq] at h
    rw [h.1, inl_inj h.2]
theorem IntT.key {e : α → D} {tl : α → List Int} (h : IntT e tl) : KeyT e (kI tl) where
  eq := fun a => ⟨_, h.eq a, keysD_ints _⟩
  inj := fun a b q => h.inj a b (inl_inj q)
variable [DecidableEq α]
def lookA (k : α) : List (α × β) → Option β
  | [] => none
  | p :: m => if p.1 = k then some p.2 else lookA k m
def hasA (k : α) (m : List (α × β)) : Bool := (lookA k m).isSome
def putA (k : α) (v : β) (m : List (α × β)) : List (α × β) := if k ∈ m.map (·.1) then m.map (fun p => if p.1 = k then (p.1, v) else p) else m ++ [(k, v)]
variable {e : α → D} {kf : α → List Key} {ev : β → D}
end
section
variable {A α β γ σ ρ ι : Type} {Γ : DEnv} {M : Sto} {fa fb fe fo fi : FE} {fs : FA} {fk : FS} {p : Option γ} {κ : γ → R Out → Prop} {Φ : W → Sto → Option γ → Prop} {ΦN : List D → Sto → Option γ → Prop}
theorem c_cnP {g : List D → Option (List D)} {ws : List W} {ds : List D} {pa : Option α} {q : α → Option γ} {v : α → List D} (rs : rds M ws = some ds) (e : ∀ c, pa = some c → g ds = some (v c)) (k : ∀ c, ΦN (v c) M (q c)) : CnK g M ws (pa.bind q) ΦN := by
  unfold CnK
  simp only [rs, Option.bind_some]
  exact rk_ofP e k
def insA (tl : α → List Int) (x : α) : List α → List α
  | [] => [x]
  | y :: l => if lexLe (tl x) (tl y) = true then x :: y :: l else y :: insA tl x l
def srtA (tl : α → List Int) : List α → List α
  | [] => []
  | x :: l => insA tl x (srtA tl l)
structure FlE (e : α → D) (f : α → L2.V) : Prop where
  eq : ∀ a, flD (e a) = some (f a)
  dec : ∀ a b, (eqV (f a) (f b) = true) ↔ a = b
def tl4 (a : Int × Int × Int × Int) : List Int := [a.1, a.2.1, a.2.2.1, a.2.2.2]
def pRepr (d : D) : Option Str := match gRepr [d] with
  | some (.str s) => some s
  | _ => none
theorem g_reprO {d : D} {s : Str} (h : pRepr d = some s) : gRepr [d] = some (.str s) := by
  unfold pRepr at h
  split at h
  · rename_i e; cases h; exact e
  · cases h
end
end T9
namespace T9
open PySem PySem.Spec PyProof.Rows L2 S9
section
variable {A α β γ σ ρ ι : Type} {Γ : DEnv} {M : Sto} {fa fb fe fo fi : FE} {fs : FA} {fk : FS} {p : Option γ} {κ : γ → R Out → Prop} {Φ : W → Sto → Option γ → Prop}
end
end T9
namespace T9
open PySem PySem.Spec PyProof.Rows L2 S9
section
variable {A α β γ σ ρ ι : Type} {Γ : DEnv} {M : Sto} {fa fb fe fo fi fd : FE} {fs : FA} {fk : FS} {p : Option γ} {κ : γ → R Out → Prop} {Φ : W → Sto → Option γ → Prop} {ΦP : List (W × W) → Sto → Option γ → Prop}
end
end T9
namespace T9
open PySem PySem.Spec PyProof.Rows L2 S9
section
variable {A α β γ σ ρ ι : Type} {Γ : DEnv} {M M0 : Sto} {ft : FT} {fe : FE} {fb fk : FS} {κ : γ → R Out → Prop} {Γl : σ → DEnv} {m : σ → Sto}
end
section
variable {γ α β : Type} {Γ : DEnv} {M : Sto} {fs : FA} {fk : FS} {p : Option γ} {κ' : Type} {κ : γ → R Out → Prop}
end
section
variable {α β γ : Type}
structure KeyK (e : α → D) (kf : α → Key) : Prop where
  eq : ∀ a, keyD (e a) = some (kf a)
  inj : ∀ a b, kf a = kf b → a = b
variable [DecidableEq α] {e : α → D} {kf : α → Key} {ev : β → D}
end
section
variable {α β γ : Type} {Γ : DEnv} {M : Sto} {p : Option γ} {Φ : W → Sto → Option γ → Prop}
end
end T9
namespace T9
open PySem PySem.Spec PyProof.Rows L2 S9
end T9
namespace N60
open PySem PySem.Spec PyProof.Rows L2 S9 T9
end N60
namespace T9
open PySem PySem.Spec PyProof.Rows L2 S9
section
variable {α β γ : Type} {Γ : DEnv} {M : Sto} {fa fb : FE} {p : Option γ} {Φ : W → Sto → Option γ → Prop}
end
end T9
namespace N60
open PySem PySem.Spec PyProof.Rows L2 S9 T9
end N60
namespace N60
open PySem PySem.Spec PyProof.Rows L2 S9 T9
end N60
namespace T9
open PySem PySem.Spec PyProof.Rows L2 S9
def eP1 {α : Type} (e : α → D) (a : α) : D := .tup [e a]
section
variable {A α β γ : Type} {M : Sto} {da : D} {w : W} {Φ : W → Sto → Option γ → Prop}
theorem c_slP {g : D → Option Int → Option Int → Option D} {lo hi : Option Int} {q : D → Option γ} (ra : rd M w = some da) (k : ∀ d, Φ (.d d) M (q d)) : SlK g M w lo hi ((g da lo hi).bind q) Φ := rk_ofP (v := W.d) (fun c h => by rw [ra]; simp only [Option.bind_some, h, Option.map_some]) k
end
end T9
namespace T9
open PySem PySem.Spec PyProof.Rows L2 S9
abbrev WebR := List (SideT × List SideT)
section
variable {κ : Nat → Addr} {y : Plan} {k k0 : Nat} {N : Sto}
end
section
variable {A α β γ σ ρ ι : Type} {Γ : DEnv} {M : Sto} {fa fb fe fo : FE} {fs : FA} {fk : FS} {fi : FI} {p : Option γ} {κ : γ → R Out → Prop} {Φ : W → Sto → Option γ → Prop} {ΦN : List D → Sto → Option γ → Prop} {ΦI : List D × List Nat → Sto → Option γ → Prop} {w : W}
end
theorem putA_len {β δ : Type} [DecidableEq β] {k : β} {v : δ} {m : List (β × δ)} : (putA k v m).length ≤ m.length + 1 := by
  unfold putA
  split
  · rw [List.length_map]; omega
  · rw [List.length_append]; simp
section
variable {α β γ ι ξ : Type} [DecidableEq α] {Γ : DEnv} {M : Sto} {fi : FI} {g : FG} {fk fv : FE} {vs : List Nat} {p : Option γ} {Φ : W → Sto → Option γ → Prop}
end
section
variable {α β γ : Type} {Γ : DEnv} {M : Sto} {fs : FA} {p : Option γ} {ΦN : List D → Sto → Option γ → Prop}
end
end T9
namespace T9
open PySem PySem.Spec PyProof.Rows L2 S9
end T9
namespace S9
open PySem PySem.Spec PyProof.Rows L2
end S9
namespace T9
open PySem PySem.Spec PyProof.Rows L2 S9
section
variable {γ : Type} {Γ : DEnv} {M M1 : Sto} {f : FE} {p : Option γ} {Φ : W → Sto → Option γ → Prop} {w : W} {d : D}
end
end T9
namespace S9
open PySem PySem.Spec PyProof.Rows L2
structure Exc (K : PySem.W.Frag) (C fI : Addr) (n : Str) : Prop where
  oex : OexC K C
  iC : PySem.W.findIn K (.ref C) "__init__" = some (some (.ref fI))
  tI : PySem.W.typeIn K (.ref fI) = some (.type "function")
  noN : PySem.W.findIn K (.ref C) n = some none
  xf : XfC K C
  te : PySem.W.exmOne K (.ref C) (.ref C) = some true
structure ExcB (K : PySem.W.Frag) (CB : Addr) : Prop where
  rd : PySem.W.readsIn K CB (.type "type") = true
  ga : PySem.W.specialIn K (.ref CB) "__getattribute__" = some (some (.builtin "type.__getattribute__"))
  fi : PySem.W.findCls K (.ref CB) (.type "type") "__init__" = some (.val (.builtin "ValueError.__init__"))
section
variable {X : Cx} {e : Expr} {es : List Expr} {ta : TA} {p1 p2 pos : Pos} {x : Str} {CB : Addr}
end
section
variable {P : Program} {w : World} {K : PySem.W.Frag} {mg : Str → Option Value} {base : Heap} {x qual B n y t : Str} {st : Stmt} {f C CB : Addr} {fd : FuncData} {k : Nat} {p1 p2 p3 p4 p5 p6 p7 p8 p9 q1 q2 : Pos} {j : Nat}
end
section
variable {X : Cx} {E : XK} {e : Expr} {fs : FA} {p pos pos2 : Pos} {C fI : Addr} {x n y : Str} {k : Nat} {fd : FuncData}
end
section
variable {P : Program} {w : World} {K : PySem.W.Frag} {mg : Str → Option Value} {base : Heap} {k : Nat} {f : Addr} {fd : FuncData} {N ps : List Str}
end
section
variable {X : Cx} {k : Nat} {f : Addr} {fd : FuncData} {ps : List Str} {E E' : XK} {x : Str} {p pos : Pos} {e : Expr} {es : List Expr} {fs : FA} {n : Nat} {φ : FF}
end
end S9
namespace S9
open PySem PySem.Spec PyProof.Rows L2
section
variable {K : PySem.W.Frag} {r r1 : Rg} {M M1 : Sto} {H H1 : Hp} {σ : L2.St} {δ : DEnv}
end
section
variable {X : Cx} {k : Nat} {f : Addr} {fd : FuncData} {ps : List Str} {sp : Sp} {E : L2.St → XK} {x : Str} {p pos : Pos} {e : Expr} {es : List Expr} {ta : TA} {CX : CXT}
end
section
variable {X : Cx} {E : XK} {k N : Nat} {f C fI : Addr} {fd : FuncData} {ps : List Str} {xf xc en n : Str} {i j : Nat} {p pos pos' pos2 pf np px tpos : Pos} {e : Expr} {es : List Expr} {fs : FA} {φ : FF} {hd : D → FS} {b₀ : Stmt} {b : List Stmt}
end
section
variable {X : Cx} {C fI : Addr} {n en c l : Str} {j i : Nat} {p1 p2 p3 p4 p5 apos cpos spos : Pos} {jj kk : Nat}
end
end S9
namespace T9
open PySem PySem.Spec PyProof.Rows L2 S9
section
variable {A α β γ ρ : Type} {Γ : DEnv} {M : Sto} {f g h : FS} {fe : FE} {fs : FA} {ft : FT} {w : W} {q : Option γ} {κ : γ → R Out → Prop}
def KX (n : Nat) (C : Addr) (nm : Str) (e : ρ → D) (m : ρ → Sto) (r : ρ) (x : R Out) : Prop := ∃ M1, x = .ex ⟨.ref C, [nm], [e r]⟩ M1 ∧ cutM n M1 = some (m r)
end
open Classical in
noncomputable def toE {α : Type} (e : α → D) (d : D) : Option α := if h : ∃ a, e a = d then some h.choose else none
end T9
namespace S9
open PySem PySem.Spec PyProof.Rows L2
section
variable {X : Cx} {k1 k2 : Nat} {f1 f2 : Addr} {fd1 fd2 : FuncData} {ps1 ps2 : List Str} {sp1 sp2 : Sp} {E : L2.St → XK} {x : Str} {p pos : Pos} {e : Expr} {es : List Expr} {ta : TA} {CX : CXT} {iv : Nat}
end
section
variable {X : Cx} {E : XK} {k1 k2 N : Nat} {f1 f2 C fI : Addr} {fd1 fd2 : FuncData} {ps1 ps2 : List Str} {xf xc en n : Str} {iv j : Nat} {p pos pos' pos2 pf np tpos : Pos} {e : Expr} {es : List Expr} {fs : FA} {φ1 φ2 : FF} {hd : D → FS} {b₀ : Stmt} {b : List Stmt}
end
end S9
namespace T9
open PySem PySem.Spec PyProof.Rows L2 S9
section
variable {A α β γ : Type} {Γ : DEnv} {M M1 : Sto} {fs : FA} {p : Option γ} {Φ : W → Sto → Option γ → Prop}
end
end T9
namespace T9
open PySem PySem.Spec PyProof.Rows L2 S9
variable {α : Type}
def fuelP {γ : Type} (bad : γ) (b : γ → γ) : Nat → γ
  | 0 => bad
  | n + 1 => b (fuelP bad b n)
theorem mapA (c : List D) : c.map eA = c := List.map_id' _
theorem g_listA {g : List D → Option (List D)} {ds : List D} {c : List D} (h : g ds = some c) : g ds = some (c.map eA) := by rw [mapA]; exact h
end T9
namespace T9
open PySem PySem.Spec PyProof.Rows L2 S9
def pReprE (d : D) : Option Str := match gReprE [d] with
  | some (.str s) => some s
  | _ => none
theorem g_reprEO {d : D} {s : Str} (h : pReprE d = some s) : gReprE [d] = some (.str s) := by
  unfold pReprE at h
  split at h
  · rename_i e; cases h; exact e
  · cases h
theorem c_unP {α γ : Type} {M : Sto} {wa : W} {da : D} {pa : Option α} {g : D → Option D} {v : α → D} {q : α → Option γ} {Φ : W → Sto → Option γ → Prop} (ra : rd M wa = some da) (e : ∀ c, pa = some c → g da = some (v c)) (k : ∀ c, Φ (.d (v c)) M (q c)) : UnK g M wa (pa.bind q) Φ := by
  unfold UnK
  simp only [ra, Option.bind_some]
  exact rk_ofP (fun c h => by rw [e c h]; rfl) k
end T9
namespace T9
open PySem PySem.Spec PyProof.Rows L2 S9
def pRepT {α : Type} (a : List α) (k : Int) : Option (List α) := if k = 1 then some a else if a ≠ [] ∧ 2 ≤ k ∧ k ≤ 1000 ∧ a.length ≤ 1000 then some (List.replicate k.toNat a).flatten else none
theorem g_repT {α : Type} {e : α → D} {a c : List α} {k : Int} (h : pRepT a k = some c) : gRepT (eT e a) (eI k) = some (eT e c) := by
  unfold pRepT at h
  split at h
  · rename_i hk
    cases h
    show gRepT (.tup (a.map e)) (.int k) = _
    simp only [gRepT]
    rw [if_pos hk]
  · rename_i hk
    split at h
    · rename_i hc
      cases h
      show gRepT (.tup (a.map e)) (.int k) = _
      simp only [gRepT]
      rw [if_neg hk, if_pos ⟨fun z => hc.1 (List.map_eq_nil_iff.mp z), hc.2.1, hc.2.2.1, by rw [List.length_map]; exact hc.2.2.2⟩]
      have : ∀ n : Nat, repD n (a.map e) = ((List.replicate n a).flatten).map e := fun n => by
        induction n with
        | zero => rfl
        | succ n ih => rw [List.replicate_succ, List.flatten_cons, List.map_append, ← ih]; rfl
      rw [this]
    · cases h
end T9
namespace T9
open PySem PySem.Spec PyProof.Rows L2 S9
def pKGet (kvs : List (Str × Int)) (a : D) (j : Int) : Option Int := match a with
  | .str z => some ((kvs.lookup z).getD j)
  | _ => none
theorem g_kget {kvs : List (Str × Int)} {a : D} {i j : Int} (h : pKGet kvs a j = some i) : gKGet kvs a (eI j) = some (eI i) := by
  unfold pKGet at h
  split at h
  · cases h
    rfl
  · cases h
end T9
namespace N60
open PySem PySem.Spec PyProof.Rows L2 S9 T9
end N60
namespace K58
open PySem PySem.Spec PyProof.Rows L2 S9 T9 N60
def p__law_number (p0 : List Int) : Option (Int × List Int) :=
  (Option.bind (p__law_take p0 1000) fun a14 => (Option.bind (pPow 10 30) fun a15 => (Option.bind (pPow 10 29) fun a16 => (Option.bind (p__law_of a14.2 ([0, 1, 2, 7, a14.1, (a15 - 1), a16])) fun a17 => (some (a17.1, a17.2))))))
set_option maxHeartbeats 0 in
theorem q__law_number {M : Sto} {k : Nat} (hM : Cl M) (hk : k < M.length) (p0 : List Int) : Rr (f__law_number [W.loc k] (M.set k (potC p0))) (p__law_number p0) (fun r : Int × List Int => W.d (eI r.1)) (fun r => M.set k (potC r.2)) :=
  body_ofP pot_len (show TL _ _ (g__law_number) (p__law_number p0) (KF M.length (fun r : Int × List Int => W.d (eI r.1)) (fun r => M.set k (potC r.2))) from (ts_ret (w_co (w_call (w_cons (w_V (v_var rfl) (w_cons (w_fro (w_lst (w_cons (w_V v_c (w_cons (w_V v_c (w_cons (w_V v_c (w_cons (w_V v_c (w_cons (w_call (w_V (v_cons (v_var rfl) (v_cons v_c v_nil)) (have hq := (rr_potW (c := potC p0) (m := fun (a : Int × List Int) => potC a.2) (ext := []) hk (q__law_take (hM.app (ext := []) rfl) (lt_app hk) p0 1000)); c_call rfl hq fun a14 => (w_cons (w_op (w_op (w_V v_c (w_V v_c (c_opP (v := fun a15 => eI a15) rfl rfl (fun _ h => g_pow h) fun a15 => (w_V v_c (c_op rfl rfl rfl (w_cons (w_op (w_V v_c (w_V v_c (c_opP (v := fun a16 => eI a16) rfl rfl (fun _ h => g_pow h) fun a16 => (w_nil (c_lst rfl rfl (w_nil (have hq := (rr_potW (c := potC a14.2) (m := fun (a : Int × List Int) => potC a.2) (ext := []) hk (q__law_of (hM.app (ext := []) rfl) (lt_app hk) a14.2 ([0, 1, 2, 7, a14.1, (a15 - 1), a16]))); c_call rfl hq fun a17 => (rk_ok (c_rt (kf_p (e := eI) hM)))))))))))))))))))))))))))))))))))))))))
def p__law_wish (p0 : List Int) : Option ((Option (Int × (List Int))) × List Int) :=
  (Option.bind (p__law_take p0 5) fun a11 => (if (decide (a11.1 = 0)) = true then (some ((none : (Option (Int × (List Int)))), a11.2)) else (Option.bind (p__law_take a11.2 12) fun a12 => (Option.bind (p__law_of a12.2 ([1, 12, (1 + a12.1), 3])) fun a13 => (Option.bind (p__law_number a13.2) fun a18 => (Option.bind (pRng 0 a13.1) fun r19 => (Option.bind (lcS r19 (fun (x20 : Int) (s22 : List Int) => ((Option.bind (p__law_number s22) fun a24 => (some (a24.1, a24.2))) : Option (Int × List Int))) a18.2) fun l21 => (some ((some (a18.1, l21.1)), l21.2)))))))))
set_option maxHeartbeats 0 in
theorem q__law_wish {M : Sto} {k : Nat} (hM : Cl M) (hk : k < M.length) (p0 : List Int) : Rr (f__law_wish [W.loc k] (M.set k (potC p0))) (p__law_wish p0) (fun r : (Option (Int × (List Int))) × List Int => W.d ((eO (eP2 eI (eT eI))) r.1)) (fun r => M.set k (potC r.2)) :=
  body_ofP pot_len (show TL _ _ (g__law_wish) (p__law_wish p0) (KF M.length (fun r : (Option (Int × (List Int))) × List Int => W.d ((eO (eP2 eI (eT eI))) r.1)) (fun r => M.set k (potC r.2))) from (ts_ite (w_B (w_co (w_op (w_call (w_V (v_cons (v_var rfl) (v_cons v_c v_nil)) (have hq := (rr_potW (c := potC p0) (m := fun (a : Int × List Int) => potC a.2) (ext := []) hk (q__law_take (hM.app (ext := []) rfl) (lt_app hk) p0 5)); c_call rfl hq fun a11 => (w_V v_c (c_op rfl rfl rfl (rk_ok ⟨_, rfl, (c_br (tl_retS (ts_ret (w_V v_c (c_rt (kf_p (e := (eO (eP2 eI (eT eI)))) hM))))) (tl_nilS (ts_set (w_call (w_cons (w_V (v_var rfl) (w_cons (w_fro (w_lst (w_cons (w_V v_c (w_cons (w_V v_c (w_cons (w_op (w_V v_c (w_call (w_V (v_cons (v_var rfl) (v_cons v_c v_nil)) (have hq := (rr_potW (c := potC a11.2) (m := fun (a : Int × List Int) => potC a.2) (ext := []) hk (q__law_take (hM.app (ext := []) rfl) (lt_app hk) a11.2 12)); c_call rfl hq fun a12 => (c_op rfl rfl rfl (w_V (v_cons v_c v_nil) (c_lst rfl rfl (w_nil (have hq := (rr_potW (c := potC a12.2) (m := fun (a : Int × List Int) => potC a.2) (ext := []) hk (q__law_of (hM.app (ext := []) rfl) (lt_app hk) a12.2 ([1, 12, (1 + a12.1), 3]))); c_call rfl hq fun a13 => (ts_ret (w_co (w_tup (w_cons (w_call (w_V (v_cons (v_var rfl) v_nil) (have hq := (rr_potW (c := potC a13.2) (m := fun (a : Int × List Int) => potC a.2) (ext := []) hk (q__law_number (hM.app (ext := []) rfl) (lt_app hk) a13.2 )); c_call rfl hq fun a18 => (w_cons (w_cb (w_cons (w_fro (w_lc (e := eI) (w_rng1 (w_V (v_cons (v_var rfl) v_nil) ⟨_, rfl, c_rng fun r19 => (w_E (e_lcS (Γb := (fun x20 => [some (W.loc k), some (W.d (eI a13.1)), some (W.d (eI x20))])) (e := eI) (e' := eI) (m := fun s => ((M.set k (potC s)) ++ ([] : Sto))) i_const rfl (fun x20 δ h => ⟨_, rfl, (h.set (i := 2) (w := W.d (eI x20)))⟩) (fun x20 s22 => e_ofW (w_call (w_V (v_cons (v_var rfl) v_nil) (have hq := (rr_potW (c := potC s22) (m := fun (a : Int × List Int) => potC a.2) (ext := []) hk (q__law_number (hM.app (ext := []) rfl) (lt_app hk) s22 )); c_call rfl hq fun a24 => (c_end (c := (a24.1, a24.2)) rfl rfl))))) (fun _ _ h => nomatch h)) fun l21 => (w_nil (c_cb rfl rfl (w_nil (c_tup rfl rfl (rk_ok (c_rt (kf_p (e := (eO (eP2 eI (eT eI)))) hM))))))))⟩))))))))))))))))))))))))))))))))))))))⟩)))))))))))
def p__law_letter (p0 : List Int) : Option (D × List Int) :=
  (Option.bind (p__law_of_LS p0 ([("ask" : Str), ("leave" : Str), ("word" : Str)])) fun a10 => (if (decide (a10.1 = ("word" : Str))) = true then (Option.bind (p__law_wish a10.2) fun a25 => (some (((eP2 eS (eO (eP2 eI (eT eI)))) (a10.1, a25.1)), a25.2))) else (Option.bind (p__law_number a10.2) fun a26 => (Option.bind (p__law_number a26.2) fun a27 => (Option.bind (p__law_wish a27.2) fun a28 => (some (((eP4 eS eI eI (eO (eP2 eI (eT eI)))) (a10.1, a26.1, a27.1, a28.1)), a28.2)))))))
set_option maxHeartbeats 0 in
theorem q__law_letter {M : Sto} {k : Nat} (hM : Cl M) (hk : k < M.length) (p0 : List Int) : Rr (f__law_letter [W.loc k] (M.set k (potC p0))) (p__law_letter p0) (fun r : D × List Int => W.d (eA r.1)) (fun r => M.set k (potC r.2)) :=
  body_ofP pot_len (show TL _ _ (g__law_letter) (p__law_letter p0) (KF M.length (fun r : D × List Int => W.d (eA r.1)) (fun r => M.set k (potC r.2))) from (ts_set (w_call (w_V (v_cons (v_var rfl) (v_cons (v_fro (v_lst (v_cons v_c (v_cons v_c (v_cons v_c v_nil))) rfl rfl)) v_nil)) (have hq := (rr_potW (c := potC p0) (m := fun (a : Str × List Int) => potC a.2) (ext := []) hk (q__law_of_LS (hM.app (ext := []) rfl) (lt_app hk) p0 ([("ask" : Str), ("leave" : Str), ("word" : Str)]))); c_call rfl hq fun a10 => (ts_ite (w_V (v_B (v_op (v_var rfl) v_c rfl rfl rfl)) (c_br (tl_retS (ts_ret (w_co (w_tup (w_cons (w_V (v_var rfl) (w_cons (w_call (w_V (v_cons (v_var rfl) v_nil) (have hq := (rr_potW (c := potC a10.2) (m := fun (a : (Option (Int × (List Int))) × List Int) => potC a.2) (ext := []) hk (q__law_wish (hM.app (ext := []) rfl) (lt_app hk) a10.2 )); c_call rfl hq fun a25 => (w_nil (c_tup rfl rfl (rk_ok (c_rt (kf_p (e := eA) hM))))))))))))))) (tl_nilS (ts_ret (w_co (w_tup (w_cons (w_V (v_var rfl) (w_cons (w_call (w_V (v_cons (v_var rfl) v_nil) (have hq := (rr_potW (c := potC a10.2) (m := fun (a : Int × List Int) => potC a.2) (ext := []) hk (q__law_number (hM.app (ext := []) rfl) (lt_app hk) a10.2 )); c_call rfl hq fun a26 => (w_cons (w_call (w_V (v_cons (v_var rfl) v_nil) (have hq := (rr_potW (c := potC a26.2) (m := fun (a : Int × List Int) => potC a.2) (ext := []) hk (q__law_number (hM.app (ext := []) rfl) (lt_app hk) a26.2 )); c_call rfl hq fun a27 => (w_cons (w_call (w_V (v_cons (v_var rfl) v_nil) (have hq := (rr_potW (c := potC a27.2) (m := fun (a : (Option (Int × (List Int))) × List Int) => potC a.2) (ext := []) hk (q__law_wish (hM.app (ext := []) rfl) (lt_app hk) a27.2 )); c_call rfl hq fun a28 => (w_nil (c_tup rfl rfl (rk_ok (c_rt (kf_p (e := eA) hM)))))))))))))))))))))))))))))))
def p__law_of_LA (p0 : List Int) (y1 : (List D)) : Option (D × List Int) :=
  (Option.bind (p__law_take p0 (List.length y1 : Int)) fun a41 => (Option.bind (pIx y1 a41.1) fun a42 => (some (a42, a41.2))))
set_option maxHeartbeats 0 in
theorem q__law_of_LA {M : Sto} {k : Nat} (hM : Cl M) (hk : k < M.length) (p0 : List Int) (y1 : (List D)) : Rr (f__law_of [W.loc k, W.d ((eL eA) y1)] (M.set k (potC p0))) (p__law_of_LA p0 y1) (fun r : D × List Int => W.d (eA r.1)) (fun r => M.set k (potC r.2)) :=
  body_ofP pot_len (show TL _ _ (g__law_of) (p__law_of_LA p0 y1) (KF M.length (fun r : D × List Int => W.d (eA r.1)) (fun r => M.set k (potC r.2))) from (ts_ret (w_co (w_op (w_V (v_var rfl) (w_call (w_V (v_cons (v_var rfl) (v_cons (v_cb (v_cons (v_var rfl) v_nil) rfl g_lenL) v_nil)) (have hq := (rr_potW (c := potC p0) (m := fun (a : Int × List Int) => potC a.2) (ext := []) hk (q__law_take (hM.app (ext := []) rfl) (lt_app hk) p0 (List.length y1 : Int))); c_call rfl hq fun a41 => (c_opP (v := fun a42 => eA a42) rfl rfl (fun _ h => g_ixL h) fun a42 => (rk_ok (c_rt (kf_p (e := eA) hM))))))))))))
def p__law_odd (p0 : List Int) : Option (D × List Int) :=
  (Option.bind (some ([(eU ()), (eB true), (eB false), (eI 0), (eI 1), (eI (-1)), (eS ("" : Str)), (eS ("ask" : Str)), (eS ("Ask" : Str)), (eS ("words" : Str)), ((fun (_ : Unit) => D.tup []) ()), ((eL eI) ([] : List Int)), (D.dct [] []), ((eP1 eI) 1), ((eP2 eI (eP1 eI)) (1, 0)), ((eP2 eI (eP1 eI)) (0, 0))])) fun (v37 : (List D)) => (Option.bind (pRepT ([0]) 13) fun a38 => (Option.bind (pPow 10 29) fun a39 => (Option.bind (pCat v37 ([((eP2 eI (fun (_ : Unit) => D.tup [])) (1, ())), ((eP2 eI (eT eI)) (2, a38)), ((eL eA) ([(eI 1), ((eP1 eI) 0)])), ((eP2 eI (eL eI)) (1, [0])), (eI a39)])) fun a40 => (Option.bind (p__law_of_LA p0 a40) fun a43 => (Option.bind (p__law_of a43.2 ([0, 0, 0, 1, 8])) fun a44 => (Option.bind (pRng 0 a44.1) fun r45 => (Option.bind (forN (fun (x46 : Int) (s47 : (List Int) × D) => (Option.bind (p__law_take s47.1 3) fun a48 => (Option.bind (pIx ([((eP1 eA) s47.2), ((eL eA) ([s47.2])), ((eP2 eS eA) (("word" : Str), s47.2))]) a48.1) fun a49 => (some (a48.2, a49))))) r45 (a44.2, a43.1)) fun z50 => (some (z50.2, z50.1))))))))))
set_option maxHeartbeats 0 in
theorem q__law_odd {M : Sto} {k : Nat} (hM : Cl M) (hk : k < M.length) (p0 : List Int) : Rr (f__law_odd [W.loc k] (M.set k (potC p0))) (p__law_odd p0) (fun r : D × List Int => W.d (eA r.1)) (fun r => M.set k (potC r.2)) :=
  body_ofP pot_len (show TL _ _ (g__law_odd) (p__law_odd p0) (KF M.length (fun r : D × List Int => W.d (eA r.1)) (fun r => M.set k (potC r.2))) from (ts_set (w_let (x := fun v37 => W.d ((eL eA) v37)) (a := [(eU ()), (eB true), (eB false), (eI 0), (eI 1), (eI (-1)), (eS ("" : Str)), (eS ("ask" : Str)), (eS ("Ask" : Str)), (eS ("words" : Str)), ((fun (_ : Unit) => D.tup []) ()), ((eL eI) ([] : List Int)), (D.dct [] []), ((eP1 eI) 1), ((eP2 eI (eP1 eI)) (1, 0)), ((eP2 eI (eP1 eI)) (0, 0))]) (v_fro (v_lst (v_cons v_c (v_cons v_c (v_cons v_c (v_cons v_c (v_cons v_c (v_cons (v_un v_c rfl rfl) (v_cons v_c (v_cons v_c (v_cons v_c (v_cons v_c (v_cons (v_tup v_nil rfl rfl) (v_cons (v_fro (v_lst v_nil rfl rfl)) (v_cons v_c (v_cons (v_tup (v_cons v_c v_nil) rfl rfl) (v_cons (v_tup (v_cons v_c (v_cons (v_tup (v_cons v_c v_nil) rfl rfl) v_nil)) rfl rfl) (v_cons (v_tup (v_cons v_c (v_cons (v_tup (v_cons v_c v_nil) rfl rfl) v_nil)) rfl rfl) v_nil)))))))))))))))) rfl rfl)) fun v37 => (ts_set (w_call (w_cons (w_V (v_var rfl) (w_cons (w_fro (w_opN (w_V (v_var rfl) (w_fro (w_lst (w_cons (w_V (v_tup (v_cons v_c (v_cons (v_tup v_nil rfl rfl) v_nil)) rfl rfl) (w_cons (w_tup (w_cons (w_V v_c (w_cons (w_op (w_V (v_tup (v_cons v_c v_nil) rfl rfl) (w_V v_c (c_opP (v := fun a38 => (eT eI) a38) rfl rfl (fun _ h => g_repT (e := eI) (a := ([0])) h) fun a38 => (w_nil (c_tup rfl rfl (w_cons (w_V (v_fro (v_lst (v_cons v_c (v_cons (v_tup (v_cons v_c v_nil) rfl rfl) v_nil)) rfl rfl)) (w_cons (w_V (v_tup (v_cons v_c (v_cons (v_fro (v_lst (v_cons v_c v_nil) rfl rfl)) v_nil)) rfl rfl) (w_cons (w_op (w_V v_c (w_V v_c (c_opP (v := fun a39 => eI a39) rfl rfl (fun _ h => g_pow h) fun a39 => (w_nil (c_lst rfl rfl (c_opNP (v := fun a40 => a40.map eA) rfl rfl (fun _ h => g_catL (e := eA) (a := v37) (b := [((eP2 eI (fun (_ : Unit) => D.tup [])) (1, ())), ((eP2 eI (eT eI)) (2, a38)), ((eL eA) ([(eI 1), ((eP1 eI) 0)])), ((eP2 eI (eL eI)) (1, [0])), (eI a39)]) h) fun a40 => (w_nil (have hq := (rr_potW (c := potC p0) (m := fun (a : D × List Int) => potC a.2) (ext := []) hk (q__law_of_LA (hM.app (ext := []) rfl) (lt_app hk) p0 a40)); c_call rfl hq fun a43 => (ts_for (w_rng1 (w_cons (w_call (w_V (v_cons (v_var rfl) (v_cons (v_fro (v_lst (v_cons v_c (v_cons v_c (v_cons v_c (v_cons v_c (v_cons v_c v_nil))))) rfl rfl)) v_nil)) (have hq := (rr_potW (c := potC a43.2) (m := fun (a : Int × List Int) => potC a.2) (ext := []) hk (q__law_of (hM.app (ext := []) rfl) (lt_app hk) a43.2 ([0, 0, 0, 1, 8]))); c_call rfl hq fun a44 => (w_nil ⟨_, rfl, c_rng fun r45 => (tl_seq (se_for (Γb := (fun (x46 : Int) (s47 : (List Int) × D) => [some (W.loc k), some (W.d ((eL eA) v37)), some (W.d (eA s47.2)), some (W.d (eI x46))])) (e := eI) (Γl := (fun (s47 : (List Int) × D) => [some (W.loc k), some (W.d ((eL eA) v37)), some (W.d (eA s47.2)), none])) (m := (fun (s47 : (List Int) × D) => ((M.set k (potC s47.1)) ++ ([] : Sto)))) i_const (Le.keep (Le.keep (Le.keep (Le.drop Le.nil)))) rfl (fun x46 s47 δ h => ⟨_, rfl, (h.set (i := 3) (w := W.d (eI x46)))⟩) (fun x46 s47 => (tl_one (ts_set (w_op (w_V (v_fro (v_lst (v_cons (v_tup (v_cons (v_var rfl) v_nil) rfl rfl) (v_cons (v_fro (v_lst (v_cons (v_var rfl) v_nil) rfl rfl)) (v_cons (v_tup (v_cons v_c (v_cons (v_var rfl) v_nil)) rfl rfl) v_nil))) rfl rfl)) (w_call (w_V (v_cons (v_var rfl) (v_cons v_c v_nil)) (have hq := (rr_potW (c := potC s47.1) (m := fun (a : Int × List Int) => potC a.2) (ext := []) hk (q__law_take (hM.app (ext := []) rfl) (lt_app hk) s47.1 3)); c_call rfl hq fun a48 => (c_opP (v := fun a49 => eA a49) rfl rfl (fun _ h => g_ixL (e := eA) (l := ([((eP1 eA) s47.2), ((eL eA) ([s47.2])), ((eP2 eS eA) (("word" : Str), s47.2))])) h) fun a49 => (tl_endG (Γ' := (fun (s47 : (List Int) × D) => [some (W.loc k), some (W.d ((eL eA) v37)), some (W.d (eA s47.2)), none])) (ms := (fun (s47 : (List Int) × D) => ((M.set k (potC s47.1)) ++ ([] : Sto)))) (s := (a48.2, a49)) (Le.keep (Le.keep (Le.keep (Le.drop Le.nil)))) rfl)))))))))) (fun _ _ h => nomatch h)) fun z50 => (ts_ret (w_V (v_var rfl) (c_rt (kf_p (e := eA) hM)))))⟩)))))))))))))))))))))))))))))))))))))))))))))))
def pb__law_bent (ρ : List Int → D → Option (D × List Int)) (p0 : List Int) (y1 : D) : Option (D × List Int) :=
  (Option.bind ((Option.bind (pIsi (eA y1) (eA (D.ty "tuple"))) fun a34 => (if (!a34) = true then (some true) else (Option.bind (blO (gEq0 (eA y1) ((fun (_ : Unit) => D.tup []) ()))) fun a35 => (some a35)))) : Option Bool) fun a36 => (if a36 = true then (Option.bind (p__law_odd p0) fun a51 => (some (a51.1, a51.2))) else (Option.bind (p__law_take p0 7) fun a52 => (Option.bind (pLenA (eA y1)) fun a53 => (Option.bind (p__law_take a52.2 a53) fun a54 => (if (decide (a52.1 < 3)) = true then (Option.bind (gSlT (eA y1) none (some a54.1)) fun a55 => (Option.bind (gIx (eA y1) (eI a54.1)) fun a56 => (Option.bind (ρ a54.2 a56) fun a57 => (Option.bind (gAdd (eA a55) ((eT eA) ([a57.1]))) fun a58 => (Option.bind (gSlT (eA y1) (some (a54.1 + 1)) none) fun a59 => (Option.bind (gAdd (eA a58) (eA a59)) fun a60 => (some (a60, a57.2)))))))) else (if (decide (a52.1 = 3)) = true then (Option.bind (gSlT (eA y1) none (some a54.1)) fun a61 => (Option.bind (gSlT (eA y1) (some (a54.1 + 1)) none) fun a62 => (Option.bind (gAdd (eA a61) (eA a62)) fun a63 => (some (a63, a54.2))))) else (if (decide (a52.1 = 4)) = true then (Option.bind (gSlT (eA y1) none (some a54.1)) fun a64 => (Option.bind (p__law_odd a54.2) fun a65 => (Option.bind (gAdd (eA a64) ((eT eA) ([a65.1]))) fun a66 => (Option.bind (gSlT (eA y1) (some a54.1) none) fun a67 => (Option.bind (gAdd (eA a66) (eA a67)) fun a68 => (some (a68, a65.2))))))) else (if (decide (a52.1 = 5)) = true then (Option.bind (gSlT (eA y1) none (some a54.1)) fun a69 => (Option.bind (p__law_odd a54.2) fun a70 => (Option.bind (gAdd (eA a69) ((eT eA) ([a70.1]))) fun a71 => (Option.bind (gSlT (eA y1) (some (a54.1 + 1)) none) fun a72 => (Option.bind (gAdd (eA a71) (eA a72)) fun a73 => (some (a73, a70.2))))))) else (Option.bind (gList [eA y1]) fun l74 => (some (((eL eA) l74), a54.2))))))))))))
def p__law_bent : List Int → D → Option (D × List Int) := fuelP (fun _ _ => none) pb__law_bent 24
set_option maxHeartbeats 0 in
theorem qb__law_bent (ψ : FF) (ρ : List Int → D → Option (D × List Int)) (hρ : ∀ {M : Sto} {k : Nat} (hM : Cl M) (hk : k < M.length) (p0 : List Int) (y1 : D), Rr (ψ [W.loc k, W.d (eA y1)] (M.set k (potC p0))) (ρ p0 y1) (fun r : D × List Int => W.d (eA r.1)) (fun r => M.set k (potC r.2))) {M : Sto} {k : Nat} (hM : Cl M) (hk : k < M.length) (p0 : List Int) (y1 : D) : Rr (body 4 (g__law_bent ψ) [W.loc k, W.d (eA y1)] (M.set k (potC p0))) (pb__law_bent ρ p0 y1) (fun r : D × List Int => W.d (eA r.1)) (fun r => M.set k (potC r.2)) :=
  body_ofP pot_len (show TL _ _ (g__law_bent ψ) (pb__law_bent ρ p0 y1) (KF M.length (fun r : D × List Int => W.d (eA r.1)) (fun r => M.set k (potC r.2))) from (ts_ite (w_E (v := fun a36 => a36) (m := fun a36 => ((M.set k (potC p0)) ++ ([] : Sto))) (e_ofW (w_orT (w_notT (w_B (w_co (w_cb (w_V (v_cons (v_var rfl) (v_cons v_c v_nil)) (c_cbP (v := fun a34 => eB a34) rfl (fun _ h => g_isiO h) fun a34 => (rk_ok ⟨_, rfl, (c_br (c_end (c := true) rfl rfl) (w_B (w_co (w_op (w_V (v_var rfl) (w_V (v_tup v_nil rfl rfl) (c_opP (v := fun a35 => eB a35) rfl rfl (fun _ h => blO_eq h) fun a35 => (rk_ok ⟨_, rfl, (c_end (c := a35) rfl rfl)⟩))))))))⟩))))))))) fun a36 => (c_br (tl_retS (ts_ret (w_co (w_call (w_V (v_cons (v_var rfl) v_nil) (have hq := (rr_potW (c := potC p0) (m := fun (a : D × List Int) => potC a.2) (ext := []) hk (q__law_odd (hM.app (ext := []) rfl) (lt_app hk) p0 )); c_call rfl hq fun a51 => (rk_ok (c_rt (kf_p (e := eA) hM))))))))) (tl_nilS (ts_par (w_cons (w_call (w_V (v_cons (v_var rfl) (v_cons v_c v_nil)) (have hq := (rr_potW (c := potC p0) (m := fun (a : Int × List Int) => potC a.2) (ext := []) hk (q__law_take (hM.app (ext := []) rfl) (lt_app hk) p0 7)); c_call rfl hq fun a52 => (w_cons (w_call (w_cons (w_V (v_var rfl) (w_cons (w_cb (w_V (v_cons (v_var rfl) v_nil) (c_cbP (v := fun a53 => eI a53) rfl (fun _ h => g_lenO h) fun a53 => (w_nil (have hq := (rr_potW (c := potC a52.2) (m := fun (a : Int × List Int) => potC a.2) (ext := []) hk (q__law_take (hM.app (ext := []) rfl) (lt_app hk) a52.2 a53)); c_call rfl hq fun a54 => (w_nil ⟨_, _, rfl, (ts_ite (w_V (v_B (v_op (v_var rfl) v_c rfl rfl rfl)) (c_br (tl_retS (ts_ret (w_co (w_op (w_op (w_sl (w_V (v_var rfl) (w_V v_oN (w_V (v_oS (v_var rfl)) (c_slP rfl fun a55 => (w_tup (w_cons (w_call (w_cons (w_V (v_var rfl) (w_cons (w_co (w_op (w_V (v_var rfl) (w_V (v_var rfl) (by exact (c_opP (v := fun a56 => eA a56) rfl rfl (fun _ h => h) fun a56 => (rk_ok (w_nil (have hq := (rr_potW (c := potC a54.2) (m := fun (a : D × List Int) => potC a.2) (ext := []) hk (hρ (hM.app (ext := []) rfl) (lt_app hk) a54.2 a56)); c_call rfl hq fun a57 => (w_nil (c_tup rfl rfl (by exact (c_opP (v := fun a58 => eA a58) rfl rfl (fun _ h => h) fun a58 => (w_sl (w_V (v_var rfl) (w_V (v_oS (v_op (v_var rfl) v_c rfl rfl rfl)) (w_V v_oN (c_slP rfl fun a59 => (by exact (c_opP (v := fun a60 => eA a60) rfl rfl (fun _ h => h) fun a60 => (rk_ok (c_rt (kf_p (e := eA) hM))))))))))))))))))))))))))))))))))))))) (tl_nilS (ts_ite (w_V (v_B (v_op (v_var rfl) v_c rfl rfl rfl)) (c_br (tl_retS (ts_ret (w_co (w_op (w_sl (w_V (v_var rfl) (w_V v_oN (w_V (v_oS (v_var rfl)) (c_slP rfl fun a61 => (w_sl (w_V (v_var rfl) (w_V (v_oS (v_op (v_var rfl) v_c rfl rfl rfl)) (w_V v_oN (c_slP rfl fun a62 => (by exact (c_opP (v := fun a63 => eA a63) rfl rfl (fun _ h => h) fun a63 => (rk_ok (c_rt (kf_p (e := eA) hM))))))))))))))))))) (tl_nilS (ts_ite (w_V (v_B (v_op (v_var rfl) v_c rfl rfl rfl)) (c_br (tl_retS (ts_ret (w_co (w_op (w_op (w_sl (w_V (v_var rfl) (w_V v_oN (w_V (v_oS (v_var rfl)) (c_slP rfl fun a64 => (w_tup (w_cons (w_call (w_V (v_cons (v_var rfl) v_nil) (have hq := (rr_potW (c := potC a54.2) (m := fun (a : D × List Int) => potC a.2) (ext := []) hk (q__law_odd (hM.app (ext := []) rfl) (lt_app hk) a54.2 )); c_call rfl hq fun a65 => (w_nil (c_tup rfl rfl (by exact (c_opP (v := fun a66 => eA a66) rfl rfl (fun _ h => h) fun a66 => (w_sl (w_V (v_var rfl) (w_V (v_oS (v_var rfl)) (w_V v_oN (c_slP rfl fun a67 => (by exact (c_opP (v := fun a68 => eA a68) rfl rfl (fun _ h => h) fun a68 => (rk_ok (c_rt (kf_p (e := eA) hM))))))))))))))))))))))))))))) (tl_nilS (ts_ite (w_V (v_B (v_op (v_var rfl) v_c rfl rfl rfl)) (c_br (tl_retS (ts_ret (w_co (w_op (w_op (w_sl (w_V (v_var rfl) (w_V v_oN (w_V (v_oS (v_var rfl)) (c_slP rfl fun a69 => (w_tup (w_cons (w_call (w_V (v_cons (v_var rfl) v_nil) (have hq := (rr_potW (c := potC a54.2) (m := fun (a : D × List Int) => potC a.2) (ext := []) hk (q__law_odd (hM.app (ext := []) rfl) (lt_app hk) a54.2 )); c_call rfl hq fun a70 => (w_nil (c_tup rfl rfl (by exact (c_opP (v := fun a71 => eA a71) rfl rfl (fun _ h => h) fun a71 => (w_sl (w_V (v_var rfl) (w_V (v_oS (v_op (v_var rfl) v_c rfl rfl rfl)) (w_V v_oN (c_slP rfl fun a72 => (by exact (c_opP (v := fun a73 => eA a73) rfl rfl (fun _ h => h) fun a73 => (rk_ok (c_rt (kf_p (e := eA) hM))))))))))))))))))))))))))))) (tl_nilS (ts_ret (w_co (w_fro (w_cn (w_V (v_cons (v_var rfl) v_nil) (c_cnP (v := fun l74 => l74.map eA) rfl (fun _ h => g_listA h) fun l74 => (rk_ok (c_rt (kf_p (e := eA) hM)))))))))))))))))))))))))⟩)))))))))))))))))))))
theorem q__law_bent {M : Sto} {k : Nat} (hM : Cl M) (hk : k < M.length) (p0 : List Int) (y1 : D) : Rr (f__law_bent [W.loc k, W.d (eA y1)] (M.set k (potC p0))) (p__law_bent p0 y1) (fun r : D × List Int => W.d (eA r.1)) (fun r => M.set k (potC r.2)) := by
  have key : ∀ n, ∀ {M : Sto} {k : Nat} (hM : Cl M) (hk : k < M.length) (p0 : List Int) (y1 : D), Rr (fuelF (fun ψ => body 4 (g__law_bent ψ)) n [W.loc k, W.d (eA y1)] (M.set k (potC p0))) (fuelP (fun _ _ => none) pb__law_bent n p0 y1) (fun r : D × List Int => W.d (eA r.1)) (fun r => M.set k (potC r.2)) := fun n => by
    induction n with
    | zero => intro M k hM hk p0 y1 a ha; cases ha
    | succ n ih => intro M k hM hk p0 y1; exact qb__law_bent _ _ (fun hM hk p0 y1 => ih hM hk p0 y1) hM hk p0 y1
  exact key 24 hM hk p0 y1
def p_is_count (y0 : D) : Option Bool :=
  (Option.bind ((Option.bind (p_is_whole y0) fun a90 => (if a90 = true then (Option.bind (blO (gGe (eA y0) (eI 0))) fun a91 => (some a91)) else (some false))) : Option Bool) fun a92 => (some a92))
set_option maxHeartbeats 0 in
theorem q_is_count {M : Sto} (hM : Cl M) (y0 : D) : Rr (f_is_count [W.d (eA y0)] M) (p_is_count y0) (fun r : Bool => W.d (eB r)) (fun _ => M) :=
  body_ofP rfl (show TL _ _ (g_is_count) (p_is_count y0) (KF M.length (fun r : Bool => W.d (eB r)) (fun _ => M)) from (ts_ret (w_co (w_E (v := (fun a92 => W.d (eB a92))) (m := (fun a92 => (M ++ ([] : Sto)))) (e_ofW (w_and (w_call (w_V (v_cons (v_var rfl) v_nil) (have hq := (q_is_whole (hM.app (ext := []) rfl) y0); c_call rfl hq fun a90 => ⟨_, rfl, c_br (w_op (w_V (v_var rfl) (w_V v_c (c_opP (v := fun a91 => eB a91) rfl rfl (fun _ h => blO_eq h) fun a91 => (c_end (c := a91) rfl rfl))))) (c_end (c := false) rfl rfl)⟩))))) fun a92 => (rk_ok (c_rt (kf_m (e := eB) hM)))))))
def p_is_wish (y0 : D) : Option Bool :=
  (Option.bind ((Option.bind (pIsi (eA y0) (eA (D.ty "tuple"))) fun a96 => (if (!a96) = true then (some true) else (Option.bind (pLenA (eA y0)) fun a97 => (if (!(decide (a97 = 2))) = true then (some true) else (Option.bind (gIx (eA y0) (eI 0)) fun a98 => (Option.bind (p_is_count a98) fun a99 => (if (!a99) = true then (some true) else (Option.bind (gIx (eA y0) (eI 0)) fun a100 => (Option.bind (eqD (eA a100) (eI 0)) fun a101 => (some a101)))))))))) : Option Bool) fun a102 => (if a102 = true then (some false) else (Option.bind (gIx (eA y0) (eI 1)) fun a103 => (Option.bind ((Option.bind (pIsi (eA a103) (eA (D.ty "tuple"))) fun a104 => (if a104 = true then (Option.bind ((Option.bind (pLenA (eA a103)) fun a105 => (if (decide (1 ≤ a105)) = true then (some (decide (a105 ≤ 12))) else (some false))) : Option Bool) fun a106 => (if a106 = true then (Option.bind (itA a103) fun l107 => (Option.bind (lcO l107 (fun (x108 : D) => ((Option.bind (p_is_count x108) fun a111 => (some a111)) : Option Bool))) fun l109 => (some (List.all l109 id)))) else (some false))) else (some false))) : Option Bool) fun a112 => (some a112)))))
set_option maxHeartbeats 0 in
theorem q_is_wish {M : Sto} (hM : Cl M) (y0 : D) : Rr (f_is_wish [W.d (eA y0)] M) (p_is_wish y0) (fun r : Bool => W.d (eB r)) (fun _ => M) :=
  body_ofP rfl (show TL _ _ (g_is_wish) (p_is_wish y0) (KF M.length (fun r : Bool => W.d (eB r)) (fun _ => M)) from (ts_ite (w_E (v := fun a102 => a102) (m := fun a102 => (M ++ ([] : Sto))) (e_ofW (w_orT (w_notT (w_B (w_co (w_cb (w_V (v_cons (v_var rfl) (v_cons v_c v_nil)) (c_cbP (v := fun a96 => eB a96) rfl (fun _ h => g_isiO h) fun a96 => (rk_ok ⟨_, rfl, (c_br (c_end (c := true) rfl rfl) (w_orT (w_B (w_co (w_op (w_cb (w_V (v_cons (v_var rfl) v_nil) (c_cbP (v := fun a97 => eI a97) rfl (fun _ h => g_lenO h) fun a97 => (w_V v_c (c_op rfl rfl rfl (rk_ok ⟨_, rfl, (c_br (c_end (c := true) rfl rfl) (w_orT (w_notT (w_B (w_co (w_call (w_cons (w_co (w_op (w_V (v_var rfl) (w_V v_c (by exact (c_opP (v := fun a98 => eA a98) rfl rfl (fun _ h => h) fun a98 => (rk_ok (w_nil (have hq := (q_is_count (hM.app (ext := []) rfl) a98); c_call rfl hq fun a99 => (rk_ok ⟨_, rfl, (c_br (c_end (c := true) rfl rfl) (w_B (w_co (w_op (w_op (w_V (v_var rfl) (w_V v_c (by exact (c_opP (v := fun a100 => eA a100) rfl rfl (fun _ h => h) fun a100 => (w_V v_c (c_opP (v := fun a101 => eB a101) rfl rfl (fun _ h => g_eq h) fun a101 => (rk_ok ⟨_, rfl, (c_end (c := a101) rfl rfl)⟩))))))))))))⟩)))))))))))))))))⟩)))))))))))⟩))))))))) fun a102 => (c_br (tl_retS (ts_ret (w_V v_c (c_rt (kf_m (e := eB) hM))))) (tl_nilS (ts_set (w_op (w_V (v_var rfl) (w_V v_c (by exact (c_opP (v := fun a103 => eA a103) rfl rfl (fun _ h => h) fun a103 => (ts_ret (w_co (w_E (v := (fun a112 => W.d (eB a112))) (m := (fun a112 => (M ++ ([] : Sto)))) (e_ofW (w_and (w_cb (w_V (v_cons (v_var rfl) (v_cons v_c v_nil)) (c_cbP (v := fun a104 => eB a104) rfl (fun _ h => g_isiO h) fun a104 => ⟨_, rfl, c_br (w_and (w_E (v := (fun a106 => W.d (eB a106))) (m := (fun a106 => (M ++ ([] : Sto)))) (e_ofW (w_chain (w_V v_c (w_cb (w_V (v_cons (v_var rfl) v_nil) (c_cbP (v := fun a105 => eI a105) rfl (fun _ h => g_lenO h) fun a105 => (c_ch rfl rfl rfl (c_br (w_V v_c (c_op rfl rfl rfl (c_end (c := (decide (a105 ≤ 12))) rfl rfl))) (c_end (c := false) rfl rfl))))))))) fun a106 => ⟨_, rfl, c_br (w_cb (w_cons (w_fro (w_lc (e := eI) (w_seqI (w_V (v_var rfl) (c_itA fun l107 => (w_E (e_lcO (Γb := (fun x108 => [some (W.d (eA y0)), some (W.d (eA a103)), some (W.d (eA x108))])) (e := eA) (e' := eB) i_const (fun x108 δ h => ⟨_, rfl, (h.set (i := 2) (w := W.d (eA x108)))⟩) (fun x108 => e_ofW (w_call (w_V (v_cons (v_var rfl) v_nil) (have hq := (q_is_count (hM.app (ext := []) rfl) x108); c_call rfl hq fun a111 => (c_end (c := a111) rfl rfl)))))) fun l109 => (w_nil (c_cb rfl g_all (c_end (c := (List.all l109 id)) rfl rfl))))))))))) (c_end (c := false) rfl rfl)⟩)) (c_end (c := false) rfl rfl)⟩))))) fun a112 => (rk_ok (c_rt (kf_m (e := eB) hM)))))))))))))))))
def p_is_letter (y0 : D) : Option Bool :=
  (Option.bind ((Option.bind (pIsi (eA y0) (eA (D.ty "tuple"))) fun a78 => (if (!a78) = true then (some true) else (Option.bind (pLenA (eA y0)) fun a79 => (if (decide (a79 = 0)) = true then (some true) else (Option.bind (gIx (eA y0) (eI 0)) fun a80 => (Option.bind (pIsi (eA a80) (eA (D.ty "str"))) fun a81 => (some (!a81)))))))) : Option Bool) fun a82 => (if a82 = true then (some false) else (Option.bind (gIx (eA y0) (eI 0)) fun a83 => (Option.bind (pKGet [(("ask" : Str), 4), (("leave" : Str), 4), (("word" : Str), 2)] (eA a83) 0) fun a84 => (Option.bind (pLenA (eA y0)) fun a85 => (if (!(decide (a84 = a85))) = true then (some false) else (Option.bind (gSlT (eA y0) (some 1) (some (-1))) fun a86 => (Option.bind (itA a86) fun l87 => (Option.bind (lcO l87 (fun (x88 : D) => ((Option.bind (p_is_count x88) fun a94 => (some a94)) : Option Bool))) fun l89 => (if (!(List.all l89 id)) = true then (some false) else (Option.bind ((Option.bind (gIx (eA y0) (eI (-1))) fun a95 => (Option.bind (p_is_wish a95) fun a113 => (if a113 = true then (some true) else (Option.bind (gIx (eA y0) (eI (-1))) fun a114 => (Option.bind (blO (gIsN (eA a114) .non)) fun a115 => (if a115 = true then (Option.bind (gIx (eA y0) (eI 0)) fun a116 => (Option.bind (eqD (eA a116) (eS ("word" : Str))) fun a117 => (some (!a117)))) else (some false))))))) : Option Bool) fun a118 => (some a118))))))))))))
set_option maxHeartbeats 0 in
theorem q_is_letter {M : Sto} (hM : Cl M) (y0 : D) : Rr (f_is_letter [W.d (eA y0)] M) (p_is_letter y0) (fun r : Bool => W.d (eB r)) (fun _ => M) :=
  body_ofP rfl (show TL _ _ (g_is_letter) (p_is_letter y0) (KF M.length (fun r : Bool => W.d (eB r)) (fun _ => M)) from (ts_ite (w_E (v := fun a82 => a82) (m := fun a82 => (M ++ ([] : Sto))) (e_ofW (w_orT (w_notT (w_B (w_co (w_cb (w_V (v_cons (v_var rfl) (v_cons v_c v_nil)) (c_cbP (v := fun a78 => eB a78) rfl (fun _ h => g_isiO h) fun a78 => (rk_ok ⟨_, rfl, (c_br (c_end (c := true) rfl rfl) (w_orT (w_B (w_co (w_op (w_cb (w_V (v_cons (v_var rfl) v_nil) (c_cbP (v := fun a79 => eI a79) rfl (fun _ h => g_lenO h) fun a79 => (w_V v_c (c_op rfl rfl rfl (rk_ok ⟨_, rfl, (c_br (c_end (c := true) rfl rfl) (w_notT (w_B (w_co (w_cb (w_cons (w_op (w_V (v_var rfl) (w_V v_c (by exact (c_opP (v := fun a80 => eA a80) rfl rfl (fun _ h => h) fun a80 => (w_V (v_cons v_c v_nil) (c_cbP (v := fun a81 => eB a81) rfl (fun _ h => g_isiO h) fun a81 => (rk_ok ⟨_, rfl, (c_end (c := (!a81)) rfl rfl)⟩))))))))))))))⟩)))))))))))⟩))))))))) fun a82 => (c_br (tl_retS (ts_ret (w_V v_c (c_rt (kf_m (e := eB) hM))))) (tl_nilS (ts_ite (w_B (w_co (w_op (w_op (w_op (w_V (v_var rfl) (w_V v_c (by exact (c_opP (v := fun a83 => eA a83) rfl rfl (fun _ h => h) fun a83 => (w_V v_c (c_opP (v := fun a84 => eI a84) rfl rfl (fun _ h => g_kget h) fun a84 => (w_cb (w_V (v_cons (v_var rfl) v_nil) (c_cbP (v := fun a85 => eI a85) rfl (fun _ h => g_lenO h) fun a85 => (c_op rfl rfl rfl (rk_ok ⟨_, rfl, (c_br (tl_retS (ts_ret (w_V v_c (c_rt (kf_m (e := eB) hM))))) (tl_nilS (ts_ite (w_notT (w_B (w_co (w_cb (w_cons (w_fro (w_lc (e := eI) (w_seqI (w_sl (w_V (v_var rfl) (w_V (v_oS v_c) (w_V (v_oS (v_un v_c rfl rfl)) (c_slP rfl fun a86 => (c_itA fun l87 => (w_E (e_lcO (Γb := (fun x88 => [some (W.d (eA y0)), some (W.d (eA x88))])) (e := eA) (e' := eB) i_const (fun x88 δ h => ⟨_, rfl, (h.set (i := 1) (w := W.d (eA x88)))⟩) (fun x88 => e_ofW (w_call (w_V (v_cons (v_var rfl) v_nil) (have hq := (q_is_count (hM.app (ext := []) rfl) x88); c_call rfl hq fun a94 => (c_end (c := a94) rfl rfl)))))) fun l89 => (w_nil (c_cb rfl g_all (rk_ok ⟨_, rfl, (c_br (tl_retS (ts_ret (w_V v_c (c_rt (kf_m (e := eB) hM))))) (tl_nilS (ts_ret (w_co (w_E (v := (fun a118 => W.d (eB a118))) (m := (fun a118 => (M ++ ([] : Sto)))) (e_ofW (w_or (w_call (w_cons (w_co (w_op (w_V (v_var rfl) (w_V (v_un v_c rfl rfl) (by exact (c_opP (v := fun a95 => eA a95) rfl rfl (fun _ h => h) fun a95 => (rk_ok (w_nil (have hq := (q_is_wish (hM.app (ext := []) rfl) a95); c_call rfl hq fun a113 => ⟨_, rfl, c_br (c_end (c := true) rfl rfl) (w_and (w_op (w_op (w_V (v_var rfl) (w_V (v_un v_c rfl rfl) (by exact (c_opP (v := fun a114 => eA a114) rfl rfl (fun _ h => h) fun a114 => (w_V v_c (c_opP (v := fun a115 => eB a115) rfl rfl (fun _ h => blO_eq h) fun a115 => ⟨_, rfl, c_br (w_op (w_op (w_V (v_var rfl) (w_V v_c (by exact (c_opP (v := fun a116 => eA a116) rfl rfl (fun _ h => h) fun a116 => (w_V v_c (c_opP (v := fun a117 => eB (!a117)) rfl rfl (fun _ h => g_ne h) fun a117 => (c_end (c := (!a117)) rfl rfl))))))))) (c_end (c := false) rfl rfl)⟩)))))))))⟩))))))))))))) fun a118 => (rk_ok (c_rt (kf_m (e := eB) hM))))))))⟩)))))))))))))))))))))⟩))))))))))))))))))))))
def p__law_is_whole_A (y0 : D) : Option Bool :=
  (Option.bind ((Option.bind (pIsi (eA y0) (eA (D.ty "int"))) fun a133 => (if a133 = true then (Option.bind (pIsi (eA y0) (eA (D.ty "bool"))) fun a134 => (some (!a134))) else (some false))) : Option Bool) fun a135 => (some a135))
set_option maxHeartbeats 0 in
theorem q__law_is_whole_A {M : Sto} (hM : Cl M) (y0 : D) : Rr (f__law_is_whole [W.d (eA y0)] M) (p__law_is_whole_A y0) (fun r : Bool => W.d (eB r)) (fun _ => M) :=
  body_ofP rfl (show TL _ _ (g__law_is_whole) (p__law_is_whole_A y0) (KF M.length (fun r : Bool => W.d (eB r)) (fun _ => M)) from (ts_ret (w_co (w_E (v := (fun a135 => W.d (eB a135))) (m := (fun a135 => (M ++ ([] : Sto)))) (e_ofW (w_and (w_cb (w_V (v_cons (v_var rfl) (v_cons v_c v_nil)) (c_cbP (v := fun a133 => eB a133) rfl (fun _ h => g_isiO h) fun a133 => ⟨_, rfl, c_br (w_not (w_cb (w_V (v_cons (v_var rfl) (v_cons v_c v_nil)) (c_cbP (v := fun a134 => eB a134) rfl (fun _ h => g_isiO h) fun a134 => ⟨_, rfl, (c_end (c := (!a134)) rfl rfl)⟩)))) (c_end (c := false) rfl rfl)⟩))))) fun a135 => (rk_ok (c_rt (kf_m (e := eB) hM)))))))
def p__law_is_count (y0 : D) : Option Bool :=
  (Option.bind ((Option.bind (p__law_is_whole_A y0) fun a136 => (if a136 = true then (Option.bind (blO (gGe (eA y0) (eI 0))) fun a137 => (some a137)) else (some false))) : Option Bool) fun a138 => (some a138))
set_option maxHeartbeats 0 in
theorem q__law_is_count {M : Sto} (hM : Cl M) (y0 : D) : Rr (f__law_is_count [W.d (eA y0)] M) (p__law_is_count y0) (fun r : Bool => W.d (eB r)) (fun _ => M) :=
  body_ofP rfl (show TL _ _ (g__law_is_count) (p__law_is_count y0) (KF M.length (fun r : Bool => W.d (eB r)) (fun _ => M)) from (ts_ret (w_co (w_E (v := (fun a138 => W.d (eB a138))) (m := (fun a138 => (M ++ ([] : Sto)))) (e_ofW (w_and (w_call (w_V (v_cons (v_var rfl) v_nil) (have hq := (q__law_is_whole_A (hM.app (ext := []) rfl) y0); c_call rfl hq fun a136 => ⟨_, rfl, c_br (w_op (w_V (v_var rfl) (w_V v_c (c_opP (v := fun a137 => eB a137) rfl rfl (fun _ h => blO_eq h) fun a137 => (c_end (c := a137) rfl rfl))))) (c_end (c := false) rfl rfl)⟩))))) fun a138 => (rk_ok (c_rt (kf_m (e := eB) hM)))))))
def p__law_is_wish (y0 : D) : Option Bool :=
  (Option.bind ((Option.bind (pIsi (eA y0) (eA (D.ty "tuple"))) fun a130 => (if (!a130) = true then (some true) else (Option.bind (pLenA (eA y0)) fun a131 => (if (!(decide (a131 = 2))) = true then (some true) else (Option.bind (gIx (eA y0) (eI 0)) fun a132 => (Option.bind (p__law_is_count a132) fun a139 => (if (!a139) = true then (some true) else (Option.bind (gIx (eA y0) (eI 0)) fun a140 => (Option.bind (eqD (eA a140) (eI 0)) fun a141 => (some a141)))))))))) : Option Bool) fun a142 => (if a142 = true then (some false) else (Option.bind ((Option.bind (gIx (eA y0) (eI 1)) fun a143 => (Option.bind (pIsi (eA a143) (eA (D.ty "tuple"))) fun a144 => (if (!a144) = true then (some true) else (Option.bind ((Option.bind (gIx (eA y0) (eI 1)) fun a145 => (Option.bind (pLenA (eA a145)) fun a146 => (if (decide (0 < a146)) = true then (some (decide (a146 < 13))) else (some false)))) : Option Bool) fun a147 => (some (!a147)))))) : Option Bool) fun a148 => (if a148 = true then (some false) else (Option.bind (gIx (eA y0) (eI 1)) fun a149 => (Option.bind (itA a149) fun l150 => (Option.bind (lcO l150 (fun (x151 : D) => ((Option.bind (p__law_is_count x151) fun a154 => (some a154)) : Option Bool))) fun l152 => (some (List.all l152 id)))))))))
set_option maxHeartbeats 0 in
theorem q__law_is_wish {M : Sto} (hM : Cl M) (y0 : D) : Rr (f__law_is_wish [W.d (eA y0)] M) (p__law_is_wish y0) (fun r : Bool => W.d (eB r)) (fun _ => M) :=
  body_ofP rfl (show TL _ _ (g__law_is_wish) (p__law_is_wish y0) (KF M.length (fun r : Bool => W.d (eB r)) (fun _ => M)) from (ts_ite (w_E (v := fun a142 => a142) (m := fun a142 => (M ++ ([] : Sto))) (e_ofW (w_orT (w_notT (w_B (w_co (w_cb (w_V (v_cons (v_var rfl) (v_cons v_c v_nil)) (c_cbP (v := fun a130 => eB a130) rfl (fun _ h => g_isiO h) fun a130 => (rk_ok ⟨_, rfl, (c_br (c_end (c := true) rfl rfl) (w_orT (w_B (w_co (w_op (w_cb (w_V (v_cons (v_var rfl) v_nil) (c_cbP (v := fun a131 => eI a131) rfl (fun _ h => g_lenO h) fun a131 => (w_V v_c (c_op rfl rfl rfl (rk_ok ⟨_, rfl, (c_br (c_end (c := true) rfl rfl) (w_orT (w_notT (w_B (w_co (w_call (w_cons (w_co (w_op (w_V (v_var rfl) (w_V v_c (by exact (c_opP (v := fun a132 => eA a132) rfl rfl (fun _ h => h) fun a132 => (rk_ok (w_nil (have hq := (q__law_is_count (hM.app (ext := []) rfl) a132); c_call rfl hq fun a139 => (rk_ok ⟨_, rfl, (c_br (c_end (c := true) rfl rfl) (w_B (w_co (w_op (w_op (w_V (v_var rfl) (w_V v_c (by exact (c_opP (v := fun a140 => eA a140) rfl rfl (fun _ h => h) fun a140 => (w_V v_c (c_opP (v := fun a141 => eB a141) rfl rfl (fun _ h => g_eq h) fun a141 => (rk_ok ⟨_, rfl, (c_end (c := a141) rfl rfl)⟩))))))))))))⟩)))))))))))))))))⟩)))))))))))⟩))))))))) fun a142 => (c_br (tl_retS (ts_ret (w_V v_c (c_rt (kf_m (e := eB) hM))))) (tl_nilS (ts_ite (w_E (v := fun a148 => a148) (m := fun a148 => (M ++ ([] : Sto))) (e_ofW (w_orT (w_notT (w_B (w_co (w_cb (w_cons (w_op (w_V (v_var rfl) (w_V v_c (by exact (c_opP (v := fun a143 => eA a143) rfl rfl (fun _ h => h) fun a143 => (w_V (v_cons v_c v_nil) (c_cbP (v := fun a144 => eB a144) rfl (fun _ h => g_isiO h) fun a144 => (rk_ok ⟨_, rfl, (c_br (c_end (c := true) rfl rfl) (w_notT (w_B (w_co (w_E (v := (fun a147 => W.d (eB a147))) (m := (fun a147 => (M ++ ([] : Sto)))) (e_ofW (w_chain (w_V v_c (w_cb (w_cons (w_op (w_V (v_var rfl) (w_V v_c (by exact (c_opP (v := fun a145 => eA a145) rfl rfl (fun _ h => h) fun a145 => (w_nil (c_cbP (v := fun a146 => eI a146) rfl (fun _ h => g_lenO h) fun a146 => (c_ch rfl rfl rfl (c_br (w_V v_c (c_op rfl rfl rfl (c_end (c := (decide (a146 < 13))) rfl rfl))) (c_end (c := false) rfl rfl))))))))))))))) fun a147 => (rk_ok ⟨_, rfl, (c_end (c := (!a147)) rfl rfl)⟩))))))⟩))))))))))))))) fun a148 => (c_br (tl_retS (ts_ret (w_V v_c (c_rt (kf_m (e := eB) hM))))) (tl_nilS (ts_ret (w_co (w_cb (w_cons (w_fro (w_lc (e := eI) (w_seqI (w_op (w_V (v_var rfl) (w_V v_c (by exact (c_opP (v := fun a149 => eA a149) rfl rfl (fun _ h => h) fun a149 => (c_itA fun l150 => (w_E (e_lcO (Γb := (fun x151 => [some (W.d (eA y0)), some (W.d (eA x151))])) (e := eA) (e' := eB) i_const (fun x151 δ h => ⟨_, rfl, (h.set (i := 1) (w := W.d (eA x151)))⟩) (fun x151 => e_ofW (w_call (w_V (v_cons (v_var rfl) v_nil) (have hq := (q__law_is_count (hM.app (ext := []) rfl) x151); c_call rfl hq fun a154 => (c_end (c := a154) rfl rfl)))))) fun l152 => (w_nil (c_cb rfl g_all (rk_ok (c_rt (kf_m (e := eB) hM))))))))))))))))))))))))))))
def p__law_due (y0 : D) : Option Bool :=
  (Option.bind ((Option.bind (pIsi (eA y0) (eA (D.ty "tuple"))) fun a121 => (if (!a121) = true then (some true) else (Option.bind (blO (gEq0 (eA y0) ((fun (_ : Unit) => D.tup []) ()))) fun a122 => (if a122 = true then (some true) else (Option.bind (gIx (eA y0) (eI 0)) fun a123 => (Option.bind (pIsi (eA a123) (eA (D.ty "str"))) fun a124 => (some (!a124)))))))) : Option Bool) fun a125 => (if a125 = true then (some false) else (Option.bind (gIx (eA y0) (eI 0)) fun a126 => (Option.bind (eqD (eA a126) (eS ("word" : Str))) fun a127 => (if a127 = true then (Option.bind ((Option.bind (pLenA (eA y0)) fun a128 => (if (decide (a128 = 2)) = true then (Option.bind (gIx (eA y0) (eI 1)) fun a129 => (Option.bind (p__law_is_wish a129) fun a155 => (some a155))) else (some false))) : Option Bool) fun a156 => (some a156)) else (Option.bind ((Option.bind (gIx (eA y0) (eI 0)) fun a157 => (Option.bind (pIn true (eA a157) ((eP2 eS eS) (("ask" : Str), ("leave" : Str)))) fun a158 => (if a158 = true then (some true) else (Option.bind (pLenA (eA y0)) fun a159 => (some (!(decide (a159 = 4)))))))) : Option Bool) fun a160 => (if a160 = true then (some false) else (Option.bind ((Option.bind (gIx (eA y0) (eI 1)) fun a161 => (Option.bind (p__law_is_count a161) fun a162 => (if (!a162) = true then (some true) else (Option.bind (gIx (eA y0) (eI 2)) fun a163 => (Option.bind (p__law_is_count a163) fun a164 => (some (!a164))))))) : Option Bool) fun a165 => (if a165 = true then (some false) else (Option.bind ((Option.bind (gIx (eA y0) (eI 3)) fun a166 => (Option.bind (blO (gIsN (eA a166) .non)) fun a167 => (if a167 = true then (some true) else (Option.bind (gIx (eA y0) (eI 3)) fun a168 => (Option.bind (p__law_is_wish a168) fun a169 => (some a169)))))) : Option Bool) fun a170 => (some a170)))))))))))
set_option maxHeartbeats 0 in
theorem q__law_due {M : Sto} (hM : Cl M) (y0 : D) : Rr (f__law_due [W.d (eA y0)] M) (p__law_due y0) (fun r : Bool => W.d (eB r)) (fun _ => M) :=
  body_ofP rfl (show TL _ _ (g__law_due) (p__law_due y0) (KF M.length (fun r : Bool => W.d (eB r)) (fun _ => M)) from (ts_ite (w_E (v := fun a125 => a125) (m := fun a125 => (M ++ ([] : Sto))) (e_ofW (w_orT (w_notT (w_B (w_co (w_cb (w_V (v_cons (v_var rfl) (v_cons v_c v_nil)) (c_cbP (v := fun a121 => eB a121) rfl (fun _ h => g_isiO h) fun a121 => (rk_ok ⟨_, rfl, (c_br (c_end (c := true) rfl rfl) (w_orT (w_B (w_co (w_op (w_V (v_var rfl) (w_V (v_tup v_nil rfl rfl) (c_opP (v := fun a122 => eB a122) rfl rfl (fun _ h => blO_eq h) fun a122 => (rk_ok ⟨_, rfl, (c_br (c_end (c := true) rfl rfl) (w_notT (w_B (w_co (w_cb (w_cons (w_op (w_V (v_var rfl) (w_V v_c (by exact (c_opP (v := fun a123 => eA a123) rfl rfl (fun _ h => h) fun a123 => (w_V (v_cons v_c v_nil) (c_cbP (v := fun a124 => eB a124) rfl (fun _ h => g_isiO h) fun a124 => (rk_ok ⟨_, rfl, (c_end (c := (!a124)) rfl rfl)⟩))))))))))))))⟩)))))))))⟩))))))))) fun a125 => (c_br (tl_retS (ts_ret (w_V v_c (c_rt (kf_m (e := eB) hM))))) (tl_nilS (ts_ite (w_B (w_co (w_op (w_op (w_V (v_var rfl) (w_V v_c (by exact (c_opP (v := fun a126 => eA a126) rfl rfl (fun _ h => h) fun a126 => (w_V v_c (c_opP (v := fun a127 => eB a127) rfl rfl (fun _ h => g_eq h) fun a127 => (rk_ok ⟨_, rfl, (c_br (tl_retS (ts_ret (w_co (w_E (v := (fun a156 => W.d (eB a156))) (m := (fun a156 => (M ++ ([] : Sto)))) (e_ofW (w_and (w_op (w_cb (w_V (v_cons (v_var rfl) v_nil) (c_cbP (v := fun a128 => eI a128) rfl (fun _ h => g_lenO h) fun a128 => (w_V v_c (c_op rfl rfl rfl ⟨_, rfl, c_br (w_call (w_cons (w_co (w_op (w_V (v_var rfl) (w_V v_c (by exact (c_opP (v := fun a129 => eA a129) rfl rfl (fun _ h => h) fun a129 => (rk_ok (w_nil (have hq := (q__law_is_wish (hM.app (ext := []) rfl) a129); c_call rfl hq fun a155 => (c_end (c := a155) rfl rfl)))))))))))) (c_end (c := false) rfl rfl)⟩)))))))) fun a156 => (rk_ok (c_rt (kf_m (e := eB) hM))))))) (tl_nilS (ts_ite (w_E (v := fun a160 => a160) (m := fun a160 => (M ++ ([] : Sto))) (e_ofW (w_orT (w_B (w_co (w_op (w_op (w_V (v_var rfl) (w_V v_c (by exact (c_opP (v := fun a157 => eA a157) rfl rfl (fun _ h => h) fun a157 => (w_V (v_tup (v_cons v_c (v_cons v_c v_nil)) rfl rfl) (c_opP (v := fun a158 => eB a158) rfl rfl (fun _ h => g_inO h) fun a158 => (rk_ok ⟨_, rfl, (c_br (c_end (c := true) rfl rfl) (w_B (w_co (w_op (w_cb (w_V (v_cons (v_var rfl) v_nil) (c_cbP (v := fun a159 => eI a159) rfl (fun _ h => g_lenO h) fun a159 => (w_V v_c (c_op rfl rfl rfl (rk_ok ⟨_, rfl, (c_end (c := (!(decide (a159 = 4)))) rfl rfl)⟩))))))))))⟩))))))))))))) fun a160 => (c_br (tl_retS (ts_ret (w_V v_c (c_rt (kf_m (e := eB) hM))))) (tl_nilS (ts_ite (w_E (v := fun a165 => a165) (m := fun a165 => (M ++ ([] : Sto))) (e_ofW (w_orT (w_notT (w_B (w_co (w_call (w_cons (w_co (w_op (w_V (v_var rfl) (w_V v_c (by exact (c_opP (v := fun a161 => eA a161) rfl rfl (fun _ h => h) fun a161 => (rk_ok (w_nil (have hq := (q__law_is_count (hM.app (ext := []) rfl) a161); c_call rfl hq fun a162 => (rk_ok ⟨_, rfl, (c_br (c_end (c := true) rfl rfl) (w_notT (w_B (w_co (w_call (w_cons (w_co (w_op (w_V (v_var rfl) (w_V v_c (by exact (c_opP (v := fun a163 => eA a163) rfl rfl (fun _ h => h) fun a163 => (rk_ok (w_nil (have hq := (q__law_is_count (hM.app (ext := []) rfl) a163); c_call rfl hq fun a164 => (rk_ok ⟨_, rfl, (c_end (c := (!a164)) rfl rfl)⟩))))))))))))))))⟩))))))))))))))))) fun a165 => (c_br (tl_retS (ts_ret (w_V v_c (c_rt (kf_m (e := eB) hM))))) (tl_nilS (ts_ret (w_co (w_E (v := (fun a170 => W.d (eB a170))) (m := (fun a170 => (M ++ ([] : Sto)))) (e_ofW (w_or (w_op (w_op (w_V (v_var rfl) (w_V v_c (by exact (c_opP (v := fun a166 => eA a166) rfl rfl (fun _ h => h) fun a166 => (w_V v_c (c_opP (v := fun a167 => eB a167) rfl rfl (fun _ h => blO_eq h) fun a167 => ⟨_, rfl, c_br (c_end (c := true) rfl rfl) (w_call (w_cons (w_co (w_op (w_V (v_var rfl) (w_V v_c (by exact (c_opP (v := fun a168 => eA a168) rfl rfl (fun _ h => h) fun a168 => (rk_ok (w_nil (have hq := (q__law_is_wish (hM.app (ext := []) rfl) a168); c_call rfl hq fun a169 => (c_end (c := a169) rfl rfl))))))))))))⟩)))))))))) fun a170 => (rk_ok (c_rt (kf_m (e := eB) hM))))))))))))))))⟩)))))))))))))))))
def p_law (y0 : (List Int)) : Option Bool :=
  (Option.bind (pRng 0 (max2 1 (min2 3 (List.length y0 : Int)))) fun r1 => (forR (fun (x2 : Int) (s3 : Unit) => ((Option.bind (p__law_pot y0 x2) fun a6 => (Option.bind (pRng 0 24) fun r7 => (forR (fun (x8 : Int) (s9 : (List Int)) => ((Option.bind (p__law_letter s9) fun a10 => (Option.bind (p__law_of a10.2 ([0, 1, 1, 2])) fun a11 => (Option.bind (pRng 0 a11.1) fun r12 => (Option.bind (forN (fun (x13 : Int) (s14 : (List Int) × D) => (Option.bind (p__law_bent s14.1 s14.2) fun a15 => (some (a15.2, a15.1)))) r12 (a11.2, a10.1)) fun z16 => (Option.bind (pReprE (eA z16.2)) fun a17 => (Option.bind ((Option.bind (p_is_letter z16.2) fun a18 => (Option.bind (pRepr (eB a18)) fun a19 => (Option.bind (p__law_due z16.2) fun a20 => (Option.bind (pRepr (eB a20)) fun a21 => (if (!(decide (a19 = a21))) = true then (some true) else (Option.bind (pReprE (eA z16.2)) fun a22 => (some (!(decide (a22 = a17)))))))))) : Option Bool) fun a23 => (if a23 = true then (some (Ctl.rt false)) else (some (Ctl.go z16.1))))))))) : Option (Ctl ((List Int)) Bool))) r7 a6 (fun z24 => (Option.bind (p__law_odd z24) fun a25 => (forR (fun (x26 : D) (s27 : Unit) => ((Option.bind (p_is_letter x26) fun a28 => (Option.bind (pRepr (eB a28)) fun a29 => (Option.bind (p__law_due x26) fun a30 => (Option.bind (pRepr (eB a30)) fun a31 => (if (!(decide (a29 = a31))) = true then (some (Ctl.rt false)) else (some (Ctl.go ()))))))) : Option (Ctl (Unit) Bool))) ([(eA ((a25.1, ("ask" : Str), (("word" : Str), ()), (("ask" : Str), 0, 0, ()), ([("ask" : Str)], 0, 0, ())).1)), ((eP1 eS) ((a25.1, ("ask" : Str), (("word" : Str), ()), (("ask" : Str), 0, 0, ()), ([("ask" : Str)], 0, 0, ())).2.1)), ((eP2 eS eU) ((a25.1, ("ask" : Str), (("word" : Str), ()), (("ask" : Str), 0, 0, ()), ([("ask" : Str)], 0, 0, ())).2.2.1)), ((eP4 eS eI eI eU) ((a25.1, ("ask" : Str), (("word" : Str), ()), (("ask" : Str), 0, 0, ()), ([("ask" : Str)], 0, 0, ())).2.2.2.1)), ((eP4 (eL eS) eI eI eU) ((a25.1, ("ask" : Str), (("word" : Str), ()), (("ask" : Str), 0, 0, ()), ([("ask" : Str)], 0, 0, ())).2.2.2.2))]) () (fun z32 => (some (Ctl.go ()))) (fun r => some (Ctl.rt r))))) (fun r => some (Ctl.rt r))))) : Option (Ctl (Unit) Bool))) r1 () (fun z33 => (some true)) (fun r => some r)))
set_option maxHeartbeats 0 in
theorem q_law {M : Sto} (hM : Cl M) (y0 : (List Int)) : Rr (f_law [W.d ((eF eI) y0)] M) (p_law y0) (fun r : Bool => W.d (eB r)) (fun _ => M) :=
  body_ofP rfl (show TL _ _ (g_law) (p_law y0) (KF M.length (fun r : Bool => W.d (eB r)) (fun _ => M)) from (ts_for (w_rng1 (w_V (v_cons (v_cb (v_cons v_c (v_cons (v_cb (v_cons v_c (v_cons (v_cb (v_cons (v_var rfl) v_nil) rfl g_lenF) v_nil)) rfl rfl) v_nil)) rfl rfl) v_nil) ⟨_, rfl, c_rng fun r1 => (tl_forCG (Γb := (fun x2 s3 => [some (W.d ((eF eI) y0)), some (W.d (eI x2)), none, none, none, none, none])) (e := eI) (Γl := (fun (s3 : Unit) => [some (W.d ((eF eI) y0)), none, none, none, none, none, none])) (m := (fun (s3 : Unit) => M)) (κr := (KF M.length (fun r : Bool => W.d (eB r)) (fun _ => M))) (G0 := []) i_const (Le.keep (Le.drop (Le.drop (Le.drop (Le.drop (Le.drop (Le.drop Le.nil))))))) rfl rfl (fun x2 s3 δ h => ⟨_, rfl, (h.set (i := 1) (w := W.d (eI x2)))⟩) (fun x2 s3 G4 hG4 => (tl_re0 (ts_new (w_callN (w_V (v_cons (v_var rfl) (v_cons (v_var rfl) v_nil)) (have hq := (q__law_pot ((hM.app hG4).app (ext := []) rfl) y0 x2); c_call rfl hq fun a6 => (c_new (i := 2) rfl (ts_for (w_rng1 (w_V (v_cons v_c v_nil) ⟨_, rfl, c_rng fun r7 => (tl_forC (Γb := (fun (x8 : Int) (s9 : (List Int)) => [some (W.d ((eF eI) y0)), some (W.d (eI x2)), some (W.loc ((M ++ G4).length + 0)), some (W.d (eI x8)), none, none, none])) (e := eI) (Γl := (fun (s9 : (List Int)) => [some (W.d ((eF eI) y0)), some (W.d (eI x2)), some (W.loc ((M ++ G4).length + 0)), none, none, none, none])) (m := (fun (s9 : (List Int)) => ((M ++ G4) ++ ([Cell.lst (s9.map eI)] : Sto)))) (κr := (KF M.length (fun r : Bool => W.d (eB r)) (fun _ => M))) i_const (Le.keep (Le.keep (Le.keep (Le.drop (Le.drop (Le.drop (Le.drop Le.nil))))))) rfl (fun x8 s9 δ h => ⟨_, rfl, (h.set (i := 3) (w := W.d (eI x8)))⟩) (fun x8 s9 => (ts_set (w_call (w_V (v_cons (v_var rfl) v_nil) (have hq := (rr_potLW (c := potC s9) (m := fun (a : D × List Int) => potC a.2) (ext := [Cell.lst (s9.map eI)]) (B := (M ++ G4)) (n := (M ++ G4).length) (j := 0) rfl rfl (q__law_letter ((hM.app hG4).app (ext := [Cell.lst (s9.map eI)]) rfl) (lt_ext (B := (M ++ G4)) (ext := [Cell.lst (s9.map eI)]) (n := (M ++ G4).length) (j := 0) rfl (by simp)) s9 )); c_call rfl hq fun a10 => (ts_for (w_rng1 (w_cons (w_call (w_V (v_cons (v_var rfl) (v_cons (v_fro (v_lst (v_cons v_c (v_cons v_c (v_cons v_c (v_cons v_c v_nil)))) rfl rfl)) v_nil)) (have hq := (rr_potLW (c := potC a10.2) (m := fun (a : Int × List Int) => potC a.2) (ext := [Cell.lst (a10.2.map eI)]) (B := (M ++ G4)) (n := (M ++ G4).length) (j := 0) rfl rfl (q__law_of ((hM.app hG4).app (ext := [Cell.lst (a10.2.map eI)]) rfl) (lt_ext (B := (M ++ G4)) (ext := [Cell.lst (a10.2.map eI)]) (n := (M ++ G4).length) (j := 0) rfl (by simp)) a10.2 ([0, 1, 1, 2]))); c_call rfl hq fun a11 => (w_nil ⟨_, rfl, c_rng fun r12 => (tl_seq (se_for (Γb := (fun (x13 : Int) (s14 : (List Int) × D) => [some (W.d ((eF eI) y0)), some (W.d (eI x2)), some (W.loc ((M ++ G4).length + 0)), some (W.d (eI x8)), some (W.d (eA s14.2)), some (W.d (eI x13)), none])) (e := eI) (Γl := (fun (s14 : (List Int) × D) => [some (W.d ((eF eI) y0)), some (W.d (eI x2)), some (W.loc ((M ++ G4).length + 0)), some (W.d (eI x8)), some (W.d (eA s14.2)), none, none])) (m := (fun (s14 : (List Int) × D) => ((M ++ G4) ++ ([Cell.lst (s14.1.map eI)] : Sto)))) i_const (Le.keep (Le.keep (Le.keep (Le.keep (Le.keep (Le.drop (Le.drop Le.nil))))))) rfl (fun x13 s14 δ h => ⟨_, rfl, (h.set (i := 5) (w := W.d (eI x13)))⟩) (fun x13 s14 => (tl_one (ts_set (w_call (w_V (v_cons (v_var rfl) (v_cons (v_var rfl) v_nil)) (have hq := (rr_potLW (c := potC s14.1) (m := fun (a : D × List Int) => potC a.2) (ext := [Cell.lst (s14.1.map eI)]) (B := (M ++ G4)) (n := (M ++ G4).length) (j := 0) rfl rfl (q__law_bent ((hM.app hG4).app (ext := [Cell.lst (s14.1.map eI)]) rfl) (lt_ext (B := (M ++ G4)) (ext := [Cell.lst (s14.1.map eI)]) (n := (M ++ G4).length) (j := 0) rfl (by simp)) s14.1 s14.2)); c_call rfl hq fun a15 => (tl_endG (Γ' := (fun (s14 : (List Int) × D) => [some (W.d ((eF eI) y0)), some (W.d (eI x2)), some (W.loc ((M ++ G4).length + 0)), some (W.d (eI x8)), some (W.d (eA s14.2)), none, none])) (ms := (fun (s14 : (List Int) × D) => ((M ++ G4) ++ ([Cell.lst (s14.1.map eI)] : Sto)))) (s := (a15.2, a15.1)) (Le.keep (Le.keep (Le.keep (Le.keep (Le.keep (Le.drop (Le.drop Le.nil))))))) rfl))))))) (fun _ _ h => nomatch h)) fun z16 => (ts_set (w_cb (w_V (v_cons (v_var rfl) v_nil) (c_cbP (v := fun a17 => eS a17) rfl (fun _ h => g_reprEO h) fun a17 => (ts_iteL (w_E (v := fun a23 => a23) (m := fun a23 => ((M ++ G4) ++ ([Cell.lst (z16.1.map eI)] : Sto))) (e_ofW (w_orT (w_B (w_co (w_op (w_cb (w_cons (w_call (w_V (v_cons (v_var rfl) v_nil) (have hq := (q_is_letter ((hM.app hG4).app (ext := [Cell.lst (z16.1.map eI)]) rfl) z16.2); c_call rfl hq fun a18 => (w_nil (c_cbP (v := fun a19 => eS a19) rfl (fun _ h => g_reprO h) fun a19 => (w_cb (w_cons (w_call (w_V (v_cons (v_var rfl) v_nil) (have hq := (q__law_due ((hM.app hG4).app (ext := [Cell.lst (z16.1.map eI)]) rfl) z16.2); c_call rfl hq fun a20 => (w_nil (c_cbP (v := fun a21 => eS a21) rfl (fun _ h => g_reprO h) fun a21 => (c_op rfl rfl rfl (rk_ok ⟨_, rfl, (c_br (c_end (c := true) rfl rfl) (w_B (w_co (w_op (w_cb (w_V (v_cons (v_var rfl) v_nil) (c_cbP (v := fun a22 => eS a22) rfl (fun _ h => g_reprEO h) fun a22 => (w_V (v_var rfl) (c_op rfl rfl rfl (rk_ok ⟨_, rfl, (c_end (c := (!(decide (a22 = a17)))) rfl rfl)⟩))))))))))⟩))))))))))))))))))))) fun a23 => (c_br (ts_ret (w_V v_c (c_rt (kc_ret (kf_mG (e := eB) hM hG4))))) (tl_endC (Γ' := (fun (s9 : (List Int)) => [some (W.d ((eF eI) y0)), some (W.d (eI x2)), some (W.loc ((M ++ G4).length + 0)), none, none, none, none])) (ms := (fun (s9 : (List Int)) => ((M ++ G4) ++ ([Cell.lst (s9.map eI)] : Sto)))) (s := z16.1) (Le.keep (Le.keep (Le.keep (Le.drop (Le.drop (Le.drop (Le.drop Le.nil))))))) rfl)))))))))⟩)))))))))))) (fun _ _ h => nomatch h) (fun z24 => (tl_one (ts_for (w_seqI (w_tup (w_cons (w_call (w_V (v_cons (v_var rfl) v_nil) (have hq := (rr_potLW (c := potC z24) (m := fun (a : D × List Int) => potC a.2) (ext := [Cell.lst (z24.map eI)]) (B := (M ++ G4)) (n := (M ++ G4).length) (j := 0) rfl rfl (q__law_odd ((hM.app hG4).app (ext := [Cell.lst (z24.map eI)]) rfl) (lt_ext (B := (M ++ G4)) (ext := [Cell.lst (z24.map eI)]) (n := (M ++ G4).length) (j := 0) rfl (by simp)) z24 )); c_call rfl hq fun a25 => (w_V (v_cons (v_tup (v_cons v_c v_nil) rfl rfl) (v_cons (v_tup (v_cons v_c (v_cons v_c v_nil)) rfl rfl) (v_cons (v_tup (v_cons v_c (v_cons v_c (v_cons v_c (v_cons v_c v_nil)))) rfl rfl) (v_cons (v_tup (v_cons (v_fro (v_lst (v_cons v_c v_nil) rfl rfl)) (v_cons v_c (v_cons v_c (v_cons v_c v_nil)))) rfl rfl) v_nil)))) (c_tup rfl rfl (c_it rfl (tl_forC (Γb := (fun (x26 : D) (s27 : Unit) => [some (W.d ((eF eI) y0)), some (W.d (eI x2)), some (W.loc ((M ++ G4).length + 0)), none, some (W.d (eA x26)), none, none])) (e := eA) (Γl := (fun (s27 : Unit) => [some (W.d ((eF eI) y0)), some (W.d (eI x2)), some (W.loc ((M ++ G4).length + 0)), none, none, none, none])) (m := (fun (s27 : Unit) => ((M ++ G4) ++ ([Cell.lst (a25.2.map eI)] : Sto)))) (κr := (KF M.length (fun r : Bool => W.d (eB r)) (fun _ => M))) i_const (Le.keep (Le.keep (Le.keep (Le.drop (Le.drop (Le.drop (Le.drop Le.nil))))))) rfl (fun x26 s27 δ h => ⟨_, rfl, (h.set (i := 4) (w := W.d (eA x26)))⟩) (fun x26 s27 => (ts_iteL (w_B (w_co (w_op (w_cb (w_cons (w_call (w_V (v_cons (v_var rfl) v_nil) (have hq := (q_is_letter ((hM.app hG4).app (ext := [Cell.lst (a25.2.map eI)]) rfl) x26); c_call rfl hq fun a28 => (w_nil (c_cbP (v := fun a29 => eS a29) rfl (fun _ h => g_reprO h) fun a29 => (w_cb (w_cons (w_call (w_V (v_cons (v_var rfl) v_nil) (have hq := (q__law_due ((hM.app hG4).app (ext := [Cell.lst (a25.2.map eI)]) rfl) x26); c_call rfl hq fun a30 => (w_nil (c_cbP (v := fun a31 => eS a31) rfl (fun _ h => g_reprO h) fun a31 => (c_op rfl rfl rfl (rk_ok ⟨_, rfl, (c_br (ts_ret (w_V v_c (c_rt (kc_ret (kf_mG (e := eB) hM hG4))))) (tl_endC (Γ' := (fun (s27 : Unit) => [some (W.d ((eF eI) y0)), some (W.d (eI x2)), some (W.loc ((M ++ G4).length + 0)), none, none, none, none])) (ms := (fun (s27 : Unit) => ((M ++ G4) ++ ([Cell.lst (a25.2.map eI)] : Sto)))) (s := ()) (Le.keep (Le.keep (Le.keep (Le.drop (Le.drop (Le.drop (Le.drop Le.nil))))))) rfl))⟩))))))))))))))))))))) (fun _ _ h => nomatch h) (fun z32 => (tl_endCGm (Γ' := (fun (s3 : Unit) => [some (W.d ((eF eI) y0)), none, none, none, none, none, none])) (s := ()) (Le.keep (Le.drop (Le.drop (Le.drop (Le.drop (Le.drop (Le.drop Le.nil))))))) hG4 rfl)) (fun r c w M1 h1 h2 => by cases h1; exact ⟨h2, _, _, rfl⟩)))))))))))))) (fun r c w M1 h1 h2 => by cases h1; exact ⟨h2, _, _, rfl⟩))⟩)))))))))) (fun z33 G5 hG5 => (tl_re0 (ts_ret (w_V v_c (c_rt (kf_mG (e := eB) hM hG5)))))) (fun r c w M1 h1 h2 => by cases h1; exact h2))⟩))))
end K58
namespace S9
open PySem PySem.Spec PyProof.Rows L2
end S9
namespace N60
open PySem PySem.Spec PyProof.Rows L2 S9
end N60
namespace N60
open PySem PySem.Spec PyProof.Rows L2 S9
end N60
namespace N60
open PySem PySem.Spec PyProof.Rows L2 S9
end N60
namespace N60
open PySem PySem.Spec PyProof.Rows L2 S9
noncomputable def g__law_odd : FS :=
  (sSeq (sSet 2 (fFro (fLst (fCons (fC .non) (fCons (fC (.bl true)) (fCons (fC (.bl false)) (fCons (fC (.int 0)) (fCons (fC (.int 1)) (fCons (fUn gNeg (fC (.int 1))) (fCons (fC (.str "")) (fCons (fC (.str "from")) (fCons (fC (.str "to")) (fCons (fC (.str "barred")) (fCons (fC (.str "ring")) (fCons (fTup fNil) (fCons (fFro (fLst fNil)) (fCons (fC (.dct [] [])) (fCons (fTup (fCons (fC (.int 0)) (fCons (fC (.str "from")) (fCons (fC (.int 0)) fNil)))) (fCons (fOp gPow (fC (.int 10)) (fC (.int 29))) fNil)))))))))))))))))))
    (sSeq (sIf (fB (fCB gIsi (fCons (fVar 1) (fCons (fC (.ty "tuple")) fNil))))
      (sSeq (sSet 3 (fCall0 2 f__law_take (fCons (fVar 0) (fCons (fOp gAdd (fCB gLen (fCons (fVar 1) fNil)) (fC (.int 1))) fNil))))
      (sSeq (sPar 4 5 (fCons (fSl gSlT (fVar 1) oNone (oSome (fVar 3))) (fCons (fSl gSlT (fVar 1) (oSome (fVar 3)) oNone) fNil)))
      (sSeq (sSet 2 (fFro (fOpN gCat (fFro (fSlN gSlL (fVar 2) oNone (oSome (fC (.int 5))))) (fFro (fLst (fCons (fFro (fCN gList (fCons (fVar 1) fNil))) (fCons (fOp gAdd (fVar 4) (fSl gSlT (fVar 5) (oSome (fC (.int 1))) oNone)) (fCons (fOp gAdd (fOp gAdd (fVar 4) (fSl gSlT (fVar 5) oNone (oSome (fC (.int 1))))) (fVar 5)) (fCons (fOp revD (fVar 1) (fUn gNeg (fC (.int 1)))) (fCons (fTup fNil) fNil))))))))))
      (sSet 2 (fFro (fOpN gCat (fVar 2) (fFro (fLst (fCons (fOp gAdd (fVar 1) (fTup (fCons (fC (.int 0)) fNil))) (fCons (fSl gSlT (fVar 1) (oSome (fC (.int 1))) oNone) (fCons (fSl gSlT (fVar 1) oNone (oSome (fUn gNeg (fC (.int 1))))) (fCons (fTup (fCons (fVar 1) fNil)) (fCons (fOp gAdd (fVar 1) (fVar 1)) (fCons (fOp gAdd (fOp gAdd (fVar 4) (fTup (fCons (fC .non) fNil))) (fVar 5)) fNil))))))))))))))
      (sIf (fB (fCB gIsi (fCons (fVar 1) (fCons (fC (.ty "str")) fNil))))
        (sSet 2 (fFro (fOpN gCat (fFro (fSlN gSlL (fVar 2) oNone (oSome (fC (.int 4))))) (fFro (fLst (fCons (fC (.str "from")) (fCons (fC (.str "to")) (fCons (fC (.str "to")) (fCons (fC (.str "from")) (fCons (fC (.str "bar")) (fCons (fC (.str "barred")) (fCons (fC (.str "ring")) (fCons (fOp gAdd (fVar 1) (fC (.str " "))) (fCons (fCB gUpper (fCons (fVar 1) fNil)) (fCons (fC (.str "")) fNil)))))))))))))))
        (sIf (fB (fCB gIsi (fCons (fVar 1) (fCons (fC (.ty "int")) fNil))))
          (sSet 2 (fFro (fOpN gCat (fFro (fSlN gSlL (fVar 2) oNone (oSome (fC (.int 6))))) (fFro (fLst (fCons (fOp gAdd (fVar 1) (fC (.int 1))) (fCons (fOp gSub (fVar 1) (fC (.int 1))) (fCons (fOp gAdd (fVar 1) (fC (.int 1))) (fCons (fOp gSub (fVar 1) (fC (.int 1))) (fCons (fOp gAdd (fVar 1) (fC (.int 2))) (fCons (fCB gStr (fCons (fVar 1) fNil)) (fCons (fUn gNeg (fVar 1)) (fCons (fTup (fCons (fVar 1) fNil)) fNil)))))))))))))
          sNil)))
    (sRet (fCall0 2 f__law_of (fCons (fVar 0) (fCons (fVar 2) fNil))))))
noncomputable def f__law_odd : FF := body 6 g__law_odd
noncomputable def g__law_bent (ψ : FF) : FS :=
  (sSeq (sIf (fOrT (fNotT (fB (fCB gIsi (fCons (fVar 1) (fCons (fC (.ty "tuple")) fNil))))) (fOrT (fB (fOp gEq0 (fVar 1) (fTup fNil))) (fOrT (fB (fOp gEq (fVar 2) (fC (.int 0)))) (fB (fOp gEq (fCall0 2 f__law_take (fCons (fVar 0) (fCons (fC (.int 6)) fNil))) (fC (.int 0)))))))
      (sRet (fCall0 2 f__law_odd (fCons (fVar 0) (fCons (fVar 1) fNil))))
      sNil)
    (sSeq (sSet 3 (fCall0 2 f__law_take (fCons (fVar 0) (fCons (fCB gLen (fCons (fVar 1) fNil)) fNil))))
    (sRet (fOp gAdd (fOp gAdd (fSl gSlT (fVar 1) oNone (oSome (fVar 3))) (fTup (fCons (fCall0 3 ψ (fCons (fVar 0) (fCons (fOp gIx (fVar 1) (fVar 3)) (fCons (fOp gSub (fVar 2) (fC (.int 1))) fNil)))) fNil))) (fSl gSlT (fVar 1) (oSome (fOp gAdd (fVar 3) (fC (.int 1)))) oNone)))))
noncomputable def f__law_bent : FF := fuelF (fun ψ => body 4 (g__law_bent ψ)) 24
end N60
namespace N60
open PySem PySem.Spec PyProof.Rows L2 S9 T9
end N60
namespace N60
open PySem PySem.Spec PyProof.Rows L2 S9 T9
end N60
namespace N60
open PySem PySem.Spec PyProof.Rows L2 S9 T9
end N60
namespace N60
open PySem PySem.Spec PyProof.Rows L2 S9 T9 N60
end N60
set_option maxHeartbeats 1000000
namespace S9
open PySem PySem.Spec PyProof.Rows L2 Z9
section
variable {prog : Program} {w : World} {A : Around} {E : Value → Shared → Prop} {s : Shared}
end
end S9
set_option maxHeartbeats 1000000
namespace S9
open PySem PySem.Spec PyProof.Rows L2 Z9
section
variable {X : Cx}
end
section
variable {X : Cx} {E : XK} {e e2 e3 : Expr} {fs : FA} {p p2 pos pos2 tpos : Pos} {elts : List Expr} {kk : Nat}
end
end S9
namespace T9
open PySem PySem.Spec PyProof.Rows L2 S9
section
variable {A α β γ σ ρ ι ι2 ι3 : Type} {Γ : DEnv} {M : Sto} {fa fb fe fo : FE} {fs : FA} {wa wb wc : W} {lk lk2 lk3 : List Nat} {p : Option γ}
variable {ΦI : List D × List Nat → Sto → Option γ → Prop}
end
end T9
namespace S9
open PySem PySem.Spec PyProof.Rows L2
section
variable {X : Cx} {E : XK} {pos tpos : Pos} {ts : List Nat} {gs : FGs} {a : Expr} {fa : FE}
end
end S9
namespace T9
open PySem PySem.Spec PyProof.Rows L2 S9
section
variable {α β γ ι : Type} {Γ : DEnv} {M M1 : Sto} {fa : FE} {fk : FS} {w : W} {lk : List Nat} {e : ι → D} {κ : γ → R Out → Prop} {pa : Option α} {xs : α → List ι} {m : α → Sto}
end
end T9
set_option maxHeartbeats 1000000
namespace PyProof.Rows.G
open PySem PySem.W
section
variable {prog : Program} {w : World} {A : Around} {E : Value → Shared → Prop} {s : Shared}
theorem sortedGT {κ : KeyKind} {kd : SortKind} {l : Addr} {vs : List Value} {Q : Value → Shared → Prop} (hl : s.heap.IsTuple l vs.toArray) (h0 : KeysOf κ (pairsOf vs)) (hO : ∀ s₂ : Shared, KeepsTups s.heap s₂.heap → LtAt prog w s₂ κ kd)
    (hkk : 2 ≤ vs.length → ∀ (A : Around) (E : Value → Shared → Prop) (s₂ : Shared) {Q : SortKind → Shared → Prop}, KeepsTups s.heap s₂.heap → Q kd s₂ → wpAny (model prog w) A (keyKind' vs.toArray) Q E s₂) (hL : vs.length ≤ sizeLine)
    (h : ∀ st' : SortSt, (arrOf st').Perm (pairsOf vs) → SortedToK κ (arrOf st') (pairsOf vs).size → Stable κ (arrOf st') (pairsOf vs) → Q (.ref (s.heap.objs.size + 1)) { s with heap := sortedAll s.heap vs ((arrOf st').map (·.2)) }) :
    wpAny (model prog w) A (call (.builtin "sorted") [.ref l]) Q E s := by
  refine Calls.call_function_entry kind_sorted plain_sorted entry_sorted (args_sorted1 _) ?_
  unfold Builtin.«sorted»
  refine wpAny_bind (m := checkCount "sorted" 1 1 _) (wpAny_pure ?_)
  refine wpAny_bind (S9.collect_tup hl hL ?_)
  refine wpAny_bind (wpAny_newList ?_)
  have hsz : ((s.heap.push (seqObj "list" #[] 0)).update s.heap.objs.size (Obj.mapSeq (· ++ vs.toArray))).objs.size = s.heap.objs.size + 1 := by
    rw [Heap.size_update, size_push']
  have hoL : (((s.heap.push (seqObj "list" #[] 0)).update s.heap.objs.size (Obj.mapSeq (· ++ vs.toArray))).push (seqObj "list" vs.toArray 0)).get? (s.heap.objs.size + 1) = some (seqObj "list" vs.toArray 0) := by
    rw [← hsz]; exact Heap.get?_push_size _ rfl
  show wpAny _ _ _ _ _ { s with heap := ((s.heap.push (seqObj "list" #[] 0)).update s.heap.objs.size (Obj.mapSeq (· ++ vs.toArray))).push (seqObj "list" vs.toArray 0) }
  have hnew : (s.heap.push (seqObj "list" #[] 0)).get? s.heap.objs.size = some (seqObj "list" #[] 0) := Heap.get?_push_size _ rfl
  have k0 : KeepsTups s.heap (((s.heap.push (seqObj "list" #[] 0)).update s.heap.objs.size (Obj.mapSeq (· ++ vs.toArray))).push (seqObj "list" vs.toArray 0)) :=
    ((KeepsTups.push _ _).trans (KeepsTups.update _ hnew not_tuple_list)).trans (KeepsTups.push _ _)
  have k6 := k0.trans (keeps_sort6 (vs := vs) hoL)
  rw [hsz]
  refine wpAny_bind (wpAny_holding (wpAny_call_entry slot_list_sort ⟨_, hoL, rfl⟩ entry_list_sort (list_sort_treeG (κ := κ) (kd := kd) hoL h0 ?ordG ?keyG hL fun st' a1 a2 a3 => ⟨_, rfl, ?retG⟩) (args_list_sort _)))
  case ordG => exact hO _ k6
  case keyG =>
    intro h2 R hq
    exact hkk h2 _ _ _ k6 hq
  case retG => exact wpAny_pure ⟨_, rfl, h st' a1 a2 a3⟩
theorem sorted_tupsT {shape : Nat → Bool} {l : Addr} {vs fs : List Value} {Q : Value → Shared → Prop} (hl : s.heap.IsTuple l vs.toArray)
    (ht : TupsOf s.heap shape vs fs) (hk : ∀ v, v ∈ vs → ∃ l, tupKeyC s.heap shape v = some l) (hL : vs.length ≤ sizeLine)
    (h : ∀ st' : SortSt, (arrOf st').Perm (pairsOf vs) → SortedToK (tupKindC s.heap shape) (arrOf st') (pairsOf vs).size → Stable (tupKindC s.heap shape) (arrOf st') (pairsOf vs) →
      Q (.ref (s.heap.objs.size + 1)) { s with heap := sortedAll s.heap vs ((arrOf st').map (·.2)) }) :
    wpAny (model prog w) A (call (.builtin "sorted") [.ref l]) Q E s :=
  sortedGT hl (tupKeys hk) (fun s₂ k => tupC_ltAt (s := s₂) true k)
    (fun h2 _ _ s₂ _ k hq => tup_kind (s := s₂) (by rw [TupsOf.length ht]; omega) (TupsOf.keep k ht) hq) hL h
end
end PyProof.Rows.G
namespace S9
open PySem PySem.Spec PyProof.Rows L2
open PyProof.Rows.G (sorted_tupsT)
end S9
namespace T9
open PySem PySem.Spec PyProof.Rows L2 S9
end T9
namespace S9
open PySem PySem.Spec PyProof.Rows L2
section
variable {X : Cx} {E : XK} {a e : Expr} {fa fe : FE} {apos cpos : Pos}
end
end S9
namespace T9
open PySem PySem.Spec PyProof.Rows L2 S9
section
variable {A α β γ : Type} {Γ : DEnv} {M M1 : Sto} {fo fi : FE} {p : Option γ} {Φ : W → Sto → Option γ → Prop}
end
end T9
namespace N60
open PySem PySem.Spec PyProof.Rows L2 S9 T9 N60
def p__law_of_LA (p0 : List Int) (y1 : (List D)) : Option (D × List Int) :=
  (Option.bind (p__law_take p0 (List.length y1 : Int)) fun a40 => (Option.bind (pIx y1 a40.1) fun a41 => (some (a41, a40.2))))
set_option maxHeartbeats 0 in
theorem q__law_of_LA {M : Sto} {k : Nat} (hM : Cl M) (hk : k < M.length) (p0 : List Int) (y1 : (List D)) : Rr (f__law_of [W.loc k, W.d ((eL eA) y1)] (M.set k (potC p0))) (p__law_of_LA p0 y1) (fun r : D × List Int => W.d (eA r.1)) (fun r => M.set k (potC r.2)) :=
  body_ofP pot_len (show TL _ _ (g__law_of) (p__law_of_LA p0 y1) (KF M.length (fun r : D × List Int => W.d (eA r.1)) (fun r => M.set k (potC r.2))) from (ts_ret (w_co (w_op (w_V (v_var rfl) (w_call (w_V (v_cons (v_var rfl) (v_cons (v_cb (v_cons (v_var rfl) v_nil) rfl g_lenL) v_nil)) (have hq := (rr_potW (c := potC p0) (m := fun (a : Int × List Int) => potC a.2) (ext := []) hk (q__law_take (hM.app (ext := []) rfl) (lt_app hk) p0 (List.length y1 : Int))); c_call rfl hq fun a40 => (c_opP (v := fun a41 => eA a41) rfl rfl (fun _ h => g_ixL h) fun a41 => (rk_ok (c_rt (kf_p (e := eA) hM))))))))))))
def p__law_odd (p0 : List Int) (y1 : D) : Option (D × List Int) :=
  (Option.bind (pPow 10 29) fun a5 => (Option.bind ((Option.bind (pIsi (eA y1) (eA (D.ty "tuple"))) fun a7 => (if a7 = true then (Option.bind (pLenA (eA y1)) fun a8 => (Option.bind (p__law_take p0 (a8 + 1)) fun a9 => (Option.bind (gSlT (eA y1) none (some a9.1)) fun a10 => (Option.bind (gSlT (eA y1) (some a9.1) none) fun a11 => (Option.bind (gList [eA y1]) fun l12 => (Option.bind (gSlT (eA a11) (some 1) none) fun a13 => (Option.bind (gAdd (eA a10) (eA a13)) fun a14 => (Option.bind (gSlT (eA a11) none (some 1)) fun a15 => (Option.bind (gAdd (eA a10) (eA a15)) fun a16 => (Option.bind (gAdd (eA a16) (eA a11)) fun a17 => (Option.bind (revD (eA y1) (eI (-1))) fun a18 => (Option.bind (pCat (pCut ([(eU ()), (eB true), (eB false), (eI 0), (eI 1), (eI (-1)), (eS ("" : Str)), (eS ("from" : Str)), (eS ("to" : Str)), (eS ("barred" : Str)), (eS ("ring" : Str)), ((fun (_ : Unit) => D.tup []) ()), ((eL eI) ([] : List Int)), (D.dct [] []), ((eP3 eI eS eI) (0, ("from" : Str), 0)), (eI a5)]) none (some 5)) ([((eL eA) l12), a14, a17, a18, ((fun (_ : Unit) => D.tup []) ())])) fun a19 => (Option.bind (gAdd (eA y1) ((eT eI) ([0]))) fun a20 => (Option.bind (gSlT (eA y1) (some 1) none) fun a21 => (Option.bind (gSlT (eA y1) none (some (-1))) fun a22 => (Option.bind (gAdd (eA y1) (eA y1)) fun a23 => (Option.bind (gAdd (eA a10) ((eT eU) ([()]))) fun a24 => (Option.bind (gAdd (eA a24) (eA a11)) fun a25 => (Option.bind (pCat a19 ([a20, a21, a22, ((eP1 eA) y1), a23, a25])) fun a26 => (some (a9.2, a26))))))))))))))))))))) else (Option.bind (pIsi (eA y1) (eA (D.ty "str"))) fun a27 => (if a27 = true then (Option.bind (gAdd (eA y1) (eS (" " : Str))) fun a28 => (Option.bind (gUpper [eA y1]) fun a29 => (Option.bind (pCat (pCut ([(eU ()), (eB true), (eB false), (eI 0), (eI 1), (eI (-1)), (eS ("" : Str)), (eS ("from" : Str)), (eS ("to" : Str)), (eS ("barred" : Str)), (eS ("ring" : Str)), ((fun (_ : Unit) => D.tup []) ()), ((eL eI) ([] : List Int)), (D.dct [] []), ((eP3 eI eS eI) (0, ("from" : Str), 0)), (eI a5)]) none (some 4)) ([(eS ("from" : Str)), (eS ("to" : Str)), (eS ("to" : Str)), (eS ("from" : Str)), (eS ("bar" : Str)), (eS ("barred" : Str)), (eS ("ring" : Str)), a28, a29, (eS ("" : Str))])) fun a30 => (some (p0, a30))))) else (Option.bind (pIsi (eA y1) (eA (D.ty "int"))) fun a31 => (if a31 = true then (Option.bind (gAdd (eA y1) (eI 1)) fun a32 => (Option.bind (gSub (eA y1) (eI 1)) fun a33 => (Option.bind (gAdd (eA y1) (eI 1)) fun a34 => (Option.bind (gSub (eA y1) (eI 1)) fun a35 => (Option.bind (gAdd (eA y1) (eI 2)) fun a36 => (Option.bind (gStr [eA y1]) fun a37 => (Option.bind (gNeg (eA y1)) fun a38 => (Option.bind (pCat (pCut ([(eU ()), (eB true), (eB false), (eI 0), (eI 1), (eI (-1)), (eS ("" : Str)), (eS ("from" : Str)), (eS ("to" : Str)), (eS ("barred" : Str)), (eS ("ring" : Str)), ((fun (_ : Unit) => D.tup []) ()), ((eL eI) ([] : List Int)), (D.dct [] []), ((eP3 eI eS eI) (0, ("from" : Str), 0)), (eI a5)]) none (some 6)) ([a32, a33, a34, a35, a36, a37, a38, ((eP1 eA) y1)])) fun a39 => (some (p0, a39)))))))))) else (some (p0, [(eU ()), (eB true), (eB false), (eI 0), (eI 1), (eI (-1)), (eS ("" : Str)), (eS ("from" : Str)), (eS ("to" : Str)), (eS ("barred" : Str)), (eS ("ring" : Str)), ((fun (_ : Unit) => D.tup []) ()), ((eL eI) ([] : List Int)), (D.dct [] []), ((eP3 eI eS eI) (0, ("from" : Str), 0)), (eI a5)])))))))) : Option ((List Int) × (List D))) fun z6 => (Option.bind (p__law_of_LA z6.1 z6.2) fun a42 => (some (a42.1, a42.2)))))
set_option maxHeartbeats 0 in
theorem q__law_odd {M : Sto} {k : Nat} (hM : Cl M) (hk : k < M.length) (p0 : List Int) (y1 : D) : Rr (f__law_odd [W.loc k, W.d (eA y1)] (M.set k (potC p0))) (p__law_odd p0 y1) (fun r : D × List Int => W.d (eA r.1)) (fun r => M.set k (potC r.2)) :=
  body_ofP pot_len (show TL _ _ (g__law_odd) (p__law_odd p0 y1) (KF M.length (fun r : D × List Int => W.d (eA r.1)) (fun r => M.set k (potC r.2))) from (ts_set (w_fro (w_lst (w_cons (w_V v_c (w_cons (w_V v_c (w_cons (w_V v_c (w_cons (w_V v_c (w_cons (w_V v_c (w_cons (w_V (v_un v_c rfl rfl) (w_cons (w_V v_c (w_cons (w_V v_c (w_cons (w_V v_c (w_cons (w_V v_c (w_cons (w_V v_c (w_cons (w_V (v_tup v_nil rfl rfl) (w_cons (w_V (v_fro (v_lst v_nil rfl rfl)) (w_cons (w_V v_c (w_cons (w_V (v_tup (v_cons v_c (v_cons v_c (v_cons v_c v_nil))) rfl rfl) (w_cons (w_op (w_V v_c (w_V v_c (c_opP (v := fun a5 => eI a5) rfl rfl (fun _ h => g_pow h) fun a5 => (w_nil (c_lst rfl rfl (tl_seq (se_of (Γ' := fun z6 => [some (W.loc k), some (W.d (eA y1)), some (W.d ((eL eA) z6.2)), none, none, none]) (ms := fun z6 => ((M.set k (potC z6.1)) ++ ([] : Sto))) (ts_iteL (w_B (w_co (w_cb (w_V (v_cons (v_var rfl) (v_cons v_c v_nil)) (c_cbP (v := fun a7 => eB a7) rfl (fun _ h => g_isiO h) fun a7 => (rk_ok ⟨_, rfl, (c_br (ts_set (w_call (w_cons (w_V (v_var rfl) (w_cons (w_op (w_cb (w_V (v_cons (v_var rfl) v_nil) (c_cbP (v := fun a8 => eI a8) rfl (fun _ h => g_lenO h) fun a8 => (w_V v_c (c_op rfl rfl rfl (w_nil (have hq := (rr_potW (c := potC p0) (m := fun (a : Int × List Int) => potC a.2) (ext := []) hk (q__law_take (hM.app (ext := []) rfl) (lt_app hk) p0 (a8 + 1))); c_call rfl hq fun a9 => (ts_par (w_cons (w_sl (w_V (v_var rfl) (w_V v_oN (w_V (v_oS (v_var rfl)) (c_slP rfl fun a10 => (w_cons (w_sl (w_V (v_var rfl) (w_V (v_oS (v_var rfl)) (w_V v_oN (c_slP rfl fun a11 => (w_nil ⟨_, _, rfl, (ts_set (w_fro (w_opN (w_V (v_fro (v_slN (v_var rfl) v_oN (v_oS v_c) rfl (g_slL (e := eA) (l := [(eU ()), (eB true), (eB false), (eI 0), (eI 1), (eI (-1)), (eS ("" : Str)), (eS ("from" : Str)), (eS ("to" : Str)), (eS ("barred" : Str)), (eS ("ring" : Str)), ((fun (_ : Unit) => D.tup []) ()), ((eL eI) ([] : List Int)), (D.dct [] []), ((eP3 eI eS eI) (0, ("from" : Str), 0)), (eI a5)])))) (w_fro (w_lst (w_cons (w_fro (w_cn (w_V (v_cons (v_var rfl) v_nil) (c_cnP (v := fun l12 => l12.map eA) rfl (fun _ h => g_listA h) fun l12 => (w_cons (w_op (w_V (v_var rfl) (w_sl (w_V (v_var rfl) (w_V (v_oS v_c) (w_V v_oN (c_slP rfl fun a13 => (by exact (c_opP (v := fun a14 => eA a14) rfl rfl (fun _ h => h) fun a14 => (w_cons (w_op (w_op (w_V (v_var rfl) (w_sl (w_V (v_var rfl) (w_V v_oN (w_V (v_oS v_c) (c_slP rfl fun a15 => (by exact (c_opP (v := fun a16 => eA a16) rfl rfl (fun _ h => h) fun a16 => (w_V (v_var rfl) (by exact (c_opP (v := fun a17 => eA a17) rfl rfl (fun _ h => h) fun a17 => (w_cons (w_op (w_V (v_var rfl) (w_V (v_un v_c rfl rfl) (by exact (c_opP (v := fun a18 => eA a18) rfl rfl (fun _ h => h) fun a18 => (w_V (v_cons (v_tup v_nil rfl rfl) v_nil) (c_lst rfl rfl (c_opNP (v := fun a19 => a19.map eA) rfl rfl (fun _ h => g_catL (e := eA) (a := (pCut ([(eU ()), (eB true), (eB false), (eI 0), (eI 1), (eI (-1)), (eS ("" : Str)), (eS ("from" : Str)), (eS ("to" : Str)), (eS ("barred" : Str)), (eS ("ring" : Str)), ((fun (_ : Unit) => D.tup []) ()), ((eL eI) ([] : List Int)), (D.dct [] []), ((eP3 eI eS eI) (0, ("from" : Str), 0)), (eI a5)]) none (some 5))) (b := [((eL eA) l12), a14, a17, a18, ((fun (_ : Unit) => D.tup []) ())]) h) fun a19 => (tl_one (ts_set (w_fro (w_opN (w_V (v_var rfl) (w_fro (w_lst (w_cons (w_op (w_V (v_var rfl) (w_V (v_tup (v_cons v_c v_nil) rfl rfl) (by exact (c_opP (v := fun a20 => eA a20) rfl rfl (fun _ h => h) fun a20 => (w_cons (w_sl (w_V (v_var rfl) (w_V (v_oS v_c) (w_V v_oN (c_slP rfl fun a21 => (w_cons (w_sl (w_V (v_var rfl) (w_V v_oN (w_V (v_oS (v_un v_c rfl rfl)) (c_slP rfl fun a22 => (w_cons (w_V (v_tup (v_cons (v_var rfl) v_nil) rfl rfl) (w_cons (w_op (w_V (v_var rfl) (w_V (v_var rfl) (by exact (c_opP (v := fun a23 => eA a23) rfl rfl (fun _ h => h) fun a23 => (w_cons (w_op (w_op (w_V (v_var rfl) (w_V (v_tup (v_cons v_c v_nil) rfl rfl) (by exact (c_opP (v := fun a24 => eA a24) rfl rfl (fun _ h => h) fun a24 => (w_V (v_var rfl) (by exact (c_opP (v := fun a25 => eA a25) rfl rfl (fun _ h => h) fun a25 => (w_nil (c_lst rfl rfl (c_opNP (v := fun a26 => a26.map eA) rfl rfl (fun _ h => g_catL (e := eA) (a := a19) (b := [a20, a21, a22, ((eP1 eA) y1), a23, a25]) h) fun a26 => (tl_endN (Γ' := (fun (z6 : (List Int) × (List D)) => [some (W.loc k), some (W.d (eA y1)), some (W.d ((eL eA) z6.2)), none, none, none])) (ms := (fun (z6 : (List Int) × (List D)) => ((M.set k (potC z6.1)) ++ ([] : Sto)))) (s := (a9.2, a26)) (Le.keep (Le.keep (Le.keep (Le.drop (Le.drop (Le.drop Le.nil)))))) rfl)))))))))))))))))))))))))))))))))))))))))))))))))))))))))))))))))))))))))))))))))))))))))))⟩))))))))))))))))))))))))))) (ts_iteL (w_B (w_co (w_cb (w_V (v_cons (v_var rfl) (v_cons v_c v_nil)) (c_cbP (v := fun a27 => eB a27) rfl (fun _ h => g_isiO h) fun a27 => (rk_ok ⟨_, rfl, (c_br (tl_one (ts_set (w_fro (w_opN (w_V (v_fro (v_slN (v_var rfl) v_oN (v_oS v_c) rfl (g_slL (e := eA) (l := [(eU ()), (eB true), (eB false), (eI 0), (eI 1), (eI (-1)), (eS ("" : Str)), (eS ("from" : Str)), (eS ("to" : Str)), (eS ("barred" : Str)), (eS ("ring" : Str)), ((fun (_ : Unit) => D.tup []) ()), ((eL eI) ([] : List Int)), (D.dct [] []), ((eP3 eI eS eI) (0, ("from" : Str), 0)), (eI a5)])))) (w_fro (w_lst (w_cons (w_V v_c (w_cons (w_V v_c (w_cons (w_V v_c (w_cons (w_V v_c (w_cons (w_V v_c (w_cons (w_V v_c (w_cons (w_V v_c (w_cons (w_op (w_V (v_var rfl) (w_V v_c (by exact (c_opP (v := fun a28 => eA a28) rfl rfl (fun _ h => h) fun a28 => (w_cons (w_cb (w_V (v_cons (v_var rfl) v_nil) (c_cbP (v := fun a29 => eA a29) rfl (fun _ h => h) fun a29 => (w_V (v_cons v_c v_nil) (c_lst rfl rfl (c_opNP (v := fun a30 => a30.map eA) rfl rfl (fun _ h => g_catL (e := eA) (a := (pCut ([(eU ()), (eB true), (eB false), (eI 0), (eI 1), (eI (-1)), (eS ("" : Str)), (eS ("from" : Str)), (eS ("to" : Str)), (eS ("barred" : Str)), (eS ("ring" : Str)), ((fun (_ : Unit) => D.tup []) ()), ((eL eI) ([] : List Int)), (D.dct [] []), ((eP3 eI eS eI) (0, ("from" : Str), 0)), (eI a5)]) none (some 4))) (b := [(eS ("from" : Str)), (eS ("to" : Str)), (eS ("to" : Str)), (eS ("from" : Str)), (eS ("bar" : Str)), (eS ("barred" : Str)), (eS ("ring" : Str)), a28, a29, (eS ("" : Str))]) h) fun a30 => (tl_endN (Γ' := (fun (z6 : (List Int) × (List D)) => [some (W.loc k), some (W.d (eA y1)), some (W.d ((eL eA) z6.2)), none, none, none])) (ms := (fun (z6 : (List Int) × (List D)) => ((M.set k (potC z6.1)) ++ ([] : Sto)))) (s := (p0, a30)) (Le.keep (Le.keep (Le.keep (Le.drop (Le.drop (Le.drop Le.nil)))))) rfl))))))))))))))))))))))))))))))))))) (ts_iteL (w_B (w_co (w_cb (w_V (v_cons (v_var rfl) (v_cons v_c v_nil)) (c_cbP (v := fun a31 => eB a31) rfl (fun _ h => g_isiO h) fun a31 => (rk_ok ⟨_, rfl, (c_br (tl_one (ts_set (w_fro (w_opN (w_V (v_fro (v_slN (v_var rfl) v_oN (v_oS v_c) rfl (g_slL (e := eA) (l := [(eU ()), (eB true), (eB false), (eI 0), (eI 1), (eI (-1)), (eS ("" : Str)), (eS ("from" : Str)), (eS ("to" : Str)), (eS ("barred" : Str)), (eS ("ring" : Str)), ((fun (_ : Unit) => D.tup []) ()), ((eL eI) ([] : List Int)), (D.dct [] []), ((eP3 eI eS eI) (0, ("from" : Str), 0)), (eI a5)])))) (w_fro (w_lst (w_cons (w_op (w_V (v_var rfl) (w_V v_c (by exact (c_opP (v := fun a32 => eA a32) rfl rfl (fun _ h => h) fun a32 => (w_cons (w_op (w_V (v_var rfl) (w_V v_c (by exact (c_opP (v := fun a33 => eA a33) rfl rfl (fun _ h => h) fun a33 => (w_cons (w_op (w_V (v_var rfl) (w_V v_c (by exact (c_opP (v := fun a34 => eA a34) rfl rfl (fun _ h => h) fun a34 => (w_cons (w_op (w_V (v_var rfl) (w_V v_c (by exact (c_opP (v := fun a35 => eA a35) rfl rfl (fun _ h => h) fun a35 => (w_cons (w_op (w_V (v_var rfl) (w_V v_c (by exact (c_opP (v := fun a36 => eA a36) rfl rfl (fun _ h => h) fun a36 => (w_cons (w_cb (w_V (v_cons (v_var rfl) v_nil) (c_cbP (v := fun a37 => eA a37) rfl (fun _ h => h) fun a37 => (w_cons (w_un (w_V (v_var rfl) (by exact (c_unP (v := fun a38 => eA a38) rfl (fun _ h => h) fun a38 => (w_V (v_cons (v_tup (v_cons (v_var rfl) v_nil) rfl rfl) v_nil) (c_lst rfl rfl (c_opNP (v := fun a39 => a39.map eA) rfl rfl (fun _ h => g_catL (e := eA) (a := (pCut ([(eU ()), (eB true), (eB false), (eI 0), (eI 1), (eI (-1)), (eS ("" : Str)), (eS ("from" : Str)), (eS ("to" : Str)), (eS ("barred" : Str)), (eS ("ring" : Str)), ((fun (_ : Unit) => D.tup []) ()), ((eL eI) ([] : List Int)), (D.dct [] []), ((eP3 eI eS eI) (0, ("from" : Str), 0)), (eI a5)]) none (some 6))) (b := [a32, a33, a34, a35, a36, a37, a38, ((eP1 eA) y1)]) h) fun a39 => (tl_endN (Γ' := (fun (z6 : (List Int) × (List D)) => [some (W.loc k), some (W.d (eA y1)), some (W.d ((eL eA) z6.2)), none, none, none])) (ms := (fun (z6 : (List Int) × (List D)) => ((M.set k (potC z6.1)) ++ ([] : Sto)))) (s := (p0, a39)) (Le.keep (Le.keep (Le.keep (Le.drop (Le.drop (Le.drop Le.nil)))))) rfl)))))))))))))))))))))))))))))))))))))))))))))))))) (tl_endN (Γ' := (fun (z6 : (List Int) × (List D)) => [some (W.loc k), some (W.d (eA y1)), some (W.d ((eL eA) z6.2)), none, none, none])) (ms := (fun (z6 : (List Int) × (List D)) => ((M.set k (potC z6.1)) ++ ([] : Sto)))) (s := (p0, [(eU ()), (eB true), (eB false), (eI 0), (eI 1), (eI (-1)), (eS ("" : Str)), (eS ("from" : Str)), (eS ("to" : Str)), (eS ("barred" : Str)), (eS ("ring" : Str)), ((fun (_ : Unit) => D.tup []) ()), ((eL eI) ([] : List Int)), (D.dct [] []), ((eP3 eI eS eI) (0, ("from" : Str), 0)), (eI a5)])) (Le.keep (Le.keep (Le.keep (Le.drop (Le.drop (Le.drop Le.nil)))))) rfl))⟩))))))))⟩))))))))⟩)))))))) fun z6 => (ts_ret (w_co (w_call (w_V (v_cons (v_var rfl) (v_cons (v_var rfl) v_nil)) (have hq := (rr_potW (c := potC z6.1) (m := fun (a : D × List Int) => potC a.2) (ext := []) hk (q__law_of_LA (hM.app (ext := []) rfl) (lt_app hk) z6.1 z6.2)); c_call rfl hq fun a42 => (rk_ok (c_rt (kf_p (e := eA) hM))))))))))))))))))))))))))))))))))))))))))))))))))
def pb__law_bent (ρ : List Int → D → Int → Option (D × List Int)) (p0 : List Int) (y1 : D) (y2 : Int) : Option (D × List Int) :=
  (Option.bind ((Option.bind (pIsi (eA y1) (eA (D.ty "tuple"))) fun a1 => (if (!a1) = true then (some (true, p0)) else (Option.bind (blO (gEq0 (eA y1) ((fun (_ : Unit) => D.tup []) ()))) fun a2 => (if a2 = true then (some (true, p0)) else (if (decide (y2 = 0)) = true then (some (true, p0)) else (Option.bind (p__law_take p0 6) fun a3 => (some ((decide (a3.1 = 0)), a3.2)))))))) : Option (Bool × List Int)) fun a4 => (if a4.1 = true then (Option.bind (p__law_odd a4.2 y1) fun a43 => (some (a43.1, a43.2))) else (Option.bind (pLenA (eA y1)) fun a44 => (Option.bind (p__law_take a4.2 a44) fun a45 => (Option.bind (gSlT (eA y1) none (some a45.1)) fun a46 => (Option.bind (gIx (eA y1) (eI a45.1)) fun a47 => (Option.bind (ρ a45.2 a47 (y2 - 1)) fun a48 => (Option.bind (gAdd (eA a46) ((eT eA) ([a48.1]))) fun a49 => (Option.bind (gSlT (eA y1) (some (a45.1 + 1)) none) fun a50 => (Option.bind (gAdd (eA a49) (eA a50)) fun a51 => (some (a51, a48.2))))))))))))
def p__law_bent : List Int → D → Int → Option (D × List Int) := fuelP (fun _ _ _ => none) pb__law_bent 24
set_option maxHeartbeats 0 in
theorem qb__law_bent (ψ : FF) (ρ : List Int → D → Int → Option (D × List Int)) (hρ : ∀ {M : Sto} {k : Nat} (hM : Cl M) (hk : k < M.length) (p0 : List Int) (y1 : D) (y2 : Int), Rr (ψ [W.loc k, W.d (eA y1), W.d (eI y2)] (M.set k (potC p0))) (ρ p0 y1 y2) (fun r : D × List Int => W.d (eA r.1)) (fun r => M.set k (potC r.2))) {M : Sto} {k : Nat} (hM : Cl M) (hk : k < M.length) (p0 : List Int) (y1 : D) (y2 : Int) : Rr (body 4 (g__law_bent ψ) [W.loc k, W.d (eA y1), W.d (eI y2)] (M.set k (potC p0))) (pb__law_bent ρ p0 y1 y2) (fun r : D × List Int => W.d (eA r.1)) (fun r => M.set k (potC r.2)) :=
  body_ofP pot_len (show TL _ _ (g__law_bent ψ) (pb__law_bent ρ p0 y1 y2) (KF M.length (fun r : D × List Int => W.d (eA r.1)) (fun r => M.set k (potC r.2))) from (ts_ite (w_E (v := fun a4 => a4.1) (m := fun a4 => ((M.set k (potC a4.2)) ++ ([] : Sto))) (e_ofW (w_orT (w_notT (w_B (w_co (w_cb (w_V (v_cons (v_var rfl) (v_cons v_c v_nil)) (c_cbP (v := fun a1 => eB a1) rfl (fun _ h => g_isiO h) fun a1 => (rk_ok ⟨_, rfl, (c_br (c_end (c := (true, p0)) rfl rfl) (w_orT (w_B (w_co (w_op (w_V (v_var rfl) (w_V (v_tup v_nil rfl rfl) (c_opP (v := fun a2 => eB a2) rfl rfl (fun _ h => blO_eq h) fun a2 => (rk_ok ⟨_, rfl, (c_br (c_end (c := (true, p0)) rfl rfl) (w_orT (w_V (v_B (v_op (v_var rfl) v_c rfl rfl rfl)) (c_br (c_end (c := (true, p0)) rfl rfl) (w_B (w_co (w_op (w_call (w_V (v_cons (v_var rfl) (v_cons v_c v_nil)) (have hq := (rr_potW (c := potC p0) (m := fun (a : Int × List Int) => potC a.2) (ext := []) hk (q__law_take (hM.app (ext := []) rfl) (lt_app hk) p0 6)); c_call rfl hq fun a3 => (w_V v_c (c_op rfl rfl rfl (rk_ok ⟨_, rfl, (c_end (c := ((decide (a3.1 = 0)), a3.2)) rfl rfl)⟩)))))))))))))⟩)))))))))⟩))))))))) fun a4 => (c_br (tl_retS (ts_ret (w_co (w_call (w_V (v_cons (v_var rfl) (v_cons (v_var rfl) v_nil)) (have hq := (rr_potW (c := potC a4.2) (m := fun (a : D × List Int) => potC a.2) (ext := []) hk (q__law_odd (hM.app (ext := []) rfl) (lt_app hk) a4.2 y1)); c_call rfl hq fun a43 => (rk_ok (c_rt (kf_p (e := eA) hM))))))))) (tl_nilS (ts_set (w_call (w_cons (w_V (v_var rfl) (w_cons (w_cb (w_V (v_cons (v_var rfl) v_nil) (c_cbP (v := fun a44 => eI a44) rfl (fun _ h => g_lenO h) fun a44 => (w_nil (have hq := (rr_potW (c := potC a4.2) (m := fun (a : Int × List Int) => potC a.2) (ext := []) hk (q__law_take (hM.app (ext := []) rfl) (lt_app hk) a4.2 a44)); c_call rfl hq fun a45 => (ts_ret (w_co (w_op (w_op (w_sl (w_V (v_var rfl) (w_V v_oN (w_V (v_oS (v_var rfl)) (c_slP rfl fun a46 => (w_tup (w_cons (w_call (w_cons (w_V (v_var rfl) (w_cons (w_co (w_op (w_V (v_var rfl) (w_V (v_var rfl) (by exact (c_opP (v := fun a47 => eA a47) rfl rfl (fun _ h => h) fun a47 => (rk_ok (w_V (v_cons (v_op (v_var rfl) v_c rfl rfl rfl) v_nil) (have hq := (rr_potW (c := potC a45.2) (m := fun (a : D × List Int) => potC a.2) (ext := []) hk (hρ (hM.app (ext := []) rfl) (lt_app hk) a45.2 a47 (y2 - 1))); c_call rfl hq fun a48 => (w_nil (c_tup rfl rfl (by exact (c_opP (v := fun a49 => eA a49) rfl rfl (fun _ h => h) fun a49 => (w_sl (w_V (v_var rfl) (w_V (v_oS (v_op (v_var rfl) v_c rfl rfl rfl)) (w_V v_oN (c_slP rfl fun a50 => (by exact (c_opP (v := fun a51 => eA a51) rfl rfl (fun _ h => h) fun a51 => (rk_ok (c_rt (kf_p (e := eA) hM)))))))))))))))))))))))))))))))))))))))))))))))))))))
theorem q__law_bent {M : Sto} {k : Nat} (hM : Cl M) (hk : k < M.length) (p0 : List Int) (y1 : D) (y2 : Int) : Rr (f__law_bent [W.loc k, W.d (eA y1), W.d (eI y2)] (M.set k (potC p0))) (p__law_bent p0 y1 y2) (fun r : D × List Int => W.d (eA r.1)) (fun r => M.set k (potC r.2)) := by
  have key : ∀ n, ∀ {M : Sto} {k : Nat} (hM : Cl M) (hk : k < M.length) (p0 : List Int) (y1 : D) (y2 : Int), Rr (fuelF (fun ψ => body 4 (g__law_bent ψ)) n [W.loc k, W.d (eA y1), W.d (eI y2)] (M.set k (potC p0))) (fuelP (fun _ _ _ => none) pb__law_bent n p0 y1 y2) (fun r : D × List Int => W.d (eA r.1)) (fun r => M.set k (potC r.2)) := fun n => by
    induction n with
    | zero => intro M k hM hk p0 y1 y2 a ha; cases ha
    | succ n ih => intro M k hM hk p0 y1 y2; exact qb__law_bent _ _ (fun hM hk p0 y1 y2 => ih hM hk p0 y1 y2) hM hk p0 y1 y2
  exact key 24 hM hk p0 y1 y2
end N60
namespace N60
open PySem PySem.Spec PyProof.Rows L2 S9 T9
def Sat {α : Type} (p : Option α) (Q : α → Prop) : Prop := ∃ a, p = some a ∧ Q a
section
variable {α β γ σ ρ ι : Type}
theorem Sat.ok {a : α} {Q : α → Prop} (h : Q a) : Sat (some a) Q := ⟨a, rfl, h⟩
theorem Sat.bind {p : Option α} {P : α → Prop} {q : α → Option β} {Q : β → Prop} (h : Sat p P) (k : ∀ a, P a → Sat (q a) Q) : Sat (p.bind q) Q := by
  obtain ⟨a, rfl, ha⟩ := h
  exact k a ha
theorem Sat.eq {p : Option α} {a : α} {q : α → Option β} {Q : β → Prop} (h : p = some a) (k : Sat (q a) Q) : Sat (p.bind q) Q := by
  subst h; exact k
theorem Sat.mono {p : Option α} {P Q : α → Prop} (h : Sat p P) (k : ∀ a, P a → Q a) : Sat p Q := by
  obtain ⟨a, e, ha⟩ := h
  exact ⟨a, e, k a ha⟩
theorem Sat.ite {c : Prop} [Decidable c] {p q : Option α} {Q : α → Prop} (h1 : c → Sat p Q) (h2 : ¬c → Sat q Q) : Sat (if c then p else q) Q := by
  by_cases e : c
  · rw [if_pos e]; exact h1 e
  · rw [if_neg e]; exact h2 e
theorem sat_forN {f : ι → σ → Option σ} (I : Nat → σ → Prop) : ∀ (xs : List ι) (n : Nat) (s : σ), (∀ i x s, xs[i]? = some x → I (n + i) s → Sat (f x s) (I (n + i + 1))) → I n s → Sat (forN f xs s) (I (n + xs.length))
  | [], n, s, _, h => Sat.ok h
  | x :: xs, n, s, hf, h => by
    refine Sat.bind (hf 0 x s rfl h) fun s1 h1 => ?_
    have := sat_forN (f := f) I xs (n + 1) s1 (fun i y s hi hs => by
      have := hf (i + 1) y s (by simpa using hi) (by rw [show n + (i + 1) = n + 1 + i by omega]; exact hs)
      rw [show n + (i + 1) + 1 = n + 1 + i + 1 by omega] at this
      exact this) h1
    rw [List.length_cons, show n + (xs.length + 1) = n + 1 + xs.length by omega]
    exact this
theorem Sat.forN {f : ι → σ → Option σ} {xs : List ι} {s : σ} (I : Nat → σ → Prop) (h : I 0 s) (hf : ∀ i x s, xs[i]? = some x → I i s → Sat (f x s) (I (i + 1))) : Sat (T9.forN f xs s) (I xs.length) := by
  have := sat_forN (f := f) I xs 0 s (fun i x s hi hs => by rw [Nat.zero_add] at hs ⊢; exact hf i x s hi hs) h
  rw [Nat.zero_add] at this
  exact this
def CtlI (I : σ → Prop) (J : σ → Prop) (K : ρ → Prop) : Ctl σ ρ → Prop
  | .go s => I s
  | .bk s => J s
  | .rt r => K r
theorem sat_forR {f : ι → σ → Option (Ctl σ ρ)} {q : σ → Option γ} {q' : ρ → Option γ} {Q : γ → Prop} (I : Nat → σ → Prop) (J : σ → Prop) (K : ρ → Prop) (hJ : ∀ s, J s → Sat (q s) Q) (hK : ∀ r, K r → Sat (q' r) Q) :
    ∀ (xs : List ι) (n : Nat) (s : σ), (∀ i x s, xs[i]? = some x → I (n + i) s → Sat (f x s) (CtlI (I (n + i + 1)) J K)) → I n s → (∀ s, I (n + xs.length) s → Sat (q s) Q) → Sat (forR f xs s q q') Q
  | [], n, s, _, h, hq => hq s h
  | x :: xs, n, s, hf, h, hq => by
    obtain ⟨c, e, hc⟩ := hf 0 x s rfl h
    unfold T9.forR forC
    rw [e]
    cases c with
    | go s1 =>
      exact sat_forR I J K hJ hK xs (n + 1) s1 (fun i y s hi hs => by
        have := hf (i + 1) y s (by simpa using hi) (by rw [show n + (i + 1) = n + 1 + i by omega]; exact hs)
        rw [show n + (i + 1) + 1 = n + 1 + i + 1 by omega] at this
        exact this) hc (fun s hs => hq s (by rw [List.length_cons, show n + (xs.length + 1) = n + 1 + xs.length by omega]; exact hs))
    | bk s1 => exact hJ s1 hc
    | rt r => exact hK r hc
theorem Sat.forR {f : ι → σ → Option (Ctl σ ρ)} {xs : List ι} {s : σ} {q : σ → Option γ} {q' : ρ → Option γ} {Q : γ → Prop} (I : Nat → σ → Prop) (h : I 0 s) (hf : ∀ i x s, xs[i]? = some x → I i s → Sat (f x s) (CtlI (I (i + 1)) (fun _ => False) (fun _ => False))) (hq : ∀ s, I xs.length s → Sat (q s) Q) : Sat (T9.forR f xs s q q') Q :=
  sat_forR I (fun _ => False) (fun _ => False) (fun _ h => h.elim) (fun _ h => h.elim) xs 0 s (fun i x s hi hs => by rw [Nat.zero_add] at hs ⊢; exact hf i x s hi hs) h (fun s hs => hq s (by rw [Nat.zero_add] at hs; exact hs))
theorem sat_mapS {f : ι → σ → Option (β × σ)} (I : Nat → σ → Prop) (P : Nat → ι → β → Prop) : ∀ (xs : List ι) (n : Nat) (s : σ), (∀ i x s, xs[i]? = some x → I (n + i) s → Sat (f x s) (fun r => P (n + i) x r.1 ∧ I (n + i + 1) r.2)) → I n s →
    Sat (mapS f xs s) (fun z => z.1.length = xs.length ∧ (∀ i y, z.1[i]? = some y → ∃ x, xs[i]? = some x ∧ P (n + i) x y) ∧ I (n + xs.length) z.2)
  | [], n, s, _, h => Sat.ok ⟨rfl, fun i y hy => by simp at hy, h⟩
  | x :: xs, n, s, hf, h => by
    refine Sat.bind (hf 0 x s rfl h) fun r ⟨h1, h2⟩ => ?_
    have := sat_mapS (f := f) I P xs (n + 1) r.2 (fun i y s hi hs => by
      have := hf (i + 1) y s (by simpa using hi) (by rw [show n + (i + 1) = n + 1 + i by omega]; exact hs)
      rw [show n + (i + 1) = n + 1 + i by omega] at this
      exact this) h2
    refine Sat.bind this fun z ⟨z1, z2, z3⟩ => Sat.ok ⟨by simp [z1], fun i y hy => ?_, by rw [List.length_cons, show n + (xs.length + 1) = n + 1 + xs.length by omega]; exact z3⟩
    cases i with
    | zero => exact ⟨x, rfl, by simp at hy; subst hy; exact h1⟩
    | succ i =>
      obtain ⟨x', e1, e2⟩ := z2 i y (by simpa using hy)
      exact ⟨x', by simpa using e1, by rw [show n + (i + 1) = n + 1 + i by omega]; exact e2⟩
theorem Sat.lcS {f : ι → σ → Option (β × σ)} {xs : List ι} {s : σ} (I : Nat → σ → Prop) (P : ι → β → Prop) (hl : xs.length ≤ 100000) (h : I 0 s) (hf : ∀ i x s, xs[i]? = some x → I i s → Sat (f x s) (fun r => P x r.1 ∧ I (i + 1) r.2)) :
    Sat (T9.lcS xs f s) (fun z => z.1.length = xs.length ∧ (∀ (i : Nat) y, z.1[i]? = some y → ∃ x, xs[i]? = some x ∧ P x y) ∧ I xs.length z.2) := by
  unfold T9.lcS
  rw [if_pos hl]
  have := sat_mapS (f := f) I (fun _ => P) xs 0 s (fun i x s hi hs => by rw [Nat.zero_add] at hs ⊢; exact hf i x s hi hs) h
  refine this.mono fun z ⟨a, b, c⟩ => ⟨a, b, by rw [Nat.zero_add] at c; exact c⟩
theorem mapO_eq {t : ι → Option β} {u : ι → β} : ∀ {xs : List ι}, (∀ x ∈ xs, t x = some (u x)) → mapO t xs = some (xs.map u)
  | [], _ => rfl
  | x :: xs, h => by
    unfold mapO
    rw [h x (List.mem_cons_self ..), mapO_eq (u := u) (xs := xs) fun y hy => h y (List.mem_cons_of_mem _ hy)]
    rfl
theorem lcO_eq {t : ι → Option β} {u : ι → β} {xs : List ι} (hl : xs.length ≤ 100000) (h : ∀ x ∈ xs, t x = some (u x)) : lcO xs t = some (xs.map u) := by
  unfold lcO
  rw [if_pos hl, mapO_eq h]
end
section
variable {α : Type}
theorem pIx_nat {l : List α} {j : Nat} {x : α} (h : l[j]? = some x) : pIx l (j : Int) = some x := by
  have hj := (List.getElem?_eq_some_iff.mp h).1
  unfold pIx ixN
  rw [if_pos (by omega), if_pos (by omega)]
  simpa using h
theorem pIx_int {l : List α} {i : Int} {x : α} (h0 : 0 ≤ i) (h : l[i.toNat]? = some x) : pIx l i = some x := by
  have := pIx_nat h
  rwa [Int.toNat_of_nonneg h0] at this
def rngL (n : Nat) : List Int := (List.range n).map fun (i : Nat) => (i : Int)
theorem pRng_ok {n : Nat} (h : n ≤ 1000000) : pRng 0 (n : Int) = some (rngL n) := by
  unfold pRng
  rw [if_pos (by simp only [rngC, Bool.and_eq_true, decide_eq_true_eq]; omega)]
  simp [rngL]
theorem pRng_int {i : Int} (h0 : 0 ≤ i) (h : i ≤ 1000000) : pRng 0 i = some (rngL i.toNat) := by
  have := pRng_ok (n := i.toNat) (by omega)
  rwa [Int.toNat_of_nonneg h0] at this
theorem rngL_len (n : Nat) : (rngL n).length = n := by simp [rngL]
theorem rngL_get {n i : Nat} {x : Int} (h : (rngL n)[i]? = some x) : x = (i : Int) ∧ i < n := by
  unfold rngL at h
  rw [List.getElem?_map] at h
  cases e : (List.range n)[i]? with
  | none => rw [e] at h; cases h
  | some j =>
    rw [e] at h
    cases h
    obtain ⟨h1, h2⟩ := List.getElem?_eq_some_iff.mp e
    rw [List.length_range] at h1
    rw [List.getElem_range] at h2
    exact ⟨by rw [h2], h1⟩
theorem pMod_ok {a b : Int} (h : 0 < b) : pMod a b = some (a % b) := if_pos h
theorem pMul_ok {i j : Int} {a b : Nat} (ha : 0 < a) (hb : 0 < b) (hab : a + b ≤ 1000000) (h1 : -(2 : Int) ^ a < i) (h2 : i < (2 : Int) ^ a) (h3 : -(2 : Int) ^ b < j) (h4 : j < (2 : Int) ^ b) : pMul i j = some (i * j) := by
  have := log2_lt' ha h1 h2
  have := log2_lt' hb h3 h4
  exact if_pos (by omega)
theorem pMul64 {i j : Int} (h1 : -18446744073709551616 < i) (h2 : i < 18446744073709551616) (h3 : -18446744073709551616 < j) (h4 : j < 18446744073709551616) : pMul i j = some (i * j) := pMul_ok (a := 64) (b := 64) (by decide) (by decide) (by decide) (by omega) (by omega) (by omega) (by omega)
theorem pDiv_ok {i j : Int} {b : Nat} (hb : 0 < b) (hb2 : b ≤ 9000) (h3 : 0 < j) (h4 : j < (2 : Int) ^ b) : pDiv i j = some (i / j) := by
  have := log2_lt' hb (by have : (0 : Int) < 2 ^ b := Int.pow_pos (by decide); omega) h4
  exact if_pos ⟨h3, by omega⟩
theorem pPow_ok {i : Int} {a j : Nat} (ha : 0 < a) (haj : a * j ≤ 100000000) (h1 : -(2 : Int) ^ a < i) (h2 : i < (2 : Int) ^ a) : pPow i (j : Nat) = some (i ^ j) := by
  have e := powOk ha haj h1 h2
  simp only [gPow, gIc] at e
  split at e
  · rename_i hc
    unfold pPow
    unfold cPow at hc
    simp only [Bool.and_eq_true, decide_eq_true_eq] at hc
    rw [if_pos hc]
    simp
  · cases e
theorem pCat_ok {l x : List α} (h : l.length + x.length ≤ 100000) : pCat l x = some (l ++ x) := if_pos h
end
def PotOk (c : Nat) (p : List Int) : Prop := ∃ g m n : Int, p = [g, m, n] ∧ 0 ≤ g ∧ 0 ≤ m ∧ m < 4611686018427387904 ∧ 0 ≤ n ∧ n ≤ (c : Int)
theorem PotOk.mono {c d : Nat} {p : List Int} (h : PotOk c p) (e : c ≤ d) : PotOk d p := by
  obtain ⟨g, m, n, h0, h1, h2, h3, h4, h5⟩ := h
  exact ⟨g, m, n, h0, h1, h2, h3, h4, by omega⟩
theorem take_ok {c : Nat} {p : List Int} {many : Int} (h : PotOk c p) (hc : c ≤ 1000000) (h1 : 0 < many) (h2 : many < 2 ^ 250) : Sat (p__law_take p many) (fun r => 0 ≤ r.1 ∧ r.1 < many ∧ PotOk (c + 1) r.2) := by
  obtain ⟨g, m, n, rfl, g0, m0, m1, n0, n1⟩ := h
  unfold p__law_take
  refine Sat.eq (a := g) rfl (Sat.ite (fun hg => ?_) (fun hg => ?_))
  · refine Sat.eq (a := g) rfl (Sat.eq (pMod_ok h1) (Sat.eq (a := g) rfl (Sat.eq (pDiv_ok (b := 250) (by decide) (by decide) h1 h2) (Sat.eq (a := [g / many, m, n]) rfl (Sat.ok ⟨Int.emod_nonneg _ (by omega), Int.emod_lt_of_pos _ h1, g / many, m, n, rfl, Int.ediv_nonneg g0 (by omega), m0, m1, n0, by omega⟩)))))
  · refine Sat.eq (a := n) rfl (Sat.eq (a := [g, m, n + 1]) rfl (Sat.eq (a := n + 1) rfl (Sat.eq (pMod_ok (by decide)) ?_)))
    obtain ⟨q, hq, hq0, hq1⟩ : ∃ q, pIx [2305843009213693951, 999999999989, 1000000000039, 67280421310721] ((n + 1) % 4) = some q ∧ (0 : Int) < q ∧ q < 4611686018427387904 := by
      have : (n + 1) % 4 = 0 ∨ (n + 1) % 4 = 1 ∨ (n + 1) % 4 = 2 ∨ (n + 1) % 4 = 3 := by omega
      rcases this with e | e | e | e <;> rw [e]
      · exact ⟨_, rfl, by decide, by decide⟩
      · exact ⟨_, rfl, by decide, by decide⟩
      · exact ⟨_, rfl, by decide, by decide⟩
      · exact ⟨_, rfl, by decide, by decide⟩
    refine Sat.eq hq (Sat.eq (a := m) rfl (Sat.eq (a := n + 1) rfl (Sat.eq (pMul64 (by decide) (by decide) (by omega) (by omega)) (Sat.eq (a := n + 1) rfl (Sat.eq (pMul64 (by omega) (by omega) (by omega) (by omega)) (Sat.eq (a := n + 1) rfl (Sat.eq (pMul64 (by decide) (by decide) (by omega) (by omega)) (Sat.eq (pMod_ok hq0) ?_))))))))
    have r0 := Int.emod_nonneg (m + 7919 * (n + 1) * (n + 1) + 65537 * (n + 1)) (show q ≠ 0 by omega)
    have r1 := Int.emod_lt_of_pos (m + 7919 * (n + 1) * (n + 1) + 65537 * (n + 1)) hq0
    refine Sat.eq (pPow_ok (a := 62) (j := 5) (by decide) (by decide) (by omega) (by omega)) (Sat.eq (pMod_ok hq0) ?_)
    generalize (m + 7919 * (n + 1) * (n + 1) + 65537 * (n + 1)) % q = w at *
    have s0 := Int.emod_nonneg (w ^ 5) (show q ≠ 0 by omega)
    have s1 := Int.emod_lt_of_pos (w ^ 5) hq0
    generalize w ^ 5 % q = u at *
    refine Sat.eq (pDiv_ok (b := 62) (by decide) (by decide) (by decide) (by decide)) (Sat.eq (pDiv_ok (b := 62) (by decide) (by decide) (by decide) (by decide)) ?_)
    have t0 : 0 ≤ u / 1000003 := by omega
    have t1 : u / 1000003 < 4611686018427387904 := by omega
    refine Sat.eq (pMul64 (by omega) (by omega) (by decide) (by decide)) (Sat.eq (pMod_ok h1) (Sat.ok ⟨Int.emod_nonneg _ (by omega), Int.emod_lt_of_pos _ h1, g, m, n + 1, rfl, g0, m0, m1, by omega, by omega⟩))
theorem pot_ok {ns : List Int} {k : Nat} (hk : k < 100) : Sat (p__law_pot ns (k : Int)) (PotOk 0) := by
  unfold p__law_pot
  refine Sat.bind (P := fun _ => True) (Sat.ite (fun h => ?_) (fun h => ?_)) fun cell _ => ?_
  · have hl : k < ns.length := by have := of_decide_eq_true h; omega
    exact Sat.eq (pIx_nat (List.getElem?_eq_getElem hl)) (Sat.ok trivial)
  · exact Sat.eq (pMul64 (by decide) (by decide) (by omega) (by omega)) (Sat.ok trivial)
  · refine Sat.eq (pPow_ok (a := 4) (j := 60) (by decide) (by decide) (by decide) (by decide)) ?_
    refine Sat.eq (pPow_ok (a := 200) (j := 5) (by decide) (by decide) (by decide) (by decide)) ?_
    have e300 : (0 : Int) < (10 ^ 60) ^ 5 := by decide
    refine Sat.eq (pMod_ok e300) (Sat.eq (pPow_ok (a := 4) (j := 18) (by decide) (by decide) (by decide) (by decide)) ?_)
    have a0 := Int.emod_nonneg (if cell < 0 then -cell else cell) (show ((10 : Int) ^ 60) ^ 5 ≠ 0 by omega)
    have a1 := Int.emod_lt_of_pos (if cell < 0 then -cell else cell) e300
    generalize (if cell < 0 then -cell else cell) % (10 ^ 60) ^ 5 = gr at *
    have e1000 : ((10 : Int) ^ 60) ^ 5 < 2 ^ 1000 := by decide
    have hb : ∀ b : Bool, (0 : Int) ≤ b2n b ∧ b2n b ≤ 1 := fun b => by cases b <;> decide
    refine Sat.eq (pMul_ok (a := 1000) (b := 2) (by decide) (by decide) (by decide) (by have : (0 : Int) < 2 ^ 1000 := by decide
                                                                                        omega) (by omega) (by have := (hb (decide ((10 : Int) ^ 18 ≤ if cell < 0 then -cell else cell))).1; omega) (by have := (hb (decide ((10 : Int) ^ 18 ≤ if cell < 0 then -cell else cell))).2; omega)) ?_
    have hm := hb (decide ((10 : Int) ^ 18 ≤ if cell < 0 then -cell else cell))
    generalize b2n (decide ((10 : Int) ^ 18 ≤ if cell < 0 then -cell else cell)) = bb at *
    refine Sat.eq (pMod_ok (by decide)) (Sat.eq (pMul64 (by decide) (by decide) (by omega) (by omega)) (Sat.eq (pMul64 (by omega) (by omega) (by omega) (by omega)) ?_))
    have c0 := Int.emod_nonneg cell (show (2305843009213693951 : Int) ≠ 0 by decide)
    have c1 := Int.emod_lt_of_pos cell (show (0 : Int) < 2305843009213693951 by decide)
    generalize cell % 2305843009213693951 = cc at *
    have k0 : (0 : Int) ≤ 7919 * (k : Int) * (k : Int) := Int.mul_nonneg (by omega) (by omega)
    have k1 : 7919 * (k : Int) * (k : Int) ≤ 79190000 := by
      have : 7919 * (k : Int) ≤ 791900 := by omega
      have h2 : 7919 * (k : Int) * (k : Int) ≤ 791900 * (k : Int) := Int.mul_le_mul_of_nonneg_right this (by omega)
      omega
    refine Sat.eq (pMul64 (by omega) (by omega) (by decide) (by decide)) (Sat.eq (pMod_ok (by decide)) (Sat.ok ⟨_, _, 0, rfl, ?_, Int.emod_nonneg _ (by decide), ?_, by decide, by decide⟩))
    · have : bb = 0 ∨ bb = 1 := by omega
      rcases this with e | e <;> subst e <;> omega
    · have := Int.emod_lt_of_pos ((cc + 7919 * (k : Int) * (k : Int) + 17) * 48271) (show (0 : Int) < 2305843009213693921 by decide)
      omega
end N60
namespace N60
open PySem PySem.Spec PyProof.Rows L2 S9 T9
def SideOk (tops : List Int) (s : SideT) : Prop := 0 ≤ s.1 ∧ (s.2.1 = "from" ∨ s.2.1 = "to") ∧ 0 ≤ s.2.2 ∧ ∃ t, tops[s.1.toNat]? = some t ∧ s.2.2 ≤ t
def RuleOk (tops : List Int) (r : RuleT) : Prop := SideOk tops r.1 ∧ SideOk tops r.2
def Within (tops st : List Int) : Prop := st.length = tops.length ∧ ∀ (i : Nat) (a t : Int), st[i]? = some a → tops[i]? = some t → 0 ≤ a ∧ a ≤ t
def TopOk (x : Int) : Prop := 0 ≤ x ∧ x ≤ 999999999999999999999999999999
def isIn (s : SideT) (st : List Int) : Bool := if s.2.1 = "from" then decide (s.2.2 ≤ st.getD s.1.toNat 0) else decide (st.getD s.1.toNat 0 ≤ s.2.2)
def isBad (r : RuleT) (st : List Int) : Bool := !(isIn r.1 st || isIn r.2 st)
def SideIn (n : Nat) (s : SideT) : Prop := 0 ≤ s.1 ∧ s.1.toNat < n
def RuleIn (n : Nat) (r : RuleT) : Prop := SideIn n r.1 ∧ SideIn n r.2
theorem SideOk.in_ {tops : List Int} {s : SideT} (h : SideOk tops s) : SideIn tops.length s := by
  obtain ⟨h0, _, _, t, ht, _⟩ := h
  exact ⟨h0, (List.getElem?_eq_some_iff.mp ht).1⟩
theorem RuleOk.in_ {tops : List Int} {r : RuleT} (h : RuleOk tops r) : RuleIn tops.length r := ⟨h.1.in_, h.2.in_⟩
structure PlanOk (tops : List Int) (R : List RuleT) : Prop where
  l1 : 1 ≤ tops.length
  l2 : tops.length ≤ 12
  ht : ∀ t ∈ tops, TopOk t
  hr : ∀ r ∈ R, RuleOk tops r
  hl : R.length ≤ 40
theorem lenA_tup {l : List D} : pLenA (.tup l) = some (l.length : Int) := rfl
end N60
namespace N60
open PySem PySem.Spec PyProof.Rows L2 S9 T9
theorem len250 {α : Type} {l : List α} (h : l.length ≤ 100000) : (l.length : Int) < 2 ^ 250 := Int.lt_of_le_of_lt (show (l.length : Int) ≤ 100000 by omega) (by decide)
theorem of_gen {α : Type} {c : Nat} {p : List Int} {l : List α} (h : PotOk c p) (hc : c ≤ 1000000) (h0 : l ≠ []) (hl : l.length ≤ 100000) : Sat ((p__law_take p (l.length : Int)).bind fun a => (pIx l a.1).bind fun b => some (b, a.2)) (fun r => r.1 ∈ l ∧ PotOk (c + 1) r.2) := by
  have : 0 < l.length := List.length_pos_iff.mpr h0
  refine Sat.bind (take_ok h hc (by omega) (len250 hl)) fun a ⟨a0, a1, a2⟩ => ?_
  have ha : a.1.toNat < l.length := by omega
  exact Sat.eq (pIx_int a0 (List.getElem?_eq_getElem ha)) (Sat.ok ⟨List.getElem_mem ha, a2⟩)
theorem of_ok {c : Nat} {p : List Int} {l : List Int} (h : PotOk c p) (hc : c ≤ 1000000) (h0 : l ≠ []) (hl : l.length ≤ 100000) : Sat (p__law_of p l) (fun r => r.1 ∈ l ∧ PotOk (c + 1) r.2) := of_gen h hc h0 hl
theorem ofS_ok {c : Nat} {p : List Int} {l : List Str} (h : PotOk c p) (hc : c ≤ 1000000) (h0 : l ≠ []) (hl : l.length ≤ 100000) : Sat (p__law_of_LS p l) (fun r => r.1 ∈ l ∧ PotOk (c + 1) r.2) := of_gen h hc h0 hl
theorem Within.get {tops st : List Int} (h : Within tops st) {i : Int} (h0 : 0 ≤ i) (hi : i.toNat < tops.length) : ∃ a t, pIx st i = some a ∧ tops[i.toNat]? = some t ∧ st[i.toNat]? = some a ∧ 0 ≤ a ∧ a ≤ t := by
  have h1 : i.toNat < st.length := by rw [h.1]; exact hi
  refine ⟨st[i.toNat], tops[i.toNat], pIx_int h0 (List.getElem?_eq_getElem h1), List.getElem?_eq_getElem hi, List.getElem?_eq_getElem h1, ?_⟩
  exact h.2 i.toNat _ _ (List.getElem?_eq_getElem h1) (List.getElem?_eq_getElem hi)
end N60
namespace N60
open PySem PySem.Spec PyProof.Rows L2 S9 T9
structure EqOn {α : Type} (P : α → Prop) (e : α → D) (n : Nat) : Prop where
  to : ∀ a, P a → ∃ p, (e a).toP = some p ∧ p.canLay0 = true ∧ p.depth ≤ n
  eq : ∀ a b p q, P a → P b → (e a).toP = some p → (e b).toP = some q → (PyData.eqv p q = true ↔ a = b)
section
variable {α β γ η : Type} {P : α → Prop} {Q : β → Prop} {U : γ → Prop} {Z : η → Prop}
end
def SideW (s : SideT) : Prop := s.2.1 = "from" ∨ s.2.1 = "to"
theorem SideOk.w {tops : List Int} {s : SideT} (h : SideOk tops s) : SideW s := h.2.1
def RuleW (r : RuleT) : Prop := SideW r.1 ∧ SideW r.2
theorem RuleOk.w {tops : List Int} {r : RuleT} (h : RuleOk tops r) : RuleW r := ⟨h.1.w, h.2.w⟩
end N60
namespace N60
open PySem PySem.Spec PyProof.Rows L2 S9 T9
def Pd (n : Nat) (d : D) : Prop := ∃ p, d.toP = some p ∧ p.canLay0 = true ∧ p.depth ≤ n
theorem Pd.mono {n m : Nat} {d : D} (h : Pd n d) (e : n ≤ m) : Pd m d := by
  obtain ⟨p, h1, h2, h3⟩ := h
  exact ⟨p, h1, h2, Nat.le_trans h3 e⟩
theorem repr_bl (b : Bool) : ∃ s, pRepr (eB b) = some s := by
  have e : (eB b).toP = some (.bool b) := by show (D.bl b).toP = _; simp only [D.toP]
  exact ⟨_, by unfold pRepr; rw [gRepr_of e shw_bl (by decide) (by decide)]⟩
end N60
namespace N60
open PySem PySem.Spec PyProof.Rows L2 S9 T9
def Th (n B : Nat) (d : D) : Prop := ∃ p, d.toE = some p ∧ p.showable = true ∧ p.depth ≤ n ∧ p.shown.length ≤ B
def ThL (n B : Nat) (l : List D) : Prop := ∃ ps, D.toEs l = some ps ∧ PyData.showableAll ps = true ∧ PyData.depthAll ps ≤ n ∧ ((PyData.shownAll ps).map (·.length)).sum ≤ B ∧ ps.length = l.length
theorem shownAll_len : ∀ ps : List PyData, (PyData.shownAll ps).length = ps.length
  | [] => by simp only [PyData.shownAll, List.length_nil]
  | x :: ps => by simp only [PyData.shownAll, List.length_cons, shownAll_len ps]
section
variable {n m B C : Nat} {d : D} {l : List D}
theorem Th.mono (h : Th n B d) (e1 : n ≤ m) (e2 : B ≤ C) : Th m C d := by
  obtain ⟨p, h1, h2, h3, h4⟩ := h
  exact ⟨p, h1, h2, Nat.le_trans h3 e1, Nat.le_trans h4 e2⟩
theorem th_repr (h : Th n B d) (hn : n ≤ 60) (hB : B ≤ 1000000) : ∃ s, pReprE (eA d) = some s := by
  obtain ⟨p, h1, h2, h3, h4⟩ := h
  refine ⟨p.shown, ?_⟩
  have e : gReprE [eA d] = some (.str p.shown) := by
    unfold gReprE
    have h1' : (eA d).toE = some p := h1
    simp only [h1', Option.bind_some]
    rw [if_pos]
    unfold reprOkE
    simp only [h2, Bool.true_and, Bool.and_eq_true, decide_eq_true_eq]
    omega
  unfold pReprE
  rw [e]
theorem th_shw {p : PyData} (e : d.toE = some p) (h : Shw B n p) : Th n B d := ⟨p, e, h.sh, h.dp, h.ln⟩
theorem th_non : Th 0 5 .non := th_shw (by simp only [D.toE]) shw_non
theorem th_bl (b : Bool) : Th 0 5 (.bl b) := th_shw (p := .bool b) (by simp only [D.toE]) shw_bl
theorem th_int {i : Int} (h1 : -(2 : Int) ^ 300 < i) (h2 : i < 2 ^ 300) : Th 0 301 (.int i) := th_shw (by simp only [D.toE]) (shw_small h1 h2)
theorem thl_nil : ThL n 0 [] := ⟨[], by simp only [D.toEs], by simp only [PyData.showableAll], by simp only [PyData.depthAll]; exact Nat.zero_le _, by simp only [PyData.shownAll, List.map_nil, List.sum_nil]; exact Nat.le_refl _, rfl⟩
theorem thl_cons (a : Th n B d) (b : ThL n C l) : ThL n (B + C) (d :: l) := by
  obtain ⟨p, h1, h2, h3, h4⟩ := a
  obtain ⟨ps, g1, g2, g3, g4, g5⟩ := b
  refine ⟨p :: ps, by simp only [D.toEs, h1, g1, Option.bind_some, Option.map_some], by simp only [PyData.showableAll, h2, g2, Bool.and_self], by simp only [PyData.depthAll]; exact Nat.max_le.mpr ⟨h3, g3⟩, ?_, by simp only [List.length_cons, g5]⟩
  simp only [PyData.shownAll, List.map_cons, List.sum_cons]
  omega
theorem thl_all : ∀ {l : List D}, (∀ d ∈ l, Th n B d) → ThL n (B * l.length) l
  | [], _ => thl_nil
  | d :: l, h => by
    have := thl_cons (h d (List.mem_cons_self ..)) (thl_all fun x hx => h x (List.mem_cons_of_mem _ hx))
    rw [List.length_cons, Nat.mul_succ, Nat.add_comm]
    exact this
theorem th_tup (h : ThL n B l) : Th (n + 1) (B + 2 * l.length + 3) (.tup l) := by
  obtain ⟨ps, g1, g2, g3, g4, g5⟩ := h
  refine ⟨.tuple ps, by simp only [D.toE, g1, Option.map_some], by simp only [PyData.showable, g2], by simp only [PyData.depth]; omega, ?_⟩
  have := tupleText_len_le (PyData.shownAll ps)
  simp only [PyData.shown]
  rw [shownAll_len] at this
  omega
theorem th_lst (h : ThL n B l) : Th (n + 1) (B + 2 * l.length + 3) (.lst l) := by
  obtain ⟨ps, g1, g2, g3, g4, g5⟩ := h
  refine ⟨.list ps, by simp only [D.toE, g1, Option.map_some], by simp only [PyData.showable, g2], by simp only [PyData.depth]; omega, ?_⟩
  have := listText_len_le (PyData.shownAll ps)
  simp only [PyData.shown]
  rw [shownAll_len] at this
  omega
theorem th_dct0 : Th 1 5 (.dct [] []) := ⟨.dict [], by simp only [D.toE, D.toEs, Option.map_some, List.map_nil, List.zip_nil_left], by simp only [PyData.showable, PyData.showableKv], by simp only [PyData.depth, PyData.depthKv]; decide, by
  have := dictText_len_le []
  simp only [PyData.shown, PyData.shownKv]
  exact Nat.le_trans this (by decide)⟩
theorem th_str {x : Str} {L : Nat} (h : (PyData.str x).shown.length ≤ L) : Th 0 L (.str x) := ⟨.str x, by simp only [D.toE], by simp only [PyData.showable], by simp only [PyData.depth]; exact Nat.le_refl _, h⟩
end
def knD : D → Bool
  | .non => true
  | .bl _ => true
  | .int _ => true
  | .str _ => true
  | .tup _ => true
  | .lst _ => true
  | .dct _ _ => true
  | _ => false
def Kn (d : D) : Prop := knD d = true ∧ ∀ l, d = .tup l → ∀ x ∈ l, knD x = true
theorem isi_tuple_kn {d : D} (h : knD d = true) : pIsi (eA d) (eA (D.ty "tuple")) = some (match d with | .tup _ => true | _ => false) := by
  cases d <;> first | rfl | cases h
theorem isi_str_kn {d : D} (h : knD d = true) : pIsi (eA d) (eA (D.ty "str")) = some (match d with | .str _ => true | _ => false) := by
  cases d <;> first | rfl | cases h
def Any (n B : Nat) (d : D) : Prop := Kn d ∧ Th n B d
theorem Any.mono {n m B C : Nat} {d : D} (h : Any n B d) (e1 : n ≤ m) (e2 : B ≤ C) : Any m C d := ⟨h.1, h.2.mono e1 e2⟩
end N60
namespace N60
open PySem PySem.Spec PyProof.Rows L2 S9 T9
theorem told {f : List W → Sto → R W} {ns : List Int} {p : Option Bool} {m : Bool → Sto} (h : Rr (f [.d (eF eI ns)] []) p (fun r => .d (eB r)) m) (hp : p = some true) : ∃ M, f [.d (.frl (ns.map D.int))] [] = .ok (.d (.bl true)) M := ⟨_, h true hp⟩
theorem cl_nil : Cl ([] : Sto) := rfl
theorem cells {n : Nat} {ns : List Int} (hn : n ≤ 60) (hn1 : 1 ≤ n) : ∃ m : Nat, max2 1 (min2 (n : Int) (ns.length : Int)) = (m : Int) ∧ m ≤ n := by
  unfold max2 min2
  by_cases g1 : (ns.length : Int) < (n : Int)
  · rw [if_pos g1]
    by_cases g2 : (ns.length : Int) > 1
    · exact ⟨ns.length, by rw [if_pos g2], by omega⟩
    · exact ⟨1, by rw [if_neg g2]; rfl, by omega⟩
  · rw [if_neg g1]
    by_cases g2 : (n : Int) > 1
    · exact ⟨n, by rw [if_pos g2], by omega⟩
    · exact ⟨1, by rw [if_neg g2]; rfl, by omega⟩
end N60
namespace N60
open PySem PySem.Spec PyProof.Rows L2 S9 T9
abbrev Need := Int × Int × Int × Int
def beyondOf (one other : List Int) (l c : SideT) : Int := if one.getD l.1.toNat 0 < other.getD l.1.toNat 0 then c.2.2 - l.2.2 else l.2.2 - c.2.2
def needOf (one other : List Int) (l c : SideT) : Option Need :=
  if (isIn l one && (!isIn l other && (!isIn c one && isIn c other))) = true then
    if (decide (l.1 = c.1) && decide (beyondOf one other l c < 2)) = true then none else some (l.1, l.2.2, c.1, c.2.2)
  else none
def putO (o : Option Need) (m : List (Need × Bool)) : List (Need × Bool) := match o with
  | none => m
  | some n => putA n true m
def addR (one other : List Int) (m : List (Need × Bool)) (r : RuleT) : List (Need × Bool) := putO (needOf one other r.2 r.1) (putO (needOf one other r.1 r.2) m)
section
variable {α β ι σ : Type}
theorem putA_len [DecidableEq α] {k : α} {v : β} {m : List (α × β)} : (putA k v m).length ≤ m.length + 1 := by
  unfold putA
  split
  · rw [List.length_map]; omega
  · rw [List.length_append]; exact Nat.le_refl _
theorem putA_mem [DecidableEq α] {k : α} {v : β} {m : List (α × β)} {x : α} (h : x ∈ (putA k v m).map (·.1)) : x = k ∨ x ∈ m.map (·.1) := by
  unfold putA at h
  split at h
  · refine .inr ?_
    rw [List.map_map] at h
    obtain ⟨p, h1, rfl⟩ := List.mem_map.mp h
    refine List.mem_map.mpr ⟨p, h1, ?_⟩
    simp only [Function.comp]
    split <;> rfl
  · rw [List.map_append, List.mem_append] at h
    rcases h with h | h
    · exact .inr h
    · simp only [List.map_cons, List.map_nil, List.mem_singleton] at h
      exact .inl h
end
def SideN (s : SideT) : Prop := (0 ≤ s.1 ∧ s.1 < 2 ^ 300) ∧ (0 ≤ s.2.2 ∧ s.2.2 < 2 ^ 300)
theorem SideOk.n {tops : List Int} {s : SideT} (h : SideOk tops s) (ht : ∀ t ∈ tops, TopOk t) (hl : tops.length ≤ 12) : SideN s := by
  obtain ⟨h0, _, h1, t, e, h2⟩ := h
  have h3 := (ht t (List.mem_of_getElem? e)).2
  have h4 := (List.getElem?_eq_some_iff.mp e).1
  exact ⟨⟨h0, Int.lt_of_le_of_lt (show s.1 ≤ 12 by omega) (by decide)⟩, h1, Int.lt_of_le_of_lt (show s.2.2 ≤ 999999999999999999999999999999 by omega) (by decide)⟩
def needsL (R : List RuleT) (one other : List Int) : List Need := srtA tl4 ((R.foldl (addR one other) []).map (·.1))
theorem insA_mem {α : Type} {tl : α → List Int} {x y : α} : ∀ {l : List α}, y ∈ insA tl x l → y = x ∨ y ∈ l
  | [], h => by simpa [insA] using h
  | z :: l, h => by
    unfold insA at h
    split at h
    · simpa using h
    · rcases List.mem_cons.mp h with rfl | h
      · exact .inr (by simp)
      · exact (insA_mem h).imp id fun h => by simp [h]
theorem srtA_mem {α : Type} {tl : α → List Int} {y : α} : ∀ {l : List α}, y ∈ srtA tl l → y ∈ l
  | [], h => h
  | x :: l, h => by
    rcases insA_mem h with rfl | h
    · simp
    · simp [srtA_mem h]
theorem EqOn.up {α : Type} {P : α → Prop} {e : α → D} {n m : Nat} (h : EqOn P e n) (hm : n ≤ m) : EqOn P e m := ⟨fun a ha => by
  obtain ⟨p, x, y, z⟩ := h.to a ha
  exact ⟨p, x, y, Nat.le_trans z hm⟩, h.eq⟩
end N60
namespace N60
open PySem PySem.Spec PyProof.Rows L2 S9 T9
end N60
namespace N60
open PySem PySem.Spec PyProof.Rows L2 S9 T9
def btw (p q r : Int) : Prop := (p ≤ q ∧ q ≤ r) ∨ (r ≤ q ∧ q ≤ p)
def Btw (a x b : List Int) : Prop := ∀ k, btw (a.getD k 0) (x.getD k 0) (b.getD k 0)
def Good (R : List RuleT) (x : List Int) : Prop := ∀ r ∈ R, isBad r x = false
theorem getD_set {x : List Int} {k j : Nat} {v : Int} (h : k < x.length) : (x.set k v).getD j 0 = if j = k then v else x.getD j 0 := by
  rw [List.getD_eq_getElem?_getD, List.getElem?_set]
  by_cases e : k = j
  · subst e
    rw [if_pos rfl, if_pos rfl, if_pos h]
    rfl
  · rw [if_neg e, if_neg (fun z => e z.symm), List.getD_eq_getElem?_getD]
theorem in_from {s : SideT} {x : List Int} (h : s.2.1 = "from") : isIn s x = decide (s.2.2 ≤ x.getD s.1.toNat 0) := by unfold isIn; rw [if_pos h]
theorem in_to {s : SideT} {x : List Int} (h : s.2.1 = "to") : isIn s x = decide (x.getD s.1.toNat 0 ≤ s.2.2) := by unfold isIn; rw [if_neg (by rw [h]; decide)]
def hasC (a x : List Int) (j : Nat) (q : Int) : Bool := if a.getD j 0 < q then decide (q ≤ x.getD j 0) else decide (x.getD j 0 ≤ q)
structure NeedIs (a b : List Int) (l c : SideT) (n : Need) : Prop where
  la : isIn l a = true
  lb : isIn l b = false
  ca : isIn c a = false
  cb : isIn c b = true
  far : l.1 = c.1 → 2 ≤ beyondOf a b l c
  e : n = (l.1, l.2.2, c.1, c.2.2)
theorem needOf_iff {a b : List Int} {l c : SideT} {n : Need} : needOf a b l c = some n ↔ NeedIs a b l c n := by
  unfold needOf
  constructor
  · intro h
    split at h
    · rename_i h1
      split at h
      · cases h
      · rename_i h2
        cases h
        simp only [Bool.and_eq_true, Bool.not_eq_true'] at h1
        refine ⟨h1.1, h1.2.1, h1.2.2.1, h1.2.2.2, fun e => ?_, rfl⟩
        rw [decide_eq_true e, Bool.true_and, decide_eq_true_eq] at h2
        omega
    · cases h
  · intro ⟨h1, h2, h3, h4, h5, h6⟩
    rw [h1, h2, h3, h4]
    simp only [Bool.not_false, Bool.and_self, if_true]
    rw [if_neg, h6]
    intro z
    rw [Bool.and_eq_true, decide_eq_true_eq, decide_eq_true_eq] at z
    have := h5 z.1
    omega
structure NeedN (a b : List Int) (n : Need) : Prop where
  leave : (a.getD n.1.toNat 0 ≤ n.2.1 ∧ n.2.1 < b.getD n.1.toNat 0) ∨ (b.getD n.1.toNat 0 < n.2.1 ∧ n.2.1 ≤ a.getD n.1.toNat 0)
  come : (a.getD n.2.2.1.toNat 0 < n.2.2.2 ∧ n.2.2.2 ≤ b.getD n.2.2.1.toNat 0) ∨ (b.getD n.2.2.1.toNat 0 ≤ n.2.2.2 ∧ n.2.2.2 < a.getD n.2.2.1.toNat 0)
theorem NeedIs.num {a b : List Int} {l c : SideT} {n : Need} (h : NeedIs a b l c n) (hl : SideW l) (hc : SideW c) : NeedN a b n ∧ ∀ x, isIn c x = hasC a x n.2.2.1.toNat n.2.2.2 := by
  obtain ⟨h1, h2, h3, h4, h5, rfl⟩ := h
  refine ⟨⟨?_, ?_⟩, fun x => ?_⟩
  · rcases hl with hl | hl
    · rw [in_from hl, decide_eq_true_eq] at h1
      rw [in_from hl, decide_eq_false_iff_not] at h2
      show (a.getD l.1.toNat 0 ≤ l.2.2 ∧ l.2.2 < b.getD l.1.toNat 0) ∨ (b.getD l.1.toNat 0 < l.2.2 ∧ l.2.2 ≤ a.getD l.1.toNat 0)
      omega
    · rw [in_to hl, decide_eq_true_eq] at h1
      rw [in_to hl, decide_eq_false_iff_not] at h2
      show (a.getD l.1.toNat 0 ≤ l.2.2 ∧ l.2.2 < b.getD l.1.toNat 0) ∨ (b.getD l.1.toNat 0 < l.2.2 ∧ l.2.2 ≤ a.getD l.1.toNat 0)
      omega
  · rcases hc with hc | hc
    · rw [in_from hc, decide_eq_false_iff_not] at h3
      rw [in_from hc, decide_eq_true_eq] at h4
      show (a.getD c.1.toNat 0 < c.2.2 ∧ c.2.2 ≤ b.getD c.1.toNat 0) ∨ (b.getD c.1.toNat 0 ≤ c.2.2 ∧ c.2.2 < a.getD c.1.toNat 0)
      omega
    · rw [in_to hc, decide_eq_false_iff_not] at h3
      rw [in_to hc, decide_eq_true_eq] at h4
      show (a.getD c.1.toNat 0 < c.2.2 ∧ c.2.2 ≤ b.getD c.1.toNat 0) ∨ (b.getD c.1.toNat 0 ≤ c.2.2 ∧ c.2.2 < a.getD c.1.toNat 0)
      omega
  · show isIn c x = hasC a x c.1.toNat c.2.2
    unfold hasC
    rcases hc with hc | hc
    · rw [in_from hc, decide_eq_false_iff_not] at h3
      rw [if_pos (by omega), in_from hc]
    · rw [in_to hc, decide_eq_false_iff_not] at h3
      rw [if_neg (by omega), in_to hc]
theorem putA_memI {α β : Type} [DecidableEq α] {k : α} {v : β} {m : List (α × β)} {x : α} : x ∈ (putA k v m).map (·.1) ↔ x = k ∨ x ∈ m.map (·.1) := by
  refine ⟨putA_mem, fun h => ?_⟩
  unfold putA
  split
  · rename_i hk
    have h : x ∈ m.map (·.1) := by rcases h with rfl | h; exact hk; exact h
    rw [List.map_map]
    obtain ⟨p, h1, rfl⟩ := List.mem_map.mp h
    refine List.mem_map.mpr ⟨p, h1, ?_⟩
    simp only [Function.comp]
    split <;> rfl
  · rw [List.map_append, List.mem_append]
    rcases h with rfl | h
    · exact .inr (by simp)
    · exact .inl h
theorem putO_memI {o : Option Need} {m : List (Need × Bool)} {x : Need} : x ∈ (putO o m).map (·.1) ↔ o = some x ∨ x ∈ m.map (·.1) := by
  unfold putO
  cases o with
  | none => simp
  | some n =>
    simp only [putA_memI, Option.some.injEq]
    constructor <;> rintro (rfl | h) <;> simp_all
theorem fold_mem {a b : List Int} {x : Need} : ∀ (R : List RuleT) (m : List (Need × Bool)), x ∈ (R.foldl (addR a b) m).map (·.1) ↔ x ∈ m.map (·.1) ∨ ∃ r ∈ R, needOf a b r.1 r.2 = some x ∨ needOf a b r.2 r.1 = some x
  | [], m => by simp
  | r :: R, m => by
    rw [List.foldl_cons, fold_mem R]
    unfold addR
    rw [putO_memI, putO_memI]
    constructor
    · rintro ((h | h | h) | ⟨r', h1, h2⟩)
      · exact .inr ⟨r, by simp, .inr h⟩
      · exact .inr ⟨r, by simp, .inl h⟩
      · exact .inl h
      · exact .inr ⟨r', by simp [h1], h2⟩
    · rintro (h | ⟨r', h1, h2⟩)
      · exact .inl (.inr (.inr h))
      · rcases List.mem_cons.mp h1 with rfl | h1
        · rcases h2 with h2 | h2
          · exact .inl (.inr (.inl h2))
          · exact .inl (.inl h2)
        · exact .inr ⟨r', h1, h2⟩
theorem insA_memI {α : Type} {tl : α → List Int} {x y : α} : ∀ {l : List α}, (y = x ∨ y ∈ l) → y ∈ insA tl x l
  | [], h => by simpa [insA] using h
  | z :: l, h => by
    unfold insA
    split
    · simpa using h
    · rcases h with rfl | h
      · exact List.mem_cons_of_mem _ (insA_memI (.inl rfl))
      · rcases List.mem_cons.mp h with rfl | h
        · exact List.mem_cons_self
        · exact List.mem_cons_of_mem _ (insA_memI (.inr h))
theorem srtA_memI {α : Type} {tl : α → List Int} {y : α} : ∀ {l : List α}, y ∈ l → y ∈ srtA tl l
  | [], h => h
  | x :: l, h => by
    refine insA_memI ?_
    rcases List.mem_cons.mp h with rfl | h
    · exact .inl rfl
    · exact .inr (srtA_memI h)
theorem needs_mem {R : List RuleT} {a b : List Int} {n : Need} : n ∈ needsL R a b ↔ ∃ r ∈ R, needOf a b r.1 r.2 = some n ∨ needOf a b r.2 r.1 = some n := by
  unfold needsL
  have h := fold_mem (a := a) (b := b) (x := n) R []
  simp only [List.map_nil, List.not_mem_nil, false_or] at h
  rw [← h]
  exact ⟨srtA_mem, srtA_memI⟩
theorem needs_two {R : List RuleT} {a b : List Int} {n : Need} (h : n ∈ needsL R a b) : ∃ l c, ((l, c) ∈ R ∨ (c, l) ∈ R) ∧ NeedIs a b l c n := by
  obtain ⟨r, hr, h | h⟩ := needs_mem.mp h
  · exact ⟨r.1, r.2, .inl hr, needOf_iff.mp h⟩
  · exact ⟨r.2, r.1, .inr hr, needOf_iff.mp h⟩
def RulesW (R : List RuleT) : Prop := ∀ r ∈ R, SideW r.1 ∧ SideW r.2
theorem two_w {R : List RuleT} {l c : SideT} (hW : RulesW R) (hr : (l, c) ∈ R ∨ (c, l) ∈ R) : SideW l ∧ SideW c := by
  rcases hr with hr | hr
  · exact hW _ hr
  · exact (hW _ hr).symm
theorem needN {R : List RuleT} {a b : List Int} {n : Need} (hW : RulesW R) (h : n ∈ needsL R a b) : NeedN a b n := by
  obtain ⟨l, c, hr, h⟩ := needs_two h
  obtain ⟨w1, w2⟩ := two_w hW hr
  exact (h.num w1 w2).1
end N60
namespace N60
open PySem PySem.Spec PyProof.Rows L2 S9 T9
structure NeedIn (m : Nat) (n : Need) : Prop where
  i0 : 0 ≤ n.1
  i1 : n.1.toNat < m
  j0 : 0 ≤ n.2.2.1
  j1 : n.2.2.1.toNat < m
section
variable {N : List Need} {R : List RuleT} {a x b : List Int} {m k : Nat}
theorem pCut_to {α : Type} {l : List α} {a : Nat} (h : a ≤ l.length) : pCut l none (some (a : Int)) = l.take a := by
  unfold pCut
  rw [HT.sIx_none, HT.sIx_nat, Nat.min_eq_left h]
  simp
theorem pCut_from {α : Type} {l : List α} {a : Nat} (h : a ≤ l.length) : pCut l (some (a : Int)) none = l.drop a := by
  unfold pCut
  rw [HT.sIx_none, HT.sIx_nat, Nat.min_eq_left h]
  exact List.take_of_length_le (by simp)
inductive RowsF (R : List RuleT) (b : List Int) : List Int → List (Int × Int) → List Int → Prop
  | nil {x : List Int} : RowsF R b x [] x
  | cons {x z : List Int} {k : Nat} {v : Int} {rows : List (Int × Int)} (hk : k < x.length) (ne : v ≠ x.getD k 0) (hv : btw (x.getD k 0) v (b.getD k 0)) (g : ∀ y, btw (x.getD k 0) y v → Good R (x.set k y)) (h : RowsF R b (x.set k v) rows z) : RowsF R b x (((k : Int), v) :: rows) z
instance {p q r : Int} : Decidable (btw p q r) := by unfold btw; infer_instance
def ahead (b x : List Int) (e : Int × Int) : Bool := decide (e.2 ≠ x.getD e.1.toNat 0 ∧ btw (x.getD e.1.toNat 0) e.2 (b.getD e.1.toNat 0))
def tgt (N : List Need) (b : List Int) (m : Nat) : List (Int × Int) := N.map (fun n => (n.1, n.2.1)) ++ (List.range m).map fun (k : Nat) => ((k : Int), b.getD k 0)
def mu (N : List Need) (b : List Int) (m : Nat) (x : List Int) : Nat := ((tgt N b m).filter (ahead b x)).length
theorem count_le {α : Type} {p q : α → Bool} : ∀ l : List α, (∀ e ∈ l, p e = true → q e = true) → (l.filter p).length ≤ (l.filter q).length
  | [], _ => Nat.le_refl _
  | y :: l, h => by
    have ih := count_le l fun e he => h e (by simp [he])
    have hy := h y (by simp)
    rw [List.filter_cons, List.filter_cons]
    cases e1 : p y with
    | true => rw [hy e1, if_pos rfl, if_pos rfl, List.length_cons, List.length_cons]; omega
    | false =>
      rw [if_neg (by simp)]
      split
      · rw [List.length_cons]; omega
      · exact ih
theorem count_lt {α : Type} {p q : α → Bool} {e0 : α} : ∀ l : List α, (∀ e ∈ l, p e = true → q e = true) → e0 ∈ l → q e0 = true → p e0 = false → (l.filter p).length < (l.filter q).length
  | [], _, h, _, _ => absurd h List.not_mem_nil
  | y :: l, h, he, h1, h2 => by
    have hl : ∀ e ∈ l, p e = true → q e = true := fun e he => h e (by simp [he])
    have hy := h y (by simp)
    rw [List.filter_cons, List.filter_cons]
    rcases List.mem_cons.mp he with rfl | he
    · rw [h2, h1, if_neg (by simp), if_pos rfl, List.length_cons]
      have := count_le l hl
      omega
    · have ih := count_lt l hl he h1 h2
      cases e1 : p y with
      | true => rw [hy e1, if_pos rfl, if_pos rfl, List.length_cons, List.length_cons]; omega
      | false =>
        rw [if_neg (by simp)]
        split
        · rw [List.length_cons]; omega
        · exact ih
structure Base (R : List RuleT) (a b : List Int) (m : Nat) : Prop where
  ha : a.length = m
  hb : b.length = m
  hm : m ≤ 12
  w : RulesW R
  nn : ∀ r ∈ R, RuleIn m r
  ga : Good R a
  gb : Good R b
  hl : R.length ≤ 30
theorem Base.symm (B : Base R a b m) : Base R b a m := ⟨B.hb, B.ha, B.hm, B.w, B.nn, B.gb, B.ga, B.hl⟩
theorem Base.in_ (B : Base R a b m) {n : Need} (h : n ∈ needsL R a b) : NeedIn m n := by
  obtain ⟨l, c, hr, h⟩ := needs_two h
  have := h.e
  subst this
  rcases hr with hr | hr
  · have := B.nn _ hr
    exact ⟨this.1.1, this.1.2, this.2.1, this.2.2⟩
  · have := B.nn _ hr
    exact ⟨this.2.1, this.2.2, this.1.1, this.1.2⟩
structure Run (R : List RuleT) (a b : List Int) (m : Nat) (rows : List (Int × Int)) (x : List Int) : Prop where
  len : x.length = m
  bt : Btw a x b
  good : Good R x
  rws : RowsF R b a rows x
  cnt : rows.length + mu (needsL R a b) b m x ≤ (needsL R a b).length + m
  mem : ∀ e ∈ rows, e ∈ tgt (needsL R a b) b m
end
section
variable {σ : Type}
end
section
variable {R : List RuleT} {tops a x b : List Int} {m k : Nat}
end
end N60
namespace N60
open PySem PySem.Spec PyProof.Rows L2 S9 T9
section
variable {R : List RuleT} {tops a x y z b : List Int} {m k : Nat}
inductive Conn (R : List RuleT) : List Int → List Int → Prop
  | refl {x : List Int} : Conn R x x
  | step {x y : List Int} {k : Nat} {v : Int} (h : Conn R x y) (hk : k < y.length) (hv : v = y.getD k 0 + 1 ∨ v = y.getD k 0 - 1) (g : Good R (y.set k v)) : Conn R x (y.set k v)
theorem Conn.len (h : Conn R x y) : y.length = x.length := by
  induction h with
  | refl => rfl
  | step _ _ _ _ ih => rw [List.length_set, ih]
theorem Conn.good (h : Conn R x y) (g : Good R x) : Good R y := by
  induction h with
  | refl => exact g
  | step _ _ _ g _ => exact g
theorem Conn.trans (h : Conn R x y) (h2 : Conn R y z) : Conn R x z := by
  induction h2 with
  | refl => exact h
  | step _ hk hv g ih => exact .step ih hk hv g
theorem set_back {v : Int} (hk : k < y.length) : (y.set k v).set k (y.getD k 0) = y := by
  rw [List.set_set]
  apply List.ext_getElem?
  intro i
  rw [List.getElem?_set]
  split
  · rename_i e
    subst e
    rw [List.getElem?_eq_getElem hk, List.getD_eq_getElem?_getD, List.getElem?_eq_getElem hk]
    rfl
  · rfl
theorem Conn.symm (h : Conn R x y) (g : Good R x) : Conn R y x := by
  induction h with
  | refl => exact .refl
  | @step y k v h hk hv g2 ih =>
    have gy := h.good g
    have e := set_back (v := v) hk
    have one : Conn R (y.set k v) y := by
      have := Conn.step (R := R) (x := y.set k v) (y := y.set k v) (k := k) (v := y.getD k 0) .refl (by rw [List.length_set]; exact hk) (by rw [getD_set hk, if_pos rfl]; omega) (by rw [e]; exact gy)
      rwa [e] at this
    exact one.trans ih
structure Bar (R : List RuleT) (a b x : List Int) (n : Need) : Prop where
  mem : n ∈ needsL R a b
  stop : n.2.1 = x.getD n.1.toNat 0
  opn : hasC a x n.2.2.1.toNat n.2.2.2 = false
structure RingIs (R : List RuleT) (a b x : List Int) (ring : List Need) (k0 : Int) : Prop where
  bar : ∀ n ∈ ring, Bar R a b x n
  first : (ring.head?).map (·.1) = some k0
  chain : ∀ (i : Nat) (n : Need), ring[i]? = some n → (ring.map (·.1) ++ [k0])[i + 1]? = some n.2.2.1
structure RI (R : List RuleT) (a b x : List Int) (m : Nat) (found : List Need) (seen : List (Int × Int)) (thing : Int) : Prop where
  bar : ∀ n ∈ found, Bar R a b x n
  chain : ∀ (i : Nat) (n : Need), found[i]? = some n → (found.map (·.1) ++ [thing])[i + 1]? = some n.2.2.1
  len : seen.length = found.length
  idx : ∀ (i : Nat) (n : Need), found[i]? = some n → seen[i]? = some (n.1, (i : Int))
  t0 : 0 ≤ thing
  t1 : thing.toNat < m
  ne : x.getD thing.toNat 0 ≠ b.getD thing.toNat 0
theorem hasA_iff {α β : Type} [DecidableEq α] {k : α} : ∀ {l : List (α × β)}, hasA k l = true ↔ k ∈ l.map (·.1)
  | [] => by simp [hasA, lookA]
  | p :: l => by
    have ih := hasA_iff (k := k) (l := l)
    unfold hasA at ih ⊢
    unfold lookA
    by_cases e : p.1 = k
    · rw [if_pos e]; simp [e]
    · rw [if_neg e, ih]
      simp only [List.map_cons, List.mem_cons]
      exact ⟨.inr, fun h => h.resolve_left fun z => e z.symm⟩
theorem RI.step {found : List Need} {seen : List (Int × Int)} {thing : Int} {n : Need} (B : Base R a b m) (h : RI R a b x m found seen thing) (hn : Bar R a b x n) (e : n.1 = thing) : RI R a b x m (found ++ [n]) (seen ++ [(thing, (found.length : Int))]) n.2.2.1 := by
  have hi := B.in_ hn.mem
  have hnn := (needN B.w hn.mem).come
  refine ⟨fun q hq => ?_, fun i q hq => ?_, ?_, fun i q hq => ?_, hi.j0, hi.j1, fun z => ?_⟩
  · rcases List.mem_append.mp hq with hq | hq
    · exact h.bar q hq
    · rw [List.mem_singleton.mp hq]; exact hn
  · rw [List.map_append, List.map_cons, List.map_nil, e]
    rcases Nat.lt_or_ge i found.length with hl | hl
    · rw [List.getElem?_append_left hl] at hq
      have := h.chain i q hq
      rw [List.getElem?_append_left (by simp; omega)]
      exact this
    · rw [List.getElem?_append_right hl] at hq
      have hi0 : i = found.length := by
        have := (List.getElem?_eq_some_iff.mp hq).1
        simp at this
        omega
      subst hi0
      simp only [Nat.sub_self, List.getElem?_cons_zero, Option.some.injEq] at hq
      subst hq
      rw [List.getElem?_append_right (by simp)]
      simp
  · rw [List.length_append, List.length_append, h.len]; rfl
  · rcases Nat.lt_or_ge i found.length with hl | hl
    · rw [List.getElem?_append_left hl] at hq
      rw [List.getElem?_append_left (by rw [h.len]; exact hl)]
      exact h.idx i q hq
    · rw [List.getElem?_append_right hl] at hq
      have hi0 : i = found.length := by
        have := (List.getElem?_eq_some_iff.mp hq).1
        simp at this
        omega
      subst hi0
      simp only [Nat.sub_self, List.getElem?_cons_zero, Option.some.injEq] at hq
      subst hq
      rw [List.getElem?_append_right (by rw [h.len]; exact Nat.le_refl _), h.len, Nat.sub_self, e]
      rfl
  · have := hn.opn
    unfold hasC at this
    rw [z] at this
    split at this
    · rw [decide_eq_false_iff_not] at this
      omega
    · rw [decide_eq_false_iff_not] at this
      omega
end
end N60
namespace N60
open PySem PySem.Spec PyProof.Rows L2 S9 T9
section
variable {R : List RuleT} {tops a x y z b st : List Int} {m k : Nat}
end
end N60
namespace N60
open PySem PySem.Spec PyProof.Rows L2 S9 T9
end N60
namespace N60
open PySem PySem.Spec PyProof.Rows L2 S9 T9
section
variable {R : List RuleT} {tops a x y z b st : List Int} {m k : Nat} {rows : List (Int × Int)}
end
end N60
namespace N60
open PySem PySem.Spec PyProof.Rows L2 S9 T9
section
variable {R : List RuleT} {x b : List Int} {k : Nat} {by_ : Int} {S : List Int}
structure Spots (R : List RuleT) (k : Nat) (S : List Int) : Prop where
  all : ∀ r ∈ R, ∀ c : SideT, (c = r.1 ∨ c = r.2) → c.1 = (k : Int) → c.2.2 - 1 ∈ S ∧ c.2.2 ∈ S ∧ c.2.2 + 1 ∈ S
end
end N60
namespace N60
open PySem PySem.Spec PyProof.Rows L2 S9 T9
section
variable {G : List (List Int)} {x y z x0 : List Int} {m k : Nat}
def Step1 (x y : List Int) : Prop := ∃ (k : Nat) (v : Int), k < x.length ∧ (v = x.getD k 0 - 1 ∨ v = x.getD k 0 + 1) ∧ y = x.set k v
inductive Reach (G : List (List Int)) (x : List Int) : List Int → Prop
  | refl : Reach G x x
  | step {y z : List Int} (h : Reach G x y) (s : Step1 y z) (g : z ∈ G) : Reach G x z
theorem Step1.len (h : Step1 x y) : y.length = x.length := by
  obtain ⟨k, v, _, _, rfl⟩ := h
  rw [List.length_set]
theorem Reach.len (h : Reach G x y) : y.length = x.length := by
  induction h with
  | refl => rfl
  | step _ s _ ih => rw [s.len, ih]
theorem Reach.mem (h : Reach G x y) (hx : x ∈ G) : y ∈ G := by
  induction h with
  | refl => exact hx
  | step _ _ g _ => exact g
theorem Step1.symm (h : Step1 x y) : Step1 y x := by
  obtain ⟨k, v, hk, hv, rfl⟩ := h
  refine ⟨k, x.getD k 0, by rw [List.length_set]; exact hk, ?_, (set_back hk).symm⟩
  rw [getD_set hk, if_pos rfl]
  omega
theorem Reach.trans (h : Reach G x y) (h2 : Reach G y z) : Reach G x z := by
  induction h2 with
  | refl => exact h
  | step _ s g ih => exact .step ih s g
theorem Reach.symm (h : Reach G x y) (hx : x ∈ G) : Reach G y x := by
  induction h with
  | refl => exact .refl
  | step h s g ih => exact (Reach.step .refl s.symm (h.mem hx)).trans ih
structure BI {β : Type} (G : List (List Int)) (x0 : List Int) (found : List (List Int)) (seen : List (List Int × β)) : Prop where
  eq : seen.map (·.1) = found
  nd : found.Nodup
  re : ∀ y ∈ found, Reach G x0 y
  ct : found.length + (G.filter (fun y => decide (y ∉ found))).length ≤ G.length + 1
theorem BI.start {β : Type} {v : β} : BI G x0 [x0] [(x0, v)] := ⟨rfl, by simp, fun y h => by rw [List.mem_singleton.mp h]; exact .refl, by
  have := List.length_filter_le (fun y => decide (y ∉ [x0])) G
  simp only [List.length_singleton]
  omega⟩
theorem BI.push {β : Type} {found : List (List Int)} {seen : List (List Int × β)} {v : β} (h : BI G x0 found seen) (hy : y ∈ found) (s : Step1 y z) (g : z ∈ G) (hz : z ∉ found) : BI G x0 (found ++ [z]) (seen ++ [(z, v)]) := by
  refine ⟨by rw [List.map_append, h.eq]; rfl, ?_, fun w hw => ?_, ?_⟩
  · rw [List.nodup_append]
    refine ⟨h.nd, by simp, fun a ha b hb e => ?_⟩
    rw [List.mem_singleton.mp hb] at e
    rw [e] at ha
    exact hz ha
  · rcases List.mem_append.mp hw with hw | hw
    · exact h.re w hw
    · rw [List.mem_singleton.mp hw]; exact .step (h.re y hy) s g
  · have := count_lt (p := fun y => decide (y ∉ found ++ [z])) (q := fun y => decide (y ∉ found)) (e0 := z) G (fun e _ he => by
      rw [decide_eq_true_eq] at he ⊢
      exact fun q => he (List.mem_append_left _ q)) g (decide_eq_true hz) (decide_eq_false (by simp))
    have := h.ct
    rw [List.length_append, List.length_singleton]
    omega
theorem BI.has {β : Type} {found : List (List Int)} {seen : List (List Int × β)} (h : BI G x0 found seen) {x : List Int} : hasA x seen = decide (x ∈ found) := by
  have : hasA x seen = true ↔ x ∈ found := by rw [hasA_iff, h.eq]
  by_cases e : x ∈ found
  · rw [this.mpr e, decide_eq_true e]
  · rw [decide_eq_false e]
    cases c : hasA x seen with
    | false => rfl
    | true => exact absurd (this.mp c) e
theorem Within.set {tops : List Int} {v : Int} (h : Within tops x) (hk : k < x.length) {b : List Int} (hb : Within tops b) (hv : btw (x.getD k 0) v (b.getD k 0)) : Within tops (x.set k v) := by
  refine ⟨by rw [List.length_set]; exact h.1, fun i a t h1 h2 => ?_⟩
  have hi := (List.getElem?_eq_some_iff.mp h2).1
  have hi1 : i < x.length := by rw [h.1]; exact hi
  have hi2 : i < b.length := by rw [hb.1]; exact hi
  rw [List.getElem?_set] at h1
  by_cases e : k = i
  · subst e
    rw [if_pos rfl, if_pos hk] at h1
    cases h1
    have q1 := h.2 k _ t (List.getElem?_eq_getElem hi1) h2
    have q2 := hb.2 k _ t (List.getElem?_eq_getElem hi2) h2
    rw [List.getD_eq_getElem?_getD, List.getD_eq_getElem?_getD, List.getElem?_eq_getElem hi1, List.getElem?_eq_getElem hi2] at hv
    simp only [Option.getD_some] at hv
    unfold btw at hv
    omega
  · rw [if_neg e] at h1
    exact h.2 i a t h1 h2
structure Part {β : Type} (G : List (List Int)) (x0 : List Int) (found0 : List (List Int)) (s : List (List Int) × List (List Int × β)) : Prop where
  bi : BI G x0 s.1 s.2
  pre : ∃ t, s.1 = found0 ++ t
theorem Part.mem {β : Type} {found0 : List (List Int)} {s : List (List Int) × List (List Int × β)} (h : Part G x0 found0 s) (hy : y ∈ found0) : y ∈ s.1 := by
  obtain ⟨t, e⟩ := h.pre
  rw [e]
  exact List.mem_append_left _ hy
theorem Part.at {β : Type} {found0 : List (List Int)} {s : List (List Int) × List (List Int × β)} (h : Part G x0 found0 s) {i : Nat} (hy : found0[i]? = some y) : s.1[i]? = some y := by
  obtain ⟨t, e⟩ := h.pre
  rw [e, List.getElem?_append_left (List.getElem?_eq_some_iff.mp hy).1]
  exact hy
theorem Part.push {β : Type} {found0 : List (List Int)} {s : List (List Int) × List (List Int × β)} {v : β} (h : Part G x0 found0 s) (hy : y ∈ s.1) (q : Step1 y z) (g : z ∈ G) (hz : z ∉ s.1) : Part G x0 found0 (s.1 ++ [z], s.2 ++ [(z, v)]) := ⟨h.bi.push hy q g hz, by
  obtain ⟨t, e⟩ := h.pre
  exact ⟨t ++ [z], by rw [e, List.append_assoc]⟩⟩
end
end N60
namespace N60
open PySem PySem.Spec PyProof.Rows L2 S9 T9
section
variable {tops : List Int} {R : List RuleT} {G : List (List Int)} {x y z b d : List Int} {m k : Nat}
end
end N60
namespace N60
open PySem PySem.Spec PyProof.Rows L2 S9 T9
def spanS (tops : List Int) (s : SideT) : Int × Int := if s.2.1 = "from" then (s.2.2, tops.getD s.1.toNat 0) else (0, s.2.2)
def barsB (tops : List Int) (s t : SideT) : Bool := decide (s.1 = t.1) && (decide ((spanS tops s).2 < (spanS tops t).1) || decide ((spanS tops t).2 < (spanS tops s).1))
def next1 (tops : List Int) (s : SideT) (r : RuleT) : List SideT := (if barsB tops s r.1 = true then [r.2] else []) ++ (if barsB tops s r.2 = true then [r.1] else [])
def nextL (tops : List Int) (R : List RuleT) (s : SideT) : List SideT := R.flatMap (next1 tops s)
inductive Met (tops : List Int) (R : List RuleT) (want : List SideT) : SideT → Prop
  | base {s : SideT} (h : s ∈ want) : Met tops R want s
  | next {s t : SideT} (h : Met tops R want s) (k : t ∈ nextL tops R s) : Met tops R want t
section
variable {tops : List Int} {R : List RuleT} {want : List SideT} {s t c : SideT} {x y : List Int}
theorem mem_next : t ∈ nextL tops R s ↔ ∃ r ∈ R, (barsB tops s r.1 = true ∧ t = r.2) ∨ (barsB tops s r.2 = true ∧ t = r.1) := by
  unfold nextL next1
  simp only [List.mem_flatMap, List.mem_append]
  constructor
  · rintro ⟨r, hr, h | h⟩
    · split at h
      · rename_i e; exact ⟨r, hr, .inl ⟨e, List.mem_singleton.mp h⟩⟩
      · cases h
    · split at h
      · rename_i e; exact ⟨r, hr, .inr ⟨e, List.mem_singleton.mp h⟩⟩
      · cases h
  · rintro ⟨r, hr, ⟨e, rfl⟩ | ⟨e, rfl⟩⟩
    · exact ⟨r, hr, .inl (by rw [if_pos e]; simp)⟩
    · exact ⟨r, hr, .inr (by rw [if_pos e]; simp)⟩
theorem SideOk.top (h : SideOk tops s) : s.2.2 ≤ tops.getD s.1.toNat 0 := by
  obtain ⟨_, _, _, t, e, l⟩ := h
  rw [List.getD_eq_getElem?_getD, e]
  exact l
theorem SideOk.lt (h : SideOk tops s) : s.1.toNat < tops.length := h.in_.2
theorem Within.pos {x : List Int} (h : Within tops x) {k : Nat} (hk : k < tops.length) : 0 ≤ x.getD k 0 ∧ x.getD k 0 ≤ tops.getD k 0 := by
  have hk2 : k < x.length := by rw [h.1]; exact hk
  have := h.2 k _ _ (List.getElem?_eq_getElem hk2) (List.getElem?_eq_getElem hk)
  rw [List.getD_eq_getElem?_getD, List.getD_eq_getElem?_getD, List.getElem?_eq_getElem hk2, List.getElem?_eq_getElem hk]
  exact this
structure LowIs (ks : List SideT) (k : Nat) (v : Int) : Prop where
  nn : 0 ≤ v
  at_ : v = 0 ∨ ∃ s ∈ ks, s.2.1 = "from" ∧ s.1.toNat = k ∧ s.2.2 = v
  all : ∀ s ∈ ks, s.2.1 = "from" → s.1.toNat = k → s.2.2 ≤ v
structure HighIs (tops : List Int) (ks : List SideT) (k : Nat) (v : Int) : Prop where
  nn : v ≤ tops.getD k 0
  at_ : v = tops.getD k 0 ∨ ∃ s ∈ ks, s.2.1 = "to" ∧ s.1.toNat = k ∧ s.2.2 = v
  all : ∀ s ∈ ks, s.2.1 = "to" → s.1.toNat = k → v ≤ s.2.2
theorem max2_eq (a b : Int) : max2 a b = if a < b then b else a := rfl
theorem min2_eq (a b : Int) : min2 a b = if b < a then b else a := rfl
end
end N60
namespace N60
open PySem PySem.Spec PyProof.Rows L2 S9 T9
section
variable {tops : List Int} {R : List RuleT} {want ks : List SideT} {s t c : SideT} {x y z : List Int} {rows : List (Int × Int)} {k : Nat}
end
end N60
namespace N60
open PySem PySem.Spec PyProof.Rows L2 S9 T9
section
variable {tops : List Int} {R : List RuleT} {want ks : List SideT} {s t c : SideT} {x y z : List Int} {k : Nat} {roads : WebR}
def RoadsOk (tops : List Int) (R : List RuleT) (roads : WebR) : Prop := ∀ p ∈ roads, p.2 = nextL tops R p.1
def ruleSides (R : List RuleT) : List SideT := R.flatMap fun r => [r.1, r.2]
theorem ruleSides_len : ∀ R : List RuleT, (ruleSides R).length = 2 * R.length
  | [] => rfl
  | r :: R => by
    have := ruleSides_len R
    unfold ruleSides at *
    rw [List.flatMap_cons, List.length_append, List.length_cons, this]
    simp
    omega
theorem next_rule (h : t ∈ nextL tops R s) : t ∈ ruleSides R := by
  obtain ⟨r, hr, ⟨_, rfl⟩ | ⟨_, rfl⟩⟩ := mem_next.mp h
  · exact List.mem_flatMap.mpr ⟨r, hr, by simp⟩
  · exact List.mem_flatMap.mpr ⟨r, hr, by simp⟩
theorem met_univ (h : Met tops R want s) : s ∈ want ++ ruleSides R := by
  cases h with
  | base h => exact List.mem_append_left _ h
  | next _ k => exact List.mem_append_right _ (next_rule k)
abbrev MetT := List (SideT × Option SideT)
def Parents (met : MetT) : Prop := ∀ (i : Nat) (s p : SideT), met[i]? = some (s, some p) → ∃ j : Nat, j < i ∧ (met[j]?).map (·.1) = some p
structure MetI (tops : List Int) (R : List RuleT) (want : List SideT) (met : MetT) : Prop where
  nd : (met.map (·.1)).Nodup
  sub : ∀ s ∈ met.map (·.1), Met tops R want s
  base : ∀ s ∈ want, s ∈ met.map (·.1)
  par : Parents met
  road : ∀ s p : SideT, (s, some p) ∈ met → s ∈ nextL tops R p
  first : ∀ s : SideT, (s, none) ∈ met → s ∈ want
theorem nodup_len {α : Type} [DecidableEq α] : ∀ {l m : List α}, l.Nodup → (∀ x ∈ l, x ∈ m) → l.length ≤ m.length
  | [], _, _, _ => by simp
  | x :: l, m, hn, h => by
    obtain ⟨n1, n2⟩ := List.nodup_cons.mp hn
    have hx : x ∈ m := h x (List.mem_cons_self ..)
    have := nodup_len (m := m.erase x) n2 fun y hy => (List.mem_erase_of_ne (by intro e; subst e; exact n1 hy)).mpr (h y (List.mem_cons_of_mem _ hy))
    rw [List.length_erase_of_mem hx] at this
    have hp : 0 < m.length := List.length_pos_of_mem hx
    rw [List.length_cons]
    omega
theorem MetI.len {met : MetT} (h : MetI tops R want met) : met.length ≤ want.length + 2 * R.length := by
  have := nodup_len h.nd fun s hs => met_univ (h.sub s hs)
  rw [List.length_map, List.length_append, ruleSides_len] at this
  exact this
theorem MetI.push {met : MetT} (h : MetI tops R want met) (hs : s ∈ met.map (·.1)) (ht : t ∈ nextL tops R s) (hn : t ∉ met.map (·.1)) : MetI tops R want (met ++ [(t, some s)]) where
  nd := by
    rw [List.map_append, List.nodup_append]
    exact ⟨h.nd, by simp, fun a ha b hb => by rw [List.map_cons, List.map_nil, List.mem_singleton] at hb; subst hb; exact fun e => hn (e ▸ ha)⟩
  sub := fun u hu => by
    rw [List.map_append, List.mem_append] at hu
    rcases hu with hu | hu
    · exact h.sub u hu
    · rw [List.map_cons, List.map_nil, List.mem_singleton] at hu
      subst hu
      exact .next (h.sub s hs) ht
  base := fun u hu => by rw [List.map_append]; exact List.mem_append_left _ (h.base u hu)
  par := fun i u p e => by
    by_cases hi : i < met.length
    · rw [List.getElem?_append_left hi] at e
      obtain ⟨j, j1, j2⟩ := h.par i u p e
      exact ⟨j, j1, by rw [List.getElem?_append_left (by omega)]; exact j2⟩
    · have hi2 : i = met.length := by
        have := (List.getElem?_eq_some_iff.mp e).1
        rw [List.length_append] at this
        simp at this
        omega
      subst hi2
      rw [List.getElem?_append_right (Nat.le_refl _), Nat.sub_self] at e
      cases e
      obtain ⟨q, q1, q2⟩ := List.mem_map.mp hs
      obtain ⟨j, hj⟩ := List.getElem?_of_mem q1
      have hjl := (List.getElem?_eq_some_iff.mp hj).1
      exact ⟨j, hjl, by rw [List.getElem?_append_left hjl, hj, ← q2]; rfl⟩
  road := fun u p e => by
    rcases List.mem_append.mp e with e | e
    · exact h.road u p e
    · cases List.mem_singleton.mp e; exact ht
  first := fun u e => by
    rcases List.mem_append.mp e with e | e
    · exact h.first u e
    · cases List.mem_singleton.mp e
end
end N60
namespace N60
open PySem PySem.Spec PyProof.Rows L2 S9 T9
section
variable {tops : List Int} {R : List RuleT} {want ks : List SideT} {s t c : SideT} {x y z : List Int} {k : Nat} {roads : WebR}
structure MetOk (tops : List Int) (R : List RuleT) (want : List SideT) (met : MetT) : Prop extends MetI tops R want met where
  all : ∀ s, s ∈ met.map (·.1) ↔ Met tops R want s
structure LoopI (tops : List Int) (R : List RuleT) (want : List SideT) (L0 : Nat) (s : WebR × MetT × List SideT) : Prop where
  ro : RoadsOk tops R s.1
  me : MetI tops R want s.2.1
  wa : ∀ w ∈ s.2.2, w ∈ s.2.1.map (·.1)
  cl : ∀ u ∈ s.2.1.map (·.1), u ∈ s.2.2 ∨ ∀ t ∈ nextL tops R u, t ∈ s.2.1.map (·.1)
  le : s.2.2.length ≤ s.2.1.length
  rl : s.1.length + s.2.2.length ≤ L0 + s.2.1.length
end
end N60
namespace N60
open PySem PySem.Spec PyProof.Rows L2 S9 T9
inductive Room (tops : List Int) (R : List RuleT) (x : List Int) : List Int → Prop
  | refl : Room tops R x x
  | step {y z : List Int} (h : Room tops R x y) (s : Step1 y z) (w : Within tops z) (g : Good R z) : Room tops R x z
section
variable {tops : List Int} {R : List RuleT} {G : List (List Int)} {x y z b : List Int} {k : Nat}
theorem Room.trans (h : Room tops R x y) (h2 : Room tops R y z) : Room tops R x z := by
  induction h2 with
  | refl => exact h
  | step _ s w g ih => exact .step ih s w g
theorem Room.ok (h : Room tops R x y) (wx : Within tops x) (gx : Good R x) : Within tops y ∧ Good R y := by
  cases h with
  | refl => exact ⟨wx, gx⟩
  | step _ _ w g => exact ⟨w, g⟩
theorem Room.symm (h : Room tops R x y) (wx : Within tops x) (gx : Good R x) : Room tops R y x := by
  induction h with
  | refl => exact .refl
  | step h s w g ih =>
    obtain ⟨w2, g2⟩ := h.ok wx gx
    exact (Room.step .refl s.symm w2 g2).trans ih
end
end N60
namespace N60
open PySem PySem.Spec PyProof.Rows L2 S9 T9
section
variable {tops : List Int} {R : List RuleT} {want ks : List SideT} {s t c : SideT} {x y z : List Int} {k : Nat} {roads : WebR}
theorem LowIs.keep {k : Nat} {v : Int} (h : LowIs ks k v) (hs : ¬ (s.2.1 = "from" ∧ s.1.toNat = k)) : LowIs (ks ++ [s]) k v := ⟨h.nn, h.at_.imp id fun ⟨t, t1, t2⟩ => ⟨t, List.mem_append_left _ t1, t2⟩, fun t ht w e => by
  rcases List.mem_append.mp ht with q | q
  · exact h.all t q w e
  · rw [List.mem_singleton.mp q] at w e
    exact absurd ⟨w, e⟩ hs⟩
theorem HighIs.keep {k : Nat} {v : Int} (h : HighIs tops ks k v) (hs : ¬ (s.2.1 = "to" ∧ s.1.toNat = k)) : HighIs tops (ks ++ [s]) k v := ⟨h.nn, h.at_.imp id fun ⟨t, t1, t2⟩ => ⟨t, List.mem_append_left _ t1, t2⟩, fun t ht w e => by
  rcases List.mem_append.mp ht with q | q
  · exact h.all t q w e
  · rw [List.mem_singleton.mp q] at w e
    exact absurd ⟨w, e⟩ hs⟩
theorem LowIs.more {v : Int} (h : LowIs ks s.1.toNat v) (w : s.2.1 = "from") : LowIs (ks ++ [s]) s.1.toNat (max2 v s.2.2) := by
  have hm : max2 v s.2.2 = v ∧ s.2.2 ≤ v ∨ max2 v s.2.2 = s.2.2 ∧ v < s.2.2 := by
    rw [max2_eq]; split <;> omega
  have nn := h.nn
  rcases hm with ⟨e, l⟩ | ⟨e, l⟩
  · rw [e]
    refine ⟨nn, h.at_.imp id fun ⟨t, t1, t2⟩ => ⟨t, List.mem_append_left _ t1, t2⟩, fun t ht w2 e2 => ?_⟩
    rcases List.mem_append.mp ht with q | q
    · exact h.all t q w2 e2
    · rw [List.mem_singleton.mp q]; exact l
  · rw [e]
    refine ⟨by omega, .inr ⟨s, by simp, w, rfl, rfl⟩, fun t ht w2 e2 => ?_⟩
    rcases List.mem_append.mp ht with q | q
    · have := h.all t q w2 e2; omega
    · rw [List.mem_singleton.mp q]; exact Int.le_refl _
theorem HighIs.more {v : Int} (h : HighIs tops ks s.1.toNat v) (hs : SideOk tops s) (w : s.2.1 = "to") : HighIs tops (ks ++ [s]) s.1.toNat (min2 v s.2.2) := by
  have hm : min2 v s.2.2 = v ∧ v ≤ s.2.2 ∨ min2 v s.2.2 = s.2.2 ∧ s.2.2 < v := by
    rw [min2_eq]; split <;> omega
  have nn := h.nn
  rcases hm with ⟨e, l⟩ | ⟨e, l⟩
  · rw [e]
    refine ⟨nn, h.at_.imp id fun ⟨t, t1, t2⟩ => ⟨t, List.mem_append_left _ t1, t2⟩, fun t ht w2 e2 => ?_⟩
    rcases List.mem_append.mp ht with q | q
    · exact h.all t q w2 e2
    · rw [List.mem_singleton.mp q]; exact l
  · rw [e]
    refine ⟨hs.top, .inr ⟨s, by simp, w, rfl, rfl⟩, fun t ht w2 e2 => ?_⟩
    rcases List.mem_append.mp ht with q | q
    · have := h.all t q w2 e2; omega
    · rw [List.mem_singleton.mp q]; exact Int.le_refl _
inductive ChainR (tops : List Int) (R : List RuleT) (want : List SideT) : List SideT → Prop
  | one {s : SideT} (h : s ∈ want) : ChainR tops R want [s]
  | cons {s t : SideT} {l : List SideT} (h : t ∈ nextL tops R s) (k : ChainR tops R want (s :: l)) : ChainR tops R want (t :: s :: l)
def Link (tops : List Int) (R : List RuleT) (want : List SideT) : List SideT → Option SideT → Prop
  | [], _ => True
  | [a], none => a ∈ want
  | [a], some p => a ∈ nextL tops R p
  | a :: b :: l, o => a ∈ nextL tops R b ∧ Link tops R want (b :: l) o
theorem Link.chain : ∀ {l : List SideT}, Link tops R want l none → l ≠ [] → ChainR tops R want l
  | [], _, h => absurd rfl h
  | [a], h, _ => .one h
  | a :: b :: l, h, _ => .cons h.1 (Link.chain h.2 (by simp))
end
end N60
namespace N60
open PySem PySem.Spec PyProof.Rows L2 S9 T9
section
variable {tops : List Int} {R : List RuleT} {want ks : List SideT} {s t c : SideT} {x y z : List Int} {k : Nat} {roads : WebR}
end
end N60
namespace N60
open PySem PySem.Spec PyProof.Rows L2 S9 T9
section
variable {tops : List Int} {R : List RuleT} {want ks : List SideT} {s t c : SideT} {x y z : List Int} {k : Nat} {roads : WebR}
structure EndS (k : Int) (here top : Int) (sd : SideT → Prop) (n : Nat) (b a : List (Int × Bool)) : Prop where
  b1 : ∀ v ∈ b.map (·.1), 0 ≤ v ∧ v ≤ here
  b2 : here ∈ b.map (·.1) ∧ 0 ∈ b.map (·.1)
  b3 : ∀ s, sd s → s.1 = k → s.2.1 = "from" → s.2.2 < here → s.2.2 ∈ b.map (·.1)
  b4 : b.length ≤ n
  a1 : ∀ v ∈ a.map (·.1), here ≤ v ∧ v ≤ top
  a2 : here ∈ a.map (·.1) ∧ top ∈ a.map (·.1)
  a3 : ∀ s, sd s → s.1 = k → s.2.1 = "to" → here < s.2.2 → s.2.2 ∈ a.map (·.1)
  a4 : a.length ≤ n
theorem EndS.low {kk here top v : Int} {sd : SideT → Prop} {n : Nat} {b a : List (Int × Bool)} (h : EndS kk here top sd n b a) (h0 : 0 ≤ v) (hv : v < here) : EndS kk here top sd (n + 1) (putA v true b) a where
  b1 := fun u hu => by
    rcases putA_memI.mp hu with e | q
    · subst e; omega
    · exact h.b1 u q
  b2 := ⟨putA_memI.mpr (.inr h.b2.1), putA_memI.mpr (.inr h.b2.2)⟩
  b3 := fun s h1 h2 h3 h4 => putA_memI.mpr (.inr (h.b3 s h1 h2 h3 h4))
  b4 := by have := putA_len (k := v) (v := true) (m := b); have := h.b4; omega
  a1 := h.a1
  a2 := h.a2
  a3 := h.a3
  a4 := by have := h.a4; omega
theorem EndS.more {kk here top : Int} {sd : SideT → Prop} {n m : Nat} {b a : List (Int × Bool)} (h : EndS kk here top sd n b a) (hm : n ≤ m) (hb : s.1 = kk → s.2.1 = "from" → s.2.2 < here → s.2.2 ∈ b.map (·.1)) (ha : s.1 = kk → s.2.1 = "to" → here < s.2.2 → s.2.2 ∈ a.map (·.1)) : EndS kk here top (fun u => sd u ∨ u = s) m b a where
  b1 := h.b1
  b2 := h.b2
  b3 := fun u h1 h2 h3 h4 => h1.elim (fun q => h.b3 u q h2 h3 h4) fun e => by subst e; exact hb h2 h3 h4
  b4 := by have := h.b4; omega
  a1 := h.a1
  a2 := h.a2
  a3 := fun u h1 h2 h3 h4 => h1.elim (fun q => h.a3 u q h2 h3 h4) fun e => by subst e; exact ha h2 h3 h4
  a4 := by have := h.a4; omega
structure EndsOk (tops : List Int) (R : List RuleT) (x : List Int) (k : Nat) (r : List Int × List Int) : Prop where
  bd : r.1.Pairwise (· ≥ ·)
  b0 : r.1[0]? = some (x.getD k 0)
  bm : ∀ v ∈ r.1, 0 ≤ v ∧ v ≤ x.getD k 0
  bz : 0 ∈ r.1
  bs : ∀ s ∈ ruleSides R, s.1 = (k : Int) → s.2.1 = "from" → s.2.2 < x.getD k 0 → s.2.2 ∈ r.1
  bl : r.1.length ≤ 2 + 2 * R.length
  ad : r.2.Pairwise (· ≤ ·)
  a0 : r.2[0]? = some (x.getD k 0)
  am : ∀ v ∈ r.2, x.getD k 0 ≤ v ∧ v ≤ tops.getD k 0
  az : tops.getD k 0 ∈ r.2
  as_ : ∀ s ∈ ruleSides R, s.1 = (k : Int) → s.2.1 = "to" → x.getD k 0 < s.2.2 → s.2.2 ∈ r.2
  al : r.2.length ≤ 2 + 2 * R.length
end
end N60
namespace N60
open PySem PySem.Spec PyProof.Rows L2 S9 T9
section
variable {tops : List Int} {R : List RuleT} {want ks : List SideT} {s t c : SideT} {x y z : List Int} {k : Nat} {roads : WebR}
structure BoundsAt (tops : List Int) (R : List RuleT) (x : List Int) (k : Nat) (p : Int × Int) : Prop where
  l1 : ∃ z, Room tops R x z ∧ z.getD k 0 = p.1
  l2 : ∀ z, Room tops R x z → p.1 ≤ z.getD k 0
  h1 : ∃ z, Room tops R x z ∧ z.getD k 0 = p.2
  h2 : ∀ z, Room tops R x z → z.getD k 0 ≤ p.2
end
end N60
namespace N60
open PySem PySem.Spec PyProof.Rows L2 S9 T9
end N60
namespace N60
open PySem PySem.Spec PyProof.Rows L2 S9 T9
end N60
namespace N60
open PySem PySem.Spec PyProof.Rows L2 S9 T9
section
variable {tops : List Int} {R : List RuleT} {want ks : List SideT} {s t c : SideT} {x y z b : List Int} {k : Nat} {roads : WebR}
structure NearIs (tops : List Int) (R : List RuleT) (want : List SideT) (x n : List Int) : Prop where
  w : Within tops n
  g : Good R n
  h : ∀ s ∈ want, isIn s n = true
  b : ∀ y, Within tops y → Good R y → (∀ s ∈ want, isIn s y = true) → Btw x n y
end
end N60
namespace N60
open PySem PySem.Spec PyProof.Rows L2 S9 T9
section
variable {tops : List Int} {R : List RuleT} {want : List SideT} {s t : SideT} {x y z : List Int} {roads : WebR}
end
end N60
namespace N60
open PySem PySem.Spec PyProof.Rows L2 S9 T9
section
variable {tops : List Int} {R : List RuleT} {s t : SideT} {x : List Int} {roads : WebR}
end
end N60
namespace N60
open PySem PySem.Spec PyProof.Rows L2 S9 T9
section
variable {tops : List Int} {R : List RuleT} {s t : SideT} {x : List Int} {roads : WebR}
end
end N60
namespace N60
open PySem PySem.Spec PyProof.Rows L2 S9 T9
section
variable {tops : List Int} {R : List RuleT} {A B W want M : List SideT} {a b c p q s t u v w : SideT} {x y : List Int} {roads : WebR}
def Has (tops : List Int) (R : List RuleT) (want : List SideT) (x : List Int) : Prop := Within tops x ∧ Good R x ∧ ∀ w ∈ want, isIn w x = true
structure EndsAt (tops : List Int) (R : List RuleT) (want : List SideT) (k : Nat) (p : Int × Int) : Prop where
  l1 : ∃ x, Has tops R want x ∧ x.getD k 0 = p.1
  l2 : ∀ x, Has tops R want x → p.1 ≤ x.getD k 0
  h1 : ∃ x, Has tops R want x ∧ x.getD k 0 = p.2
  h2 : ∀ x, Has tops R want x → x.getD k 0 ≤ p.2
end
end N60
namespace N60
open PySem PySem.Spec PyProof.Rows L2 S9 T9
section
variable {tops : List Int} {R : List RuleT} {want M : List SideT} {s t u : SideT} {x : List Int} {roads : WebR}
end
end N60
namespace N60
open PySem PySem.Spec PyProof.Rows L2 S9 T9
end N60
namespace N60
open PySem PySem.Spec PyProof.Rows L2 S9 T9
section
variable {tops : List Int} {R : List RuleT} {s t u : SideT}
def Small (tops : List Int) : Prop := ∀ t ∈ tops, 0 ≤ t ∧ t ≤ 3
end
end N60
namespace N60
open PySem PySem.Spec PyProof.Rows L2 S9 T9
section
variable {tops : List Int} {R : List RuleT} {s t u : SideT}
end
end N60
namespace N60
open PySem PySem.Spec PyProof.Rows L2 S9 T9
mutual
def khD : D → Bool
  | .tup l => khL l
  | .non => true
  | .bl _ => true
  | .int _ => true
  | .str _ => true
  | .lst _ => true
  | .dct _ _ => true
  | _ => false
def khL : List D → Bool
  | [] => true
  | d :: l => khD d && khL l
end
theorem khL_iff : ∀ {l : List D}, khL l = true ↔ ∀ x ∈ l, khD x = true
  | [] => by simp only [khL]; exact ⟨fun _ x h => (nomatch h), fun _ => trivial⟩
  | d :: l => by
    simp only [khL, Bool.and_eq_true, khL_iff (l := l)]
    exact ⟨fun h x hx => (List.mem_cons.mp hx).elim (fun e => e ▸ h.1) (h.2 x), fun h => ⟨h d (List.mem_cons_self ..), fun x hx => h x (List.mem_cons_of_mem _ hx)⟩⟩
theorem kh_tup {l : List D} : khD (.tup l) = true ↔ ∀ x ∈ l, khD x = true := by simp only [khD]; exact khL_iff
theorem kh_kn {d : D} (h : khD d = true) : knD d = true := by
  cases d <;> first | rfl | (simp only [khD] at h; exact absurd h (by decide))
theorem kh_lst (l : List D) : khD (.lst l) = true := by simp only [khD]
theorem kh_non : khD .non = true := by simp only [khD]
theorem kh_bl (b : Bool) : khD (.bl b) = true := by simp only [khD]
theorem kh_int (i : Int) : khD (.int i) = true := by simp only [khD]
theorem kh_str (x : Str) : khD (.str x) = true := by simp only [khD]
theorem kh_dct (k : List Key) (l : List D) : khD (.dct k l) = true := by simp only [khD]
def Kh (n B : Nat) (d : D) : Prop := khD d = true ∧ Th n B d
theorem Kh.mono {n m B C : Nat} {d : D} (h : Kh n B d) (e1 : n ≤ m) (e2 : B ≤ C) : Kh m C d := ⟨h.1, h.2.mono e1 e2⟩
theorem words_len : ∀ w ∈ ["", "from", "to", "barred", "ring", "bar", "from ", "to ", "FROM", "TO", "barred ", "ring ", "BARRED", "RING"], (PyData.str (Str.ofString w)).shown.length ≤ 20 := by decide +kernel
theorem kh_word (w : String) (hw : w ∈ ["", "from", "to", "barred", "ring", "bar", "from ", "to ", "FROM", "TO", "barred ", "ring ", "BARRED", "RING"]) : Kh 0 20 (.str (Str.ofString w)) := ⟨kh_str _, th_str (words_len w hw)⟩
theorem toEs_len : ∀ {l : List D} {ps : List PyData}, D.toEs l = some ps → ps.length = l.length
  | [], ps, h => by simp only [D.toEs, Option.some.injEq] at h; subst h; rfl
  | d :: l, ps, h => by
    simp only [D.toEs, Option.bind_eq_some_iff, Option.map_eq_some_iff] at h
    obtain ⟨p, _, q, e, rfl⟩ := h
    rw [List.length_cons, List.length_cons, toEs_len e]
theorem piled_two : ∀ ts : List Str, 2 * ts.length ≤ piled ts
  | [] => Nat.zero_le _
  | t :: ts => by
    have := piled_two ts
    simp only [piled, List.map_cons, List.sum_cons, List.length_cons] at this ⊢
    omega
theorem th_len {n B : Nat} {l : List D} (h : Th n B (.tup l)) : 2 * l.length ≤ B + 4 := by
  obtain ⟨p, h1, h2, h3, h4⟩ := h
  simp only [D.toE, Option.map_eq_some_iff] at h1
  obtain ⟨ps, e, rfl⟩ := h1
  rw [← toEs_len e]
  by_cases hn : ps = []
  · subst hn; simp
  · have hne : PyData.shownAll ps ≠ [] := fun z => hn (List.eq_nil_of_length_eq_zero (by rw [← shownAll_len ps, z]; rfl))
    have e1 := join_length_add (PyData.shownAll ps) hne
    have e2 := piled_two (PyData.shownAll ps)
    rw [shownAll_len] at e2
    simp only [PyData.shown] at h4
    unfold tupleText at h4
    rw [strLen_append, strLen_append] at h4
    omega
theorem p10_29 : pPow 10 29 = some (10 ^ 29) := pPow_ok (i := 10) (a := 4) (j := 29) (by decide) (by decide) (by decide) (by decide)
theorem ofLA_ok {c : Nat} {p : List Int} {l : List D} (h : PotOk c p) (hc : c ≤ 1000000) (h0 : l ≠ []) (hl : l.length ≤ 100000) : Sat (p__law_of_LA p l) (fun r => r.1 ∈ l ∧ PotOk (c + 1) r.2) := of_gen h hc h0 hl
end N60
namespace N60
open PySem PySem.Spec PyProof.Rows L2 S9 T9
end N60
namespace N60
open PySem PySem.Spec PyProof.Rows L2 S9 T9
section
variable {tops : List Int} {R : List RuleT} {s t u : SideT}
end
end N60
namespace N60
open PySem PySem.Spec PyProof.Rows L2 S9 T9
section
variable {tops : List Int} {R : List RuleT} {s t u : SideT} {c : Nat} {p : List Int}
theorem Small.top (h : Small tops) : ∀ t ∈ tops, TopOk t := fun t ht => by have := h t ht; unfold TopOk; omega
end
end N60
namespace N60
open PySem PySem.Spec PyProof.Rows L2 S9 T9
theorem piled_sum : ∀ ts : List Str, piled ts = (ts.map (·.length)).sum + 2 * ts.length
  | [] => rfl
  | t :: ts => by
    have := piled_sum ts
    simp only [piled, List.map_cons, List.sum_cons, List.length_cons] at this ⊢
    omega
theorem tuple_ge {ts : List Str} (h : ts ≠ []) : (ts.map (·.length)).sum + 2 * ts.length ≤ (tupleText ts).length := by
  have e1 := join_length_add ts h
  have e2 := piled_sum ts
  unfold tupleText
  rw [strLen_append, strLen_append]
  have e3 : ("(" : Str).length = 1 := rfl
  split
  · have : (",)" : Str).length = 2 := rfl
    omega
  · have : (")" : Str).length = 1 := rfl
    omega
section
variable {tops : List Int} {R : List RuleT} {want : List SideT} {s t : SideT} {x : List Int}
end
end N60
namespace K58
open PySem PySem.Spec PyProof.Rows L2 S9 T9 N60
def sz (d : D) : Nat := match d.toE with
  | some p => p.shown.length
  | none => 0
def szL (l : List D) : Nat := (l.map sz).sum
def Sh (n : Nat) (d : D) : Prop := ∃ p, d.toE = some p ∧ p.showable = true ∧ p.depth ≤ n
theorem Sh.mono {n m : Nat} {d : D} (h : Sh n d) (e : n ≤ m) : Sh m d := by
  obtain ⟨p, h1, h2, h3⟩ := h
  exact ⟨p, h1, h2, Nat.le_trans h3 e⟩
theorem th_sh {n B : Nat} {d : D} (h : Sh n d) (e : sz d ≤ B) : Th n B d := by
  obtain ⟨p, h1, h2, h3⟩ := h
  unfold sz at e
  rw [h1] at e
  exact ⟨p, h1, h2, h3, e⟩
theorem sh_th {n B : Nat} {d : D} (h : Th n B d) : Sh n d ∧ sz d ≤ B := by
  obtain ⟨p, h1, h2, h3, h4⟩ := h
  refine ⟨⟨p, h1, h2, h3⟩, ?_⟩
  unfold sz
  rw [h1]
  exact h4
theorem toEs_sz : ∀ {l : List D} {ps : List PyData}, D.toEs l = some ps → ((PyData.shownAll ps).map (·.length)).sum = szL l
  | [], ps, h => by simp only [D.toEs, Option.some.injEq] at h; subst h; rfl
  | d :: l, ps, h => by
    simp only [D.toEs, Option.bind_eq_some_iff, Option.map_eq_some_iff] at h
    obtain ⟨p, e1, q, e2, rfl⟩ := h
    have ih := toEs_sz e2
    unfold szL at ih ⊢
    simp only [PyData.shownAll, List.map_cons, List.sum_cons, ih]
    have : sz d = p.shown.length := by unfold sz; rw [e1]
    rw [this]
theorem shs_of {n : Nat} : ∀ {l : List D} {ps : List PyData}, D.toEs l = some ps → PyData.showableAll ps = true → PyData.depthAll ps ≤ n → ∀ x ∈ l, Sh n x
  | [], _, _, _, _, x, hx => nomatch hx
  | d :: l, ps, h1, h2, h3, x, hx => by
    simp only [D.toEs, Option.bind_eq_some_iff, Option.map_eq_some_iff] at h1
    obtain ⟨p, e1, q, e2, rfl⟩ := h1
    simp only [PyData.showableAll, Bool.and_eq_true] at h2
    simp only [PyData.depthAll] at h3
    rcases List.mem_cons.mp hx with rfl | hx
    · exact ⟨p, e1, h2.1, by omega⟩
    · exact shs_of e2 h2.2 (by omega) x hx
theorem shs_mk {n : Nat} : ∀ {l : List D}, (∀ x ∈ l, Sh n x) → ∃ ps, D.toEs l = some ps ∧ PyData.showableAll ps = true ∧ PyData.depthAll ps ≤ n
  | [], _ => ⟨[], by simp only [D.toEs], by simp only [PyData.showableAll], by simp only [PyData.depthAll]; exact Nat.zero_le _⟩
  | d :: l, h => by
    obtain ⟨p, h1, h2, h3⟩ := h d (List.mem_cons_self ..)
    obtain ⟨ps, g1, g2, g3⟩ := shs_mk fun x hx => h x (List.mem_cons_of_mem _ hx)
    exact ⟨p :: ps, by simp only [D.toEs, h1, g1, Option.bind_some, Option.map_some], by simp only [PyData.showableAll, h2, g2, Bool.and_self], by simp only [PyData.depthAll]; omega⟩
theorem sh_tup {n : Nat} {l : List D} (h : ∀ x ∈ l, Sh n x) : Sh (n + 1) (.tup l) ∧ sz (.tup l) ≤ szL l + 2 * l.length + 3 := by
  obtain ⟨ps, g1, g2, g3⟩ := shs_mk h
  have e : (D.tup l).toE = some (.tuple ps) := by simp only [D.toE, g1, Option.map_some]
  refine ⟨⟨.tuple ps, e, by simp only [PyData.showable, g2], by simp only [PyData.depth]; omega⟩, ?_⟩
  unfold sz
  rw [e]
  have := tupleText_len_le (PyData.shownAll ps)
  rw [toEs_sz g1, shownAll_len, toEs_len g1] at this
  simp only [PyData.shown]
  exact this
theorem sh_lst {n : Nat} {l : List D} (h : ∀ x ∈ l, Sh n x) : Sh (n + 1) (.lst l) ∧ sz (.lst l) ≤ szL l + 2 * l.length + 3 := by
  obtain ⟨ps, g1, g2, g3⟩ := shs_mk h
  have e : (D.lst l).toE = some (.list ps) := by simp only [D.toE, g1, Option.map_some]
  refine ⟨⟨.list ps, e, by simp only [PyData.showable, g2], by simp only [PyData.depth]; omega⟩, ?_⟩
  unfold sz
  rw [e]
  have := listText_len_le (PyData.shownAll ps)
  rw [toEs_sz g1, shownAll_len, toEs_len g1] at this
  simp only [PyData.shown]
  exact this
theorem tup_sh {n : Nat} {l : List D} (h : Sh n (.tup l)) : 1 ≤ n ∧ (∀ x ∈ l, Sh (n - 1) x) ∧ szL l + 2 * l.length ≤ sz (.tup l) := by
  obtain ⟨p, h1, h2, h3⟩ := h
  have h1' := h1
  simp only [D.toE, Option.map_eq_some_iff] at h1
  obtain ⟨ps, e, rfl⟩ := h1
  simp only [PyData.showable] at h2
  simp only [PyData.depth] at h3
  refine ⟨by omega, shs_of e h2 (by omega), ?_⟩
  unfold sz
  rw [h1']
  simp only [PyData.shown]
  by_cases hn : ps = []
  · subst hn
    have := toEs_len e
    rw [List.eq_nil_of_length_eq_zero this.symm]
    exact Nat.zero_le _
  · have hne : PyData.shownAll ps ≠ [] := fun z => hn (List.eq_nil_of_length_eq_zero (by rw [← shownAll_len ps, z]; rfl))
    have := tuple_ge hne
    rw [toEs_sz e, shownAll_len, toEs_len e] at this
    exact this
theorem szL_app {a b : List D} : szL (a ++ b) = szL a + szL b := by unfold szL; rw [List.map_append, List.sum_append]
theorem szL_one {d : D} : szL [d] = sz d := by unfold szL; simp
theorem szL_split {l : List D} {i : Nat} (h : i < l.length) : szL l = szL (l.take i) + sz l[i] + szL (l.drop (i + 1)) := by
  have e : l = l.take i ++ ([l[i]] ++ l.drop (i + 1)) := by
    conv => lhs; rw [← List.take_append_drop i l, List.drop_eq_getElem_cons h]
    rfl
  conv => lhs; rw [e]
  rw [szL_app, szL_app, szL_one]
  omega
theorem sz_mem {l : List D} {d : D} (h : d ∈ l) : sz d ≤ szL l := by
  obtain ⟨i, hi, rfl⟩ := List.getElem_of_mem h
  rw [szL_split hi]
  omega
theorem cutP (l : List D) (lo hi : Option Int) : S9.cutD l lo hi = pCut l lo hi := by
  have e := cutD_map (e := eA) (l := l) (lo := lo) (hi := hi)
  rwa [mapA, mapA] at e
theorem p10_29 : pPow 10 29 = some (10 ^ 29) := pPow_ok (i := 10) (a := 4) (j := 29) (by decide) (by decide) (by decide) (by decide)
theorem p10_30 : pPow 10 30 = some (10 ^ 30) := pPow_ok (i := 10) (a := 4) (j := 30) (by decide) (by decide) (by decide) (by decide)
theorem words_len : ∀ w ∈ ["", "ask", "Ask", "words", "leave", "word"], (PyData.str (Str.ofString w)).shown.length ≤ 20 := by decide +kernel
theorem kh_word (w : String) (hw : w ∈ ["", "ask", "Ask", "words", "leave", "word"]) : Kh 0 20 (.str (Str.ofString w)) := ⟨kh_str _, th_str (words_len w hw)⟩
theorem kh_i {i : Int} (h1 : -(2 : Int) ^ 300 < i) (h2 : i < 2 ^ 300) : Kh 0 301 (.int i) := ⟨kh_int i, th_int h1 h2⟩
theorem kh_t {n B : Nat} {l : List D} (h : ∀ x ∈ l, Kh n B x) : Kh (n + 1) (B * l.length + 2 * l.length + 3) (.tup l) := ⟨kh_tup.mpr fun x hx => (h x hx).1, th_tup (thl_all fun x hx => (h x hx).2)⟩
theorem ofLA_ok {c : Nat} {p : List Int} {l : List D} (h : PotOk c p) (hc : c ≤ 1000000) (h0 : l ≠ []) (hl : l.length ≤ 100000) : Sat (p__law_of_LA p l) (fun r => r.1 ∈ l ∧ PotOk (c + 1) r.2) := of_gen h hc h0 hl
theorem odd_ok {c : Nat} {p : List Int} (h : PotOk c p) (hc : c ≤ 900000) : Sat (p__law_odd p) (fun r => khD r.1 = true ∧ Sh 10 r.1 ∧ sz r.1 ≤ 5300 ∧ PotOk (c + 10) r.2) := by
  unfold p__law_odd
  have I : ∀ i : Int, -(2 : Int) ^ 300 < i → i < 2 ^ 300 → Kh 2 5000 (.int i) := fun i h1 h2 => (kh_i h1 h2).mono (by omega) (by omega)
  have W : ∀ w ∈ ["", "ask", "Ask", "words", "leave", "word"], Kh 2 5000 (.str (Str.ofString w)) := fun w hw => (kh_word w hw).mono (by omega) (by omega)
  have T0 : ∀ {i : Int}, -(2 : Int) ^ 300 < i → i < 2 ^ 300 → Kh 1 400 (.tup [.int i]) := fun h1 h2 => (kh_t (n := 0) (B := 301) (l := [.int _]) fun x hx => by rw [List.mem_singleton.mp hx]; exact kh_i h1 h2).mono (by omega) (by simp)
  have z : Kh 1 400 (.int 0) := (kh_i (i := 0) (by decide) (by decide)).mono (by omega) (by omega)
  have two : ∀ {a b : D}, Kh 1 2000 a → Kh 1 2000 b → Kh 2 5000 (.tup [a, b]) := fun ha hb => (kh_t (n := 1) (B := 2000) (l := [_, _]) fun x hx => by
    simp only [List.mem_cons, List.not_mem_nil, or_false] at hx
    rcases hx with rfl | rfl
    · exact ha
    · exact hb).mono (by omega) (by simp)
  rw [Option.bind_some]
  refine Sat.bind (P := fun l : List Int => l = List.replicate 13 0) ⟨_, rfl, rfl⟩ fun r13 hr13 => ?_
  subst hr13
  refine Sat.eq p10_29 (Sat.eq (pCat_ok (by simp)) (Sat.bind (ofLA_ok h (by omega) (by simp) (by simp)) fun a ⟨a1, a2⟩ => ?_))
  have ha : Kh 2 5000 a.1 := by
    simp only [List.mem_append, List.mem_cons, List.not_mem_nil, or_false] at a1
    rcases a1 with (e | e | e | e | e | e | e | e | e | e | e | e | e | e | e | e) | (e | e | e | e | e) <;> rw [e]
    · exact ⟨kh_non, th_non.mono (by omega) (by omega)⟩
    · exact ⟨kh_bl _, (th_bl _).mono (by omega) (by omega)⟩
    · exact ⟨kh_bl _, (th_bl _).mono (by omega) (by omega)⟩
    · exact I 0 (by decide) (by decide)
    · exact I 1 (by decide) (by decide)
    · exact I (-1) (by decide) (by decide)
    · exact W "" (by simp)
    · exact W "ask" (by simp)
    · exact W "Ask" (by simp)
    · exact W "words" (by simp)
    · exact ⟨kh_tup.mpr fun x h => (nomatch h), (th_tup (n := 0) (l := []) thl_nil).mono (by omega) (by simp only [List.length_nil]; omega)⟩
    · exact ⟨kh_lst _, (th_lst (n := 0) (l := []) thl_nil).mono (by omega) (by simp only [List.length_nil]; omega)⟩
    · exact ⟨kh_dct _ _, th_dct0.mono (by omega) (by omega)⟩
    · exact (T0 (i := 1) (by decide) (by decide)).mono (by omega) (by omega)
    · exact two ((kh_i (i := 1) (by decide) (by decide)).mono (by omega) (by omega)) ((T0 (i := 0) (by decide) (by decide)).mono (by omega) (by omega))
    · exact two (z.mono (by omega) (by omega)) ((T0 (i := 0) (by decide) (by decide)).mono (by omega) (by omega))
    · exact two ((kh_i (i := 1) (by decide) (by decide)).mono (by omega) (by omega)) ⟨kh_tup.mpr fun x h => (nomatch h), (th_tup (n := 0) (l := []) thl_nil).mono (by omega) (by simp only [List.length_nil]; omega)⟩
    · have k : Kh 1 4000 (eT eI (List.replicate 13 (0 : Int))) := (kh_t (n := 0) (B := 301) (l := (List.replicate 13 (0 : Int)).map eI) fun x hx => by
        obtain ⟨i, hi, rfl⟩ := List.mem_map.mp hx
        rw [List.eq_of_mem_replicate hi]
        exact kh_i (by decide) (by decide)).mono (by omega) (by simp)
      refine ⟨kh_tup.mpr fun x hx => ?_, (th_tup (l := [.int 2, eT eI (List.replicate 13 (0 : Int))]) (thl_cons ((th_int (i := 2) (by decide) (by decide)).mono (Nat.zero_le 1) (Nat.le_refl _)) (thl_cons k.2 thl_nil))).mono (by omega) (by simp only [List.length_cons, List.length_nil]; omega)⟩
      simp only [List.mem_cons, List.not_mem_nil, or_false] at hx
      rcases hx with rfl | rfl
      · exact kh_int _
      · exact k.1
    · exact ⟨kh_lst _, (th_lst (n := 1) (l := [.int 1, .tup [.int 0]]) (thl_cons ((th_int (i := 1) (by decide) (by decide)).mono (Nat.zero_le _) (Nat.le_refl _)) (thl_cons (T0 (i := 0) (by decide) (by decide)).2 thl_nil))).mono (by omega) (by simp only [List.length_cons, List.length_nil]; omega)⟩
    · exact two ((kh_i (i := 1) (by decide) (by decide)).mono (by omega) (by omega)) ⟨kh_lst _, (th_lst (n := 0) (l := [.int 0]) (thl_cons (th_int (i := 0) (by decide) (by decide)) thl_nil)).mono (by omega) (by simp only [List.length_cons, List.length_nil]; omega)⟩
    · exact I (10 ^ 29) (by decide) (by decide)
  refine Sat.bind (of_ok a2 (by omega) (by simp) (by simp)) fun b ⟨b1, b2⟩ => ?_
  have hb : 0 ≤ b.1 ∧ b.1 ≤ 8 := by
    simp only [List.mem_cons, List.not_mem_nil, or_false] at b1
    omega
  refine Sat.eq (pRng_int hb.1 (by omega)) ?_
  refine Sat.bind (Sat.forN (fun (i : Nat) (s : List Int × D) => Kh (i + 2) (5000 + 30 * i) s.2 ∧ PotOk (c + 2 + i) s.1) ⟨ha, b2⟩ fun i x s hx ⟨s1, s2⟩ => ?_) fun z ⟨z1, z2⟩ => ?_
  · have hi := (rngL_get hx).2
    refine Sat.bind (take_ok s2 (by omega) (by decide) (by decide)) fun t ⟨t1, t2, t3⟩ => ?_
    obtain ⟨j, hj⟩ : ∃ j : Nat, t.1 = (j : Int) := ⟨t.1.toNat, by omega⟩
    rw [hj]
    have : j = 0 ∨ j = 1 ∨ j = 2 := by omega
    rcases this with rfl | rfl | rfl
    · exact Sat.eq (pIx_nat (j := 0) rfl) (Sat.ok ⟨⟨kh_tup.mpr fun x h => by rw [List.mem_singleton.mp h]; exact s1.1, (th_tup (l := [s.2]) (thl_cons s1.2 thl_nil)).mono (by omega) (by simp only [List.length_cons, List.length_nil]; omega)⟩, t3⟩)
    · exact Sat.eq (pIx_nat (j := 1) rfl) (Sat.ok ⟨⟨kh_lst _, (th_lst (l := [s.2]) (thl_cons s1.2 thl_nil)).mono (by omega) (by simp only [List.length_cons, List.length_nil]; omega)⟩, t3⟩)
    · exact Sat.eq (pIx_nat (j := 2) rfl) (Sat.ok ⟨⟨kh_tup.mpr fun x h => by
        simp only [List.mem_cons, List.not_mem_nil, or_false] at h
        rcases h with rfl | rfl
        · exact kh_str _
        · exact s1.1, (th_tup (l := [.str "word", s.2]) (thl_cons ((kh_word "word" (by simp)).2.mono (Nat.zero_le _) (Nat.le_refl _)) (thl_cons s1.2 thl_nil))).mono (by omega) (by simp only [List.length_cons, List.length_nil]; omega)⟩, t3⟩)
  · rw [rngL_len] at z1 z2
    have z3 := sh_th (z1.2.mono (show b.1.toNat + 2 ≤ 10 by omega) (show 5000 + 30 * b.1.toNat ≤ 5300 by omega))
    exact Sat.ok ⟨z1.1, z3.1, z3.2, z2.mono (by omega)⟩
theorem bent_ok : ∀ (f n : Nat) {c : Nat} {p : List Int} {d : D}, n < f → f ≤ 50 → PotOk c p → c + 20 * f ≤ 800000 → khD d = true → Sh n d → sz d ≤ 50000 → Sat (fuelP (fun _ _ => none) pb__law_bent f p d) (fun r => khD r.1 = true ∧ Sh (n + 11) r.1 ∧ sz r.1 ≤ sz d + 5310 + 10 * n ∧ PotOk (c + 20 * f) r.2)
  | 0, n, _, _, _, h, _, _, _, _, _, _ => absurd h (Nat.not_lt_zero _)
  | f + 1, n, c, p, d, hn, hf, hp, hc, hk, hs, hz => by
    show Sat (pb__law_bent (fuelP (fun _ _ => none) pb__law_bent f) p d) _
    unfold pb__law_bent
    have fin : Sat (Option.bind (p__law_odd p) fun a => some (a.1, a.2)) (fun r => khD r.1 = true ∧ Sh (n + 11) r.1 ∧ sz r.1 ≤ sz d + 5310 + 10 * n ∧ PotOk (c + 20 * (f + 1)) r.2) := Sat.bind (odd_ok hp (by omega)) fun r ⟨r1, r2, r3, r4⟩ => Sat.ok ⟨r1, r2.mono (by omega), Nat.le_trans r3 (by omega), r4.mono (by omega)⟩
    rw [isi_tuple_kn (kh_kn hk)]
    cases d with
    | tup l =>
      simp only [Option.bind_some, Bool.not_true, Bool.false_eq_true, if_false]
      have e3 : blO (gEq0 (eA (D.tup l)) ((fun (_ : Unit) => D.tup []) ())) = some l.isEmpty := rfl
      rw [e3]
      simp only [Option.bind_some]
      refine Sat.ite (fun _ => fin) fun ne0 => ?_
      have ne : l ≠ [] := fun z => ne0 (by rw [z]; rfl)
      have hpos := List.length_pos_iff.mpr ne
      obtain ⟨n1, parts, hsum⟩ := tup_sh hs
      have kp := kh_tup.mp hk
      refine Sat.bind (take_ok hp (by omega) (by decide) (by decide)) fun a ⟨a1, a2, a3⟩ => ?_
      refine Sat.eq (show pLenA (eA (D.tup l)) = some (l.length : Int) from lenA_tup) (Sat.bind (take_ok a3 (by omega) (by omega) (len250 (by omega))) fun b ⟨b1, b2, b3⟩ => ?_)
      obtain ⟨i, hi⟩ : ∃ i : Nat, b.1 = (i : Int) := ⟨b.1.toNat, by omega⟩
      have il : i < l.length := by omega
      have s0 : S9.cutD l none (some b.1) = l.take i := by rw [cutP, hi, pCut_to (by omega)]
      have s1 : S9.cutD l (some (b.1 + 1)) none = l.drop (i + 1) := by rw [cutP, hi, show (i : Int) + 1 = ((i + 1 : Nat) : Int) by omega, pCut_from (by omega)]
      have s2 : S9.cutD l (some b.1) none = l.drop i := by rw [cutP, hi, pCut_from (by omega)]
      have g0 : gSlT (eA (D.tup l)) none (some b.1) = some (.tup (l.take i)) := by rw [← s0]; rfl
      have g1 : gSlT (eA (D.tup l)) (some (b.1 + 1)) none = some (.tup (l.drop (i + 1))) := by rw [← s1]; rfl
      have g2 : gSlT (eA (D.tup l)) (some b.1) none = some (.tup (l.drop i)) := by rw [← s2]; rfl
      have lt := List.length_take_le i l
      have ld : (l.drop (i + 1)).length = l.length - (i + 1) := List.length_drop
      have ld2 : (l.drop i).length = l.length - i := List.length_drop
      have ltl : (l.take i).length = i := by rw [List.length_take]; omega
      have sp := szL_split il
      have mt : ∀ x ∈ l.take i, x ∈ l := fun x h => List.mem_of_mem_take h
      have md : ∀ {j} x, x ∈ l.drop j → x ∈ l := fun x h => List.mem_of_mem_drop h
      -- a part in its place
      have put : ∀ {m : Nat} {y : D}, khD y = true → Sh m y → n - 1 ≤ m → khD (.tup (l.take i ++ [y] ++ l.drop (i + 1))) = true ∧ Sh (m + 1) (.tup (l.take i ++ [y] ++ l.drop (i + 1))) ∧ sz (.tup (l.take i ++ [y] ++ l.drop (i + 1))) + sz l[i] ≤ sz (.tup l) + sz y + 3 := fun {m y} hy hy2 hm => by
        have all : ∀ x ∈ l.take i ++ [y] ++ l.drop (i + 1), Sh m x := fun x h => by
          rcases List.mem_append.mp h with h | h
          · rcases List.mem_append.mp h with h | h
            · exact (parts x (mt x h)).mono hm
            · rw [List.mem_singleton.mp h]; exact hy2
          · exact (parts x (md x h)).mono hm
        obtain ⟨q1, q2⟩ := sh_tup all
        refine ⟨kh_tup.mpr fun x h => ?_, q1, ?_⟩
        · rcases List.mem_append.mp h with h | h
          · rcases List.mem_append.mp h with h | h
            · exact kp x (mt x h)
            · rw [List.mem_singleton.mp h]; exact hy
          · exact kp x (md x h)
        · rw [szL_app, szL_app, szL_one, List.length_append, List.length_append, List.length_singleton, ld, ltl] at q2
          omega
      have gA : ∀ (j k : List D), j.length + k.length ≤ 100000 → gAdd (eA (D.tup j)) (eA (D.tup k)) = some (.tup (j ++ k)) := fun j k h => gAdd_tup h
      have g3 : ∀ y : D, gAdd (eA (D.tup (l.take i))) ((eT eA) ([y])) = some (.tup (l.take i ++ [y])) := fun y => gAdd_tup (by show _ + 1 ≤ 100000; omega)
      refine Sat.ite (fun _ => ?_) fun _ => Sat.ite (fun _ => ?_) fun _ => Sat.ite (fun _ => ?_) fun _ => Sat.ite (fun _ => ?_) fun _ => ?_
      · have hix : gIx (eA (D.tup l)) (eI b.1) = some l[i] := by
          have := g_ixT (e := eA) (l := l) (i := b.1) (x := l[i]) (by rw [hi]; exact pIx_nat (List.getElem?_eq_getElem il))
          have e : eT eA l = D.tup l := by show D.tup (l.map eA) = _; rw [mapA]
          rwa [e] at this
        have im : l[i] ∈ l := List.getElem_mem il
        have zi := sz_mem im
        refine Sat.eq g0 (Sat.eq hix (Sat.bind (bent_ok f (n - 1) (by omega) (by omega) b3 (by omega) (kp _ im) (parts _ im) (by omega)) fun r ⟨r1, r2, r3, r4⟩ => Sat.eq (g3 _) (Sat.eq g1 (Sat.eq (gA _ _ (by rw [List.length_append, List.length_singleton]; omega)) (Sat.ok ?_)))))
        obtain ⟨q1, q2, q3⟩ := put r1 r2 (by omega)
        exact ⟨q1, q2.mono (by omega), (show sz (.tup (l.take i ++ [r.1] ++ l.drop (i + 1))) ≤ sz (.tup l) + 5310 + 10 * n by omega), r4.mono (by omega)⟩
      · refine Sat.eq g0 (Sat.eq g1 (Sat.eq (gA _ _ (by omega)) (Sat.ok ?_)))
        obtain ⟨q1, q2⟩ := sh_tup (n := n - 1) (l := l.take i ++ l.drop (i + 1)) fun x h => (List.mem_append.mp h).elim (fun h => parts x (mt x h)) fun h => parts x (md x h)
        refine ⟨kh_tup.mpr fun x h => (List.mem_append.mp h).elim (fun h => kp x (mt x h)) fun h => kp x (md x h), q1.mono (by omega), ?_, b3.mono (by omega)⟩
        rw [szL_app, List.length_append, ld, ltl] at q2
        show sz (.tup (l.take i ++ l.drop (i + 1))) ≤ sz (.tup l) + 5310 + 10 * n
        omega
      · refine Sat.eq g0 (Sat.bind (odd_ok b3 (by omega)) fun r ⟨r1, r2, r3, r4⟩ => Sat.eq (g3 _) (Sat.eq g2 (Sat.eq (gA _ _ (by rw [List.length_append, List.length_singleton]; omega)) (Sat.ok ?_))))
        obtain ⟨q1, q2⟩ := sh_tup (n := n + 10) (l := l.take i ++ [r.1] ++ l.drop i) fun x h => by
          rcases List.mem_append.mp h with h | h
          · rcases List.mem_append.mp h with h | h
            · exact (parts x (mt x h)).mono (by omega)
            · rw [List.mem_singleton.mp h]; exact r2.mono (by omega)
          · exact (parts x (md x h)).mono (by omega)
        refine ⟨kh_tup.mpr fun x h => ?_, q1, ?_, r4.mono (by omega)⟩
        · rcases List.mem_append.mp h with h | h
          · rcases List.mem_append.mp h with h | h
            · exact kp x (mt x h)
            · rw [List.mem_singleton.mp h]; exact r1
          · exact kp x (md x h)
        · have e : szL l = szL (l.take i) + szL (l.drop i) := by rw [← szL_app, List.take_append_drop]
          rw [szL_app, szL_app, szL_one, List.length_append, List.length_append, List.length_singleton, ld2, ltl] at q2
          show sz (.tup (l.take i ++ [r.1] ++ l.drop i)) ≤ sz (.tup l) + 5310 + 10 * n
          omega
      · refine Sat.eq g0 (Sat.bind (odd_ok b3 (by omega)) fun r ⟨r1, r2, r3, r4⟩ => Sat.eq (g3 _) (Sat.eq g1 (Sat.eq (gA _ _ (by rw [List.length_append, List.length_singleton]; omega)) (Sat.ok ?_))))
        obtain ⟨q1, q2, q3⟩ := put (m := n + 10) r1 (r2.mono (by omega)) (by omega)
        exact ⟨q1, q2, (show sz (.tup (l.take i ++ [r.1] ++ l.drop (i + 1))) ≤ sz (.tup l) + 5310 + 10 * n by omega), r4.mono (by omega)⟩
      · refine Sat.eq (show gList [eA (D.tup l)] = some l from rfl) (Sat.ok ?_)
        obtain ⟨q1, q2⟩ := sh_lst parts
        have e : eL eA l = D.lst l := by show D.lst (l.map eA) = _; rw [mapA]
        show khD (eL eA l) = true ∧ Sh (n + 11) (eL eA l) ∧ sz (eL eA l) ≤ _ ∧ _
        rw [e]
        exact ⟨kh_lst _, q1.mono (by omega), by omega, b3.mono (by omega)⟩
    | _ => first | exact fin | exact absurd (kh_kn hk) (by simp [knD])
theorem number_ok {c : Nat} {p : List Int} (h : PotOk c p) (hc : c ≤ 900000) : Sat (p__law_number p) (fun r => (0 ≤ r.1 ∧ r.1 ≤ 1000000000000000000000000000000) ∧ PotOk (c + 2) r.2) := by
  unfold p__law_number
  refine Sat.bind (take_ok h (by omega) (by decide) (by decide)) fun a ⟨a1, a2, a3⟩ => Sat.eq p10_30 (Sat.eq p10_29 (Sat.bind (of_ok a3 (by omega) (by simp) (by simp)) fun b ⟨b1, b2⟩ => Sat.ok ⟨?_, b2⟩))
  have b1 : b.1 = 0 ∨ b.1 = 1 ∨ b.1 = 2 ∨ b.1 = 7 ∨ b.1 = a.1 ∨ b.1 = 1000000000000000000000000000000 - 1 ∨ b.1 = 100000000000000000000000000000 := by
    simp only [List.mem_cons, List.not_mem_nil, or_false] at b1
    exact b1
  omega
theorem kh_num {i : Int} (h : 0 ≤ i ∧ i ≤ 1000000000000000000000000000000) : Kh 0 301 (.int i) := kh_i (by omega) (by omega)
theorem wish_ok {c : Nat} {p : List Int} (h : PotOk c p) (hc : c ≤ 800000) : Sat (p__law_wish p) (fun r => Kh 2 4500 ((eO (eP2 eI (eT eI))) r.1) ∧ PotOk (c + 30) r.2) := by
  unfold p__law_wish
  refine Sat.bind (take_ok h (by omega) (by decide) (by decide)) fun a ⟨a1, a2, a3⟩ => Sat.ite (fun _ => Sat.ok ⟨⟨kh_non, th_non.mono (by omega) (by omega)⟩, a3.mono (by omega)⟩) fun _ => ?_
  refine Sat.bind (take_ok a3 (by omega) (by decide) (by decide)) fun b ⟨b1, b2, b3⟩ => Sat.bind (of_ok b3 (by omega) (by simp) (by simp)) fun m ⟨m1, m2⟩ => ?_
  have hm : 0 ≤ m.1 ∧ m.1 ≤ 12 := by
    simp only [List.mem_cons, List.not_mem_nil, or_false] at m1
    omega
  refine Sat.bind (number_ok m2 (by omega)) fun n ⟨n1, n2⟩ => Sat.eq (pRng_int hm.1 (by omega)) (Sat.bind (Sat.lcS (fun i s => PotOk (c + 5 + 2 * i) s) (fun _ q => 0 ≤ q ∧ q ≤ 1000000000000000000000000000000) (by rw [rngL_len]; omega) (n2.mono (by omega)) fun i x s hx hs => Sat.bind (number_ok hs (by have := (rngL_get hx).2; omega)) fun w ⟨w1, w2⟩ => Sat.ok ⟨w1, w2⟩) fun r ⟨r1, r2, r3⟩ => Sat.ok ⟨?_, r3.mono (by rw [rngL_len]; omega)⟩)
  rw [rngL_len] at r1
  have k : Kh 1 3639 (eT eI r.1) := (kh_t (n := 0) (B := 301) (l := r.1.map eI) fun x hx => by
    obtain ⟨i, hi, rfl⟩ := List.mem_map.mp hx
    obtain ⟨j, hj⟩ := List.getElem?_of_mem hi
    obtain ⟨_, _, q⟩ := r2 j i hj
    exact kh_num q).mono (by omega) (by rw [List.length_map]; omega)
  refine ⟨kh_tup.mpr fun x hx => ?_, (th_tup (n := 1) (l := [.int n.1, eT eI r.1]) (thl_cons ((kh_num n1).2.mono (Nat.zero_le _) (Nat.le_refl _)) (thl_cons k.2 thl_nil))).mono (by omega) (by simp only [List.length_cons, List.length_nil]; omega)⟩
  simp only [List.mem_cons, List.not_mem_nil, or_false] at hx
  rcases hx with rfl | rfl
  · exact kh_int _
  · exact k.1
theorem letter_ok {c : Nat} {p : List Int} (h : PotOk c p) (hc : c ≤ 700000) : Sat (p__law_letter p) (fun r => Kh 3 6000 r.1 ∧ PotOk (c + 40) r.2) := by
  unfold p__law_letter
  refine Sat.bind (ofS_ok h (by omega) (by simp) (by simp)) fun w ⟨w1, w2⟩ => ?_
  have kw : Kh 2 20 (.str w.1) := by
    simp only [List.mem_cons, List.not_mem_nil, or_false] at w1
    rcases w1 with e | e | e <;> rw [e]
    · exact (kh_word "ask" (by simp)).mono (by omega) (by omega)
    · exact (kh_word "leave" (by simp)).mono (by omega) (by omega)
    · exact (kh_word "word" (by simp)).mono (by omega) (by omega)
  refine Sat.ite (fun _ => Sat.bind (wish_ok w2 (by omega)) fun a ⟨a1, a2⟩ => Sat.ok ⟨⟨kh_tup.mpr fun x hx => ?_, (th_tup (l := [.str w.1, (eO (eP2 eI (eT eI))) a.1]) (thl_cons kw.2 (thl_cons a1.2 thl_nil))).mono (by omega) (by simp only [List.length_cons, List.length_nil]; omega)⟩, a2.mono (by omega)⟩) fun _ => Sat.bind (number_ok w2 (by omega)) fun i ⟨i1, i2⟩ => Sat.bind (number_ok i2 (by omega)) fun j ⟨j1, j2⟩ => Sat.bind (wish_ok j2 (by omega)) fun a ⟨a1, a2⟩ => Sat.ok ⟨⟨kh_tup.mpr fun x hx => ?_, (th_tup (n := 2) (l := [.str w.1, .int i.1, .int j.1, (eO (eP2 eI (eT eI))) a.1]) (thl_cons kw.2 (thl_cons ((kh_num i1).2.mono (Nat.zero_le _) (Nat.le_refl _)) (thl_cons ((kh_num j1).2.mono (Nat.zero_le _) (Nat.le_refl _)) (thl_cons a1.2 thl_nil))))).mono (by omega) (by simp only [List.length_cons, List.length_nil]; omega)⟩, a2.mono (by omega)⟩
  · simp only [List.mem_cons, List.not_mem_nil, or_false] at hx
    rcases hx with rfl | rfl
    · exact kh_str _
    · exact a1.1
  · simp only [List.mem_cons, List.not_mem_nil, or_false] at hx
    rcases hx with rfl | rfl | rfl | rfl
    · exact kh_str _
    · exact kh_int _
    · exact kh_int _
    · exact a1.1
def isCnt : D → Bool
  | .int i => decide (0 ≤ i)
  | _ => false
theorem count_ok {d : D} (h : knD d = true) : p_is_count d = some (isCnt d) := by
  unfold p_is_count
  cases d with
  | int i =>
    show (Option.bind (some (decide (0 ≤ i))) fun a => some a) = some (decide (0 ≤ i))
    rfl
  | _ => first | rfl | cases h
theorem law_count_ok {d : D} (h : knD d = true) : p__law_is_count d = some (isCnt d) := by
  unfold p__law_is_count
  cases d with
  | int i =>
    show (Option.bind (some (decide (0 ≤ i))) fun a => some a) = some (decide (0 ≤ i))
    rfl
  | _ => first | rfl | cases h
def isPos : D → Bool
  | .int i => decide (0 ≤ i) && !decide (i = 0)
  | _ => false
def isPlaces : D → Bool
  | .tup l => (decide (1 ≤ l.length) && decide (l.length ≤ 12)) && l.all isCnt
  | _ => false
def isWish : D → Bool
  | .tup [a, b] => isPos a && isPlaces b
  | _ => false
theorem wish_two {d : D} (h : khD d = true) : p_is_wish d = some (isWish d) ∧ p__law_is_wish d = some (isWish d) := by
  unfold p_is_wish p__law_is_wish
  rw [isi_tuple_kn (kh_kn h)]
  cases d with
  | tup l =>
    have kp := kh_tup.mp h
    simp only [Option.bind_some, Bool.not_true, Bool.false_eq_true, if_false]
    rw [show pLenA (eA (.tup l)) = some (l.length : Int) from lenA_tup]
    simp only [Option.bind_some]
    match l, kp with
    | [a, b], kp =>
      have ha := kh_kn (kp a (by simp))
      have hb := kp b (by simp)
      have e3 : (!decide ((([a, b] : List D).length : Int) = 2)) = false := rfl
      simp only [e3, Bool.false_eq_true, if_false]
      rw [show gIx (eA (.tup [a, b])) (eI 0) = some a from rfl, show gIx (eA (.tup [a, b])) (eI 1) = some b from rfl]
      simp only [Option.bind_some, count_ok ha, law_count_ok ha]
      show _ = some (isPos a && isPlaces b) ∧ _ = some (isPos a && isPlaces b)
      cases a with
      | int i =>
        rw [show eqD (eA (.int i)) (eI 0) = some (decide (i = 0)) from rfl]
        simp only [isCnt, isPos, Option.bind_some]
        by_cases q0 : 0 ≤ i
        · by_cases q1 : i = 0
          · simp only [decide_eq_true q0, decide_eq_true q1]
            exact ⟨rfl, rfl⟩
          · simp only [decide_eq_true q0, decide_eq_false q1, Bool.not_true, Bool.false_eq_true, if_false, Bool.true_and, Bool.not_false, Option.bind_some]
            rw [isi_tuple_kn (kh_kn hb)]
            cases b with
            | tup k =>
              have kk := kh_tup.mp hb
              simp only [Option.bind_some, if_true, Bool.not_true, Bool.false_eq_true, if_false]
              rw [show pLenA (eA (.tup k)) = some (k.length : Int) from lenA_tup, show itA (D.tup k) = some k from rfl]
              simp only [Option.bind_some, isPlaces]
              by_cases q1 : 1 ≤ k.length
              · by_cases q2 : k.length ≤ 12
                · rw [decide_eq_true (show (1 : Int) ≤ (k.length : Int) by omega), decide_eq_true (show (k.length : Int) ≤ 12 by omega), decide_eq_true (show (0 : Int) < (k.length : Int) by omega), decide_eq_true (show (k.length : Int) < 13 by omega), decide_eq_true q1, decide_eq_true q2]
                  rw [lcO_eq (u := isCnt) (by omega) fun x hx => by rw [count_ok (kh_kn (kk x hx))]; rfl, lcO_eq (u := isCnt) (by omega) fun x hx => by rw [law_count_ok (kh_kn (kk x hx))]; rfl]
                  simp only [if_true, Option.bind_some, Bool.not_true, Bool.false_eq_true, if_false, Bool.true_and, List.all_map]
                  exact ⟨rfl, rfl⟩
                · rw [decide_eq_true (show (1 : Int) ≤ (k.length : Int) by omega), decide_eq_false (show ¬ (k.length : Int) ≤ 12 by omega), decide_eq_true (show (0 : Int) < (k.length : Int) by omega), decide_eq_false (show ¬ (k.length : Int) < 13 by omega), decide_eq_false q2, Bool.and_false, Bool.false_and]
                  exact ⟨rfl, rfl⟩
              · rw [decide_eq_false (show ¬ (1 : Int) ≤ (k.length : Int) by omega), decide_eq_false (show ¬ (0 : Int) < (k.length : Int) by omega), decide_eq_false q1, Bool.false_and, Bool.false_and]
                exact ⟨rfl, rfl⟩
            | _ => first | exact ⟨rfl, rfl⟩ | exact absurd (kh_kn hb) (by simp [knD])
        · simp only [decide_eq_false q0]
          exact ⟨rfl, rfl⟩
      | _ => first | exact ⟨rfl, rfl⟩ | cases ha
    | [], _ => exact ⟨rfl, rfl⟩
    | [_], _ => exact ⟨rfl, rfl⟩
    | _ :: _ :: _ :: k, _ =>
      have : (!decide (((k.length + 1 + 1 + 1 : Nat) : Int) = 2)) = true := by
        rw [decide_eq_false (by omega)]; rfl
      simp only [List.length_cons, this, if_true]
      exact ⟨rfl, rfl⟩
  | _ => first | exact ⟨rfl, rfl⟩ | exact absurd (kh_kn h) (by simp [knD])
def isNon : D → Bool
  | .non => true
  | _ => false
def isLet : D → Bool
  | .tup [.str w, x] => decide (w = "word") && isWish x
  | .tup [.str w, a, b, x] => (decide (w = "ask") || decide (w = "leave")) && (isCnt a && isCnt b) && (isNon x || isWish x)
  | _ => false
def val (w : Str) : Int := if w = "ask" then 4 else if w = "leave" then 4 else if w = "word" then 2 else 0
theorem kget_ok (w : Str) : pKGet [(("ask" : Str), 4), (("leave" : Str), 4), (("word" : Str), 2)] (eA (.str w)) 0 = some (val w) := by
  show some ((List.lookup w _).getD 0) = _
  unfold val
  simp only [List.lookup_cons, List.lookup_nil]
  by_cases e1 : w = "ask"
  · subst e1; rfl
  · rw [if_neg e1, show (w == ("ask" : Str)) = false by simpa using e1]
    by_cases e2 : w = "leave"
    · subst e2; rfl
    · rw [if_neg e2, show (w == ("leave" : Str)) = false by simpa using e2]
      by_cases e3 : w = "word"
      · subst e3; rfl
      · rw [if_neg e3, show (w == ("word" : Str)) = false by simpa using e3]
        rfl
theorem notin_two (w : Str) : pIn true (eA (.str w)) ((eP2 eS eS) (("ask" : Str), ("leave" : Str))) = some (!(decide (w = "ask") || decide (w = "leave"))) := by
  have e1 : flatsD ([D.str "ask", D.str "leave"]) = some [V.str "ask", V.str "leave"] := rfl
  show blO (gInB true (.str w) (.tup [.str "ask", .str "leave"])) = _
  unfold gInB
  rw [show itsD (D.tup [.str "ask", .str "leave"]) = some [.str "ask", .str "leave"] from rfl]
  simp only [Option.bind_some, e1]
  rw [show flatD (D.str w) = some (V.str w) from rfl]
  simp only [Option.map_some, if_true, blO]
  refine congrArg some (congrArg Bool.not ?_)
  rw [inV, List.any_cons, List.any_cons, List.any_nil, Bool.or_false]
  have k : ∀ x : Str, eqV (V.str x) (V.str w) = decide (w = x) := fun x => by
    show decide _ = _
    by_cases e : w = x
    · subst e; simp
    · rw [decide_eq_false e]
      exact decide_eq_false fun z => e (by first | (cases z; rfl) | exact z.symm)
  rw [k, k]
theorem wl : ¬ (("leave" : Str) = "ask") ∧ ¬ (("word" : Str) = "ask") ∧ ¬ (("word" : Str) = "leave") := by decide +kernel
theorem isN_ok {d : D} (h : knD d = true) : blO (gIsN (eA d) .non) = some (isNon d) := by
  cases d <;> first | rfl | cases h
theorem let_two {d : D} (h : khD d = true) (hl : ∀ l, d = .tup l → l.length ≤ 100000) : p_is_letter d = some (isLet d) ∧ p__law_due d = some (isLet d) := by
  unfold p_is_letter p__law_due
  rw [isi_tuple_kn (kh_kn h)]
  cases d with
  | tup l =>
    have hl := hl l rfl
    have kp := kh_tup.mp h
    simp only [Option.bind_some, Bool.not_true, Bool.false_eq_true, if_false]
    rw [show pLenA (eA (.tup l)) = some (l.length : Int) from lenA_tup, show blO (gEq0 (eA (D.tup l)) ((fun (_ : Unit) => D.tup []) ())) = some l.isEmpty from rfl]
    simp only [Option.bind_some]
    match l, kp, hl with
    | [], _, _ => exact ⟨rfl, rfl⟩
    | a :: k, kp, hl =>
      have ha := kh_kn (kp a (by simp))
      have e0 : decide (((a :: k).length : Int) = 0) = false := decide_eq_false (by rw [List.length_cons]; omega)
      rw [e0, show gIx (eA (.tup (a :: k))) (eI 0) = some a from by
        have := g_ixT (e := eA) (l := a :: k) (i := 0) (x := a) (pIx_nat (j := 0) rfl)
        have e : eT eA (a :: k) = D.tup (a :: k) := by show D.tup ((a :: k).map eA) = _; rw [mapA]
        rwa [e] at this]
      simp only [Bool.false_eq_true, if_false, List.isEmpty_cons, Option.bind_some]
      rw [isi_str_kn ha]
      cases a with
      | str w =>
        simp only [Option.bind_some, Bool.not_true, Bool.false_eq_true, if_false]
        rw [kget_ok w, notin_two w, show eqD (eA (.str w)) (eS ("word" : Str)) = some (decide (w = "word")) from rfl]
        simp only [Option.bind_some]
        match k, kp, hl with
        | [], _, _ =>
          have v1 : ¬ (val w = 1) := by unfold val; split; omega; split; omega; split <;> omega
          have e1 : (!decide (val w = ((([D.str w] : List D).length : Nat) : Int))) = true := by show (!decide (val w = 1)) = true; rw [decide_eq_false v1]; rfl
          rw [e1]
          refine ⟨rfl, ?_⟩
          cases decide (w = "word") with
          | true => rfl
          | false => cases (!(decide (w = "ask") || decide (w = "leave"))) <;> rfl
        | [x], kp, _ =>
          have hx := kp x (by simp)
          have e1 : decide (val w = ((([D.str w, x] : List D).length : Nat) : Int)) = decide (w = "word") := by
            show decide (val w = 2) = _
            unfold val
            by_cases q1 : w = "ask"
            · subst q1; rw [if_pos rfl]; rw [decide_eq_false (by omega)]; exact (decide_eq_false fun z => wl.2.1 z.symm).symm
            · rw [if_neg q1]
              by_cases q2 : w = "leave"
              · subst q2; rw [if_pos rfl]; rw [decide_eq_false (by omega)]; exact (decide_eq_false fun z => wl.2.2 z.symm).symm
              · rw [if_neg q2]
                by_cases q3 : w = "word"
                · rw [if_pos q3, decide_eq_true q3]; rfl
                · rw [if_neg q3, decide_eq_false q3]; rfl
          rw [e1]
          rw [show gSlT (eA (.tup [D.str w, x])) (some 1) (some (-1)) = some (.tup []) from rfl, show gIx (eA (.tup [D.str w, x])) (eI (-1)) = some x from rfl, show gIx (eA (.tup [D.str w, x])) (eI 1) = some x from rfl]
          simp only [Option.bind_some]
          rw [(wish_two hx).1, (wish_two hx).2, isN_ok (kh_kn hx)]
          show _ = some (decide (w = "word") && isWish x) ∧ _ = some (decide (w = "word") && isWish x)
          cases decide (w = "word") with
          | true => cases isWish x <;> cases isNon x <;> exact ⟨rfl, rfl⟩
          | false => refine ⟨rfl, ?_⟩; cases (!(decide (w = "ask") || decide (w = "leave"))) <;> rfl
        | [x, y], kp, _ =>
          have v1 : ¬ (val w = 3) := by unfold val; split; omega; split; omega; split <;> omega
          have e1 : (!decide (val w = ((([D.str w, x, y] : List D).length : Nat) : Int))) = true := by show (!decide (val w = 3)) = true; rw [decide_eq_false v1]; rfl
          rw [e1]
          refine ⟨rfl, ?_⟩
          cases decide (w = "word") with
          | true => rfl
          | false => cases (!(decide (w = "ask") || decide (w = "leave"))) <;> rfl
        | [x, y, z], kp, _ =>
          have hx := kh_kn (kp x (by simp))
          have hy := kh_kn (kp y (by simp))
          have hz := kp z (by simp)
          have e1 : decide (val w = ((([D.str w, x, y, z] : List D).length : Nat) : Int)) = (decide (w = "ask") || decide (w = "leave")) := by
            show decide (val w = 4) = _
            unfold val
            by_cases q1 : w = "ask"
            · subst q1; rw [if_pos rfl]; rfl
            · rw [if_neg q1, decide_eq_false q1, Bool.false_or]
              by_cases q2 : w = "leave"
              · rw [if_pos q2, decide_eq_true q2]; rfl
              · rw [if_neg q2, decide_eq_false q2]
                split <;> rfl
          rw [e1]
          rw [show gSlT (eA (.tup [D.str w, x, y, z])) (some 1) (some (-1)) = some (.tup [x, y]) from rfl, show gIx (eA (.tup [D.str w, x, y, z])) (eI (-1)) = some z from rfl, show gIx (eA (.tup [D.str w, x, y, z])) (eI 1) = some x from rfl, show gIx (eA (.tup [D.str w, x, y, z])) (eI 2) = some y from rfl, show gIx (eA (.tup [D.str w, x, y, z])) (eI 3) = some z from rfl]
          simp only [Option.bind_some]
          rw [(wish_two hz).1, (wish_two hz).2, isN_ok (kh_kn hz), law_count_ok hx, law_count_ok hy]
          simp only [Option.bind_some]
          rw [show itA (D.tup [x, y]) = some [x, y] from rfl]
          simp only [Option.bind_some]
          rw [lcO_eq (u := isCnt) (by simp) fun v hv => by
            simp only [List.mem_cons, List.not_mem_nil, or_false] at hv
            rcases hv with rfl | rfl
            · rw [count_ok hx]; rfl
            · rw [count_ok hy]; rfl]
          rw [show List.map isCnt [x, y] = [isCnt x, isCnt y] from rfl]
          show _ = some ((decide (w = "ask") || decide (w = "leave")) && (isCnt x && isCnt y) && (isNon z || isWish z)) ∧ _ = some ((decide (w = "ask") || decide (w = "leave")) && (isCnt x && isCnt y) && (isNon z || isWish z))
          have notw : (decide (w = "ask") || decide (w = "leave")) = true → decide (w = "word") = false := fun q => by
            rw [Bool.or_eq_true, decide_eq_true_eq, decide_eq_true_eq] at q
            exact decide_eq_false fun z => by
              subst z
              rcases q with q | q
              · exact wl.2.1 q
              · exact wl.2.2 q
          cases hw : (decide (w = "ask") || decide (w = "leave")) with
          | true =>
            rw [notw hw]
            cases isCnt x <;> cases isCnt y <;> cases isNon z <;> cases isWish z <;> exact ⟨rfl, rfl⟩
          | false =>
            cases decide (w = "word") <;> exact ⟨rfl, rfl⟩
        | x :: y :: z :: v :: k, kp, _ =>
          have v1 : ¬ (val w = (((D.str w :: x :: y :: z :: v :: k).length : Nat) : Int)) := by
            simp only [List.length_cons]
            unfold val
            split
            · omega
            · split
              · omega
              · split <;> omega
          have e1 : (!decide (val w = (((D.str w :: x :: y :: z :: v :: k).length : Nat) : Int))) = true := by rw [decide_eq_false v1]; rfl
          have e2 : decide ((((D.str w :: x :: y :: z :: v :: k).length : Nat) : Int) = 2) = false := decide_eq_false (by simp only [List.length_cons]; omega)
          have e4 : decide ((((D.str w :: x :: y :: z :: v :: k).length : Nat) : Int) = 4) = false := decide_eq_false (by simp only [List.length_cons]; omega)
          rw [e1, e2, e4]
          refine ⟨rfl, ?_⟩
          cases decide (w = "word") with
          | true => rfl
          | false => cases (!(decide (w = "ask") || decide (w = "leave"))) <;> rfl
      | _ => first | exact ⟨rfl, rfl⟩ | cases ha
  | _ => first | exact ⟨rfl, rfl⟩ | exact absurd (kh_kn h) (by simp [knD])
theorem law_ok {ns : List Int} : p_law ns = some true := by
  unfold p_law
  obtain ⟨m, hm, hm2⟩ := cells (n := 3) (ns := ns) (by decide) (by decide)
  rw [show max2 1 (min2 3 (List.length ns : Int)) = (m : Int) from hm, pRng_ok (by omega), Option.bind_some]
  have key : ∀ {o : Option Bool}, Sat o (fun r => r = true) → o = some true := fun ⟨a, e, h⟩ => by rw [e, h]
  have one : ∀ {d : D} {n B : Nat}, khD d = true → Th n B d → B ≤ 190000 → p_is_letter d = some (isLet d) ∧ p__law_due d = some (isLet d) := fun h1 h2 hB => let_two h1 fun l e => by subst e; have := th_len h2; omega
  refine key (Sat.forR (fun _ _ => True) trivial (fun i x s hx _ => ?_) fun s _ => Sat.ok rfl)
  obtain ⟨rfl, hi⟩ := rngL_get hx
  refine Sat.bind (pot_ok (ns := ns) (k := i) (by omega)) fun a ha => ?_
  refine Sat.eq (pRng_ok (n := 24) (by decide)) (Sat.forR (fun (i : Nat) (p : List Int) => PotOk (2000 * i) p) (ha.mono (by omega)) (fun i x p hx hp => ?_) fun p hp => ?_)
  · have hi := (rngL_get hx).2
    refine Sat.bind (letter_ok hp (by omega)) fun d ⟨d1, d2⟩ => Sat.bind (of_ok d2 (by omega) (by simp) (by simp)) fun b ⟨b1, b2⟩ => ?_
    have hb : 0 ≤ b.1 ∧ b.1 ≤ 2 := by
      simp only [List.mem_cons, List.not_mem_nil, or_false] at b1
      omega
    obtain ⟨d3, d4⟩ := sh_th d1.2
    refine Sat.eq (pRng_int hb.1 (by omega)) (Sat.bind (Sat.forN (fun (j : Nat) (s : List Int × D) => (khD s.2 = true ∧ Sh (3 + 11 * j) s.2 ∧ sz s.2 ≤ 6000 + 5500 * j) ∧ PotOk (2000 * i + 41 + 480 * j) s.1) ⟨⟨d1.1, d3, d4⟩, b2⟩ fun j x s hx ⟨⟨s1, s2, s3⟩, s4⟩ => ?_) fun z ⟨⟨z1, z2, z3⟩, z4⟩ => ?_)
    · have hj := (rngL_get hx).2
      exact Sat.bind (bent_ok 24 (3 + 11 * j) (by omega) (by decide) s4 (by omega) s1 s2 (by omega)) fun r ⟨r1, r2, r3, r4⟩ => Sat.ok ⟨⟨r1, r2.mono (by omega), by show sz r.1 ≤ _; omega⟩, r4.mono (by omega)⟩
    · rw [rngL_len] at z2 z3 z4
      have th := th_sh (z2.mono (show 3 + 11 * b.1.toNat ≤ 40 by omega)) (Nat.le_trans z3 (show 6000 + 5500 * b.1.toNat ≤ 100000 by omega))
      obtain ⟨l1, l2⟩ := one z1 th (by omega)
      obtain ⟨rs, hrs⟩ := th_repr th (by omega) (by omega)
      obtain ⟨bs, hbs⟩ := repr_bl (isLet z.2)
      refine Sat.eq hrs (Sat.bind (P := fun b => b = false) (Sat.eq l1 (Sat.eq hbs (Sat.eq l2 (Sat.eq hbs ?_)))) fun b hb => ?_)
      · rw [decide_eq_true rfl]
        refine Sat.ite (fun z => nomatch z) fun _ => Sat.eq hrs ?_
        rw [decide_eq_true rfl]
        exact Sat.ok rfl
      · subst hb
        exact Sat.ite (fun z => nomatch z) fun _ => Sat.ok (z4.mono (by omega))
  · rw [rngL_len] at hp
    refine Sat.bind (odd_ok hp (by omega)) fun o ⟨o1, o2, o3, o4⟩ => ?_
    refine Sat.forR (fun _ _ => True) trivial (fun j q u hq _ => ?_) fun u _ => Sat.ok trivial
    have hq2 : khD q = true ∧ ∃ B, Th 10 B q ∧ B ≤ 190000 := by
      have tp : ∀ {l : List D}, (∀ x ∈ l, Kh 2 6000 x) → l.length ≤ 5 → khD (.tup l) = true ∧ ∃ B, Th 10 B (.tup l) ∧ B ≤ 190000 := fun {l} h hl => ⟨(kh_t h).1, _, (kh_t h).2.mono (by omega) (Nat.le_refl _), by have := Nat.mul_le_mul_left 6000 hl; omega⟩
      have W : Kh 2 6000 (.str "ask") := (kh_word "ask" (by simp)).mono (by omega) (by omega)
      have W2 : Kh 2 6000 (.str "word") := (kh_word "word" (by simp)).mono (by omega) (by omega)
      have Z : Kh 2 6000 (.int 0) := (kh_i (i := 0) (by decide) (by decide)).mono (by omega) (by omega)
      have N : Kh 2 6000 .non := ⟨kh_non, th_non.mono (by omega) (by omega)⟩
      have L : Kh 2 6000 (.lst [.str "ask"]) := ⟨kh_lst _, (th_lst (n := 1) (l := [.str "ask"]) (thl_cons ((kh_word "ask" (by simp)).2.mono (by omega) (Nat.le_refl _)) thl_nil)).mono (by omega) (by simp only [List.length_cons, List.length_nil]; omega)⟩
      have hm := List.mem_of_getElem? hq
      simp only [List.mem_cons, List.not_mem_nil, or_false] at hm
      rcases hm with rfl | rfl | rfl | rfl | rfl
      · exact ⟨o1, 5300, th_sh o2 o3, by omega⟩
      · exact tp (l := [.str "ask"]) (fun x h => by rw [List.mem_singleton.mp h]; exact W) (by simp)
      · exact tp (l := [.str "word", .non]) (fun x h => by
          simp only [List.mem_cons, List.not_mem_nil, or_false] at h
          rcases h with rfl | rfl
          · exact W2
          · exact N) (by simp)
      · exact tp (l := [.str "ask", .int 0, .int 0, .non]) (fun x h => by
          simp only [List.mem_cons, List.not_mem_nil, or_false] at h
          rcases h with rfl | rfl | rfl | rfl
          · exact W
          · exact Z
          · exact Z
          · exact N) (by simp)
      · exact tp (l := [.lst [.str "ask"], .int 0, .int 0, .non]) (fun x h => by
          simp only [List.mem_cons, List.not_mem_nil, or_false] at h
          rcases h with rfl | rfl | rfl | rfl
          · exact L
          · exact Z
          · exact Z
          · exact N) (by simp)
    obtain ⟨k1, B, k2, k3⟩ := hq2
    obtain ⟨l1, l2⟩ := one k1 k2 k3
    obtain ⟨bs, hbs⟩ := repr_bl (isLet q)
    refine Sat.eq l1 (Sat.eq hbs (Sat.eq l2 (Sat.eq hbs ?_)))
    rw [decide_eq_true rfl]
    exact Sat.ite (fun z => nomatch z) fun _ => Sat.ok trivial
theorem law_plain (ns : List Int) (h1 : ns.length ≤ 63) (h2 : ∀ k ∈ ns, Builtin.Int.intBits k ≤ 1048576) : ∃ M, f_law [.d (.frl (ns.map D.int))] [] = .ok (.d (.bl true)) M := told (q_law cl_nil ns) law_ok
end K58
open PySem PySem.W PyProof.Rows
set_option maxHeartbeats 0 in
theorem PySem.Challenge.cw_notbothout_k58_letters_of_anything_holds : PySem.Challenge.rw_notbothout_k58_letters_of_anything.Holds := by
  w_on; o_law; k_head; (case hw => w_witness2)
  k_fill
  refine S9.walk_g (l := PySem.Challenge.rw_notbothout_k58_letters_of_anything) (n := 63) (k := 28) (x := "_law_script") (sp := fun K => S9.sp0 K 1 K58.f_law) rfl (by decide) rfl ⟨rfl, by decide, by decide⟩ (fun w h Y => PySem.W.kIn_of Y) ?F (S9.told_of K58.law_plain)
  case F =>
    intro w mg fa h KX G hmg
    refine' K58.law_F KX G hmg ?a0 ?l0 ?c0 ?k0 ?a1 ?l1 ?c1 ?k1 ?a2 ?l2 ?c2 ?k2 ?a3 ?l3 ?c3 ?k3 ?a4 ?l4 ?c4 ?k4 ?a5 ?l5 ?c5 ?k5 ?a6 ?l6 ?c6 ?k6 ?a7 ?l7 ?c7 ?k7 ?a8 ?l8 ?c8 ?k8 ?a9 ?l9 ?c9 ?k9 ?a10 ?l10 ?c10 ?k10 ?a11 ?l11 ?c11 ?k11 ?a12 ?l12 ?c12 ?k12 ?a13 ?l13 ?c13 ?k13 ?a14 ?l14 ?c14 ?k14 ?a15 ?l15 ?c15 ?k15 ?a16 ?l16 ?c16 ?k16 ?v0 ?v1 ?w1 ?yk1 ?yl1 ?yh1 ?z_abs ?z_all ?z_bool ?z_int ?z_isinstance ?z_len ?z_list ?z_max ?z_min ?z_range ?z_repr ?z_str ?z_tuple
    (case a0 => k_is); (case l0 => k_is); (case c0 => k_is); (case k0 => k_is); (case a1 => k_is); (case l1 => k_is)
    (case c1 => k_is); (case k1 => k_is); (case a2 => k_is); (case l2 => k_is); (case c2 => k_is); (case k2 => k_is)
    (case a3 => k_is); (case l3 => k_is); (case c3 => k_is); (case k3 => k_is); (case a4 => k_is); (case l4 => k_is)
    (case c4 => k_is); (case k4 => k_is); (case a5 => k_is); (case l5 => k_is); (case c5 => k_is); (case k5 => k_is)
    (case a6 => k_is); (case l6 => k_is); (case c6 => k_is); (case k6 => k_is); (case a7 => k_is); (case l7 => k_is)
    (case c7 => k_is); (case k7 => k_is); (case a8 => k_is); (case l8 => k_is); (case c8 => k_is); (case k8 => k_is)
    (case a9 => k_is); (case l9 => k_is); (case c9 => k_is); (case k9 => k_is); (case a10 => k_is); (case l10 => k_is)
    (case c10 => k_is); (case k10 => k_is); (case a11 => k_is); (case l11 => k_is); (case c11 => k_is); (case k11 => k_is)
    (case a12 => k_is); (case l12 => k_is); (case c12 => k_is); (case k12 => k_is); (case a13 => k_is); (case l13 => k_is)
    (case c13 => k_is); (case k13 => k_is); (case a14 => k_is); (case l14 => k_is); (case c14 => k_is); (case k14 => k_is)
    (case a15 => k_is); (case l15 => k_is); (case c15 => k_is); (case k15 => k_is); (case a16 => k_is); (case l16 => k_is)
    (case c16 => k_is); (case k16 => k_is); (case v0 => k_is); (case v1 => k_is); (case w1 => k_is); (case yk1 => exact (And.intro ⟨_, _, rfl, rfl⟩ (And.intro ⟨_, _, rfl, rfl⟩ (And.intro ⟨_, _, rfl, rfl⟩ True.intro))))
    (case yl1 => rfl); (case yh1 => exact (And.intro ⟨_, rfl⟩ (And.intro ⟨_, rfl⟩ (And.intro ⟨_, rfl⟩ (And.intro ⟨_, rfl⟩ (And.intro ⟨_, rfl⟩ (And.intro ⟨_, rfl⟩ True.intro))))))); (case z_abs => k_is); (case z_all => k_is); (case z_bool => k_is); (case z_int => k_is)
    (case z_isinstance => k_is); (case z_len => k_is); (case z_list => k_is); (case z_max => k_is); (case z_min => k_is); (case z_range => k_is)
    (case z_repr => k_is); (case z_str => k_is); (case z_tuple => k_is)
