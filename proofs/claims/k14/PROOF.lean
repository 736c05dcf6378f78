import PyProof.Rows.All
import Wide.All
import OpenK.AllK
import Wide.FinOn
import HandS.ForMost
import HandS.ForExc
import HandS.IsInst
import HandS.ExcIs
import HandS.ExcField
import HandS.Zip
import HandS.TupAny
import HandS.TupMul
import HandS.Wide
import PyProof.NeKinds
import KE.KTupSum
import HandS.Dict
import KE.GoesEnum
import HandS.SortInts
import HandS.SortRule
import HandS.Deep
import HandS.SetFor
import HandS.Strs
import PyProof.ReprRoads
import HandS.TupLe
import HandS.HotCalls
import HandS.Conv
import HandS.DeepEq
import HandS.ExcInit
import KE.KExcIs
import HandS.Text
import PySem.Challenge.RW_withindays_k14_stands_told
set_option Elab.async false
set_option linter.all false
set_option autoImplicit false
set_option maxRecDepth 100000
set_option maxHeartbeats 4000000
namespace WD
open PySem PySem.Spec PyProof.Rows L2

inductive D where
  | non | bl (b : Bool) | int (i : Int) | str (x : Str)
  | tup (xs : List D) | lst (xs : List D) | scr (xs : List D) | dic (ks : List Key) (xs : List D) | loc (n : Nat)
/-- a changeable thing -/
inductive O where
  | lst (xs : List D)
abbrev Hs : Type := List O
/-- an error: its class's name, its one field -/
structure Xn where
  name : Str
  val : Option (Str × D) := none

/-- the still part of the heap, and what is kept aside -/
abbrev GG : Type := Hp × Hp
structure GLe (G G' : GG) : Prop where
  le : Same G.1 G'.1
  fr : G'.2 = G.2
theorem GLe.refl (G : GG) : GLe G G := ⟨Same.refl _, rfl⟩
theorem GLe.trans {G G1 G2 : GG} (a : GLe G G1) (b : GLe G1 G2) : GLe G G2 := ⟨a.le.trans b.le, b.fr.trans a.fr⟩
def gupd (G : GG) (p : Addr) (o : HO) : GG := (upd G.1 p o, G.2)
mutual
def Is (K : PySem.W.Frag) (G : GG) (ms : List Addr) : D → V → Prop
  | .non, v => v = .non
  | .bl b, v => v = .bl b
  | .int i, v => v = .int i
  | .str x, v => v = .str x
  | .tup xs, v => ∃ a vs, v = .ref a ∧ G.1 a = some (.tup vs) ∧ IsL K G ms xs vs
  | .lst xs, v => ∃ a vs, v = .ref a ∧ G.1 a = some (.lst vs) ∧ IsL K G ms xs vs
  | .scr xs, v => ∃ a vs, v = .ref a ∧ SqL K G.1 a vs ∧ IsL K G ms xs vs
  | .dic ks xs, v => ∃ a vs, v = .ref a ∧ G.1 a = some (.dK (ks.zip vs)) ∧ ks.length = vs.length ∧ IsL K G ms xs vs
  | .loc n, v => ∃ a, ms[n]? = some a ∧ v = .ref a
def IsL (K : PySem.W.Frag) (G : GG) (ms : List Addr) : List D → List V → Prop
  | [], vs => vs = []
  | x :: xs, vs => ∃ v r, vs = v :: r ∧ Is K G ms x v ∧ IsL K G ms xs r
end
section
variable {K : PySem.W.Frag} {G G' : GG} {H : Hp} {ms ms' : List Addr}
theorem Same.sqT {H H' : Hp} {a : Addr} {xs : List V} (e : Same H H') (h : SqT K H a xs) : SqT K H' a xs := by
  rcases h with (h | ⟨o, h⟩) | h
  · exact .inl (.inl (e _ _ h))
  · exact .inl (.inr ⟨o, e _ _ h⟩)
  · exact .inr h
theorem pre_get {n : Nat} {a : Addr} (p : ms <+: ms') (h : ms[n]? = some a) : ms'[n]? = some a := by
  obtain ⟨t, rfl⟩ := p
  have hl : n < ms.length := by
    rcases Nat.lt_or_ge n ms.length with q | q
    · exact q
    · rw [List.getElem?_eq_none q] at h; cases h
  rw [List.getElem?_append_left hl]; exact h
mutual
theorem Is.mono' (e : Same G.1 G'.1) (p : ms <+: ms') : ∀ (d : D) (v : V), Is K G ms d v → Is K G' ms' d v
  | .non, _, h => h
  | .bl _, _, h => h
  | .int _, _, h => h
  | .str _, _, h => h
  | .tup xs, v, h => by
    obtain ⟨a, vs, h1, h2, h3⟩ := h
    exact ⟨a, vs, h1, e _ _ h2, IsL.mono' e p xs vs h3⟩
  | .lst xs, v, h => by
    obtain ⟨a, vs, h1, h2, h3⟩ := h
    exact ⟨a, vs, h1, e _ _ h2, IsL.mono' e p xs vs h3⟩
  | .scr xs, v, h => by
    obtain ⟨a, vs, h1, h2, h3⟩ := h
    exact ⟨a, vs, h1, e.seq h2, IsL.mono' e p xs vs h3⟩
  | .dic ks xs, v, h => by
    obtain ⟨a, vs, h1, h2, hl, h3⟩ := h
    exact ⟨a, vs, h1, e _ _ h2, hl, IsL.mono' e p xs vs h3⟩
  | .loc n, v, h => by
    obtain ⟨a, h1, h2⟩ := h
    exact ⟨a, pre_get p h1, h2⟩
theorem IsL.mono' (e : Same G.1 G'.1) (p : ms <+: ms') : ∀ (xs : List D) (vs : List V), IsL K G ms xs vs → IsL K G' ms' xs vs
  | [], _, h => h
  | x :: xs, vs, h => by
    obtain ⟨v, r, h1, h2, h3⟩ := h
    exact ⟨v, r, h1, Is.mono' e p x v h2, IsL.mono' e p xs r h3⟩
end
theorem Is.mono (e : GLe G G') (p : ms <+: ms') (d : D) (v : V) (h : Is K G ms d v) : Is K G' ms' d v := Is.mono' e.le p d v h
theorem IsL.mono (e : GLe G G') (p : ms <+: ms') (xs : List D) (vs : List V) (h : IsL K G ms xs vs) : IsL K G' ms' xs vs := IsL.mono' e.le p xs vs h
theorem IsL.length : ∀ {xs : List D} {vs : List V}, IsL K G ms xs vs → xs.length = vs.length
  | [], _, h => by cases h; rfl
  | x :: xs, _, h => by
    obtain ⟨v, r, rfl, _, h3⟩ := h
    simp [IsL.length h3]
theorem IsL.get : ∀ {xs : List D} {vs : List V} {i : Nat} {d : D}, IsL K G ms xs vs → xs[i]? = some d → ∃ v, vs[i]? = some v ∧ Is K G ms d v
  | [], _, _, _, _, e => by simp at e
  | x :: xs, _, 0, d, h, e => by
    obtain ⟨v, r, rfl, h2, h3⟩ := h
    simp at e; subst e
    exact ⟨v, rfl, h2⟩
  | x :: xs, _, i + 1, d, h, e => by
    obtain ⟨v, r, rfl, h2, h3⟩ := h
    obtain ⟨w, q1, q2⟩ := IsL.get (i := i) h3 (by simpa using e)
    exact ⟨w, by simpa using q1, q2⟩
theorem IsL.getV : ∀ {xs : List D} {vs : List V} {i : Nat} {v : V}, IsL K G ms xs vs → vs[i]? = some v → ∃ d, xs[i]? = some d ∧ Is K G ms d v
  | [], _, _, _, h, e => by cases h; simp at e
  | x :: xs, _, 0, v, h, e => by
    obtain ⟨w, r, rfl, h2, h3⟩ := h
    simp at e; subst e
    exact ⟨x, rfl, h2⟩
  | x :: xs, _, i + 1, v, h, e => by
    obtain ⟨w, r, rfl, h2, h3⟩ := h
    obtain ⟨d, q1, q2⟩ := IsL.getV (i := i) h3 (by simpa using e)
    exact ⟨d, by simpa using q1, q2⟩
theorem IsL.append : ∀ {xs ys : List D} {vs ws : List V}, IsL K G ms xs vs → IsL K G ms ys ws → IsL K G ms (xs ++ ys) (vs ++ ws)
  | [], _, _, _, h, q => by cases h; exact q
  | x :: xs, _, _, _, h, q => by
    obtain ⟨v, r, rfl, h2, h3⟩ := h
    exact ⟨v, _, rfl, h2, IsL.append h3 q⟩
theorem IsL.take : ∀ {xs : List D} {vs : List V} (n : Nat), IsL K G ms xs vs → IsL K G ms (xs.take n) (vs.take n)
  | _, _, 0, _ => by simp [IsL]
  | [], _, n + 1, h => by cases h; simp [IsL]
  | x :: xs, _, n + 1, h => by
    obtain ⟨v, r, rfl, h2, h3⟩ := h
    exact ⟨v, _, rfl, h2, IsL.take n h3⟩
theorem IsL.drop : ∀ {xs : List D} {vs : List V} (n : Nat), IsL K G ms xs vs → IsL K G ms (xs.drop n) (vs.drop n)
  | _, _, 0, h => h
  | [], _, n + 1, h => by cases h; simp [IsL]
  | x :: xs, _, n + 1, h => by
    obtain ⟨v, r, rfl, h2, h3⟩ := h
    exact IsL.drop n h3
theorem IsL.one {d : D} {v : V} (h : Is K G ms d v) : IsL K G ms [d] [v] := ⟨v, [], rfl, h, rfl⟩
theorem IsL.rev : ∀ {xs : List D} {vs : List V}, IsL K G ms xs vs → IsL K G ms xs.reverse vs.reverse
  | [], _, h => by cases h; simp [IsL]
  | x :: xs, _, h => by
    obtain ⟨v, r, rfl, h2, h3⟩ := h
    rw [List.reverse_cons, List.reverse_cons]
    exact (IsL.rev h3).append (.one h2)
theorem IsL.set : ∀ {xs : List D} {vs : List V} {d : D} {v : V} (i : Nat), IsL K G ms xs vs → Is K G ms d v → IsL K G ms (xs.set i d) (vs.set i v)
  | [], _, _, _, _, h, _ => by cases h; simp [IsL]
  | x :: xs, _, d, v, 0, h, q => by
    obtain ⟨w, r, rfl, h2, h3⟩ := h
    exact ⟨v, r, rfl, q, h3⟩
  | x :: xs, _, d, v, i + 1, h, q => by
    obtain ⟨w, r, rfl, h2, h3⟩ := h
    exact ⟨w, _, rfl, h2, IsL.set i h3 q⟩
theorem IsL.dropLast {xs : List D} {vs : List V} (h : IsL K G ms xs vs) : IsL K G ms xs.dropLast vs.dropLast := by
  rw [List.dropLast_eq_take, List.dropLast_eq_take, h.length]
  exact h.take _
theorem IsL.rep {xs : List D} {vs : List V} (h : IsL K G ms xs vs) : ∀ k : Nat, IsL K G ms (List.replicate k xs).flatten (List.replicate k vs).flatten
  | 0 => by simp [IsL]
  | k + 1 => by
    rw [List.replicate_succ, List.replicate_succ, List.flatten_cons, List.flatten_cons]
    exact h.append (IsL.rep h k)
theorem IsL.ints : ∀ {ns : List Int} {vs : List V}, IsL K G ms (ns.map D.int) vs → vs = ns.map V.int
  | [], _, h => h
  | n :: ns, _, h => by
    obtain ⟨v, r, rfl, h2, h3⟩ := h
    rw [IsL.ints h3]; cases h2; rfl
theorem IsL.of_ints : ∀ (ns : List Int), IsL K G ms (ns.map D.int) (ns.map V.int)
  | [] => rfl
  | n :: ns => ⟨_, _, rfl, rfl, IsL.of_ints ns⟩
theorem IsL.bls : ∀ {ns : List Bool} {vs : List V}, IsL K G ms (ns.map D.bl) vs → vs = ns.map V.bl
  | [], _, h => h
  | n :: ns, _, h => by
    obtain ⟨v, r, rfl, h2, h3⟩ := h
    rw [IsL.bls h3]; cases h2; rfl
end

def ObjIs (K : PySem.W.Frag) (G : GG) (ms : List Addr) (H : Hp) (a : Addr) : O → Prop
  | .lst xs => ∃ vs, H a = some (.lst vs) ∧ IsL K G ms xs vs ∧ xs.length ≤ sizeLine
def SzO : HO → Prop
  | .lst vs => vs.length ≤ sizeLine
  | .tup vs => vs.length ≤ sizeLine
  | .frz _ u => SzO u
  | _ => True
structure Hh (K : PySem.W.Frag) (G : GG) (ms : List Addr) (h : Hs) (H : Hp) : Prop where
  sub : Same G.1 H
  gsz : ∀ a o, G.1 a = some o → SzO o
  frm : Same G.2 H
  frd : ∀ a o, G.2 a = some o → G.1 a = none ∧ a ∉ ms
  len : ms.length = h.length
  nd : ms.Nodup
  dis : ∀ a ∈ ms, G.1 a = none
  obj : ∀ (n : Nat) (a : Addr) (o : O), ms[n]? = some a → h[n]? = some o → ObjIs K G ms H a o
section
variable {K : PySem.W.Frag} {G G' : GG} {H H' : Hp} {ms ms' : List Addr} {h h' : Hs}
theorem Hh.at (x : Hh K G ms h H) {n : Nat} {xs : List D} (e : h[n]? = some (.lst xs)) : ∃ a vs, ms[n]? = some a ∧ H a = some (.lst vs) ∧ IsL K G ms xs vs := by
  have hl : n < h.length := by
    rcases Nat.lt_or_ge n h.length with q | q
    · exact q
    · rw [List.getElem?_eq_none q] at e; cases e
  have hm : n < ms.length := by rw [x.len]; exact hl
  obtain ⟨vs, h1, h2, _⟩ := x.obj n ms[n] _ (List.getElem?_eq_getElem hm) e
  exact ⟨ms[n], vs, List.getElem?_eq_getElem hm, h1, h2⟩
theorem Hh.atz (x : Hh K G ms h H) {n : Nat} {xs : List D} (e : h[n]? = some (.lst xs)) : xs.length ≤ sizeLine := by
  have hl : n < h.length := by
    rcases Nat.lt_or_ge n h.length with q | q
    · exact q
    · rw [List.getElem?_eq_none q] at e; cases e
  have hm : n < ms.length := by rw [x.len]; exact hl
  obtain ⟨vs, h1, h2, h3⟩ := x.obj n ms[n] _ (List.getElem?_eq_getElem hm) e
  exact h3
theorem Hh.some_at (x : Hh K G ms h H) {n : Nat} {a : Addr} (e : ms[n]? = some a) : ∃ vs, H a = some (.lst vs) := by
  have hm : n < ms.length := by
    rcases Nat.lt_or_ge n ms.length with q | q
    · exact q
    · rw [List.getElem?_eq_none q] at e; cases e
  have hl : n < h.length := by rw [← x.len]; exact hm
  have q := x.obj n a h[n] e (List.getElem?_eq_getElem hl)
  cases ho : h[n] with
  | lst xs => rw [ho] at q; obtain ⟨vs, q1, _, _⟩ := q; exact ⟨vs, q1⟩
theorem Hh.ne (x : Hh K G ms h H) {a p : Addr} (ha : a ∈ ms) (hp : H p = none) : a ≠ p := by
  obtain ⟨n, hn⟩ := List.getElem?_of_mem ha
  obtain ⟨vs, q⟩ := x.some_at hn
  exact ne_of_none q hp
theorem ObjIs.mono' {o : O} {a : Addr} (e : Same G.1 G'.1) (p : ms <+: ms') (q : ObjIs K G ms H a o) (hh : H' a = H a) : ObjIs K G' ms' H' a o := by
  cases o with
  | lst xs =>
    obtain ⟨vs, h1, h2, h3⟩ := q
    exact ⟨vs, by rw [hh]; exact h1, IsL.mono' e p _ _ h2, h3⟩
theorem ObjIs.mono {o : O} {a : Addr} (e : GLe G G') (p : ms <+: ms') (q : ObjIs K G ms H a o) (hh : H' a = H a) : ObjIs K G' ms' H' a o := q.mono' e.le p hh
theorem same_upd {H : Hp} {p : Addr} {o : HO} (h : H p = none) : Same H (upd H p o) := fun b x e => by
  rw [upd_ne (ne_of_none e h)]
  exact e
theorem Hh.gnone (x : Hh K G ms h H) {p : Addr} (hp : H p = none) : G.1 p = none := x.sub.free hp
theorem Hh.fnone (x : Hh K G ms h H) {p : Addr} (hp : H p = none) : G.2 p = none := x.frm.free hp
theorem gle_upd {p : Addr} {o : HO} (h : G.1 p = none) : GLe G (gupd G p o) := ⟨same_upd h, rfl⟩
theorem pre_refl (l : List Addr) : l <+: l := ⟨[], by simp⟩
theorem upd_some {H : Hp} {p a : Addr} {o u : HO} (hp : H p = none) (e : H a = some u) : upd H p o a = some u := by
  rw [upd_ne (ne_of_none e hp)]; exact e
/-- a new still object -/
theorem Hh.still (x : Hh K G ms h H) {p : Addr} {o : HO} (hp : H p = none) (hz : SzO o) : Hh K (gupd G p o) ms h (upd H p o) := by
  have eg : GLe G (gupd G p o) := gle_upd (x.gnone hp)
  refine ⟨fun a u e => ?_, fun a u e => ?_, fun a u e => upd_some hp (x.frm a u e), fun a u e => ⟨?_, (x.frd a u e).2⟩, x.len, x.nd, fun a ha => ?_, fun n a u e1 e2 => ?_⟩
  · by_cases hz : a = p
    · subst hz
      have e : upd G.1 a o a = some u := e
      rw [upd_same] at e ⊢; exact e
    · have e : upd G.1 p o a = some u := e
      rw [upd_ne hz] at e ⊢; exact x.sub a u e
  · by_cases hq : a = p
    · subst hq
      have e : upd G.1 a o a = some u := e
      rw [upd_same] at e; cases e; exact hz
    · have e : upd G.1 p o a = some u := e
      rw [upd_ne hq] at e; exact x.gsz a u e
  · show upd G.1 p o a = none
    rw [upd_ne (ne_of_none (x.frm a u e) hp)]; exact (x.frd a u e).1
  · show upd G.1 p o a = none
    rw [upd_ne (x.ne ha hp)]; exact x.dis a ha
  · exact (x.obj n a u e1 e2).mono eg (pre_refl _) (upd_ne (x.ne (List.mem_of_getElem? e1) hp))
/-- a new changeable list -/
theorem Hh.alloc (x : Hh K G ms h H) {p : Addr} {xs : List D} {vs : List V} (hp : H p = none) (hx : IsL K G ms xs vs) (hz : xs.length ≤ sizeLine) : Hh K G (ms ++ [p]) (h ++ [.lst xs]) (upd H p (.lst vs)) := by
  have pp : ms <+: ms ++ [p] := ⟨[p], rfl⟩
  refine ⟨fun a u e => upd_some hp (x.sub a u e), x.gsz, fun a u e => upd_some hp (x.frm a u e), fun a u e => ⟨(x.frd a u e).1, fun hm => ?_⟩, by simp [x.len], ?_, fun a ha => ?_, fun n a u e1 e2 => ?_⟩
  · rcases List.mem_append.mp hm with q | q
    · exact (x.frd a u e).2 q
    · have : a = p := by simpa using q
      exact ne_of_none (x.frm a u e) hp this
  · refine List.nodup_append.mpr ⟨x.nd, by simp, fun a ha b hb => ?_⟩
    have : b = p := by simpa using hb
    subst this
    exact x.ne ha hp
  · rcases List.mem_append.mp ha with q | q
    · exact x.dis a q
    · have : a = p := by simpa using q
      subst this; exact x.gnone hp
  · by_cases hn : n < ms.length
    · rw [List.getElem?_append_left hn] at e1
      rw [List.getElem?_append_left (by rw [← x.len]; exact hn)] at e2
      exact (x.obj n a u e1 e2).mono (GLe.refl _) pp (upd_ne (x.ne (List.mem_of_getElem? e1) hp))
    · have hn' : n = ms.length := by
        have hl : n < (ms ++ [p]).length := by
          rcases Nat.lt_or_ge n (ms ++ [p]).length with q | q
          · exact q
          · rw [List.getElem?_eq_none q] at e1; cases e1
        simp at hl; omega
      subst hn'
      simp at e1
      rw [x.len] at e2
      simp at e2
      subst e1 e2
      exact ⟨vs, upd_same, IsL.mono (GLe.refl _) pp _ _ hx, hz⟩
/-- a list changed -/
theorem Hh.write (x : Hh K G ms h H) {n : Nat} {a : Addr} {xs : List D} {vs : List V} (e : ms[n]? = some a) (hx : IsL K G ms xs vs) (hz : xs.length ≤ sizeLine) : Hh K G ms (h.set n (.lst xs)) (upd H a (.lst vs)) := by
  have ha := List.mem_of_getElem? e
  have hg : G.1 a = none := x.dis a ha
  refine ⟨fun b u q => ?_, x.gsz, fun b u q => ?_, x.frd, by simp [x.len], x.nd, x.dis, fun m b u e1 e2 => ?_⟩
  · rw [upd_ne (fun z => by rw [z, hg] at q; cases q)]; exact x.sub b u q
  · rw [upd_ne (fun z => (x.frd b u q).2 (by rw [z]; exact ha))]; exact x.frm b u q
  · by_cases hm : m = n
    · subst hm
      rw [e] at e1; cases e1
      have hl : m < h.length := by
        rcases Nat.lt_or_ge m ms.length with q | q
        · rw [← x.len]; exact q
        · rw [List.getElem?_eq_none q] at e; cases e
      rw [List.getElem?_set_self hl] at e2
      cases e2
      exact ⟨vs, upd_same, hx, hz⟩
    · rw [List.getElem?_set_ne (Ne.symm hm)] at e2
      have hne : b ≠ a := fun z => hm (nd_ix x.nd e1 (by rw [z]; exact e))
      exact (x.obj m b u e1 e2).mono (GLe.refl _) (pre_refl _) (upd_ne hne)
def fupd (G : GG) (p : Addr) (o : HO) : GG := (G.1, upd G.2 p o)
theorem Hh.frame (x : Hh K G ms h H) {p : Addr} {o : HO} (hp : H p = none) : Hh K (fupd G p o) ms h (upd H p o) := by
  refine ⟨fun a u e => upd_some hp (x.sub a u e), x.gsz, fun a u e => ?_, fun a u e => ?_, x.len, x.nd, x.dis, fun n a u e1 e2 => ?_⟩
  · by_cases hz : a = p
    · subst hz
      have e : upd G.2 a o a = some u := e
      rw [upd_same] at e ⊢; exact e
    · have e : upd G.2 p o a = some u := e
      rw [upd_ne hz] at e ⊢; exact x.frm a u e
  · by_cases hz : a = p
    · subst hz; exact ⟨x.gnone hp, fun hm => x.ne hm hp rfl⟩
    · have e : upd G.2 p o a = some u := e
      rw [upd_ne hz] at e; exact x.frd a u e
  · exact ObjIs.mono' (G := G) (q := x.obj n a u e1 e2) (e := Same.refl G.1) (p := pre_refl _) (hh := upd_ne (x.ne (List.mem_of_getElem? e1) hp))
theorem Hh.reframe (x : Hh K G ms h H) {p : Addr} {o o' : HO} (hp : G.2 p = some o) : Hh K (fupd G p o') ms h (upd H p o') := by
  obtain ⟨g0, m0⟩ := x.frd p o hp
  refine ⟨fun a u e => ?_, x.gsz, fun a u e => ?_, fun a u e => ?_, x.len, x.nd, x.dis, fun n a u e1 e2 => ?_⟩
  · rw [upd_ne (fun z => by have e : G.1 a = some u := e; rw [z, g0] at e; cases e)]; exact x.sub a u e
  · by_cases hz : a = p
    · subst hz
      have e : upd G.2 a o' a = some u := e
      rw [upd_same] at e ⊢; exact e
    · have e : upd G.2 p o' a = some u := e
      rw [upd_ne hz] at e ⊢; exact x.frm a u e
  · by_cases hz : a = p
    · subst hz; exact ⟨g0, m0⟩
    · have e : upd G.2 p o' a = some u := e
      rw [upd_ne hz] at e; exact x.frd a u e
  · exact ObjIs.mono' (G := G) (q := x.obj n a u e1 e2) (e := Same.refl G.1) (p := pre_refl _) (hh := upd_ne fun z => m0 (by rw [← z]; exact List.mem_of_getElem? e1))
/-- what was kept aside becomes still; the rest aside as F -/
theorem Hh.thaw (x : Hh K G ms h H) {p : Addr} {o : HO} {F : Hp} (hp : G.2 p = some o) (hF : ∀ a u, F a = some u → a ≠ p ∧ G.2 a = some u) (hz : SzO o) : Hh K (upd G.1 p o, F) ms h H := by
  obtain ⟨g0, m0⟩ := x.frd p o hp
  refine ⟨fun a u e => ?_, fun a u e => ?_, fun a u e => x.frm a u (hF a u e).2, fun a u e => ⟨?_, (x.frd a u (hF a u e).2).2⟩, x.len, x.nd, fun a ha => ?_, fun n a u e1 e2 => ?_⟩
  · by_cases hz : a = p
    · subst hz
      have e : upd G.1 a o a = some u := e
      rw [upd_same] at e; cases e; exact x.frm a _ hp
    · have e : upd G.1 p o a = some u := e
      rw [upd_ne hz] at e; exact x.sub a u e
  · by_cases hq : a = p
    · subst hq
      have e : upd G.1 a o a = some u := e
      rw [upd_same] at e; cases e; exact hz
    · have e : upd G.1 p o a = some u := e
      rw [upd_ne hq] at e; exact x.gsz a u e
  · show upd G.1 p o a = none
    rw [upd_ne (hF a u e).1]; exact (x.frd a u (hF a u e).2).1
  · show upd G.1 p o a = none
    rw [upd_ne (fun z => m0 (by rw [← z]; exact ha))]; exact x.dis a ha
  · exact (x.obj n a u e1 e2).mono' (same_upd g0) (pre_refl _) rfl
/-- .. becomes changeable -/
theorem Hh.adopt (x : Hh K G ms h H) {p : Addr} {xs : List D} {vs : List V} {F : Hp} (hp : G.2 p = some (.lst vs)) (hF : ∀ a u, F a = some u → a ≠ p ∧ G.2 a = some u) (hx : IsL K G ms xs vs) (hz : xs.length ≤ sizeLine) : Hh K (G.1, F) (ms ++ [p]) (h ++ [.lst xs]) H := by
  obtain ⟨g0, m0⟩ := x.frd p _ hp
  have pp : ms <+: ms ++ [p] := ⟨[p], rfl⟩
  refine ⟨x.sub, x.gsz, fun a u e => x.frm a u (hF a u e).2, fun a u e => ⟨(x.frd a u (hF a u e).2).1, fun hm => ?_⟩, by simp [x.len], ?_, fun a ha => ?_, fun n a u e1 e2 => ?_⟩
  · rcases List.mem_append.mp hm with q | q
    · exact (x.frd a u (hF a u e).2).2 q
    · exact (hF a u e).1 (by simpa using q)
  · refine List.nodup_append.mpr ⟨x.nd, by simp, fun a ha b hb => ?_⟩
    have : b = p := by simpa using hb
    subst this
    exact fun z => m0 (by rw [← z]; exact ha)
  · rcases List.mem_append.mp ha with q | q
    · exact x.dis a q
    · have : a = p := by simpa using q
      subst this; exact g0
  · by_cases hn : n < ms.length
    · rw [List.getElem?_append_left hn] at e1
      rw [List.getElem?_append_left (by rw [← x.len]; exact hn)] at e2
      exact ObjIs.mono' (G := G) (q := x.obj n a u e1 e2) (e := Same.refl G.1) (p := pp) (hh := rfl)
    · have hn' : n = ms.length := by
        have hl : n < (ms ++ [p]).length := by
          rcases Nat.lt_or_ge n (ms ++ [p]).length with q | q
          · exact q
          · rw [List.getElem?_eq_none q] at e1; cases e1
        simp at hl; omega
      subst hn'
      simp at e1
      rw [x.len] at e2
      simp at e2
      subst e1 e2
      exact ⟨vs, x.frm _ _ hp, IsL.mono' (G := G) (G' := (G.1, F)) (Same.refl G.1) pp _ _ hx, hz⟩
end
end WD
namespace WD
open PySem PySem.Spec PyProof.Rows L2

inductive R (α : Type) where
  | ok (a : α) (h : Hs)
  | err (x : Xn) (h : Hs)
  | bad
def R.bind {α β : Type} (r : R α) (k : α → Hs → R β) : R β := match r with
  | .ok a h => k a h
  | .err x h => .err x h
  | .bad => .bad
@[simp] theorem R.bind_ok {α β : Type} (a : α) (h : Hs) (k : α → Hs → R β) : (R.ok a h).bind k = k a h := rfl
@[simp] theorem R.bind_err {α β : Type} (x : Xn) (h : Hs) (k : α → Hs → R β) : (R.err x h).bind k = .err x h := rfl
@[simp] theorem R.bind_bad {α β : Type} (k : α → Hs → R β) : (R.bad : R α).bind k = .bad := rfl
abbrev Ss : Type := List (Option D)
abbrev FE : Type := Ss → Hs → R D
abbrev FA : Type := Ss → Hs → R (List D)
abbrev FT : Type := Ss → Hs → R Bool
inductive RS where
  | nx (s : Ss) (h : Hs)
  | rt (d : D) (h : Hs)
  | bk (s : Ss) (h : Hs)
  | ct (s : Ss) (h : Hs)
  | er (x : Xn) (s : Ss) (h : Hs)
  | bad
abbrev FS : Type := Ss → Hs → RS

def clsV (mg : Str → Option Value) (x : Xn) : Value := (mg x.name).getD .none
/-- the error's own dict -/
def XIs (K : PySem.W.Frag) (G : GG) (ms : List Addr) (H : Hp) (x : Xn) (d : Option Addr) : Prop :=
  match x.val with
  | none => d = none
  | some (f, e) => ∃ a v, d = some a ∧ G.1 a = some (.xd [(f, v)]) ∧ Is K G ms e v
/-- a pinned slot; an error's dict that stays -/
inductive Pn where
  | s (i : Nat) (v : V)
  | g (dd : Addr) (f : Str) (e : D)
def PnOk (K : PySem.W.Frag) (G : GG) (ms : List Addr) (σ : L2.St) : Pn → Prop
  | .s i v => σ[i]? = some (some v)
  | .g dd f e => ∃ v, G.1 dd = some (.xd [(f, v)]) ∧ Is K G ms e v
section
variable (X : Cx) (W : WX)
/-- what is wanted behind a step -/
def Post {α β : Type} (K : PySem.W.Frag) (mg : Str → Option Value) (E : XK) (G : GG) (ms : List Addr) (I : GG → List Addr → α → β → Prop) (r : R α) (Q : β → Hp → Prop) : Prop :=
  match r with
  | .ok a h' => ∀ b H' G' ms', GLe G G' → ms <+: ms' → Hh K G' ms' h' H' → I G' ms' a b → Q b H'
  | .err x h' => ∀ H' G' ms' d, GLe G G' → ms <+: ms' → Hh K G' ms' h' H' → XIs K G' ms' H' x d → E (clsV mg x) d H'
  | .bad => False
/-- the slots -/
structure Sl (K : PySem.W.Frag) (G : GG) (ms : List Addr) (pin : List Pn) (s : Ss) (σ : L2.St) : Prop where
  len : s.length = σ.length
  get : ∀ (i : Nat) (d : D), s[i]? = some (some d) → ∃ v, σ[i]? = some (some v) ∧ Is K G ms d v
  pin : ∀ p ∈ pin, PnOk K G ms σ p
def rdE (pin : List Pn) (f : FE) : TE := fun σ H Q => ∃ G ms s h, Hh X.K G ms h H ∧ Sl X.K G ms pin s σ ∧ Post X.K X.mg (fun c d H => W c d σ H) G ms (Is X.K) (f s h) Q
def rdA (pin : List Pn) (f : FA) : TA := fun σ H Q => ∃ G ms s h, Hh X.K G ms h H ∧ Sl X.K G ms pin s σ ∧ Post X.K X.mg (fun c d H => W c d σ H) G ms (IsL X.K) (f s h) Q
def rdT (pin : List Pn) (f : FT) : TT := fun σ H Q => ∃ G ms s h, Hh X.K G ms h H ∧ Sl X.K G ms pin s σ ∧ Post X.K X.mg (fun c d H => W c d σ H) G ms (fun _ _ (a b : Bool) => a = b) (f s h) Q
def PostS (K : PySem.W.Frag) (mg : Str → Option Value) (pin : List Pn) (σ : L2.St) (G : GG) (ms : List Addr) (r : RS) (D : Ends) : Prop :=
  match r with
  | .nx s' h' => ∀ σ' H' G' ms', GLe G G' → ms <+: ms' → Hh K G' ms' h' H' → Sl K G' ms' pin s' σ' → D.nx σ' H'
  | .rt d h' => ∀ v H' G' ms', GLe G G' → ms <+: ms' → Hh K G' ms' h' H' → Is K G' ms' d v → D.rt v H'
  | .bk s' h' => ∀ σ' H' G' ms', GLe G G' → ms <+: ms' → Hh K G' ms' h' H' → Sl K G' ms' pin s' σ' → D.bk σ' H'
  | .ct s' h' => ∀ σ' H' G' ms', GLe G G' → ms <+: ms' → Hh K G' ms' h' H' → Sl K G' ms' pin s' σ' → D.ct σ' H'
  | .er x s' h' => ∀ σ' H' G' ms' d, GLe G G' → ms <+: ms' → Hh K G' ms' h' H' → Sl K G' ms' pin s' σ' → XIs K G' ms' H' x d → W (clsV mg x) d σ' H'
  | .bad => False
def rdS (pin : List Pn) (f : FS) : TS := fun D σ H => ∃ G ms s h, Hh X.K G ms h H ∧ Sl X.K G ms pin s σ ∧ PostS W X.K X.mg pin σ G ms (f s h) D
end
/-- the judgements -/
abbrev VE (X : Cx) (W : WX) (pin : List Pn) (e : Expr) (f : FE) : Prop := PE X e (rdE X W pin f)
abbrev VT (X : Cx) (W : WX) (pin : List Pn) (e : Expr) (f : FT) : Prop := PT X e (rdT X W pin f)
abbrev VW (X : Cx) (W : WX) (pin : List Pn) (e : Expr) (f : FT) : Prop := PW X e (rdT X W pin f)
abbrev VA (X : Cx) (W : WX) (pin : List Pn) (es : List Expr) (f : FA) : Prop := PA X es (rdA X W pin f)
abbrev VS (X : Cx) (W : WX) (pin : List Pn) (st : Stmt) (f : FS) : Prop := PS X st (rdS X W pin f)
abbrev VSs (X : Cx) (W : WX) (pin : List Pn) (st : List Stmt) (f : FS) : Prop := PSs X st (rdS X W pin f)
/-- weaker readings -/
theorem pe_imp {X : Cx} {e : Expr} {t t' : TE} (h : PE X e t) (q : ∀ σ H Q, t' σ H Q → t σ H Q) : PE X e t' := ⟨fun pins s σ H Q I w => h.run pins s σ H Q I (q _ _ _ w)⟩
theorem pt_imp {X : Cx} {e : Expr} {t t' : TT} (h : PT X e t) (q : ∀ σ H Q, t' σ H Q → t σ H Q) : PT X e t' := ⟨fun pins s σ H Q I w => h.run pins s σ H Q I (q _ _ _ w)⟩
theorem pw_imp {X : Cx} {e : Expr} {t t' : TT} (h : PW X e t) (q : ∀ σ H Q, t' σ H Q → t σ H Q) : PW X e t' := ⟨fun wh pins s σ H Q I w => h.run wh pins s σ H Q I (q _ _ _ w)⟩
theorem pa_imp {X : Cx} {e : List Expr} {t t' : TA} (h : PA X e t) (q : ∀ σ H Q, t' σ H Q → t σ H Q) : PA X e t' := ⟨fun pos pins s σ H Q I w => h.run pos pins s σ H Q I (q _ _ _ w)⟩
theorem ps_imp {X : Cx} {e : Stmt} {t t' : TS} (h : PS X e t) (q : ∀ D σ H, t' D σ H → t D σ H) : PS X e t' := ⟨fun pins s σ H D I w => h.run pins s σ H D I (q _ _ _ w)⟩
theorem pss_imp {X : Cx} {e : List Stmt} {t t' : TS} (h : PSs X e t) (q : ∀ D σ H, t' D σ H → t D σ H) : PSs X e t' := ⟨fun pins s σ H D I w => h.run pins s σ H D I (q _ _ _ w)⟩

section
variable {X : Cx} {W : WX} {pin : List Pn} {K : PySem.W.Frag} {mg : Str → Option Value} {E : XK} {G G' : GG} {ms ms' : List Addr}
theorem PnOk.mono' {σ : L2.St} (e : Same G.1 G'.1) (p : ms <+: ms') : ∀ {z : Pn}, PnOk K G ms σ z → PnOk K G' ms' σ z
  | .s _ _, h => h
  | .g _ _ _, h => by obtain ⟨v, h1, h2⟩ := h; exact ⟨v, e _ _ h1, Is.mono' e p _ _ h2⟩
theorem Sl.mono {s : Ss} {σ : L2.St} (x : Sl K G ms pin s σ) (e : GLe G G') (p : ms <+: ms') : Sl K G' ms' pin s σ :=
  ⟨x.len, fun i d q => by obtain ⟨v, h1, h2⟩ := x.get i d q; exact ⟨v, h1, Is.mono e p d v h2⟩, fun z hz => (x.pin z hz).mono' e.le p⟩
theorem pre_trans {a b c : List Addr} (h : a <+: b) (q : b <+: c) : a <+: c := List.IsPrefix.trans h q
theorem Post.mono {α β : Type} {I : GG → List Addr → α → β → Prop} {r : R α} {Q : β → Hp → Prop} (x : Post K mg E G ms I r Q) (e : GLe G G') (p : ms <+: ms') : Post K mg E G' ms' I r Q := by
  cases r with
  | ok a h' => exact fun b H' G2 ms2 h1 h2 => x b H' G2 ms2 (e.trans h1) (pre_trans p h2)
  | err y h' => exact fun H' G2 ms2 d h1 h2 => x H' G2 ms2 d (e.trans h1) (pre_trans p h2)
  | bad => exact x
theorem Post.imp {α β : Type} {I : GG → List Addr → α → β → Prop} {r : R α} {Q Q' : β → Hp → Prop} (x : Post K mg E G ms I r Q) (f : ∀ b H, Q b H → Q' b H) : Post K mg E G ms I r Q' := by
  cases r with
  | ok a h' => exact fun b H' G2 ms2 h1 h2 h3 h4 => f _ _ (x b H' G2 ms2 h1 h2 h3 h4)
  | err y h' => exact x
  | bad => exact x
/-- one step, then another: the second starts where the first has come to -/
theorem Post.bind {α β γ δ : Type} {I : GG → List Addr → α → γ → Prop} {J : GG → List Addr → β → δ → Prop} {r : R α} {k : α → Hs → R β} {Q : δ → Hp → Prop} {Q' : γ → Hp → Prop}
    (x : Post K mg E G ms J (r.bind k) Q)
    (f : ∀ a h1 b H1 G1 ms1, GLe G G1 → ms <+: ms1 → Hh K G1 ms1 h1 H1 → I G1 ms1 a b → Post K mg E G1 ms1 J (k a h1) Q → Q' b H1) : Post K mg E G ms I r Q' := by
  cases r with
  | ok a h' => exact fun b H' G2 ms2 h1 h2 h3 h4 => f a h' b H' G2 ms2 h1 h2 h3 h4 (Post.mono (r := k a h') x h1 h2)
  | err y h' => exact x
  | bad => exact x
theorem Post.fin {α β : Type} {I : GG → List Addr → α → β → Prop} {a : α} {b : β} {h : Hs} {H : Hp} {Q : β → Hp → Prop} (x : Post K mg E G ms I (.ok a h) Q) (hh : Hh K G ms h H) (q : I G ms a b) : Q b H :=
  x b H G ms (GLe.refl _) (pre_refl _) hh q
theorem Post.fin2 {α β : Type} {I : GG → List Addr → α → β → Prop} {a : α} {b : β} {h : Hs} {H : Hp} {Q : β → Hp → Prop} (x : Post K mg E G ms I (.ok a h) Q) (e : GLe G G') (p : ms <+: ms') (hh : Hh K G' ms' h H) (q : I G' ms' a b) : Q b H :=
  x b H G' ms' e p hh q

def eVar (i : Nat) : FE := fun s h => match s[i]? with
  | some (some d) => .ok d h
  | _ => .bad
theorem ve_var (i : Nat) {x : Str} {pos : Pos} (hN : X.N[i]? = some x := by rfl) (hv : Vis X.env.scope x := by first | exact Or.inl rfl | exact Or.inr (Or.inl rfl) | exact Or.inr (Or.inr rfl)) (hd : (x == ("__debug__" : Str)) = false := by decide)
    (hcd : (x == ("__classdict__" : Str)) = false := by decide) : VE X W pin (.Name x pos) (eVar i) := by
  refine pe_imp (pe_var hN hv hd hcd) fun σ H Q ⟨G, ms, s, h, hh, sl, q⟩ => ?_
  unfold eVar at q
  split at q
  · rename_i d e
    obtain ⟨v, e1, e2⟩ := sl.get i d e
    exact ⟨v, e1, q.fin hh e2⟩
  · exact q.elim
def eC (d : D) : FE := fun _ h => .ok d h
theorem ve_int {i : Int} {j : Nat} {pos : Pos} : VE X W pin (.Constant (.int i) j pos) (eC (.int i)) := pe_imp pe_int fun σ H Q ⟨G, ms, s, h, hh, sl, q⟩ => Post.fin (b := V.int i) q hh rfl
theorem ve_bl {i : Bool} {j : Nat} {pos : Pos} : VE X W pin (.Constant (.bool i) j pos) (eC (.bl i)) := pe_imp pe_bl fun σ H Q ⟨G, ms, s, h, hh, sl, q⟩ => Post.fin (b := V.bl i) q hh rfl
theorem ve_str {i : Str} {j : Nat} {pos : Pos} : VE X W pin (.Constant (.str i) j pos) (eC (.str i)) := pe_imp pe_str fun σ H Q ⟨G, ms, s, h, hh, sl, q⟩ => Post.fin (b := V.str i) q hh rfl
theorem ve_non {j : Nat} {pos : Pos} : VE X W pin (.Constant .none j pos) (eC .non) := pe_imp pe_non fun σ H Q ⟨G, ms, s, h, hh, sl, q⟩ => Post.fin (b := V.non) q hh rfl
/-- a constant of the module, an int -/
theorem ve_globI {x : Str} {i : Int} {t : Tok} {pos : Pos} (hg : Gl X x) (hm : X.mg x = some (.int i t)) (hd : (x == ("__debug__" : Str)) = false := by decide) : VE X W pin (.Name x pos) (eC (.int i)) :=
  pe_imp (pe_glob (v := .int i) hg hm ⟨t, rfl⟩ hd) fun σ H Q ⟨G, ms, s, h, hh, sl, q⟩ => Post.fin (b := V.int i) q hh rfl

def aNil : FA := fun _ h => .ok [] h
def aCons (f : FE) (r : FA) : FA := fun s h => (f s h).bind fun d h1 => (r s h1).bind fun ds h2 => .ok (d :: ds) h2
theorem va_nil : VA X W pin [] aNil := pa_imp pa_nil fun σ H Q ⟨G, ms, s, h, hh, sl, q⟩ => Post.fin (b := ([] : List V)) q hh rfl
theorem va_cons {e : Expr} {es : List Expr} {f : FE} {r : FA} (h1 : VE X W pin e f) (h2 : VA X W pin es r) (hs : starEach (e :: es) X.env = (false, eval e X.env) :: starEach es X.env := by rfl) : VA X W pin (e :: es) (aCons f r) := by
  refine pa_imp (pa_cons h1 h2 hs) fun σ H Q ⟨G, ms, s, h, hh, sl, q⟩ => ?_
  refine ⟨G, ms, s, h, hh, sl, q.bind fun d h1 v H1 G1 ms1 e1 p1 hh1 i1 q1 => ?_⟩
  refine ⟨G1, ms1, s, h1, hh1, sl.mono e1 p1, q1.bind fun ds h2 vs H2 G2 ms2 e2 p2 hh2 i2 q2 => ?_⟩
  exact q2.fin hh2 ⟨v, vs, rfl, Is.mono e2 p2 _ _ i1, i2⟩

def rd2 (K : PySem.W.Frag) (g : D → D → Hs → R D) : R2 := fun x y H Q => ∃ G ms h a b, Hh K G ms h H ∧ Is K G ms a x ∧ Is K G ms b y ∧ Post K (fun _ => none) (fun _ _ _ => False) G ms (Is K) (g a b h) Q
def OpD (X : Cx) (f : Value → Value → Sem Value) (g : D → D → Hs → R D) : Prop := OpR X f (rd2 X.K g)
/-- an operation gives no error -/
def calm2 (g : D → D → Hs → R D) : D → D → Hs → R D := fun a b h => match g a b h with
  | .ok d h' => .ok d h'
  | _ => .bad
def eBin (g : D → D → Hs → R D) (fa fb : FE) : FE := fun s h => (fa s h).bind fun a h1 => (fb s h1).bind fun b h2 => calm2 g a b h2
theorem calm_post {g : D → D → Hs → R D} {a b : D} {h : Hs} {Q : VK} (q : Post K mg E G ms (Is K) (calm2 g a b h) Q) : Post K (fun _ => none) (fun _ _ _ => False) G ms (Is K) (g a b h) Q := by
  unfold calm2 at q
  cases e : g a b h with
  | ok d h' => rw [e] at q; exact q
  | err x h' => rw [e] at q; exact q.elim
  | bad => rw [e] at q; exact q.elim
theorem op_read {g : D → D → Hs → R D} {fa fb : FE} {σ : L2.St} {H : Hp} {Q : VK} (h : rdE X W pin (eBin g fa fb) σ H Q) : tOp (rd2 X.K g) (rdE X W pin fa) (rdE X W pin fb) σ H Q := by
  obtain ⟨G, ms, s, h, hh, sl, q⟩ := h
  refine ⟨G, ms, s, h, hh, sl, q.bind fun a h1 x H1 G1 ms1 e1 p1 hh1 i1 q1 => ?_⟩
  refine ⟨G1, ms1, s, h1, hh1, sl.mono e1 p1, q1.bind fun b h2 y H2 G2 ms2 e2 p2 hh2 i2 q2 => ?_⟩
  exact ⟨G2, ms2, h2, a, b, hh2, Is.mono e2 p2 _ _ i1, i2, calm_post q2⟩
theorem ve_bin {op : Operator} {g : D → D → Hs → R D} {a b : Expr} {fa fb : FE} {pos : Pos} (ho : OpD X (binaryOp op) g) (ha : VE X W pin a fa) (hb : VE X W pin b fb) : VE X W pin (.BinOp a op b pos) (eBin g fa fb) :=
  pe_imp (pe_op ho ha hb) fun _ _ _ h => op_read h
theorem ve_cmp {op : CmpOp} {g : D → D → Hs → R D} {a b : Expr} {fa fb : FE} {pos : Pos} (ho : OpD X (compareOp op) g) (ha : VE X W pin a fa) (hb : VE X W pin b fb) (hm : behindInMarks op b = false := by first | exact nomark _ | rfl) : VE X W pin (.Compare a [op] [b] pos) (eBin g fa fb) :=
  pe_imp (pe_cmpR ho ha hb hm) fun _ _ _ h => op_read h
/-- a truth -/
def truth (r : R D) : R Bool := r.bind fun d h => match d with
  | .bl b => .ok b h
  | _ => .bad
def tV (f : FE) : FT := fun s h => truth (f s h)
theorem test_read {f : FE} {σ : L2.St} {H : Hp} {Q : Bool → Hp → Prop} (h : rdT X W pin (tV f) σ H Q) : rdE X W pin f σ H fun x H' => ∃ k, x = .bl k ∧ Q k H' := by
  obtain ⟨G, ms, s, h, hh, sl, q⟩ := h
  refine ⟨G, ms, s, h, hh, sl, Post.bind q fun a h1 x H1 G1 ms1 e1 p1 hh1 i1 q1 => ?_⟩
  cases a with
  | bl b => cases i1; exact ⟨b, rfl, q1.fin hh1 rfl⟩
  | _ => exact q1.elim
theorem vt_val {e : Expr} {f : FE} (h : VE X W pin e f) (he : ∀ whole, isTrue e X.env whole = (do let v ← whole; standAt e.pos; holding [v] (truthy v)) := by intro _; rfl) : VT X W pin e (tV f) :=
  pt_imp (pt_val h he) fun _ _ _ h => test_read h
theorem vt_cmp {op : CmpOp} {g : D → D → Hs → R D} {a b : Expr} {fa fb : FE} {pos : Pos} (ho : OpD X (compareOp op) g) (ha : VE X W pin a fa) (hb : VE X W pin b fb) (hm : behindInMarks op b = false := by first | exact nomark _ | rfl) : VT X W pin (.Compare a [op] [b] pos) (tV (eBin g fa fb)) := by
  refine pt_imp (pt_cmpR ho ha hb hm) fun σ H Q h => ?_
  exact op_read (test_read h)
end
end WD
namespace WD
open PySem PySem.Spec PyProof.Rows L2
section
variable {X : Cx} {W : WX} {pin : List Pn} {K : PySem.W.Frag} {mg : Str → Option Value} {E : XK} {G G' : GG} {ms ms' : List Addr} {pos : Pos} {a b c : Expr} {rest : List Expr}
def tNotF (f : FT) : FT := fun s h => (f s h).bind fun b h1 => .ok (!b) h1
def tAndF (f g : FT) : FT := fun s h => (f s h).bind fun b h1 => if b = true then g s h1 else .ok false h1
def tOrF (f g : FT) : FT := fun s h => (f s h).bind fun b h1 => if b = true then .ok true h1 else g s h1
theorem vt_not {f : FT} (h : VT X W pin a f) : VT X W pin (.UnaryOp .Not a pos) (tNotF f) := by
  refine pt_imp (pt_not h) fun σ H Q ⟨G, ms, s, h, hh, sl, q⟩ => ?_
  exact ⟨G, ms, s, h, hh, sl, Post.bind q fun d h1 x H1 G1 ms1 e1 p1 hh1 i1 q1 => q1.fin hh1 (by rw [i1])⟩
theorem vw_and1 {f : FT} (h : VT X W pin a f) : VW X W pin (.BoolOp .And [a] pos) f := pw_and1 h
theorem vw_or1 {f : FT} (h : VT X W pin a f) : VW X W pin (.BoolOp .Or [a] pos) f := pw_or1 h
theorem vw_and {f g : FT} (ha : VT X W pin a f) (hb : VW X W pin (.BoolOp .And (b :: rest) pos) g) : VW X W pin (.BoolOp .And (a :: b :: rest) pos) (tAndF f g) := by
  refine pw_imp (pw_and ha hb) fun σ H Q ⟨G, ms, s, h, hh, sl, q⟩ => ?_
  refine ⟨G, ms, s, h, hh, sl, Post.bind q fun d h1 x H1 G1 ms1 e1 p1 hh1 i1 q1 => ?_⟩
  subst i1
  cases d with
  | true => exact ⟨G1, ms1, s, h1, hh1, sl.mono e1 p1, q1⟩
  | false => exact q1.fin hh1 rfl
theorem vw_or {f g : FT} (ha : VT X W pin a f) (hb : VW X W pin (.BoolOp .Or (b :: rest) pos) g) : VW X W pin (.BoolOp .Or (a :: b :: rest) pos) (tOrF f g) := by
  refine pw_imp (pw_or ha hb) fun σ H Q ⟨G, ms, s, h, hh, sl, q⟩ => ?_
  refine ⟨G, ms, s, h, hh, sl, Post.bind q fun d h1 x H1 G1 ms1 e1 p1 hh1 i1 q1 => ?_⟩
  subst i1
  cases d with
  | false => exact ⟨G1, ms1, s, h1, hh1, sl.mono e1 p1, q1⟩
  | true => exact q1.fin hh1 rfl
theorem vt_w {e : Expr} {f : FT} (h : VW X W pin e f) : VT X W pin e f := PW.pt h
/-- .. as values -/
def eAndF (fa fb : FE) : FE := fun s h => (truth (fa s h)).bind fun k h1 => if k = true then fb s h1 else .ok (.bl false) h1
def eOrF (fa fb : FE) : FE := fun s h => (truth (fa s h)).bind fun k h1 => if k = true then .ok (.bl true) h1 else fb s h1
def eNotF (fa : FE) : FE := fun s h => (truth (fa s h)).bind fun k h1 => .ok (.bl (!k)) h1
def eIfF (t : FT) (fa fb : FE) : FE := fun s h => (t s h).bind fun k h1 => if k = true then fa s h1 else fb s h1
theorem Post.truth {r : R D} {β : Type} {γ : Type} {J : GG → List Addr → γ → β → Prop} {k : Bool → Hs → R γ} {Q : β → Hp → Prop} {Q' : VK} (x : Post K mg E G ms J ((truth r).bind k) Q)
    (f : ∀ c h1 H1 G1 ms1, GLe G G1 → ms <+: ms1 → Hh K G1 ms1 h1 H1 → Post K mg E G1 ms1 J (k c h1) Q → Q' (.bl c) H1) : Post K mg E G ms (Is K) r Q' := by
  cases r with
  | ok d h1 =>
    cases d with
    | bl c =>
      intro v H1 G1 ms1 e1 p1 hh1 i1
      cases i1
      exact f c h1 H1 G1 ms1 e1 p1 hh1 (Post.mono (r := k c h1) x e1 p1)
    | _ => exact x.elim
  | err y h1 => exact x
  | bad => exact x
theorem ve_one {op : BoolOp} {f : FE} (h : VE X W pin a f) : VE X W pin (.BoolOp op [a] pos) f := pe_one h
theorem ve_and {fa fb : FE} (ha : VE X W pin a fa) (hb : VE X W pin (.BoolOp .And (b :: rest) pos) fb) : VE X W pin (.BoolOp .And (a :: b :: rest) pos) (eAndF fa fb) := by
  refine pe_imp (pe_and ha hb) fun σ H Q ⟨G, ms, s, h, hh, sl, q⟩ => ?_
  refine ⟨G, ms, s, h, hh, sl, Post.truth q fun c h1 H1 G1 ms1 e1 p1 hh1 q1 => ⟨c, rfl, ?_⟩⟩
  cases c with
  | true => exact ⟨G1, ms1, s, h1, hh1, sl.mono e1 p1, q1⟩
  | false => exact q1.fin hh1 rfl
theorem ve_or {fa fb : FE} (ha : VE X W pin a fa) (hb : VE X W pin (.BoolOp .Or (b :: rest) pos) fb) : VE X W pin (.BoolOp .Or (a :: b :: rest) pos) (eOrF fa fb) := by
  refine pe_imp (pe_or ha hb) fun σ H Q ⟨G, ms, s, h, hh, sl, q⟩ => ?_
  refine ⟨G, ms, s, h, hh, sl, Post.truth q fun c h1 H1 G1 ms1 e1 p1 hh1 q1 => ⟨c, rfl, ?_⟩⟩
  cases c with
  | false => exact ⟨G1, ms1, s, h1, hh1, sl.mono e1 p1, q1⟩
  | true => exact q1.fin hh1 rfl
theorem ve_not {fa : FE} (ha : VE X W pin a fa) : VE X W pin (.UnaryOp .Not a pos) (eNotF fa) := by
  refine pe_imp (pe_not ha) fun σ H Q ⟨G, ms, s, h, hh, sl, q⟩ => ?_
  exact ⟨G, ms, s, h, hh, sl, Post.truth q fun c h1 H1 G1 ms1 e1 p1 hh1 q1 => ⟨c, rfl, q1.fin hh1 rfl⟩⟩
theorem ve_if {t : FT} {fa fb : FE} (hc : VT X W pin c t) (ha : VE X W pin a fa) (hb : VE X W pin b fb) : VE X W pin (.IfExp c a b pos) (eIfF t fa fb) := by
  refine pe_imp (pe_ifExp hc ha hb) fun σ H Q ⟨G, ms, s, h, hh, sl, q⟩ => ?_
  refine ⟨G, ms, s, h, hh, sl, Post.bind q fun d h1 x H1 G1 ms1 e1 p1 hh1 i1 q1 => ?_⟩
  subst i1
  cases d with
  | true => exact ⟨G1, ms1, s, h1, hh1, sl.mono e1 p1, q1⟩
  | false => exact ⟨G1, ms1, s, h1, hh1, sl.mono e1 p1, q1⟩
/-- a < b < c -/
def eChain (g g' : D → D → Hs → R D) (fa fb fc : FE) : FE := fun s h => (fa s h).bind fun x h1 => (fb s h1).bind fun y h2 => (truth (calm2 g x y h2)).bind fun k h3 => if k = true then (fc s h3).bind fun z h4 => calm2 g' y z h4 else .ok (.bl false) h3
theorem chain_read {g g' : D → D → Hs → R D} {fa fb fc : FE} {σ : L2.St} {H : Hp} {Q : VK} (h : rdE X W pin (eChain g g' fa fb fc) σ H Q) : tChain (rd2 X.K g) (rd2 X.K g') (rdE X W pin fa) (rdE X W pin fb) (rdE X W pin fc) σ H Q := by
  obtain ⟨G, ms, s, h, hh, sl, q⟩ := h
  refine ⟨G, ms, s, h, hh, sl, Post.bind q fun x h1 xv H1 G1 ms1 e1 p1 hh1 i1 q1 => ?_⟩
  refine ⟨G1, ms1, s, h1, hh1, sl.mono e1 p1, Post.bind q1 fun y h2 yv H2 G2 ms2 e2 p2 hh2 i2 q2 => ?_⟩
  refine ⟨G2, ms2, h2, x, y, hh2, Is.mono e2 p2 _ _ i1, i2, calm_post (Post.truth q2 fun k h3 H3 G3 ms3 e3 p3 hh3 q3 => ⟨k, rfl, ?_⟩)⟩
  cases k with
  | false => exact q3.fin hh3 rfl
  | true =>
    refine ⟨G3, ms3, s, h3, hh3, ((sl.mono e1 p1).mono e2 p2).mono e3 p3, Post.bind q3 fun z h4 zv H4 G4 ms4 e4 p4 hh4 i4 q4 => ?_⟩
    exact ⟨G4, ms4, h4, y, z, hh4, Is.mono (e3.trans e4) (pre_trans p3 p4) _ _ i2, i4, calm_post q4⟩
theorem ve_chain {op op' : CmpOp} {g g' : D → D → Hs → R D} {fa fb fc : FE} (ho : OpD X (compareOp op) g) (ho' : OpD X (compareOp op') g') (ha : VE X W pin a fa) (hb : VE X W pin b fb) (hc : VE X W pin c fc)
    (hm : lastMarks [op, op'] [b, c] = false := by with_unfolding_all rfl) : VE X W pin (.Compare a [op, op'] [b, c] pos) (eChain g g' fa fb fc) :=
  pe_imp (pe_chain ho ho' ha hb hc hm) fun _ _ _ h => chain_read h
theorem vt_chain {op op' : CmpOp} {g g' : D → D → Hs → R D} {fa fb fc : FE} (ho : OpD X (compareOp op) g) (ho' : OpD X (compareOp op') g') (ha : VE X W pin a fa) (hb : VE X W pin b fb) (hc : VE X W pin c fc)
    (hm : lastMarks [op, op'] [b, c] = false := by with_unfolding_all rfl) : VT X W pin (.Compare a [op, op'] [b, c] pos) (tV (eChain g g' fa fb fc)) :=
  pt_imp (pt_chain ho ho' ha hb hc hm) fun _ _ _ h => chain_read (test_read h)

def RS.ofR (s : Ss) (r : R D) (k : D → Hs → RS) : RS := match r with
  | .ok d h => k d h
  | .err x h => .er x s h
  | .bad => .bad
@[simp] theorem RS.ofR_ok (s : Ss) (d : D) (h : Hs) (k : D → Hs → RS) : RS.ofR s (.ok d h) k = k d h := rfl
@[simp] theorem RS.ofR_err (s : Ss) (x : Xn) (h : Hs) (k : D → Hs → RS) : RS.ofR s (.err x h) k = .er x s h := rfl
@[simp] theorem RS.ofR_bad (s : Ss) (k : D → Hs → RS) : RS.ofR s .bad k = .bad := rfl
def sNext : FS := fun s h => .nx s h
def sSeq (f g : FS) : FS := fun s h => match f s h with
  | .nx s' h' => g s' h'
  | r => r
def sIf (t : FT) (f g : FS) : FS := fun s h => match t s h with
  | .ok k h1 => if k = true then f s h1 else g s h1
  | .err x h1 => .er x s h1
  | .bad => .bad
def sSet (i : Nat) (f : FE) : FS := fun s h => RS.ofR s (f s h) fun d h1 => .nx (s.set i (some d)) h1
def sRet (f : FE) : FS := fun s h => RS.ofR s (f s h) fun d h1 => .rt d h1
def sExpr (f : FE) : FS := fun s h => RS.ofR s (f s h) fun _ h1 => .nx s h1
def sBreak : FS := fun s h => .bk s h
def sCont : FS := fun s h => .ct s h
theorem PostS.mono {σ σ' : L2.St} {r : RS} {D : Ends} (x : PostS W K mg pin σ G ms r D) (e : GLe G G') (p : ms <+: ms') : PostS W K mg pin σ' G' ms' r D := by
  cases r with
  | nx s h => exact fun σ' H' G2 ms2 h1 h2 => x σ' H' G2 ms2 (e.trans h1) (pre_trans p h2)
  | rt d h => exact fun v H' G2 ms2 h1 h2 => x v H' G2 ms2 (e.trans h1) (pre_trans p h2)
  | bk s h => exact fun σ' H' G2 ms2 h1 h2 => x σ' H' G2 ms2 (e.trans h1) (pre_trans p h2)
  | ct s h => exact fun σ' H' G2 ms2 h1 h2 => x σ' H' G2 ms2 (e.trans h1) (pre_trans p h2)
  | er y s h => exact fun σ' H' G2 ms2 d h1 h2 => x σ' H' G2 ms2 d (e.trans h1) (pre_trans p h2)
  | bad => exact x
/-- an expression, then a statement's end -/
theorem PostS.ofR {σ : L2.St} {s : Ss} {r : R D} {k : D → Hs → RS} {D0 : Ends} {Q' : VK} (sl : Sl K G ms pin s σ) (x : PostS W K mg pin σ G ms (RS.ofR s r k) D0)
    (f : ∀ d h1 v H1 G1 ms1, GLe G G1 → ms <+: ms1 → Hh K G1 ms1 h1 H1 → Is K G1 ms1 d v → PostS W K mg pin σ G1 ms1 (k d h1) D0 → Q' v H1) : Post K mg (fun c d H => W c d σ H) G ms (Is K) r Q' := by
  cases r with
  | ok d h' => exact fun v H' G2 ms2 h1 h2 h3 h4 => f d h' v H' G2 ms2 h1 h2 h3 h4 (PostS.mono (r := k d h') x h1 h2)
  | err y h' => exact fun H' G2 ms2 d h1 h2 h3 h4 => x σ H' G2 ms2 d h1 h2 h3 (sl.mono h1 h2) h4
  | bad => exact x
theorem vss_nil : VSs X W pin [] sNext := pss_imp pss_nil fun D σ H ⟨G, ms, s, h, hh, sl, q⟩ => q σ H G ms (GLe.refl _) (pre_refl _) hh sl
theorem vss_one {st : Stmt} {f : FS} (h : VS X W pin st f) : VSs X W pin [st] f := pss_one h
theorem vss_cons {st : Stmt} {r : List Stmt} {f g : FS} (h1 : VS X W pin st f) (h2 : VSs X W pin r g) : VSs X W pin (st :: r) (sSeq f g) := by
  refine pss_imp (pss_cons h1 h2) fun D σ H ⟨G, ms, s, h, hh, sl, q⟩ => ⟨G, ms, s, h, hh, sl, ?_⟩
  unfold sSeq at q
  cases e : f s h with
  | nx s' h' =>
    rw [e] at q
    exact fun σ' H' G2 ms2 h1 h2 h3 h4 => ⟨G2, ms2, s', h', h3, h4, PostS.mono (r := g s' h') q h1 h2⟩
  | rt d h' => rw [e] at q; exact q
  | bk s' h' => rw [e] at q; exact q
  | ct s' h' => rw [e] at q; exact q
  | er y s' h' => rw [e] at q; exact q
  | bad => rw [e] at q; exact q
theorem vs_pass : VS X W pin (.Pass pos) sNext := ps_imp ps_pass fun D σ H ⟨G, ms, s, h, hh, sl, q⟩ => q σ H G ms (GLe.refl _) (pre_refl _) hh sl
theorem vs_break : VS X W pin (.Break pos) sBreak := ps_imp ps_break fun D σ H ⟨G, ms, s, h, hh, sl, q⟩ => q σ H G ms (GLe.refl _) (pre_refl _) hh sl
theorem vs_cont : VS X W pin (.Continue pos) sCont := ps_imp ps_continue fun D σ H ⟨G, ms, s, h, hh, sl, q⟩ => q σ H G ms (GLe.refl _) (pre_refl _) hh sl
theorem vs_expr {e : Expr} {f : FE} (he : VE X W pin e f) (hs : swapsWith e none pos.line X.env = pure false := by rfl) : VS X W pin (.Expr e pos) (sExpr f) := by
  refine ps_imp (ps_expr he hs) fun D σ H ⟨G, ms, s, h, hh, sl, q⟩ => ⟨G, ms, s, h, hh, sl, PostS.ofR sl q fun d h1 v H1 G1 ms1 e1 p1 hh1 i1 q1 => ?_⟩
  exact q1 σ H1 G1 ms1 (GLe.refl _) (pre_refl _) hh1 (sl.mono e1 p1)
theorem vs_ret {e : Expr} {f : FE} (he : VE X W pin e f) : VS X W pin (.Return (some e) pos) (sRet f) := by
  refine ps_imp (ps_ret he) fun D σ H ⟨G, ms, s, h, hh, sl, q⟩ => ⟨G, ms, s, h, hh, sl, PostS.ofR sl q fun d h1 v H1 G1 ms1 e1 p1 hh1 i1 q1 => ?_⟩
  exact q1 v H1 G1 ms1 (GLe.refl _) (pre_refl _) hh1 i1
theorem vs_if {ya na : List Stmt} {t : FT} {f g : FS} (hc : VT X W pin c t) (ha : VSs X W pin ya f) (hb : VSs X W pin na g) : VS X W pin (.If c ya na pos) (sIf t f g) := by
  refine ps_imp (ps_if hc ha hb) fun D σ H ⟨G, ms, s, h, hh, sl, q⟩ => ⟨G, ms, s, h, hh, sl, ?_⟩
  unfold sIf at q
  cases e : t s h with
  | ok k h1 =>
    rw [e] at q
    intro b H1 G1 ms1 e1 p1 hh1 i1
    subst i1
    cases k with
    | true => exact ⟨G1, ms1, s, h1, hh1, sl.mono e1 p1, PostS.mono (r := f s h1) q e1 p1⟩
    | false => exact ⟨G1, ms1, s, h1, hh1, sl.mono e1 p1, PostS.mono (r := g s h1) q e1 p1⟩
  | err y h1 =>
    rw [e] at q
    exact fun H' G2 ms2 d h1 h2 h3 h4 => q σ H' G2 ms2 d h1 h2 h3 (sl.mono h1 h2) h4
  | bad => rw [e] at q; exact q
/-- free of the pinned slots -/
def Pn.not (i : Nat) : Pn → Prop
  | .s j _ => j ≠ i
  | .g _ _ _ => True
def NotPin (pin : List Pn) (i : Nat) : Prop := ∀ p ∈ pin, p.not i
theorem PnOk.set {σ : L2.St} {i : Nat} {o : Option V} : ∀ {z : Pn}, z.not i → PnOk K G ms σ z → PnOk K G ms (σ.set i o) z
  | .s j v, np, h => by
    show (σ.set i o)[j]? = some (some v)
    rw [List.getElem?_set_ne (Ne.symm np)]; exact h
  | .g _ _ _, _, h => h
theorem notPin_nil {i : Nat} : NotPin [] i := fun _ h => nomatch h
theorem Sl.set {s : Ss} {σ : L2.St} {i : Nat} {d : D} {v : V} (x : Sl K G ms pin s σ) (q : Is K G ms d v) (np : NotPin pin i) : Sl K G ms pin (s.set i (some d)) (σ.set i (some v)) := by
  refine ⟨by simp [x.len], fun j d' e => ?_, fun p hp => ?_⟩
  · by_cases hj : j = i
    · subst hj
      have hl : j < s.length := by
        rcases Nat.lt_or_ge j s.length with z | z
        · exact z
        · rw [List.getElem?_eq_none (by simpa using z)] at e; cases e
      rw [List.getElem?_set_self hl] at e
      cases e
      exact ⟨v, List.getElem?_set_self (by rw [← x.len]; exact hl), q⟩
    · rw [List.getElem?_set_ne (Ne.symm hj)] at e ⊢
      exact x.get j d' e
  · exact (x.pin p hp).set (np p hp)
theorem vs_set (i : Nat) {x : Str} {e : Expr} {f : FE} {pos' : Pos} (hN : X.N.Nodup) (he : VE X W pin e f) (hi : X.N[i]? = some x := by rfl) (hx : Loc X.env.scope x := by first | exact Or.inl rfl | exact Or.inr rfl) (np : NotPin pin i := by first | exact notPin_nil | decide)
    (hs : swapsWith e (some (.Name x pos')) pos.line X.env = pure false := by rfl) (hf : X.fn x = true ∨ X.env.scope.names.lookup x = some .local := by first | exact .inl rfl | exact .inr rfl | assumption) : VS X W pin (.Assign [.Name x pos'] e pos) (sSet i f) := by
  refine ps_imp (ps_set hN hi hx he hs hf) fun D σ H ⟨G, ms, s, h, hh, sl, q⟩ => ⟨G, ms, s, h, hh, sl, PostS.ofR sl q fun d h1 v H1 G1 ms1 e1 p1 hh1 i1 q1 => ?_⟩
  exact q1 _ H1 G1 ms1 (GLe.refl _) (pre_refl _) hh1 ((sl.mono e1 p1).set i1 np)
end
end WD
namespace L2
open PySem PySem.Spec PyProof.Rows
set_option maxHeartbeats 400000 in
theorem tuple_mulS (l : Addr) (items : Array Value) (n : Nat) (dd : Option Addr) (sl : Array (Option Value)) (x : Int) (u : Tok) (c0 : (decide (x < -(2 ^ 63)) || decide (x ≥ 2 ^ 63)) = false) (c1 : (items.isEmpty || x == 1) = true) :
    Meets (Builtin.«tuple.__mul__» ⟨[.ref l, .int x u], []⟩) (fun _ R s => s.heap.get? l = some { cls := .type "tuple", dict := dd, data := .seq items n, slots := sl } ∧
      R (.ok (.ret (Value.ref l))) s) :=
  .of_wp fun prog w A R s h => by
    obtain ⟨hp, g, d, tk, os⟩ := s
    obtain ⟨hl, h⟩ := h
    have f1 := AutoSeq1.idx_int
    wp_walk using wpAny_loadPart' hl
    repeat (first
      | (refine wpAny_ite_false (decide_eq_false (by rw [c0]; exact Bool.false_ne_true)) ?_; wp_walk using wpAny_loadPart' hl)
      | (refine wpAny_ite_true (decide_eq_true (by rw [c1])) ?_; wp_walk using wpAny_loadPart' hl))
    exact ⟨_, rfl, h⟩
set_option maxHeartbeats 400000 in
theorem tuple_mulZ (l : Addr) (items : Array Value) (n : Nat) (dd : Option Addr) (sl : Array (Option Value)) (x : Int) (u : Tok) (c0 : (decide (x < -(2 ^ 63)) || decide (x ≥ 2 ^ 63)) = false) (c1 : (items.isEmpty || x == 1) = false) (c2 : (decide (x ≤ 0) || items.isEmpty) = true) :
    Meets (Builtin.«tuple.__mul__» ⟨[.ref l, .int x u], []⟩) (fun _ R s => s.heap.get? l = some { cls := .type "tuple", dict := dd, data := .seq items n, slots := sl } ∧
      R (.ok (.ret (Value.ref s.heap.objs.size))) { s with heap := s.heap.push { cls := Value.type "tuple", data := Data.seq #[] }, toks := s.toks }) :=
  .of_wp fun prog w A R s h => by
    obtain ⟨hp, g, d, tk, os⟩ := s
    obtain ⟨hl, h⟩ := h
    have f1 := AutoSeq1.idx_int
    wp_walk using wpAny_loadPart' hl
    repeat (first
      | (refine wpAny_ite_false (decide_eq_false (by rw [c0]; exact Bool.false_ne_true)) ?_; wp_walk using wpAny_loadPart' hl)
      | (refine wpAny_ite_false (decide_eq_false (by rw [c1]; exact Bool.false_ne_true)) ?_; wp_walk using wpAny_loadPart' hl)
      | (refine wpAny_ite_true (decide_eq_true (by rw [c2])) ?_; wp_walk using wpAny_loadPart' hl))
    exact ⟨_, rfl, h⟩
def rRepT2 (K : PySem.W.Frag) : R2 := fun x y H Q => ∃ l k xs, x = .ref l ∧ y = .int k ∧ SqT K H l xs ∧ -(2 ^ 63) ≤ k ∧ k < 2 ^ 63 ∧ xs.length * k.toNat ≤ sizeLine ∧ ((xs = [] ∨ k = 1) → Q (.ref l) H) ∧ (xs ≠ [] → k ≠ 1 → ∀ p, H p = none → Q (.ref p) (upd H p (.tup (List.replicate k.toNat xs).flatten)))
section
variable {X : Cx}
theorem op_repT2 : OpR X (binaryOp .Mult) (rRepT2 X.K) := by
  intro pins s σ H x y v u Q I rx ry h
  obtain ⟨l, k, xs, rfl, rfl, hT, h1, h2, hz, qs, qn⟩ := h
  cases rx
  obtain ⟨t, rfl⟩ := ry
  obtain ⟨its, r, ⟨⟨cls, dd, data, sl⟩, ho, hc, n, hd⟩, hs⟩ := I.tuple hT
  simp only at hc hd
  subst hc hd
  have hle : its.length = xs.length := r.length.symm
  have hsz0 : its.toArray.size = xs.length := by rw [List.size_toArray, hle]
  have c0 : (decide (k < -(2 ^ 63)) || decide (k ≥ 2 ^ 63)) = false := by
    rw [decide_eq_false (by omega), decide_eq_false (by omega)] <;> rfl
  have isE : its.toArray.isEmpty = decide (xs = []) := by
    cases its with
    | nil => 
      have : xs = [] := List.eq_nil_of_length_eq_zero hle.symm
      subst this; rfl
    | cons a b =>
      have : xs ≠ [] := fun e => by subst e; cases hle
      rw [decide_eq_false this]; rfl
  by_cases hsame : xs = [] ∨ k = 1
  · have c1 : (its.toArray.isEmpty || k == 1) = true := by
      rw [isE]
      rcases hsame with e | e
      · rw [decide_eq_true e]; rfl
      · subst e; simp
    refine wpAny_binaryOp_repeat_ref (T := "tuple") (U := "int") (by decide) ⟨_, ho, rfl⟩ (fun s' => typeIs_int s' k t) noFill_tuple_mul F.fills_int_mul F.slot_int_rmul repeat_tuple F.slot_int_index.lookup
      (call_meets F.slot_int_rmul (typeIs_int s k t) F.entry_int_rmul (F.args_int_rmul_2 _ _) (int_rmul_tuple k t l its.toArray n dd sl)
        ⟨ho, rfl, ⟨_, ho, rfl⟩, call_meets F.slot_tuple_mul ⟨_, ho, rfl⟩ F.entry_tuple_mul (F.args_tuple_mul_2 _ _) (tuple_mulS l its.toArray n dd sl k t c0 c1) ⟨ho, ?_⟩⟩)
    exact ⟨.ref l, H, I, rfl, qs hsame⟩
  · have hne : xs ≠ [] := fun e => hsame (.inl e)
    have hk1 : k ≠ 1 := fun e => hsame (.inr e)
    have q := qn hne hk1
    have c1 : (its.toArray.isEmpty || k == 1) = false := by
      rw [isE, decide_eq_false hne, Bool.false_or]
      exact beq_eq_false_iff_ne.mpr hk1
    by_cases hk : k ≤ 0
    · have c2 : (decide (k ≤ 0) || its.toArray.isEmpty) = true := by
        rw [decide_eq_true hk]; rfl
      refine wpAny_binaryOp_repeat_ref (T := "tuple") (U := "int") (by decide) ⟨_, ho, rfl⟩ (fun s' => typeIs_int s' k t) noFill_tuple_mul F.fills_int_mul F.slot_int_rmul repeat_tuple F.slot_int_index.lookup
        (call_meets F.slot_int_rmul (typeIs_int s k t) F.entry_int_rmul (F.args_int_rmul_2 _ _) (int_rmul_tuple k t l its.toArray n dd sl)
          ⟨ho, rfl, ⟨_, ho, rfl⟩, call_meets F.slot_tuple_mul ⟨_, ho, rfl⟩ F.entry_tuple_mul (F.args_tuple_mul_2 _ _) (tuple_mulZ l its.toArray n dd sl k t c0 c1 c2) ⟨ho, ?_⟩⟩)
      have e0 : (List.replicate k.toNat xs).flatten = [] := by rw [Int.toNat_of_nonpos hk]; rfl
      rw [e0] at q
      refine ⟨.ref s.heap.objs.size, _, I.laid (t' := s.toks) (o := .tup []) (fun b ob q => Heap.get?_push_of_some _ q) (Nat.le_refl _) ?_, rfl, q _ (I.hok.fresh (Nat.le_refl _))⟩
      exact ⟨Nat.zero_le _, _, .nil, IsTup.new _ _⟩
    · have hn : its ≠ [] := fun e => by rw [e] at hle; exact hne (List.eq_nil_of_length_eq_zero hle.symm)
      have c2 : (decide (k ≤ 0) || its.toArray.isEmpty) = false := by
        rw [isE, decide_eq_false hne, Bool.or_false]
        exact decide_eq_false hk
      have hm : ((its.toArray.size : Nat) : Int) * k ≤ 16777216 := by
        rw [hsz0]
        have e1 : ((xs.length : Nat) : Int) * k = ((xs.length * k.toNat : Nat) : Int) := by
          rw [Int.natCast_mul, Int.toNat_of_nonneg (by omega)]
        rw [e1]
        have : xs.length * k.toNat ≤ 16777216 := hz
        omega
      have flen : (List.replicate k.toNat its).flatten.length ≤ sizeLine := by
        rw [PyProof.Rows.lm_len_rep_flat, hle, Nat.mul_comm]
        exact hz
      have c4 : Builtin.Tuple.tupleTooMany (((its.toArray.size : Nat) : Int) * k) = false := by
        unfold Builtin.Tuple.tupleTooMany
        rw [sizeLine_eq]
        exact decide_eq_false (by omega)
      refine wpAny_binaryOp_repeat_ref (T := "tuple") (U := "int") (by decide) ⟨_, ho, rfl⟩ (fun s' => typeIs_int s' k t) noFill_tuple_mul F.fills_int_mul F.slot_int_rmul repeat_tuple F.slot_int_index.lookup
        (call_meets F.slot_int_rmul (typeIs_int s k t) F.entry_int_rmul (F.args_int_rmul_2 _ _) (int_rmul_tuple k t l its.toArray n dd sl)
          ⟨ho, rfl, ⟨_, ho, rfl⟩, call_meets F.slot_tuple_mul ⟨_, ho, rfl⟩ F.entry_tuple_mul (F.args_tuple_mul_2 _ _) (tuple_mulW l its.toArray n dd sl k t c0 c1 c2 (by omega) c4 (by rw [size_rep, List.size_toArray]; exact flen)) ⟨ho, ?_⟩⟩)
      rw [size_rep]
      refine ⟨.ref s.heap.objs.size, _, I.laid (t' := s.toks) (o := .tup (List.replicate k.toNat xs).flatten) (fun b ob q => Heap.get?_push_of_some _ q) (Nat.le_refl _) ?_, rfl, q _ (I.hok.fresh (Nat.le_refl _))⟩
      exact ⟨by rw [PyProof.Rows.lm_len_rep_flat, Nat.mul_comm]; exact hz, _, r.rep k.toNat, IsTup.new _ _⟩
end
end L2
namespace WD
open PySem PySem.Spec PyProof.Rows L2
def O.items : O → Option (List D)
  | .lst xs => some xs
def locAt (h : Hs) (n : Nat) : Option (List D) := (h[n]?).bind O.items
theorem locAt_some {h : Hs} {n : Nat} {xs : List D} (e : locAt h n = some xs) : h[n]? = some (.lst xs) := by
  unfold locAt at e
  cases q : h[n]? with
  | none => rw [q] at e; cases e
  | some o =>
    rw [q] at e
    cases o with
    | lst ys => cases e; rfl
theorem locAt_of {h : Hs} {n : Nat} {xs : List D} (e : h[n]? = some (.lst xs)) : locAt h n = some xs := by
  unfold locAt; rw [e]; rfl
def lstX (h : Hs) : D → Option (List D)
  | .lst xs => some xs
  | .loc n => locAt h n
  | _ => none
def lstOf (h : Hs) : D → Option (List D)
  | .scr xs => some xs
  | d => lstX h d
def rowOf (h : Hs) : D → Option (List D)
  | .tup xs => some xs
  | d => lstOf h d
section
variable {X : Cx} {W : WX} {pin : List Pn} {K : PySem.W.Frag} {mg : Str → Option Value} {E : XK} {G G' : GG} {H : Hp} {ms ms' : List Addr} {h : Hs} {pos : Pos} {a b c : Expr} {rest : List Expr}
theorem Hh.listX (hh : Hh K G ms h H) {d : D} {v : V} {xs : List D} (i : Is K G ms d v) (e : lstX h d = some xs) : ∃ a vs, v = .ref a ∧ H a = some (.lst vs) ∧ IsL K G ms xs vs := by
  cases d with
  | lst ys =>
    cases e
    obtain ⟨a, vs, h1, h2, h3⟩ := i
    exact ⟨a, vs, h1, hh.sub _ _ h2, h3⟩
  | loc n =>
    obtain ⟨a, h1, h2⟩ := i
    obtain ⟨a', vs, q1, q2, q3⟩ := hh.at (locAt_some e)
    rw [h1] at q1; cases q1
    exact ⟨a, vs, h2, q2, q3⟩
  | _ => cases e
theorem Hh.list (hh : Hh K G ms h H) {d : D} {v : V} {xs : List D} (i : Is K G ms d v) (e : lstOf h d = some xs) : ∃ a vs, v = .ref a ∧ SqL K H a vs ∧ IsL K G ms xs vs := by
  cases d with
  | scr ys =>
    cases e
    obtain ⟨a, vs, h1, h2, h3⟩ := i
    exact ⟨a, vs, h1, hh.sub.seq h2, h3⟩
  | _ =>
    obtain ⟨a, vs, h1, h2, h3⟩ := hh.listX i e
    exact ⟨a, vs, h1, .of h2, h3⟩
theorem Hh.tuple (hh : Hh K G ms h H) {v : V} {xs : List D} (i : Is K G ms (.tup xs) v) : ∃ a vs, v = .ref a ∧ SqT K H a vs ∧ IsL K G ms xs vs := by
  obtain ⟨a, vs, h1, h2, h3⟩ := i
  exact ⟨a, vs, h1, .of (hh.sub _ _ h2), h3⟩
theorem Hh.row (hh : Hh K G ms h H) {d : D} {v : V} {xs : List D} (i : Is K G ms d v) (e : rowOf h d = some xs) : ∃ a vs, v = .ref a ∧ (SqL K H a vs ∨ SqT K H a vs) ∧ IsL K G ms xs vs := by
  cases d with
  | tup ys =>
    cases e
    obtain ⟨a, vs, h1, h2, h3⟩ := hh.tuple i
    exact ⟨a, vs, h1, .inr h2, h3⟩
  | _ =>
    obtain ⟨a, vs, h1, h2, h3⟩ := hh.list i e
    exact ⟨a, vs, h1, .inl h2, h3⟩
theorem Hh.rowz (hh : Hh K G ms h H) {d : D} {v : V} {xs : List D} (i : Is K G ms d v) (e : rowOf h d = some xs) : xs.length ≤ sizeLine := by
  cases d with
  | tup ys =>
    cases e
    obtain ⟨a, vs, h1, h2, h3⟩ := i
    rw [h3.length]; exact hh.gsz _ _ h2
  | lst ys =>
    cases e
    obtain ⟨a, vs, h1, h2, h3⟩ := i
    rw [h3.length]; exact hh.gsz _ _ h2
  | scr ys =>
    cases e
    obtain ⟨a, vs, h1, h2, h3⟩ := i
    rw [h3.length]
    rcases h2 with (h2 | ⟨o, h2⟩) | ⟨o, its, n, _, _, _, _, hz, hv⟩
    · exact hh.gsz _ _ h2
    · exact hh.gsz _ _ h2
    · rw [hv.length, Array.length_toList]; exact hz
  | loc n => exact hh.atz (locAt_some e)
  | _ => cases e
/-- a new still list, tuple: the end of a step -/
theorem Post.newT {xs : List D} {vs : List V} {Q : VK} {p : Addr} (q : Post K mg E G ms (Is K) (.ok (.tup xs) h) Q) (hh : Hh K G ms h H) (i : IsL K G ms xs vs) (hz : xs.length ≤ sizeLine) (hp : H p = none) : Q (.ref p) (upd H p (.tup vs)) := by
  have eg : GLe G (gupd G p (.tup vs)) := gle_upd (hh.gnone hp)
  exact q.fin2 eg (pre_refl _) (hh.still hp (show vs.length ≤ sizeLine by rw [← i.length]; exact hz)) ⟨p, vs, rfl, upd_same, IsL.mono eg (pre_refl _) _ _ i⟩
/-- a list that comes to be: still (false) or changeable (true) -/
def newL (m : Bool) (xs : List D) (h : Hs) : R D := if m = true then .ok (.loc h.length) (h ++ [.lst xs]) else .ok (.lst xs) h
theorem Post.newL {m : Bool} {xs : List D} {vs : List V} {Q : VK} {p : Addr} (q : Post K mg E G ms (Is K) (newL m xs h) Q) (hh : Hh K G ms h H) (i : IsL K G ms xs vs) (hz : xs.length ≤ sizeLine) (hp : H p = none) : Q (.ref p) (upd H p (.lst vs)) := by
  cases m with
  | false =>
    have eg : GLe G (gupd G p (.lst vs)) := gle_upd (hh.gnone hp)
    exact Post.fin2 (a := D.lst xs) q eg (pre_refl _) (hh.still hp (show vs.length ≤ sizeLine by rw [← i.length]; exact hz)) ⟨p, vs, rfl, upd_same, IsL.mono eg (pre_refl _) _ _ i⟩
  | true =>
    refine Post.fin2 (a := D.loc h.length) q (GLe.refl _) ⟨[p], rfl⟩ (hh.alloc hp i hz) ⟨p, ?_, rfl⟩
    rw [← hh.len]
    simp

def eTup (f : FA) : FE := fun s h => (f s h).bind fun ds h1 => if ds.length ≤ sizeLine then .ok (.tup ds) h1 else .bad
def eLst (m : Bool) (f : FA) : FE := fun s h => (f s h).bind fun ds h1 => if ds.length ≤ sizeLine then newL m ds h1 else .bad
theorem ve_tup {es : List Expr} {f : FA} {x1 : Nat} (h : VA X W pin es f) : VE X W pin (.Tuple es x1 pos) (eTup f) := by
  refine pe_imp (pe_tup h) fun σ H Q ⟨G, ms, s, h, hh, sl, q⟩ => ⟨G, ms, s, h, hh, sl, Post.bind q fun ds h1 vs H1 G1 ms1 e1 p1 hh1 i1 q1 => ?_⟩
  by_cases hz : ds.length ≤ sizeLine
  · rw [if_pos hz] at q1
    exact ⟨by rw [← i1.length]; exact hz, fun p hp => q1.newT hh1 i1 hz hp⟩
  · rw [if_neg hz] at q1; exact q1.elim
theorem ve_lst (m : Bool) {es : List Expr} {f : FA} (h : VA X W pin es f) : VE X W pin (.List es pos) (eLst m f) := by
  refine pe_imp (pe_lst h) fun σ H Q ⟨G, ms, s, h, hh, sl, q⟩ => ⟨G, ms, s, h, hh, sl, Post.bind q fun ds h1 vs H1 G1 ms1 e1 p1 hh1 i1 q1 => ?_⟩
  by_cases hz : ds.length ≤ sizeLine
  · rw [if_pos hz] at q1
    exact ⟨by rw [← i1.length]; exact hz, fun p hp => q1.newL hh1 i1 hz hp⟩
  · rw [if_neg hz] at q1; exact q1.elim

theorem len_rep {α : Type} (xs : List α) (k : Nat) : (List.replicate k xs).flatten.length = k * xs.length := by
  induction k with
  | zero => simp
  | succ k ih => rw [List.replicate_succ, List.flatten_cons, List.length_append, ih, Nat.succ_mul, Nat.add_comm]
theorem rep_small {k : Int} {n : Nat} (h1 : k ≤ 1000) (h2 : n ≤ 1000) : k.toNat * n ≤ sizeLine := by
  have : k.toNat ≤ 1000 := by omega
  calc k.toNat * n ≤ 1000 * 1000 := Nat.mul_le_mul this h2
    _ ≤ sizeLine := by decide
def addD : D → D → Hs → R D
  | .int i, .int j, h => .ok (.int (i + j)) h
  | .str x, .str y, h => if x.length + y.length ≤ sizeLine then .ok (.str (x ++ y)) h else .bad
  | .tup xs, .tup ys, h => if xs.length + ys.length ≤ sizeLine then .ok (.tup (xs ++ ys)) h else .bad
  | x, y, h => match lstX h x, lstX h y with
    | some xs, some ys => if xs.length + ys.length ≤ sizeLine then .ok (.lst (xs ++ ys)) h else .bad
    | _, _ => .bad
theorem cat_ok {x y : V} {da db : D} {xs ys : List D} {Q : VK} (hh : Hh K G ms h H) (ia : Is K G ms da x) (ib : Is K G ms db y) (ea : lstX h da = some xs) (eb : lstX h db = some ys)
    (q : Post K mg E G ms (Is K) (if xs.length + ys.length ≤ sizeLine then .ok (.lst (xs ++ ys)) h else .bad) Q) : rCat x y H Q := by
  obtain ⟨l, vs, rfl, h2, h3⟩ := hh.listX ia ea
  obtain ⟨l', ws, rfl, k2, k3⟩ := hh.listX ib eb
  by_cases hz : xs.length + ys.length ≤ sizeLine
  · rw [if_pos hz] at q
    exact ⟨l, l', vs, ws, rfl, rfl, h2, k2, by rw [← h3.length, ← k3.length]; exact hz, fun p hp => Post.newL (m := false) q hh (h3.append k3) (by rw [List.length_append]; exact hz) hp⟩
  · rw [if_neg hz] at q; exact q.elim
theorem od_add : OpD X (binaryOp .Add) addD := by
  intro pins s σ H x y v u Q I rx ry ⟨G, ms, h, da, db, hh, ia, ib, q⟩
  unfold addD at q
  split at q
  · cases ia; cases ib
    exact op_add pins s σ H _ _ v u Q I rx ry ⟨_, _, rfl, rfl, q.fin hh rfl⟩
  · cases ia; cases ib
    split at q
    · rename_i hz
      exact op_add_str pins s σ H _ _ v u Q I rx ry ⟨_, _, rfl, rfl, hz, q.fin hh rfl⟩
    · exact q.elim
  · rename_i xs ys
    split at q
    · rename_i hz
      obtain ⟨l, vs, rfl, h2, h3⟩ := hh.tuple ia
      obtain ⟨l', ws, rfl, k2, k3⟩ := hh.tuple ib
      refine op_catA pins s σ H _ _ v u Q I rx ry ⟨l, l', vs, ws, rfl, rfl, h2, k2, by rw [← h3.length, ← k3.length]; exact hz, fun e0 => ?_, fun _ e0 => ?_, fun _ _ p hp => q.newT hh (h3.append k3) (by rw [List.length_append]; exact hz) hp⟩
      · subst e0
        have : xs = [] := by
          have hl := h3.length
          exact List.length_eq_zero_iff.mp (by simpa using hl)
        subst this
        exact q.fin hh ib
      · subst e0
        have : ys = [] := by
          have hl := k3.length
          exact List.length_eq_zero_iff.mp (by simpa using hl)
        subst this
        rw [List.append_nil] at q
        exact q.fin hh ia
    · exact q.elim
  · split at q
    · rename_i xs ys e1 e2
      exact op_cat pins s σ H _ _ v u Q I rx ry (cat_ok hh ia ib e1 e2 q)
    · exact q.elim
def subD : D → D → Hs → R D
  | .int i, .int j, h => .ok (.int (i - j)) h
  | _, _, _ => .bad
theorem od_sub : OpD X (binaryOp .Sub) subD := by
  intro pins s σ H x y v u Q I rx ry ⟨G, ms, h, da, db, hh, ia, ib, q⟩
  unfold subD at q
  split at q
  · cases ia; cases ib
    exact op_sub pins s σ H _ _ v u Q I rx ry ⟨_, _, rfl, rfl, q.fin hh rfl⟩
  · exact q.elim
def smallI (i : Int) : Prop := -(2 ^ 64) < i ∧ i < 2 ^ 64
def repOk (k : Int) (n : Nat) : Prop := -(2 ^ 63) ≤ k ∧ k < 2 ^ 63 ∧ n * k.toNat ≤ sizeLine
def divOk0 (j : Int) : Prop := 0 < j ∧ j.natAbs.log2 < 9000
def powOk (i j : Int) : Prop := 0 ≤ j ∧ j ≤ 1000000 ∧ i.natAbs < 2 ^ 64
open Classical in
noncomputable def mulD : D → D → Hs → R D
  | .int i, .int j, h => if smallI i ∨ smallI j then .ok (.int (i * j)) h else .bad
  | .lst xs, .int k, h => if repOk k xs.length then .ok (.lst (List.replicate k.toNat xs).flatten) h else .bad
  | .tup xs, .int k, h => if repOk k xs.length then .ok (.tup (List.replicate k.toNat xs).flatten) h else .bad
  | _, _, _ => .bad
theorem od_mul : OpD X (binaryOp .Mult) mulD := by
  intro pins s σ H x y v u Q I rx ry ⟨G, ms, h, da, db, hh, ia, ib, q⟩
  unfold mulD at q
  split at q
  · cases ia; cases ib
    split at q
    · rename_i hz
      exact op_mul pins s σ H _ _ v u Q I rx ry ⟨_, _, rfl, rfl, hz, q.fin hh rfl⟩
    · exact q.elim
  · rename_i xs k
    cases ib
    split at q
    · rename_i hz
      obtain ⟨l, vs, rfl, h2, h3⟩ := hh.listX ia rfl
      exact op_rep pins s σ H _ _ v u Q I rx ry ⟨l, k, vs, rfl, rfl, h2, hz.1, hz.2.1, by rw [← h3.length]; exact hz.2.2, fun p hp => Post.newL (m := false) q hh (h3.rep _) (by rw [len_rep]; rw [Nat.mul_comm]; exact hz.2.2) hp⟩
    · exact q.elim
  · rename_i xs k
    cases ib
    split at q
    · rename_i hz
      obtain ⟨l, vs, rfl, h2, h3⟩ := hh.tuple ia
      refine op_repT2 pins s σ H _ _ v u Q I rx ry ⟨l, k, vs, rfl, rfl, h2, hz.1, hz.2.1, by rw [← h3.length]; exact hz.2.2, fun e0 => ?_, fun _ _ p hp => q.newT hh (h3.rep _) (by rw [len_rep]; rw [Nat.mul_comm]; exact hz.2.2) hp⟩
      rcases e0 with e0 | e0
      · subst e0
        have : xs = [] := List.length_eq_zero_iff.mp (by simpa using h3.length)
        subst this
        have e1 : (List.replicate k.toNat ([] : List D)).flatten = [] := by simp
        rw [e1] at q
        exact q.fin hh ia
      · subst e0
        have e1 : (List.replicate (1 : Int).toNat xs).flatten = xs := by simp
        rw [e1] at q
        exact q.fin hh ia
    · exact q.elim
  · exact q.elim
open Classical in
noncomputable def fdivD : D → D → Hs → R D
  | .int i, .int j, h => if divOk0 j then .ok (.int (i / j)) h else .bad
  | _, _, _ => .bad
theorem od_fdiv : OpD X (binaryOp .FloorDiv) fdivD := by
  intro pins s σ H x y v u Q I rx ry ⟨G, ms, h, da, db, hh, ia, ib, q⟩
  unfold fdivD at q
  split at q
  · cases ia; cases ib
    split at q
    · rename_i hz
      exact op_fdivW pins s σ H _ _ v u Q I rx ry ⟨_, _, rfl, rfl, hz, q.fin hh rfl⟩
    · exact q.elim
  · exact q.elim
def modD : D → D → Hs → R D
  | .int i, .int j, h => if 0 < j then .ok (.int (i % j)) h else .bad
  | _, _, _ => .bad
theorem od_mod : OpD X (binaryOp .Mod) modD := by
  intro pins s σ H x y v u Q I rx ry ⟨G, ms, h, da, db, hh, ia, ib, q⟩
  unfold modD at q
  split at q
  · cases ia; cases ib
    split at q
    · rename_i hz
      exact op_mod pins s σ H _ _ v u Q I rx ry ⟨_, _, rfl, rfl, hz, q.fin hh rfl⟩
    · exact q.elim
  · exact q.elim
open Classical in
noncomputable def powD : D → D → Hs → R D
  | .int i, .int j, h => if powOk i j then .ok (.int (i ^ j.toNat)) h else .bad
  | _, _, _ => .bad
theorem od_pow : OpD X (binaryOp .Pow) powD := by
  intro pins s σ H x y v u Q I rx ry ⟨G, ms, h, da, db, hh, ia, ib, q⟩
  unfold powD at q
  split at q
  · cases ia; cases ib
    split at q
    · rename_i hz
      exact op_pow pins s σ H _ _ v u Q I rx ry ⟨_, _, rfl, rfl, hz, q.fin hh rfl⟩
    · exact q.elim
  · exact q.elim
/-- -a -/
def negD (fa : FE) : FE := fun s h => (fa s h).bind fun d h1 => match d with
  | .int i => .ok (.int (-i)) h1
  | _ => .bad
theorem ve_neg {fa : FE} (ha : VE X W pin a fa) : VE X W pin (.UnaryOp .USub a pos) (negD fa) := by
  refine pe_imp (pe_un un_neg ha) fun σ H Q ⟨G, ms, s, h, hh, sl, q⟩ => ⟨G, ms, s, h, hh, sl, Post.bind q fun d h1 v H1 G1 ms1 e1 p1 hh1 i1 q1 => ?_⟩
  cases d with
  | int i => cases i1; exact ⟨i, rfl, q1.fin hh1 rfl⟩
  | _ => exact q1.elim

def cmpI (p : Int → Int → Bool) : D → D → Hs → R D
  | .int i, .int j, h => .ok (.bl (p i j)) h
  | _, _, _ => .bad
theorem od_cmpI {op : CmpOp} {p : Int → Int → Bool} (r : OpR X (compareOp op) (rI0 fun i j => .bl (p i j))) : OpD X (compareOp op) (cmpI p) := by
  intro pins s σ H x y v u Q I rx ry ⟨G, ms, h, da, db, hh, ia, ib, q⟩
  unfold cmpI at q
  split at q
  · cases ia; cases ib
    exact r pins s σ H _ _ v u Q I rx ry ⟨_, _, rfl, rfl, q.fin hh rfl⟩
  · exact q.elim
abbrev ltD := cmpI fun i j => decide (i < j)
abbrev leD := cmpI fun i j => decide (i ≤ j)
abbrev gtD := cmpI fun i j => decide (j < i)
abbrev geD := cmpI fun i j => decide (j ≤ i)
theorem od_lt : OpD X (compareOp .Lt) ltD := od_cmpI op_lt
theorem od_le : OpD X (compareOp .LtE) leD := od_cmpI op_le
theorem od_gt : OpD X (compareOp .Gt) gtD := od_cmpI op_gt
theorem od_ge : OpD X (compareOp .GtE) geD := od_cmpI op_ge
/-- is None -/
def D.isNon : D → Bool
  | .non => true
  | _ => false
def isNonD (n : Bool) : D → D → Hs → R D
  | d, .non, h => .ok (.bl (if n = true then !d.isNon else d.isNon)) h
  | _, _, _ => .bad
theorem is_non {d : D} {v : V} (i : Is K G ms d v) : decide (v = .non) = d.isNon := by
  cases d with
  | non => cases i; rfl
  | bl _ => cases i; rfl
  | int _ => cases i; rfl
  | str _ => cases i; rfl
  | tup _ => obtain ⟨_, _, rfl, _⟩ := i; rfl
  | lst _ => obtain ⟨_, _, rfl, _⟩ := i; rfl
  | scr _ => obtain ⟨_, _, rfl, _⟩ := i; rfl
  | dic _ _ => obtain ⟨_, _, rfl, _⟩ := i; rfl
  | loc _ => obtain ⟨_, _, rfl⟩ := i; rfl
theorem od_is : OpD X (compareOp .Is) (isNonD false) := by
  intro pins s σ H x y v u Q I rx ry ⟨G, ms, h, da, db, hh, ia, ib, q⟩
  unfold isNonD at q
  split at q
  · cases ib
    refine op_isN pins s σ H _ _ v u Q I rx ry ⟨rfl, ?_⟩
    rw [is_non ia]
    exact q.fin hh rfl
  · exact q.elim
theorem od_isnot : OpD X (compareOp .IsNot) (isNonD true) := by
  intro pins s σ H x y v u Q I rx ry ⟨G, ms, h, da, db, hh, ia, ib, q⟩
  unfold isNonD at q
  split at q
  · cases ib
    refine op_notN pins s σ H _ _ v u Q I rx ry ⟨rfl, ?_⟩
    rw [is_non ia]
    exact q.fin hh rfl
  · exact q.elim
end
end WD
namespace WD
open PySem PySem.Spec PyProof.Rows L2
def toP (h : Hs) : Nat → D → Option PyData
  | 0, d => match d with
    | .non => some .none
    | .bl b => some (.bool b)
    | .int i => some (.int i)
    | .str x => if PyData.strOk x = true then some (.str x) else none
    | _ => none
  | n + 1, d => match d with
    | .non => some .none
    | .bl b => some (.bool b)
    | .int i => some (.int i)
    | .str x => if PyData.strOk x = true then some (.str x) else none
    | .tup xs => (xs.mapM (toP h n)).map PyData.tuple
    | d => match lstOf h d with
      | some xs => (xs.mapM (toP h n)).map PyData.list
      | none => none
theorem mapM_cons_some {α β : Type} {f : α → Option β} {x : α} {xs : List α} {r : List β} (e : (x :: xs).mapM f = some r) : ∃ y ys, f x = some y ∧ xs.mapM f = some ys ∧ r = y :: ys := by
  rw [List.mapM_cons] at e
  cases h1 : f x with
  | none => rw [h1] at e; cases e
  | some y =>
    rw [h1] at e
    cases h2 : xs.mapM f with
    | none => rw [h2] at e; cases e
    | some ys =>
      rw [h2] at e
      cases e
      exact ⟨y, ys, rfl, rfl, rfl⟩
theorem mapM_all {α : Type} {f : α → Option PyData} (n : Nat) (hf : ∀ x p, f x = some p → p.canLay0 = true ∧ p.depth ≤ n) : ∀ {xs : List α} {ps : List PyData}, xs.mapM f = some ps → PyData.canLayAll0 ps = true ∧ PyData.depthAll ps ≤ n
  | [], ps, e => by
    have : ps = [] := by cases e; rfl
    subst this
    exact ⟨by simp [PyData.canLayAll0], by simp [PyData.depthAll]⟩
  | x :: xs, ps, e => by
    obtain ⟨y, ys, h1, h2, rfl⟩ := mapM_cons_some e
    obtain ⟨q1, q2⟩ := mapM_all n hf h2
    obtain ⟨r1, r2⟩ := hf x y h1
    exact ⟨by simp [PyData.canLayAll0, r1, q1], by simp only [PyData.depthAll]; omega⟩
theorem toP_ok (h : Hs) : ∀ (n : Nat) (d : D) (p : PyData), toP h n d = some p → p.canLay0 = true ∧ p.depth ≤ n
  | 0, d, p, e => by
    cases d <;> simp only [toP] at e
    case str =>
      split at e
      · rename_i hs
        cases e; exact ⟨by simp [PyData.canLay0, hs], by simp [PyData.depth]⟩
      · cases e
    all_goals first | (cases e; done) | (cases e; exact ⟨by simp [PyData.canLay0], by simp [PyData.depth]⟩)
  | n + 1, d, p, e => by
    have lists : ∀ d, (match lstOf h d with | some xs => (xs.mapM (toP h n)).map PyData.list | none => none) = some p → p.canLay0 = true ∧ p.depth ≤ n + 1 := fun d e => by
      split at e
      · rename_i xs _
        cases q : xs.mapM (toP h n) with
        | none => rw [q] at e; cases e
        | some ps =>
          rw [q] at e; cases e
          obtain ⟨q1, q2⟩ := mapM_all n (toP_ok h n) q
          exact ⟨by simp [PyData.canLay0, q1], by simp only [PyData.depth]; omega⟩
      · cases e
    cases d with
    | non => cases e; exact ⟨by simp [PyData.canLay0], by simp [PyData.depth]⟩
    | bl b => cases e; exact ⟨by simp [PyData.canLay0], by simp [PyData.depth]⟩
    | int i => cases e; exact ⟨by simp [PyData.canLay0], by simp [PyData.depth]⟩
    | str x =>
      simp only [toP] at e
      split at e
      · rename_i hs
        cases e; exact ⟨by simp [PyData.canLay0, hs], by simp [PyData.depth]⟩
      · cases e
    | tup xs =>
      simp only [toP] at e
      cases q : xs.mapM (toP h n) with
      | none => rw [q] at e; cases e
      | some ps =>
        rw [q] at e; cases e
        obtain ⟨q1, q2⟩ := mapM_all n (toP_ok h n) q
        exact ⟨by simp [PyData.canLay0, q1], by simp only [PyData.depth]; omega⟩
    | lst xs => exact lists (.lst xs) e
    | scr xs => exact lists (.scr xs) e
    | loc m => exact lists (.loc m) e
    | dic ks xs => exact lists (.dic ks xs) e
section
variable {X : Cx} {W : WX} {pin : List Pn} {K : PySem.W.Frag} {mg : Str → Option Value} {E : XK} {G G' : GG} {H : Hp} {ms ms' : List Addr} {h : Hs} {pos : Pos} {a b c : Expr} {rest : List Expr}
theorem dpAll_of {n : Nat} (hf : ∀ d v p, Is K G ms d v → toP h n d = some p → Dp K H v p) : ∀ {xs : List D} {vs : List V} {ps : List PyData}, IsL K G ms xs vs → xs.mapM (toP h n) = some ps → DpAll K H vs ps
  | [], _, ps, i, e => by
    cases i
    have : ps = [] := by cases e; rfl
    subst this
    exact .nil
  | x :: xs, _, ps, i, e => by
    obtain ⟨v, r, rfl, i1, i2⟩ := i
    obtain ⟨y, ys, h1, h2, rfl⟩ := mapM_cons_some e
    exact .cons (hf x v y i1 h1) (dpAll_of hf i2 h2)
theorem dp_of (hh : Hh K G ms h H) : ∀ (n : Nat) (d : D) (v : V) (p : PyData), Is K G ms d v → toP h n d = some p → Dp K H v p
  | 0, d, v, p, i, e => by
    cases d <;> simp only [toP] at e
    case non => cases e; cases i; exact .non
    case bl => cases e; cases i; exact .bl _
    case int => cases e; cases i; exact .int _
    case str =>
      split at e
      · cases e; cases i; exact .str _
      · cases e
    all_goals cases e
  | n + 1, d, v, p, i, e => by
    have lists : ∀ d, Is K G ms d v → (match lstOf h d with | some xs => (xs.mapM (toP h n)).map PyData.list | none => none) = some p → Dp K H v p := fun d i e => by
      split at e
      · rename_i xs hx
        cases q : xs.mapM (toP h n) with
        | none => rw [q] at e; cases e
        | some ps =>
          rw [q] at e; cases e
          obtain ⟨a, vs, rfl, h2, h3⟩ := hh.list i hx
          exact .lst h2 (dpAll_of (dp_of hh n) h3 q)
      · cases e
    cases d with
    | non => cases e; cases i; exact .non
    | bl b => cases e; cases i; exact .bl _
    | int j => cases e; cases i; exact .int _
    | str x =>
      simp only [toP] at e
      split at e
      · cases e; cases i; exact .str _
      · cases e
    | tup xs =>
      simp only [toP] at e
      cases q : xs.mapM (toP h n) with
      | none => rw [q] at e; cases e
      | some ps =>
        rw [q] at e; cases e
        obtain ⟨a, vs, rfl, h2, h3⟩ := hh.tuple i
        exact .tup h2 (dpAll_of (dp_of hh n) h3 q)
    | lst xs => exact lists (.lst xs) i e
    | scr xs => exact lists (.scr xs) i e
    | loc m => exact lists (.loc m) i e
    | dic ks xs => exact lists (.dic ks xs) i e
def eqD (n : Bool) : D → D → Hs → R D := fun x y h => match toP h 64 x, toP h 64 y with
  | some p, some q => .ok (.bl (if n = true then !PyData.eqv p q else PyData.eqv p q)) h
  | _, _ => match lstX h x, lstX h y with
    | some xs, some ys => if xs.length ≠ ys.length then .ok (.bl n) h else .bad
    | _, _ => .bad
theorem shaped_of {n : Nat} {d : D} {p : PyData} (e : toP h n d = some p) (hn : n ≤ 64) : SeqAt.shaped p = true := by
  obtain ⟨q1, q2⟩ := toP_ok h n d p e
  unfold SeqAt.shaped
  rw [q1, Bool.true_and]
  exact decide_eq_true (by omega)
theorem od_eq (hu : X.A.units + 64 < cLine) : OpD X (compareOp .Eq) (eqD false) := by
  intro pins s σ H x y v u Q I rx ry ⟨G, ms, h, da, db, hh, ia, ib, q⟩
  unfold eqD at q
  split at q
  · rename_i p r e1 e2
    exact op_eqD hu pins s σ H _ _ v u Q I rx ry ⟨p, r, dp_of hh _ _ _ _ ia e1, dp_of hh _ _ _ _ ib e2, shaped_of e1 (Nat.le_refl _), shaped_of e2 (Nat.le_refl _), q.fin hh rfl⟩
  · split at q
    · rename_i xs ys e1 e2
      split at q
      · rename_i hn
        obtain ⟨a, vs, rfl, a2, a3⟩ := hh.listX ia e1
        obtain ⟨b, ws, rfl, b2, b3⟩ := hh.listX ib e2
        cases (show v = Value.ref a from rx)
        cases (show u = Value.ref b from ry)
        obtain ⟨_, its, n1, p1, l1, g1⟩ := I.lstM a2
        obtain ⟨_, jts, n2, p2, l2, g2⟩ := I.lstM b2
        refine SeqAt.eq_list_lengthsAt (PySem.IsL.isList g1) (PySem.IsL.isList g2) ?_ (by omega) ⟨.bl false, H, I, rfl, q.fin hh rfl⟩
        have z1 := a3.length
        have z2 := b3.length
        have z3 := hn
        simp
        omega
      · exact q.elim
    · exact q.elim
theorem od_ne (hu : X.A.units + 64 < cLine) : OpD X (compareOp .NotEq) (eqD true) := by
  intro pins s σ H x y v u Q I rx ry ⟨G, ms, h, da, db, hh, ia, ib, q⟩
  unfold eqD at q
  split at q
  · rename_i p r e1 e2
    exact op_neD hu pins s σ H _ _ v u Q I rx ry ⟨p, r, dp_of hh _ _ _ _ ia e1, dp_of hh _ _ _ _ ib e2, shaped_of e1 (Nat.le_refl _), shaped_of e2 (Nat.le_refl _), q.fin hh rfl⟩
  · split at q
    · rename_i xs ys e1 e2
      split at q
      · rename_i hn
        obtain ⟨a, vs, rfl, a2, a3⟩ := hh.listX ia e1
        obtain ⟨b, ws, rfl, b2, b3⟩ := hh.listX ib e2
        cases (show v = Value.ref a from rx)
        cases (show u = Value.ref b from ry)
        obtain ⟨_, its, n1, p1, l1, g1⟩ := I.lstM a2
        obtain ⟨_, jts, n2, p2, l2, g2⟩ := I.lstM b2
        refine SeqAt.RcNeAt.lists_lengths (PySem.IsL.isList g1) (PySem.IsL.isList g2) ?_ (by omega) _ _ _ _ ⟨.bl true, H, I, rfl, q.fin hh rfl⟩
        have z1 := a3.length
        have z2 := b3.length
        have z3 := hn
        simp
        omega
      · exact q.elim
    · exact q.elim

def flatD : D → Bool
  | .non => true
  | .bl _ => true
  | .int _ => true
  | .str _ => true
  | _ => false
def eqF : D → D → Bool
  | .non, .non => true
  | .bl a, .bl b => a == b
  | .bl a, .int b => (if a then 1 else 0) == b
  | .int a, .bl b => a == (if b then 1 else 0)
  | .int a, .int b => a == b
  | .str a, .str b => a == b
  | _, _ => false
theorem flat_of {d : D} {v : V} (i : Is K G ms d v) (f : flatD d = true) : flatV v = true := by
  cases d <;> first | (cases i; rfl) | cases f
theorem eqF_of {d e : D} {v w : V} (i : Is K G ms d v) (j : Is K G ms e w) (f : flatD d = true) (g : flatD e = true) : eqV v w = eqF d e := by
  cases d <;> first | (cases f; done) | (cases i; cases e <;> first | (cases g; done) | (cases j; rfl))
theorem anyF {x : D} {v : V} (i : Is K G ms x v) (f : flatD x = true) : ∀ {xs : List D} {vs : List V}, IsL K G ms xs vs → xs.all flatD = true → vs.all flatV = true ∧ inV v vs = xs.any fun y => eqF y x
  | [], _, h, _ => by cases h; exact ⟨rfl, rfl⟩
  | d :: xs, _, h, g => by
    obtain ⟨w, r, rfl, h2, h3⟩ := h
    simp only [List.all_cons, Bool.and_eq_true] at g
    obtain ⟨q1, q2⟩ := anyF i f h3 g.2
    refine ⟨by simp [flat_of h2 g.1, q1], ?_⟩
    show (eqV w v || inV v r) = _
    rw [List.any_cons, q2, eqF_of h2 i g.1 f]
def inD (n : Bool) : D → D → Hs → R D := fun x y h => match rowOf h y with
  | some xs => if flatD x = true ∧ xs.all flatD = true then .ok (.bl (if n = true then !(xs.any fun y => eqF y x) else xs.any fun y => eqF y x)) h else .bad
  | none => .bad
theorem od_in : OpD X (compareOp .In) (inD false) := by
  intro pins s σ H x y v u Q I rx ry ⟨G, ms, h, da, db, hh, ia, ib, q⟩
  unfold inD at q
  split at q
  · rename_i xs e
    split at q
    · rename_i hf
      obtain ⟨p, vs, rfl, h2, h3⟩ := hh.row ib e
      obtain ⟨f1, f2⟩ := anyF ia hf.1 h3 hf.2
      refine op_in_seq pins s σ H _ _ v u Q I rx ry ⟨p, vs, rfl, h2, flat_of ia hf.1, f1, ?_⟩
      rw [f2]
      exact q.fin hh rfl
    · exact q.elim
  · exact q.elim
theorem od_notin : OpD X (compareOp .NotIn) (inD true) := by
  intro pins s σ H x y v u Q I rx ry ⟨G, ms, h, da, db, hh, ia, ib, q⟩
  unfold inD at q
  split at q
  · rename_i xs e
    split at q
    · rename_i hf
      obtain ⟨p, vs, rfl, h2, h3⟩ := hh.row ib e
      obtain ⟨f1, f2⟩ := anyF ia hf.1 h3 hf.2
      refine op_notIn_seq pins s σ H _ _ v u Q I rx ry ⟨p, vs, rfl, h2, flat_of ia hf.1, f1, ?_⟩
      rw [f2]
      exact q.fin hh rfl
    · exact q.elim
  · exact q.elim

def rdC (K : PySem.W.Frag) (g : List D → Hs → R D) : List V → Hp → VK → Prop := fun xs H Q => ∃ G ms h ds, Hh K G ms h H ∧ IsL K G ms ds xs ∧ Post K (fun _ => none) (fun _ _ _ => False) G ms (Is K) (g ds h) Q
def CallD (X : Cx) (f : Value) (g : List D → Hs → R D) : Prop := CallR X f (rdC X.K g)
def calm1 (r : R D) : R D := match r with
  | .ok d h' => .ok d h'
  | _ => .bad
theorem calm1_post {r : R D} {Q : VK} (q : Post K mg E G ms (Is K) (calm1 r) Q) : Post K (fun _ => none) (fun _ _ _ => False) G ms (Is K) r Q := by
  cases r with
  | ok d h' => exact q
  | err x h' => exact q.elim
  | bad => exact q.elim
def eB (g : List D → Hs → R D) (f : FA) : FE := fun s h => (f s h).bind fun ds h1 => calm1 (g ds h1)
theorem ve_callB {id : String} {x : Str} {e : Expr} {es : List Expr} {g : List D → Hs → R D} {f : FA} {p : Pos} (hc : CallD X (.builtin id) g) (hg : Gl X x) (hm : X.mg x = none) (hv : bootBuiltins x = some (.builtin id)) (ha : VA X W pin (e :: es) f) (hn : x ≠ "__name__" := by decide) (hdb : (x == ("__debug__" : Str)) = false := by decide)
    (he : starEach (e :: es) X.env = (false, eval e X.env) :: starEach es X.env := by rfl) (hpl : (backTo pos (starEach es X.env)).any (·.1) = false := by rfl) : VE X W pin (.Call (.Name x p) (e :: es) [] pos) (eB g f) := by
  refine pe_imp (pe_callB hc hg hm hv ha hn hdb he hpl) fun σ H Q ⟨G, ms, s, h, hh, sl, q⟩ => ⟨G, ms, s, h, hh, sl, Post.bind q fun ds h1 vs H1 G1 ms1 e1 p1 hh1 i1 q1 => ?_⟩
  exact ⟨G1, ms1, h1, ds, hh1, i1, calm1_post q1⟩
theorem ve_callTy {id : String} {x : Str} {e : Expr} {es : List Expr} {g : List D → Hs → R D} {f : FA} {p : Pos} (hc : CallD X (.type id) g) (hg : Gl X x) (hm : X.mg x = none) (hv : bootBuiltins x = some (.type id)) (ha : VA X W pin (e :: es) f) (hn : x ≠ "__name__" := by decide) (hdb : (x == ("__debug__" : Str)) = false := by decide)
    (he : starEach (e :: es) X.env = (false, eval e X.env) :: starEach es X.env := by rfl) (hpl : (backTo pos (starEach es X.env)).any (·.1) = false := by rfl) : VE X W pin (.Call (.Name x p) (e :: es) [] pos) (eB g f) := by
  refine pe_imp (pe_callTy hc hg hm hv ha hn hdb he hpl) fun σ H Q ⟨G, ms, s, h, hh, sl, q⟩ => ⟨G, ms, s, h, hh, sl, Post.bind q fun ds h1 vs H1 G1 ms1 e1 p1 hh1 i1 q1 => ?_⟩
  exact ⟨G1, ms1, h1, ds, hh1, i1, calm1_post q1⟩
theorem isL1 {ds : List D} {d : D} {vs : List V} (i : IsL K G ms [d] vs) : ∃ v, vs = [v] ∧ Is K G ms d v := by
  obtain ⟨v, r, rfl, i1, i2⟩ := i
  cases i2
  exact ⟨v, rfl, i1⟩
theorem isL2 {d e : D} {vs : List V} (i : IsL K G ms [d, e] vs) : ∃ v w, vs = [v, w] ∧ Is K G ms d v ∧ Is K G ms e w := by
  obtain ⟨v, r, rfl, i1, w, r2, rfl, i2, i3⟩ := i
  cases i3
  exact ⟨v, w, rfl, i1, i2⟩
def lenD : List D → Hs → R D
  | [.str x], h => if x.length ≤ sizeLine then .ok (.int x.length) h else .bad
  | [d], h => match rowOf h d with
    | some xs => .ok (.int xs.length) h
    | none => .bad
  | _, _ => .bad
theorem cd_len : CallD X (.builtin "len") lenD := by
  intro pins s σ H xs us Q I r ⟨G, ms, h, ds, hh, i, q⟩
  unfold lenD at q
  split at q
  · obtain ⟨v, rfl, i1⟩ := isL1 (ds := []) i
    cases i1
    split at q
    · rename_i hz
      exact call_len_str pins s σ H _ us Q I r ⟨_, rfl, hz, q.fin hh rfl⟩
    · exact q.elim
  · obtain ⟨v, rfl, i1⟩ := isL1 (ds := []) i
    split at q
    · rename_i ys e
      obtain ⟨p, vs, rfl, h2, h3⟩ := hh.row i1 e
      refine call_len_seq pins s σ H _ us Q I r ⟨p, vs, rfl, h2, ?_⟩
      rw [← h3.length]
      exact q.fin hh rfl
    · exact q.elim
  · exact q.elim
/-- isinstance -/
def tyO : Option O → String
  | some (.lst _) => "list"
  | none => "NoneType"
def tyD (h : Hs) : D → String
  | .non => "NoneType"
  | .bl _ => "bool"
  | .int _ => "int"
  | .str _ => "str"
  | .tup _ => "tuple"
  | .lst _ => "list"
  | .scr _ => "list"
  | .loc n => tyO h[n]?
  | .dic _ _ => "dict"
def tysD : List String := ["NoneType", "bool", "int", "str", "tuple", "list", "dict"]
def clsD : List String := ["int", "bool", "str", "list", "tuple", "dict"]
def isSub (t n : String) : Bool := t == n || (t == "bool" && n == "int")
theorem kit_tab : ∀ t ∈ tysD, ∀ n ∈ clsD, kitB t n = some (isSub t n) := by decide +kernel
theorem tyD_mem {d : D} : tyD h d ∈ tysD := by
  cases d with
  | loc n =>
    show tyO h[n]? ∈ tysD
    cases h[n]? with
    | none => simp [tyO, tysD]
    | some o => cases o with
      | lst xs => simp [tyO, tysD]
  | _ => simp [tyD, tysD]
theorem tyX_of (hh : Hh K G ms h H) {d : D} {v : V} (i : Is K G ms d v) : TyX K H v (.type (tyD h d)) := by
  cases d with
  | non => cases i; exact .base .non
  | bl b => cases i; exact .base (.bl _)
  | int j => cases i; exact .base (.int _)
  | str x => cases i; exact .base (.str _)
  | tup xs =>
    obtain ⟨a, vs, rfl, h2, _⟩ := hh.tuple i
    rcases h2 with (h2 | ⟨o, h2⟩) | ⟨o, its, n, hk, hc, _⟩
    · exact .base (.tup h2)
    · exact .fTuple h2
    · exact .kTuple hk hc
  | lst xs =>
    obtain ⟨a, vs, rfl, h2, _⟩ := hh.listX i rfl
    exact .base (.lst h2)
  | scr xs =>
    obtain ⟨a, vs, rfl, h2, _⟩ := hh.list i rfl
    rcases h2 with (h2 | ⟨o, h2⟩) | ⟨o, its, n, hk, hc, _⟩
    · exact .base (.lst h2)
    · exact .base (.frz h2)
    · exact .kList hk hc
  | loc m =>
    obtain ⟨a, h1, rfl⟩ := i
    have hl : m < h.length := by rw [← hh.len]; exact (List.getElem?_eq_some_iff.mp h1).1
    have q := hh.obj m a h[m] h1 (List.getElem?_eq_getElem hl)
    show TyX K H (V.ref a) (.type (tyO h[m]?))
    rw [List.getElem?_eq_getElem hl]
    cases ho : h[m] with
    | lst xs =>
      rw [ho] at q
      obtain ⟨vs, h2, _⟩ := q
      exact .base (.lst h2)
  | dic ks xs =>
    obtain ⟨a, vs, rfl, h2, _⟩ := i
    exact .base (.dK (hh.sub _ _ h2))
def eIsi (ns : List String) (f : FE) : FE := fun s h => (f s h).bind fun d h1 => .ok (.bl (ns.any fun n => isSub (tyD h1 d) n)) h1
theorem kitAny_of {t : String} (ht : t ∈ tysD) : ∀ {ns : List String}, (∀ n ∈ ns, n ∈ clsD) → PySem.W.kitAny K (.type t) (ns.map Value.type) = some (ns.any fun n => isSub t n)
  | [], _ => rfl
  | n :: ns, h => by
    have e := kit_tab t ht n (h n List.mem_cons_self)
    refine kitAny_cons (kit_ty e) (fun hb => ?_) fun hb => ?_
    · rw [List.any_cons, hb, Bool.false_or]
      exact kitAny_of ht fun m hm => h m (List.mem_cons_of_mem _ hm)
    · rw [List.any_cons, hb, Bool.true_or]
theorem ve_isi {n : String} {x : Str} {e : Expr} {f : FE} {p p2 : Pos} (he : VE X W pin e f) (hg : Gl X "isinstance") (hm : X.mg "isinstance" = none) (hg2 : Gl X x) (hm2 : X.mg x = none) (hv2 : bootBuiltins x = some (.type n)) (hn : n ∈ clsD) (hnn : x ≠ "__name__" := by decide) (hd : (x == ("__debug__" : Str)) = false := by decide)
    (hs : starEach [e, .Name x p2] X.env = (false, eval e X.env) :: starEach [.Name x p2] X.env := by rfl) (hs2 : starEach [.Name x p2] X.env = (false, eval (.Name x p2) X.env) :: starEach [] X.env := by rfl)
    (hpl : (backTo pos (starEach [.Name x p2] X.env)).any (·.1) = false := by rfl) : VE X W pin (.Call (.Name "isinstance" p) [e, .Name x p2] [] pos) (eIsi [n] f) := by
  refine pe_imp (pe_callB call_isi hg hm (by decide +kernel) (pa_cons he (pa_cons (pe_bltn (v := .ty n) hg2 hm2 hv2 rfl hnn hd) pa_nil hs2) hs) (by decide) (by decide) hs hpl) fun σ H Q ⟨G, ms, s, h, hh, sl, q⟩ => ⟨G, ms, s, h, hh, sl, Post.bind q fun d h1 v H1 G1 ms1 e1 p1 hh1 i1 q1 => ?_⟩
  refine ⟨v, _, _, _, _, rfl, .ty n, tyX_of hh1 i1, kit_ty (kit_tab _ tyD_mem n hn), ?_⟩
  have := q1.fin (b := V.bl ([n].any fun n => isSub (tyD h1 d) n)) hh1 rfl
  simpa using this
theorem ve_isiT {n n' : String} {x x' : Str} {e : Expr} {f : FE} {p p2 p3 p4 : Pos} {kk : Nat} (he : VE X W pin e f) (hg : Gl X "isinstance") (hm : X.mg "isinstance" = none) (hg2 : Gl X x) (hm2 : X.mg x = none) (hv2 : bootBuiltins x = some (.type n)) (hg3 : Gl X x') (hm3 : X.mg x' = none) (hv3 : bootBuiltins x' = some (.type n')) (hn : n ∈ clsD) (hn' : n' ∈ clsD)
    (hnn : x ≠ "__name__" := by decide) (hd : (x == ("__debug__" : Str)) = false := by decide) (hnn' : x' ≠ "__name__" := by decide) (hd' : (x' == ("__debug__" : Str)) = false := by decide)
    (hs : starEach [e, .Tuple [.Name x p2, .Name x' p3] kk p4] X.env = (false, eval e X.env) :: starEach [.Tuple [.Name x p2, .Name x' p3] kk p4] X.env := by rfl) (hs2 : starEach [.Tuple [.Name x p2, .Name x' p3] kk p4] X.env = (false, eval (.Tuple [.Name x p2, .Name x' p3] kk p4) X.env) :: starEach [] X.env := by rfl)
    (hs3 : starEach [.Name x p2, .Name x' p3] X.env = (false, eval (.Name x p2) X.env) :: starEach [.Name x' p3] X.env := by rfl) (hs4 : starEach [.Name x' p3] X.env = (false, eval (.Name x' p3) X.env) :: starEach [] X.env := by rfl)
    (hpl : (backTo pos (starEach [.Tuple [.Name x p2, .Name x' p3] kk p4] X.env)).any (·.1) = false := by rfl) : VE X W pin (.Call (.Name "isinstance" p) [e, .Tuple [.Name x p2, .Name x' p3] kk p4] [] pos) (eIsi [n, n'] f) := by
  refine pe_imp (pe_callB call_isiT hg hm (by decide +kernel) (pa_cons he (pa_cons (pe_tup (pa_cons (pe_bltn (v := .ty n) hg2 hm2 hv2 rfl hnn hd) (pa_cons (pe_bltn (v := .ty n') hg3 hm3 hv3 rfl hnn' hd') pa_nil hs4) hs3)) pa_nil hs2) hs) (by decide) (by decide) hs hpl) fun σ H Q ⟨G, ms, s, h, hh, sl, q⟩ => ⟨G, ms, s, h, hh, sl, Post.bind q fun d h1 v H1 G1 ms1 e1 p1 hh1 i1 q1 => ?_⟩
  refine ⟨(by decide : 2 ≤ sizeLine), fun pp hp => ?_⟩
  have hn2 : ∀ m ∈ [n, n'], m ∈ clsD := by
    intro m hm
    rcases List.mem_cons.mp hm with rfl | hm
    · exact hn
    · rcases List.mem_cons.mp hm with rfl | hm
      · exact hn'
      · exact nomatch hm
  have hh2 := hh1.still (o := .tup [.ty n, .ty n']) hp (by decide : 2 ≤ sizeLine)
  have eg : GLe G1 (gupd G1 pp (.tup [.ty n, .ty n'])) := gle_upd (hh1.gnone hp)
  refine ⟨v, pp, [.ty n, .ty n'], _, [.type n, .type n'], _, rfl, upd_same, .cons (.ty n) (.cons (.ty n') .nil), tyX_of hh2 (Is.mono eg (pre_refl _) _ _ i1), kitAny_of tyD_mem hn2, ?_⟩
  exact q1.fin2 (b := V.bl ([n, n'].any fun n => isSub (tyD h1 d) n)) eg (pre_refl _) hh2 rfl
end
end WD
namespace WD
open PySem PySem.Spec PyProof.Rows L2
def intsOf : List D → Option (List Int)
  | [] => some []
  | .int i :: r => match intsOf r with
    | some ns => some (i :: ns)
    | none => none
  | _ => none
theorem intsOf_eq : ∀ {ds : List D} {ns : List Int}, intsOf ds = some ns → ds = ns.map D.int
  | [], ns, e => by cases e; rfl
  | d :: ds, ns, e => by
    cases d with
    | int i =>
      unfold intsOf at e
      split at e
      · rename_i ns' e'
        cases e
        rw [intsOf_eq e']; rfl
      · cases e
    | _ => simp [intsOf] at e
@[simp] theorem intsOf_map : ∀ (ns : List Int), intsOf (ns.map D.int) = some ns
  | [] => rfl
  | n :: ns => by simp [intsOf, intsOf_map ns]
def bolsOf : List D → Option (List Bool)
  | [] => some []
  | .bl i :: r => match bolsOf r with
    | some ns => some (i :: ns)
    | none => none
  | _ => none
theorem bolsOf_eq : ∀ {ds : List D} {ns : List Bool}, bolsOf ds = some ns → ds = ns.map D.bl
  | [], ns, e => by cases e; rfl
  | d :: ds, ns, e => by
    cases d with
    | bl i =>
      unfold bolsOf at e
      split at e
      · rename_i ns' e'
        cases e
        rw [bolsOf_eq e']; rfl
      · cases e
    | _ => simp [bolsOf] at e
@[simp] theorem bolsOf_map : ∀ (ns : List Bool), bolsOf (ns.map D.bl) = some ns
  | [] => rfl
  | n :: ns => by simp [bolsOf, bolsOf_map ns]
section
variable {X : Cx} {W : WX} {pin : List Pn} {K : PySem.W.Frag} {mg : Str → Option Value} {E : XK} {G G' : GG} {H : Hp} {ms ms' : List Addr} {h : Hs} {pos : Pos} {a b c : Expr} {rest : List Expr}
theorem cr_sumT (hc : X.calm = true) : CallR X (.builtin "sum") (fun vs H Q => ∃ (a : Addr) (ns : List Int), vs = [V.ref a] ∧ SqT X.K H a (ns.map V.int) ∧ Q (.int ns.sum) H) := by
  intro pins s σ H vs us Q I r h
  obtain ⟨a, ns, rfl, hs, q⟩ := h
  obtain ⟨its, rv, hl, _⟩ := I.tuple hs
  rw [Vals.ref1 r]
  have hi : IntsAre its ns := rv.ints
  obtain ⟨xs, e⟩ := hi.allInts.items
  have hn : numsOf (intItems xs).toList = ns := by rw [← e]; exact hi.numsOf
  have hl2 : s.heap.IsTuple a (intItems xs) := by rw [← e]; exact hl
  refine PySem.W.ktm_sumG (I.ok.hd hc) hl2 fun h' tk t' hk => ⟨.int _, H, I.kept hk, ⟨_, rfl⟩, ?_⟩
  rw [nums_intItems] at hn
  rw [preSum_eq, List.take_of_length_le (by simp), hn]
  exact q
def sumD : List D → Hs → R D
  | [d], h => match rowOf h d with
    | some xs => match intsOf xs with
      | some ns => .ok (.int ns.sum) h
      | none => .bad
    | none => .bad
  | _, _ => .bad
theorem cd_sum (hc : X.calm = true) : CallD X (.builtin "sum") sumD := by
  intro pins s σ H xs us Q I r ⟨G, ms, h, ds, hh, i, q⟩
  unfold sumD at q
  split at q
  · obtain ⟨v, rfl, i1⟩ := isL1 (ds := []) i
    split at q
    · rename_i ys e
      split at q
      · rename_i ns e2
        obtain ⟨p, vs, rfl, h2, h3⟩ := hh.row i1 e
        rw [intsOf_eq e2] at h3
        rw [h3.ints] at h2
        rcases h2 with h2 | h2
        · exact cr_sum hc pins s σ H _ us Q I r ⟨p, ns, rfl, h2, q.fin hh rfl⟩
        · exact cr_sumT hc pins s σ H _ us Q I r ⟨p, ns, rfl, h2, q.fin hh rfl⟩
      · exact q.elim
    · exact q.elim
  · exact q.elim
def maxL : List Int → Int
  | [] => 0
  | n :: ns => ns.foldl (fun a b => if b > a then b else a) n
def minL : List Int → Int
  | [] => 0
  | n :: ns => ns.foldl (fun a b => if b < a then b else a) n
theorem foldl_max : ∀ (ns : List Int) (n : Int), n ≤ ns.foldl (fun a b => if b > a then b else a) n ∧ (∀ m ∈ ns, m ≤ ns.foldl (fun a b => if b > a then b else a) n) ∧ (ns.foldl (fun a b => if b > a then b else a) n = n ∨ ns.foldl (fun a b => if b > a then b else a) n ∈ ns)
  | [], n => ⟨Int.le_refl _, fun _ h => (nomatch h), .inl rfl⟩
  | m :: ns, n => by
    obtain ⟨h1, h2, h3⟩ := foldl_max ns (if m > n then m else n)
    rw [List.foldl_cons]
    refine ⟨?_, fun k hk => ?_, ?_⟩
    · refine Int.le_trans ?_ h1; split <;> omega
    · rcases List.mem_cons.mp hk with rfl | hk
      · refine Int.le_trans ?_ h1; split <;> omega
      · exact h2 k hk
    · rcases h3 with h3 | h3
      · rw [h3]
        split
        · exact .inr List.mem_cons_self
        · exact .inl rfl
      · exact .inr (List.mem_cons_of_mem _ h3)
theorem foldl_min : ∀ (ns : List Int) (n : Int), ns.foldl (fun a b => if b < a then b else a) n ≤ n ∧ (∀ m ∈ ns, ns.foldl (fun a b => if b < a then b else a) n ≤ m) ∧ (ns.foldl (fun a b => if b < a then b else a) n = n ∨ ns.foldl (fun a b => if b < a then b else a) n ∈ ns)
  | [], n => ⟨Int.le_refl _, fun _ h => (nomatch h), .inl rfl⟩
  | m :: ns, n => by
    obtain ⟨h1, h2, h3⟩ := foldl_min ns (if m < n then m else n)
    rw [List.foldl_cons]
    refine ⟨?_, fun k hk => ?_, ?_⟩
    · refine Int.le_trans h1 ?_; split <;> omega
    · rcases List.mem_cons.mp hk with rfl | hk
      · refine Int.le_trans h1 ?_; split <;> omega
      · exact h2 k hk
    · rcases h3 with h3 | h3
      · rw [h3]
        split
        · exact .inr List.mem_cons_self
        · exact .inl rfl
      · exact .inr (List.mem_cons_of_mem _ h3)
theorem maxL_is {ns : List Int} {m : Int} (hm : m ∈ ns) (hl : ∀ y ∈ ns, y ≤ m) : m = maxL ns := by
  cases ns with
  | nil => cases hm
  | cons n ns =>
    obtain ⟨h1, h2, h3⟩ := foldl_max ns n
    have hu : maxL (n :: ns) ≤ m := by
      rcases h3 with h3 | h3
      · show ns.foldl _ n ≤ m; rw [h3]; exact hl n List.mem_cons_self
      · exact hl _ (List.mem_cons_of_mem _ h3)
    have hd : m ≤ maxL (n :: ns) := by
      rcases List.mem_cons.mp hm with rfl | hm
      · exact h1
      · exact h2 m hm
    omega
theorem minL_is {ns : List Int} {m : Int} (hm : m ∈ ns) (hl : ∀ y ∈ ns, m ≤ y) : m = minL ns := by
  cases ns with
  | nil => cases hm
  | cons n ns =>
    obtain ⟨h1, h2, h3⟩ := foldl_min ns n
    have hu : m ≤ minL (n :: ns) := by
      rcases h3 with h3 | h3
      · show m ≤ ns.foldl _ n; rw [h3]; exact hl n List.mem_cons_self
      · exact hl _ (List.mem_cons_of_mem _ h3)
    have hd : minL (n :: ns) ≤ m := by
      rcases List.mem_cons.mp hm with rfl | hm
      · exact h1
      · exact h2 m hm
    omega
def maxD : List D → Hs → R D
  | [.int i, .int j], h => .ok (.int (if j > i then j else i)) h
  | [d], h => match rowOf h d with
    | some xs => match intsOf xs with
      | some ns => if 0 < ns.length then .ok (.int (maxL ns)) h else .bad
      | none => .bad
    | none => .bad
  | _, _ => .bad
def minD : List D → Hs → R D
  | [.int i, .int j], h => .ok (.int (if j < i then j else i)) h
  | [d], h => match rowOf h d with
    | some xs => match intsOf xs with
      | some ns => if 0 < ns.length then .ok (.int (minL ns)) h else .bad
      | none => .bad
    | none => .bad
  | _, _ => .bad
def rMaxT (K : PySem.W.Frag) (lt : Int → Int → Prop) : List V → Hp → VK → Prop := fun vs H Q => ∃ (a : Addr) (ns : List Int), vs = [V.ref a] ∧ SqT K H a (ns.map V.int) ∧ 0 < ns.length ∧ ∀ m, m ∈ ns → (∀ y, y ∈ ns → lt y m) → Q (.int m) H
theorem iter_tupI {prog : Program} {w : World} {A : Around} {E : Value → Shared → Prop} {s : Shared} {t : Addr} {its : Array Value} {Q : Value → Shared → Prop} (ht : s.heap.IsTuple t its)
    (h : ∀ s2 : Shared, s2 = { s with heap := s.heap.push { cls := .type "tuple_iterator", data := .fields #[.ref t, .int 0 0] } } → (s2.heap.IsTupleIter s.heap.objs.size t 0 ∧ s2.heap.IsTuple t its) → (∀ b ∈ [s.heap.objs.size, t], b < s2.heap.objs.size) → t ≠ s.heap.objs.size → Q (.ref s.heap.objs.size) s2) :
    wpAny (model prog w) A (pyIter (.ref t)) Q E s := by
  have hlt : t < s.heap.objs.size := by obtain ⟨_, e, _⟩ := ht; exact Heap.lt_size e
  refine wpAny_pyIter_tuple ht (h _ rfl ⟨⟨_, Heap.get?_push_size _ rfl, rfl, rfl⟩, ht.at fun o e => Heap.get?_push_of_some _ e⟩ (fun b hb => ?_) (Nat.ne_of_lt hlt))
  show b < (s.heap.push _).objs.size
  rw [Heap.size_push]
  rcases (show b = s.heap.objs.size ∨ b = t by simpa using hb) with rfl | rfl
  · exact Nat.lt_succ_self _
  · exact Nat.lt_succ_of_lt hlt
theorem cr_maxT (hc : X.calm = true) : CallR X (.builtin "max") (rMaxT X.K fun y m => y ≤ m) := by
  intro pins s σ H vs us Q I r h
  obtain ⟨a, ns, rfl, hs, hne, q⟩ := h
  obtain ⟨its, rv, hl, _⟩ := I.tuple hs
  rw [Vals.ref1 r]
  obtain ⟨xs, e⟩ := rv.ints.allInts.items
  have hn : numsOf (intItems xs).toList = ns := by rw [← e]; exact rv.ints.numsOf
  rw [nums_intItems] at hn
  subst hn
  rw [e] at hl
  have hsz : 0 < xs.size := by simpa using hne
  refine call_max_walk (iter_tupI hl fun s2 e2 st hfp hne2 => ?_)
  subst e2
  refine ⟨_, _, _, _, _, _, _, rfl, Walks.tuple (A := X.A.in1) (I.ok.hd hc) _ a hne2 (intItems xs), st, hfp, by simpa [intItems] using hsz, CmpOf.ints_gt (numAt xs) (fun _ _ => intItems_at), fun v h' tk hP hk => ?_⟩
  obtain ⟨t, rfl⟩ := intItems_at hP
  obtain ⟨h1, h2⟩ := argBest_gt (numAt xs) (xs.size - 1)
  have hz : (intItems xs).size = xs.size := by simp [intItems]
  rw [hz] at hP ⊢
  refine ⟨.int _, H, I.kept (t' := tk) fun b o e => hk b o (fun z => absurd (Heap.lt_size e) (by rw [List.mem_singleton.mp z]; exact Nat.lt_irrefl _)) (Heap.get?_push_of_some _ e), ⟨_, rfl⟩, q _ ?_ fun y hy => ?_⟩
  · rw [numAt_eq]; exact PySem.getD_mem (by rw [List.length_map, Array.length_toList]; omega)
  · obtain ⟨j, hj, rfl⟩ := mem_getD hy
    rw [List.length_map, Array.length_toList] at hj
    rw [← numAt_eq]; exact h2 j (by omega)
theorem cr_minT (hc : X.calm = true) : CallR X (.builtin "min") (rMaxT X.K fun y m => m ≤ y) := by
  intro pins s σ H vs us Q I r h
  obtain ⟨a, ns, rfl, hs, hne, q⟩ := h
  obtain ⟨its, rv, hl, _⟩ := I.tuple hs
  rw [Vals.ref1 r]
  obtain ⟨xs, e⟩ := rv.ints.allInts.items
  have hn : numsOf (intItems xs).toList = ns := by rw [← e]; exact rv.ints.numsOf
  rw [nums_intItems] at hn
  subst hn
  rw [e] at hl
  have hsz : 0 < xs.size := by simpa using hne
  refine call_min_walk (iter_tupI hl fun s2 e2 st hfp hne2 => ?_)
  subst e2
  refine ⟨_, _, _, _, _, _, _, rfl, Walks.tuple (A := X.A.in1) (I.ok.hd hc) _ a hne2 (intItems xs), st, hfp, by simpa [intItems] using hsz, CmpOf.ints_lt (numAt xs) (fun _ _ => intItems_at), fun v h' tk hP hk => ?_⟩
  obtain ⟨t, rfl⟩ := intItems_at hP
  obtain ⟨h1, h2⟩ := argBest_lt (numAt xs) (xs.size - 1)
  have hz : (intItems xs).size = xs.size := by simp [intItems]
  rw [hz] at hP ⊢
  refine ⟨.int _, H, I.kept (t' := tk) fun b o e => hk b o (fun z => absurd (Heap.lt_size e) (by rw [List.mem_singleton.mp z]; exact Nat.lt_irrefl _)) (Heap.get?_push_of_some _ e), ⟨_, rfl⟩, q _ ?_ fun y hy => ?_⟩
  · rw [numAt_eq]; exact PySem.getD_mem (by rw [List.length_map, Array.length_toList]; omega)
  · obtain ⟨j, hj, rfl⟩ := mem_getD hy
    rw [List.length_map, Array.length_toList] at hj
    rw [← numAt_eq]; exact h2 j (by omega)
theorem cd_max (hc : X.calm = true) : CallD X (.builtin "max") maxD := by
  intro pins s σ H xs us Q I r ⟨G, ms, h, ds, hh, i, q⟩
  unfold maxD at q
  split at q
  · obtain ⟨v, w, rfl, i1, i2⟩ := isL2 i
    cases i1; cases i2
    exact call_max2 hc pins s σ H _ us Q I r ⟨_, _, rfl, q.fin hh rfl⟩
  · obtain ⟨v, rfl, i1⟩ := isL1 (ds := []) i
    split at q
    · rename_i ys e
      split at q
      · rename_i ns e2
        split at q
        · rename_i hl
          obtain ⟨p, vs, rfl, h2, h3⟩ := hh.row i1 e
          rw [intsOf_eq e2] at h3
          rw [h3.ints] at h2
          rcases h2 with h2 | h2
          · exact cr_max hc pins s σ H _ us Q I r ⟨p, ns, rfl, h2, hl, fun m h1 h2 => by rw [maxL_is h1 h2]; exact q.fin hh rfl⟩
          · exact cr_maxT hc pins s σ H _ us Q I r ⟨p, ns, rfl, h2, hl, fun m h1 h2 => by rw [maxL_is h1 h2]; exact q.fin hh rfl⟩
        · exact q.elim
      · exact q.elim
    · exact q.elim
  · exact q.elim
theorem cd_min (hc : X.calm = true) : CallD X (.builtin "min") minD := by
  intro pins s σ H xs us Q I r ⟨G, ms, h, ds, hh, i, q⟩
  unfold minD at q
  split at q
  · obtain ⟨v, w, rfl, i1, i2⟩ := isL2 i
    cases i1; cases i2
    exact call_min2 hc pins s σ H _ us Q I r ⟨_, _, rfl, q.fin hh rfl⟩
  · obtain ⟨v, rfl, i1⟩ := isL1 (ds := []) i
    split at q
    · rename_i ys e
      split at q
      · rename_i ns e2
        split at q
        · rename_i hl
          obtain ⟨p, vs, rfl, h2, h3⟩ := hh.row i1 e
          rw [intsOf_eq e2] at h3
          rw [h3.ints] at h2
          rcases h2 with h2 | h2
          · exact cr_min hc pins s σ H _ us Q I r ⟨p, ns, rfl, h2, hl, fun m h1 h2 => by rw [minL_is h1 h2]; exact q.fin hh rfl⟩
          · exact cr_minT hc pins s σ H _ us Q I r ⟨p, ns, rfl, h2, hl, fun m h1 h2 => by rw [minL_is h1 h2]; exact q.fin hh rfl⟩
        · exact q.elim
      · exact q.elim
    · exact q.elim
  · exact q.elim
def allD (any : Bool) : List D → Hs → R D
  | [d], h => match lstOf h d with
    | some xs => match bolsOf xs with
      | some ns => .ok (.bl (if any = true then ns.any id else ns.all id)) h
      | none => .bad
    | none => .bad
  | _, _ => .bad
theorem cd_all (hc : X.calm = true) : CallD X (.builtin "all") (allD false) := by
  intro pins s σ H xs us Q I r ⟨G, ms, h, ds, hh, i, q⟩
  unfold allD at q
  split at q
  · obtain ⟨v, rfl, i1⟩ := isL1 (ds := []) i
    split at q
    · rename_i ys e
      split at q
      · rename_i ns e2
        obtain ⟨p, vs, rfl, h2, h3⟩ := hh.list i1 e
        rw [bolsOf_eq e2] at h3
        rw [h3.bls] at h2
        exact cr_all hc pins s σ H _ us Q I r ⟨p, ns, rfl, h2, q.fin hh rfl⟩
      · exact q.elim
    · exact q.elim
  · exact q.elim
theorem cd_any (hc : X.calm = true) : CallD X (.builtin "any") (allD true) := by
  intro pins s σ H xs us Q I r ⟨G, ms, h, ds, hh, i, q⟩
  unfold allD at q
  split at q
  · obtain ⟨v, rfl, i1⟩ := isL1 (ds := []) i
    split at q
    · rename_i ys e
      split at q
      · rename_i ns e2
        obtain ⟨p, vs, rfl, h2, h3⟩ := hh.list i1 e
        rw [bolsOf_eq e2] at h3
        rw [h3.bls] at h2
        exact cr_any hc pins s σ H _ us Q I r ⟨p, ns, rfl, h2, q.fin hh rfl⟩
      · exact q.elim
    · exact q.elim
  · exact q.elim
def intD : List D → Hs → R D
  | [.int i], h => .ok (.int i) h
  | [.bl k], h => .ok (.int (if k = true then 1 else 0)) h
  | _, _ => .bad
theorem cd_int : CallD X (.type "int") intD := by
  intro pins s σ H xs us Q I r ⟨G, ms, h, ds, hh, i, q⟩
  unfold intD at q
  split at q
  · obtain ⟨v, rfl, i1⟩ := isL1 (ds := []) i
    cases i1
    exact call_int1 pins s σ H _ us Q I r (.inl ⟨_, rfl, q.fin hh rfl⟩)
  · obtain ⟨v, rfl, i1⟩ := isL1 (ds := []) i
    cases i1
    exact call_int1 pins s σ H _ us Q I r (.inr ⟨_, rfl, q.fin hh rfl⟩)
  · exact q.elim
def listD (m : Bool) : List D → Hs → R D
  | [d], h => match rowOf h d with
    | some xs => newL m xs h
    | none => .bad
  | _, _ => .bad
theorem cd_list (m : Bool) : CallD X (.type "list") (listD m) := by
  intro pins s σ H xs us Q I r ⟨G, ms, h, ds, hh, i, q⟩
  unfold listD at q
  split at q
  · obtain ⟨v, rfl, i1⟩ := isL1 (ds := []) i
    split at q
    · rename_i ys e
      obtain ⟨p, vs, rfl, h2, h3⟩ := hh.row i1 e
      exact call_list_of pins s σ H _ us Q I r ⟨p, vs, rfl, h2, fun l hl => q.newL hh h3 (hh.rowz i1 e) hl⟩
    · exact q.elim
  · exact q.elim
def tupleD : List D → Hs → R D
  | [d], h => match rowOf h d with
    | some xs => .ok (.tup xs) h
    | none => .bad
  | _, _ => .bad
theorem cd_tuple : CallD X (.type "tuple") tupleD := by
  intro pins s σ H xs us Q I r ⟨G, ms, h, ds, hh, i, q⟩
  unfold tupleD at q
  split at q
  · rename_i d
    obtain ⟨v, rfl, i1⟩ := isL1 (ds := []) i
    split at q
    · rename_i ys e
      have lists : ∀ p vs, v = V.ref p → SqL X.K H p vs → IsL X.K G ms ys vs → wpAny (model X.prog X.w) X.A (call (.type "tuple") us) (EP X pins σ Q) X.xe s := fun p vs e1 h2 h3 => by
        subst e1
        exact call_tuple_of pins s σ H _ us Q I r ⟨p, vs, rfl, .inl ⟨h2, fun l hl => q.newT hh h3 (hh.rowz i1 e) hl⟩⟩
      cases d with
      | tup zs =>
        cases e
        obtain ⟨p, vs, rfl, h2, h3⟩ := hh.tuple i1
        exact call_tuple_of pins s σ H _ us Q I r ⟨p, vs, rfl, .inr ⟨h2, q.fin hh i1⟩⟩
      | _ =>
        obtain ⟨p, vs, e1, h2, h3⟩ := hh.list i1 e
        exact lists p vs e1 h2 h3
    · exact q.elim
  · exact q.elim
end
end WD
namespace WD
open PySem PySem.Spec PyProof.Rows L2
section
variable {X : Cx} {W : WX} {pin : List Pn} {K : PySem.W.Frag} {mg : Str → Option Value} {E : XK} {G G' : GG} {H : Hp} {ms ms' : List Addr} {h : Hs} {pos : Pos} {a b c : Expr} {rest : List Expr}
def rdM (K : PySem.W.Frag) (g : D → List D → Hs → R D) : V → List V → Hp → VK → Prop := fun x xs H Q => ∃ G ms h d ds, Hh K G ms h H ∧ Is K G ms d x ∧ IsL K G ms ds xs ∧ Post K (fun _ => none) (fun _ _ _ => False) G ms (Is K) (g d ds h) Q
def MtD (X : Cx) (id : String) (g : D → List D → Hs → R D) : Prop := MtR X id (rdM X.K g)
/-- o.m(..), o a list -/
def eML (g : D → List D → Hs → R D) (fo : FE) (fa : FA) : FE := fun s h => (fo s h).bind fun d h1 => match lstOf h1 d with
  | some _ => (fa s h1).bind fun ds h2 => calm1 (g d ds h2)
  | none => .bad
theorem ve_ml {o e : Expr} {es : List Expr} {name : Str} {apos cpos : Pos} {id : String} {g : D → List D → Hs → R D} {fo : FE} {fa : FA} (slot : Slot "list" name id) (hty : typeOf (.builtin id) = pure (.type "method_descriptor")) (hm : MtD X id g) (ho : VE X W pin o fo) (ha : VA X W pin (e :: es) fa)
    (hbase : attributeBase o name X.env (eval o X.env) = eval o X.env := by rfl)
    (hfew : ((backTo cpos (starEach (e :: es) X.env)).all (fun x => !x.1) && (backToKw cpos (keywordEach [] X.env)).all (fun x => x.1.isSome)
      && decide ((e :: es).length + ([] : List Keyword).length + (if ([] : List Keyword).isEmpty then 0 else 1) < 30)) = true := by rfl)
    (hline : (apos.endLine == cpos.line) = true := by rfl) (hs : starEach (e :: es) X.env = (false, eval e X.env) :: starEach es X.env := by rfl) (hplain : (backTo cpos (starEach es X.env)).any (·.1) = false := by rfl) :
    VE X W pin (.Call (.Attribute o name apos) (e :: es) [] cpos) (eML g fo fa) := by
  refine pe_imp (pe_bm PySem.F.plainAttrs_list slot hty hm ho ha hbase hfew hline hs hplain) fun σ H Q ⟨G, ms, s, h, hh, sl, q⟩ => ⟨G, ms, s, h, hh, sl, Post.bind q fun d h1 v H1 G1 ms1 e1 p1 hh1 i1 q1 => ?_⟩
  split at q1
  · rename_i xs hx
    obtain ⟨p, vs, rfl, h2, h3⟩ := hh1.list i1 hx
    refine ⟨.inl ⟨rfl, vs, h2⟩, G1, ms1, s, h1, hh1, sl.mono e1 p1, Post.bind q1 fun ds h2 ws H2 G2 ms2 e2 p2 hh2 i2 q2 => ?_⟩
    exact ⟨G2, ms2, h2, d, ds, hh2, Is.mono e2 p2 _ _ i1, i2, calm1_post q2⟩
  · exact q1.elim
theorem ve_ml0 {o : Expr} {name : Str} {apos cpos : Pos} {id : String} {g : D → List D → Hs → R D} {fo : FE} (slot : Slot "list" name id) (hty : typeOf (.builtin id) = pure (.type "method_descriptor")) (hm : MtD X id g) (ho : VE X W pin o fo)
    (hbase : attributeBase o name X.env (eval o X.env) = eval o X.env := by rfl) (hline : (apos.endLine == cpos.line) = true := by rfl) :
    VE X W pin (.Call (.Attribute o name apos) [] [] cpos) (eML g fo aNil) := by
  refine pe_imp (pe_bm0 PySem.F.plainAttrs_list slot hty hm ho hbase hline) fun σ H Q ⟨G, ms, s, h, hh, sl, q⟩ => ⟨G, ms, s, h, hh, sl, Post.bind q fun d h1 v H1 G1 ms1 e1 p1 hh1 i1 q1 => ?_⟩
  split at q1
  · rename_i xs hx
    obtain ⟨p, vs, rfl, h2, h3⟩ := hh1.list i1 hx
    exact ⟨.inl ⟨rfl, vs, h2⟩, G1, ms1, h1, d, [], hh1, i1, rfl, calm1_post q1⟩
  · exact q1.elim
/-- a list that may be changed is read, and changed -/
theorem Hh.locW (hh : Hh K G ms h H) {n : Nat} {v : V} {xs : List D} (i : Is K G ms (.loc n) v) (e : locAt h n = some xs) : ∃ a vs, v = .ref a ∧ ms[n]? = some a ∧ H a = some (.lst vs) ∧ IsL K G ms xs vs := by
  obtain ⟨a, h1, h2⟩ := i
  obtain ⟨a', vs, q1, q2, q3⟩ := hh.at (locAt_some e)
  rw [h1] at q1; cases q1
  exact ⟨a, vs, h2, h1, q2, q3⟩
theorem Post.wrote {n : Nat} {d : D} {v : V} {p : Addr} {xs : List D} {vs : List V} {Q : VK} (q : Post K mg E G ms (Is K) (.ok d (h.set n (.lst xs))) Q) (hh : Hh K G ms h H) (e : ms[n]? = some p) (hx : IsL K G ms xs vs) (hz : xs.length ≤ sizeLine) (i : Is K G ms d v) : Q v (upd H p (.lst vs)) :=
  q.fin (hh.write e hx hz) i
def appendD : D → List D → Hs → R D
  | .loc n, [d], h => match locAt h n with
    | some xs => if xs.length < sizeLine then .ok .non (h.set n (.lst (xs ++ [d]))) else .bad
    | none => .bad
  | _, _, _ => .bad
theorem md_append : MtD X "list.append" appendD := by
  intro pins s σ H x xs v us Q I rx rs ⟨G, ms, h, d, ds, hh, i, il, q⟩
  unfold appendD at q
  split at q
  · obtain ⟨w, rfl, i1⟩ := isL1 (ds := []) il
    split at q
    · rename_i ys e
      split at q
      · rename_i hz
        obtain ⟨p, vs, rfl, h1, h2, h3⟩ := hh.locW i e
        exact mt_append pins s σ H _ _ v us Q I rx rs ⟨p, vs, w, rfl, rfl, h2, by rw [← h3.length]; exact hz, q.wrote hh h1 (h3.append (.one i1)) (by rw [List.length_append]; exact hz) rfl⟩
      · exact q.elim
    · exact q.elim
  · exact q.elim
def popD : D → List D → Hs → R D
  | .loc n, [], h => match locAt h n with
    | some xs => match xs.getLast? with
      | some d => .ok d (h.set n (.lst xs.dropLast))
      | none => .bad
    | none => .bad
  | _, _, _ => .bad
theorem md_pop : MtD X "list.pop" popD := by
  intro pins s σ H x xs v us Q I rx rs ⟨G, ms, h, d, ds, hh, i, il, q⟩
  unfold popD at q
  split at q
  · cases il
    split at q
    · rename_i ys e
      split at q
      · rename_i d e2
        obtain ⟨p, vs, rfl, h1, h2, h3⟩ := hh.locW i e
        rw [List.getLast?_eq_getElem?] at e2
        obtain ⟨w, k1, k2⟩ := h3.get e2
        exact mt_pop pins s σ H _ _ v us Q I rx rs ⟨p, vs, w, rfl, rfl, h2, by rw [← h3.length]; exact k1, q.wrote hh h1 h3.dropLast (by rw [List.length_dropLast]; exact Nat.le_trans (Nat.sub_le _ _) (hh.atz (locAt_some e))) k2⟩
      · exact q.elim
    · exact q.elim
  · exact q.elim
def reverseD : D → List D → Hs → R D
  | .loc n, [], h => match locAt h n with
    | some xs => .ok .non (h.set n (.lst xs.reverse))
    | none => .bad
  | _, _, _ => .bad
theorem md_reverse : MtD X "list.reverse" reverseD := by
  intro pins s σ H x xs v us Q I rx rs ⟨G, ms, h, d, ds, hh, i, il, q⟩
  unfold reverseD at q
  split at q
  · cases il
    split at q
    · rename_i ys e
      obtain ⟨p, vs, rfl, h1, h2, h3⟩ := hh.locW i e
      exact mt_reverse pins s σ H _ _ v us Q I rx rs ⟨p, vs, rfl, rfl, h2, q.wrote hh h1 h3.rev (by rw [List.length_reverse]; exact hh.atz (locAt_some e)) rfl⟩
    · exact q.elim
  · exact q.elim
def clearD : D → List D → Hs → R D
  | .loc n, [], h => match locAt h n with
    | some _ => .ok .non (h.set n (.lst []))
    | none => .bad
  | _, _, _ => .bad
theorem md_clear : MtD X "list.clear" clearD := by
  intro pins s σ H x xs v us Q I rx rs ⟨G, ms, h, d, ds, hh, i, il, q⟩
  unfold clearD at q
  split at q
  · cases il
    split at q
    · rename_i ys e
      obtain ⟨p, vs, rfl, h1, h2, h3⟩ := hh.locW i e
      exact mt_clear pins s σ H _ _ v us Q I rx rs ⟨p, vs, rfl, rfl, h2, Post.wrote (vs := ([] : List V)) q hh h1 rfl (Nat.zero_le _) rfl⟩
    · exact q.elim
  · exact q.elim
def extendD : D → List D → Hs → R D
  | .loc n, [d], h => match locAt h n, lstX h d with
    | some xs, some ys => if xs.length + ys.length ≤ sizeLine then .ok .non (h.set n (.lst (xs ++ ys))) else .bad
    | _, _ => .bad
  | _, _, _ => .bad
theorem md_extend : MtD X "list.extend" extendD := by
  intro pins s σ H x xs v us Q I rx rs ⟨G, ms, h, d, ds, hh, i, il, q⟩
  unfold extendD at q
  split at q
  · obtain ⟨w, rfl, i1⟩ := isL1 (ds := []) il
    split at q
    · rename_i ys zs e e2
      split at q
      · rename_i hz
        obtain ⟨p, vs, rfl, h1, h2, h3⟩ := hh.locW i e
        obtain ⟨p2, ws, rfl, k2, k3⟩ := hh.listX i1 e2
        exact mt_extend pins s σ H _ _ v us Q I rx rs ⟨p, p2, vs, ws, rfl, rfl, h2, k2, by rw [← h3.length, ← k3.length]; exact hz, q.wrote hh h1 (h3.append k3) (by rw [List.length_append]; exact hz) rfl⟩
      · exact q.elim
    · exact q.elim
  · exact q.elim

def ixD : D → D → Hs → R D
  | .str x, .int i, h => if x.length ≤ sizeLine then (match atI x.cps.toList i with
    | some c => .ok (.str ⟨#[c]⟩) h
    | none => .bad) else .bad
  | d, .int i, h => match rowOf h d with
    | some xs => match atI xs i with
      | some e => .ok e h
      | none => .bad
    | none => .bad
  | _, _, _ => .bad
theorem atI_is {xs : List D} {vs : List V} {i : Int} {d : D} (il : IsL K G ms xs vs) (e : atI xs i = some d) : ∃ v, atI vs i = some v ∧ Is K G ms d v := by
  unfold atI at e
  cases q : ixN xs.length i with
  | none => rw [q] at e; cases e
  | some j =>
    rw [q] at e
    obtain ⟨v, h1, h2⟩ := il.get (show xs[j]? = some d from e)
    refine ⟨v, ?_, h2⟩
    unfold atI
    rw [← il.length, q]
    exact h1
theorem id_ix : IxR X (rd2 X.K ixD) := by
  intro value slice pins s σ H x y v u Q I rx ry ⟨G, ms, h, da, db, hh, ia, ib, q⟩ hs
  unfold ixD at q
  split at q
  · cases ia; cases ib
    split at q
    · rename_i hz
      split at q
      · rename_i c e
        exact ix_seq value slice pins s σ H _ _ v u Q I rx ry (.inr (.inr ⟨_, _, _, rfl, rfl, hz, e, q.fin hh rfl⟩)) hs
      · exact q.elim
    · exact q.elim
  · cases ib
    split at q
    · rename_i xs e
      split at q
      · rename_i d e2
        obtain ⟨p, vs, rfl, h2, h3⟩ := hh.row ia e
        obtain ⟨w, k1, k2⟩ := atI_is h3 e2
        rcases h2 with h2 | h2
        · exact ix_seq value slice pins s σ H _ _ v u Q I rx ry (.inl ⟨p, vs, _, w, rfl, rfl, h2, k1, q.fin hh k2⟩) hs
        · exact ix_seq value slice pins s σ H _ _ v u Q I rx ry (.inr (.inl ⟨p, vs, _, w, rfl, rfl, h2, k1, q.fin hh k2⟩)) hs
      · exact q.elim
    · exact q.elim
  · exact q.elim
theorem ve_ix {fa fb : FE} (ha : VE X W pin a fa) (hb : VE X W pin b fb) (hs : PlainIx b := by exact fun _ _ => rfl) : VE X W pin (.Subscript a b pos) (eBin ixD fa fb) :=
  pe_imp (pe_ix id_ix ha hb hs) fun _ _ _ h => op_read h
def cutD (xs : List D) (lo hi : Option Int) : List D := (xs.drop (HT.sIx xs.length 0 lo)).take (HT.sIx xs.length xs.length hi - HT.sIx xs.length 0 lo)
theorem cut_is {xs : List D} {vs : List V} {lo hi : Option Int} (i : IsL K G ms xs vs) : IsL K G ms (cutD xs lo hi) (cutV vs lo hi) := by
  unfold cutD cutV
  rw [i.length]
  exact (i.drop _).take _
theorem cut_len (xs : List D) (lo hi : Option Int) : (cutD xs lo hi).length ≤ xs.length := by
  unfold cutD
  rw [List.length_take, List.length_drop]
  omega
theorem row_of_lst {d : D} {xs : List D} (e : lstOf h d = some xs) : rowOf h d = some xs := by
  cases d <;> first | exact e | cases e
def FO : Type := Ss → Hs → R (Option Int)
def oNone : FO := fun _ h => .ok none h
def oSome (f : FE) : FO := fun s h => (f s h).bind fun d h1 => match d with
  | .int i => .ok (some i) h1
  | _ => .bad
def rdO (X : Cx) (W : WX) (pin : List Pn) (f : FO) : TO := fun σ H Q => ∃ G ms s h, Hh X.K G ms h H ∧ Sl X.K G ms pin s σ ∧ Post X.K X.mg (fun c d H => W c d σ H) G ms (fun _ _ (a b : Option Int) => a = b) (f s h) Q
theorem po_imp {e : Option Expr} {t t' : TO} (h : PO X e t) (q : ∀ σ H Q, t' σ H Q → t σ H Q) : PO X e t' := ⟨fun pins s σ H Q I w => h.run pins s σ H Q I (q _ _ _ w)⟩
abbrev VO (X : Cx) (W : WX) (pin : List Pn) (e : Option Expr) (f : FO) : Prop := PO X e (rdO X W pin f)
theorem vo_none : VO X W pin none oNone := po_imp po_none fun σ H Q ⟨G, ms, s, h, hh, sl, q⟩ => Post.fin (b := (none : Option Int)) q hh rfl
theorem vo_some {e : Expr} {f : FE} (h : VE X W pin e f) : VO X W pin (some e) (oSome f) := by
  refine po_imp (po_some h) fun σ H Q ⟨G, ms, s, h, hh, sl, q⟩ => ⟨G, ms, s, h, hh, sl, Post.bind q fun d h1 v H1 G1 ms1 e1 p1 hh1 i1 q1 => ?_⟩
  cases d with
  | int i => cases i1; exact ⟨i, rfl, q1.fin hh1 rfl⟩
  | _ => exact q1.elim
def slD (m : Bool) (d : D) (lo hi : Option Int) (h : Hs) : R D := match d with
  | .tup xs => .ok (.tup (cutD xs lo hi)) h
  | d => match lstOf h d with
    | some xs => newL m (cutD xs lo hi) h
    | none => .bad
def eSl (m : Bool) (f : FE) (fl fh : FO) : FE := fun s h => (f s h).bind fun d h1 => (fl s h1).bind fun lo h2 => (fh s h2).bind fun hi h3 => slD m d lo hi h3
theorem whole_cut {xs : List D} {lo hi : Option Int} (h : HT.sIx xs.length 0 lo = 0 ∧ HT.sIx xs.length xs.length hi = xs.length) : cutD xs lo hi = xs := by
  unfold cutD
  rw [h.1, h.2, List.drop_zero, Nat.sub_zero, List.take_length]
theorem ve_slice (m : Bool) {e : Expr} {lo hi : Option Expr} {f : FE} {fl fh : FO} {p2 : Pos} (he : VE X W pin e f) (hl : VO X W pin lo fl) (hu : VO X W pin hi fh) : VE X W pin (.Subscript e (.Slice lo hi none p2) pos) (eSl m f fl fh) := by
  refine pe_imp (pe_slice (sl_list.or sl_tupA) he hl hu) fun σ H Q ⟨G, ms, s, h, hh, sl, q⟩ => ⟨G, ms, s, h, hh, sl, Post.bind q fun d h1 v H1 G1 ms1 e1 p1 hh1 i1 q1 => ?_⟩
  refine ⟨G1, ms1, s, h1, hh1, sl.mono e1 p1, Post.bind q1 fun l h2 l' H2 G2 ms2 e2 p2 hh2 i2 q2 => ?_⟩
  subst i2
  refine ⟨G2, ms2, s, h2, hh2, (sl.mono e1 p1).mono e2 p2, Post.bind q2 fun u h3 u' H3 G3 ms3 e3 p3 hh3 i3 q3 => ?_⟩
  subst i3
  have i4 := Is.mono (e2.trans e3) (pre_trans p2 p3) _ _ i1
  unfold slD at q3
  split at q3
  · rename_i xs
    obtain ⟨p, vs, rfl, k2, k3⟩ := hh3.tuple i4
    refine .inr ⟨p, vs, rfl, k2, fun hw => ?_, fun _ p hp => q3.newT hh3 (cut_is k3) (Nat.le_trans (cut_len _ _ _) (hh3.rowz i4 rfl)) hp⟩
    rw [← k3.length] at hw
    rw [whole_cut hw] at q3
    exact q3.fin hh3 i4
  · split at q3
    · rename_i xs hx
      obtain ⟨p, vs, rfl, k2, k3⟩ := hh3.list i4 hx
      exact .inl ⟨p, vs, rfl, k2, fun p hp => q3.newL hh3 (cut_is k3) (Nat.le_trans (cut_len _ _ _) (hh3.rowz i4 (row_of_lst hx))) hp⟩
    · exact q3.elim
def setD (o i v : D) (h : Hs) : Option Hs := match o, i with
  | .loc n, .int k => match locAt h n with
    | some xs => match ixN xs.length k with
      | some j => some (h.set n (.lst (xs.set j v)))
      | none => none
    | none => none
  | _, _ => none
def sItem (fo fi fe : FE) : FS := fun s h => RS.ofR s (fe s h) fun v h1 => RS.ofR s (fo s h1) fun o h2 => RS.ofR s (fi s h2) fun i h3 => match setD o i v h3 with
  | some h4 => .nx s h4
  | none => .bad
theorem vs_item {o i e : Expr} {fo fi fe : FE} {pos' : Pos} (he : VE X W pin e fe) (ho : VE X W pin o fo) (hi : VE X W pin i fi)
    (ha : ∀ v, assign (.Subscript o i pos') X.env v = (do
      let ov ← holding [v] (eval o X.env)
      let iv ← holding [v, ov] (eval i X.env)
      standAt pos'
      holding [v, ov, iv] (setItem ov iv v)
      release [v, ov, iv] []) := by intro _; rfl)
    (hs : swapsWithSole [.Subscript o i pos'] e pos.line X.env = pure false := by rfl) (hw : swappedStores [.Subscript o i pos'] e X.env = pure none := by rfl)
    (h1 : (assignEach [.Subscript o i pos'] X.env).map (·.2) = [assign (.Subscript o i pos') X.env] := by rfl) : VS X W pin (.Assign [.Subscript o i pos'] e pos) (sItem fo fi fe) := by
  refine ps_imp (ps_asg he (pg_sub ho hi set_list ha) hs hw h1) fun D σ H ⟨G, ms, s, h, hh, sl, q⟩ => ⟨G, ms, s, h, hh, sl, PostS.ofR sl q fun dv h1 v H1 G1 ms1 e1 p1 hh1 i1 q1 => ?_⟩
  refine ⟨G1, ms1, s, h1, hh1, sl.mono e1 p1, PostS.ofR (sl.mono e1 p1) q1 fun od h2 ov H2 G2 ms2 e2 p2 hh2 i2 q2 => ?_⟩
  refine ⟨G2, ms2, s, h2, hh2, (sl.mono e1 p1).mono e2 p2, PostS.ofR ((sl.mono e1 p1).mono e2 p2) q2 fun id h3 iv H3 G3 ms3 e3 p3 hh3 i3 q3 => ?_⟩
  split at q3
  · rename_i h4 es
    have i1' := Is.mono (e2.trans e3) (pre_trans p2 p3) _ _ i1
    have i2' := Is.mono e3 p3 _ _ i2
    unfold setD at es
    split at es
    · rename_i n k
      split at es
      · rename_i xs ex
        split at es
        · rename_i j ej
          cases es
          cases i3
          obtain ⟨p, vs, rfl, k1, k2, k3⟩ := hh3.locW i2' ex
          refine ⟨p, vs, k, j, rfl, rfl, k2, by rw [← k3.length]; exact ej, ?_⟩
          exact q3 σ _ G3 ms3 (GLe.refl _) (pre_refl _) (hh3.write k1 (k3.set j i1') (by rw [List.length_set]; exact hh3.atz (locAt_some ex))) (((sl.mono e1 p1).mono e2 p2).mono e3 p3)
        · cases es
      · cases es
    · cases es
  · exact q3.elim
def ipAddD : D → D → Hs → R D
  | .int i, .int j, h => .ok (.int (i + j)) h
  | _, _, _ => .bad
def ipSubD : D → D → Hs → R D
  | .int i, .int j, h => .ok (.int (i - j)) h
  | _, _, _ => .bad
/-- x += e: ints -/
def sAug (i : Nat) (g : D → D → Hs → R D) (f : FE) : FS := fun s h => match s[i]? with
  | some (some x) => RS.ofR s (f s h) fun y h1 => RS.ofR s (calm2 g x y h1) fun z h2 => .nx (s.set i (some z)) h2
  | _ => .bad
def PIpD (X : Cx) (op : Operator) (g : D → D → Hs → R D) : Prop := PIp X op (rd2 X.K g)
theorem vs_aug (i : Nat) {x : Str} {e : Expr} {f : FE} {op : Operator} {g : D → D → Hs → R D} {pos' : Pos} (hN : X.N.Nodup) (he : VE X W pin e f) (ho : PIpD X op g) (hi : X.N[i]? = some x := by rfl) (hx : Loc X.env.scope x := by first | exact Or.inl rfl | exact Or.inr rfl) (np : NotPin pin i := by first | exact notPin_nil | decide)
    (hf : X.fn x = true ∨ X.env.scope.names.lookup x = some .local := by first | exact .inl rfl | exact .inr rfl | assumption) : VS X W pin (.AugAssign (.Name x pos') op e pos) (sAug i g f) := by
  refine ps_imp (ps_aug hN hi hx he ho hf) fun D σ H ⟨G, ms, s, h, hh, sl, q⟩ => ?_
  unfold sAug at q
  split at q
  · rename_i x ex
    obtain ⟨v, k1, k2⟩ := sl.get i x ex
    refine ⟨v, k1, G, ms, s, h, hh, sl, PostS.ofR sl q fun y h1 w H1 G1 ms1 e1 p1 hh1 i1 q1 => ?_⟩
    refine ⟨G1, ms1, h1, x, y, hh1, Is.mono e1 p1 _ _ k2, i1, calm_post (PostS.ofR (sl.mono e1 p1) q1 fun z h2 zv H2 G2 ms2 e2 p2 hh2 i2 q2 => ?_)⟩
    exact q2 _ H2 G2 ms2 (GLe.refl _) (pre_refl _) hh2 (((sl.mono e1 p1).mono e2 p2).set i2 np)
  · exact q.elim
theorem ip_addD : PIpD X .Add ipAddD := by
  intro pins s σ H x y v u Q I rx ry ⟨G, ms, h, da, db, hh, ia, ib, q⟩
  unfold ipAddD at q
  split at q
  · cases ia; cases ib
    exact ip_add pins s σ H _ _ v u Q I rx ry ⟨_, _, rfl, rfl, q.fin hh rfl⟩
  · exact q.elim
theorem ip_subD : PIpD X .Sub ipSubD := by
  intro pins s σ H x y v u Q I rx ry ⟨G, ms, h, da, db, hh, ia, ib, q⟩
  unfold ipSubD at q
  split at q
  · cases ia; cases ib
    exact ip_sub pins s σ H _ _ v u Q I rx ry ⟨_, _, rfl, rfl, q.fin hh rfl⟩
  · exact q.elim
end
end WD
namespace WD
open PySem PySem.Spec PyProof.Rows L2
abbrev Tg : Type := D → Ss → Hs → Option Ss
def gVar (i : Nat) : Tg := fun d s _ => some (s.set i (some d))
def unp : List Tg → List D → Ss → Hs → Option Ss
  | [], [], s, _ => some s
  | g :: gs, d :: ds, s, h => match g d s h with
    | some s' => unp gs ds s' h
    | none => none
  | _, _, _, _ => none
def gUn (gs : List Tg) : Tg := fun d s h => match rowOf h d with
  | some xs => unp gs xs s h
  | none => none
/-- σ' is σ but for the slots vs -/
structure But (vs : List Nat) (σ σ' : L2.St) : Prop where
  len : σ'.length = σ.length
  out : ∀ j, j ∉ vs → σ'[j]? = σ[j]?
theorem But.refl {vs : List Nat} {σ : L2.St} : But vs σ σ := ⟨rfl, fun _ _ => rfl⟩
theorem But.trans {vs : List Nat} {σ σ1 σ2 : L2.St} (a : But vs σ σ1) (b : But vs σ1 σ2) : But vs σ σ2 := ⟨b.len.trans a.len, fun j hj => (b.out j hj).trans (a.out j hj)⟩
section
variable (X : Cx) (pin : List Pn)
def rdG (vs : List Nat) (g : Tg) : TG := fun v σ H Q => ∃ G ms s h d, Hh X.K G ms h H ∧ Sl X.K G ms pin s σ ∧ Is X.K G ms d v ∧ match g d s h with
  | some s' => ∀ σ', But vs σ σ' → Sl X.K G ms pin s' σ' → Q σ' H
  | none => False
def rdGs (vs : List Nat) (gs : List Tg) : TGs := fun ws σ H Q => ∃ G ms s h ds, Hh X.K G ms h H ∧ Sl X.K G ms pin s σ ∧ IsL X.K G ms ds ws ∧ match unp gs ds s h with
  | some s' => ∀ σ', But vs σ σ' → Sl X.K G ms pin s' σ' → Q σ' H
  | none => False
end
abbrev VG (X : Cx) (pin : List Pn) (vs : List Nat) (e : Expr) (g : Tg) : Prop := PG X e (rdG X pin vs g)
abbrev VGs (X : Cx) (pin : List Pn) (vs : List Nat) (es : List Expr) (gs : List Tg) : Prop := PGs X es (rdGs X pin vs gs)
section
variable {X : Cx} {W : WX} {pin : List Pn} {K : PySem.W.Frag} {mg : Str → Option Value} {E : XK} {G G' : GG} {H : Hp} {ms ms' : List Addr} {h : Hs} {pos : Pos} {a b c : Expr} {rest : List Expr} {vs : List Nat}
theorem pg_imp {e : Expr} {t t' : TG} (h : PG X e t) (q : ∀ v σ H Q, t' v σ H Q → t v σ H Q) : PG X e t' := ⟨fun pins s σ H v u Q I r w => h.run pins s σ H v u Q I r (q _ _ _ _ w)⟩
theorem pgs_imp {e : List Expr} {t t' : TGs} (h : PGs X e t) (q : ∀ v σ H Q, t' v σ H Q → t v σ H Q) : PGs X e t' := ⟨fun pins s σ H v u Q I r w => h.run pins s σ H v u Q I r (q _ _ _ _ w)⟩
theorem vg_name (i : Nat) {x : Str} (hN : X.N.Nodup) (hi : X.N[i]? = some x := by rfl) (hx : Loc X.env.scope x := by first | exact Or.inl rfl | exact Or.inr rfl) (np : NotPin pin i := by first | exact notPin_nil | decide) (hv : i ∈ vs := by decide)
    (hf : X.fn x = true ∨ X.env.scope.names.lookup x = some .local := by first | exact .inl rfl | exact .inr rfl | assumption) : VG X pin vs (.Name x pos) (gVar i) := by
  refine pg_imp (pg_name hN hi hx hf) fun v σ H Q ⟨G, ms, s, h, d, hh, sl, i1, q⟩ => ?_
  refine q _ ⟨by simp, fun j hj => ?_⟩ (sl.set i1 np)
  rw [List.getElem?_set_ne]
  exact fun z => hj (z ▸ hv)
theorem vgs_nil : VGs X pin vs [] [] := by
  refine pgs_imp pgs_nil fun v σ H Q ⟨G, ms, s, h, d, hh, sl, i1, q⟩ => ?_
  cases d with
  | nil => cases i1; exact ⟨rfl, q σ .refl sl⟩
  | cons _ _ => exact q.elim
theorem vgs_cons {e : Expr} {es : List Expr} {g : Tg} {gs : List Tg} (h1 : VG X pin vs e g) (h2 : VGs X pin vs es gs)
    (hs : (assignEach (e :: es) X.env).map (·.2) = assign e X.env :: (assignEach es X.env).map (·.2) := by rfl) : VGs X pin vs (e :: es) (g :: gs) := by
  refine pgs_imp (pgs_cons h1 h2 hs) fun ws σ H Q ⟨G, ms, s, h, ds, hh, sl, i1, q⟩ => ?_
  cases ds with
  | nil => exact q.elim
  | cons d ds =>
    obtain ⟨v, r, rfl, i2, i3⟩ := i1
    refine ⟨v, r, rfl, G, ms, s, h, d, hh, sl, i2, ?_⟩
    unfold unp at q
    cases e1 : g d s h with
    | none => rw [e1] at q; exact q
    | some s' =>
      rw [e1] at q
      intro σ' b' sl'
      refine ⟨G, ms, s', h, ds, hh, sl', i3, ?_⟩
      dsimp only at q
      cases e2 : unp gs ds s' h with
      | none => rw [e2] at q; exact q
      | some s2 =>
        rw [e2] at q
        exact fun σ2 b2 sl2 => q σ2 (b'.trans b2) sl2
theorem PG.or {e : Expr} {t t' : TG} (h : PG X e t) (h' : PG X e t') : PG X e (fun v σ H Q => t v σ H Q ∨ t' v σ H Q) := ⟨fun pins s σ H v u Q I r w => by
  rcases w with w | w
  · exact h.run pins s σ H v u Q I r w
  · exact h'.run pins s σ H v u Q I r w⟩
theorem unp_len : ∀ {gs : List Tg} {ds : List D} {s s' : Ss} {h : Hs}, unp gs ds s h = some s' → ds.length = gs.length
  | [], [], _, _, _, _ => rfl
  | [], _ :: _, _, _, _, e => by cases e
  | _ :: _, [], _, _, _, e => by cases e
  | g :: gs, d :: ds, s, s', h, e => by
    unfold unp at e
    split at e
    · simp [unp_len e]
    · cases e
theorem vg_un {es : List Expr} {k : Nat} {gs : List Tg} (hc : X.calm = true) (h : VGs X pin vs es gs)
    (hn : (assignEach es X.env).length = gs.length := by rfl) (hst : (assignEach es X.env).findIdx? (·.1) = none := by rfl) : VG X pin vs (.Tuple es k pos) (gUn gs) := by
  refine pg_imp (PG.or (pg_lst hc h hn hst) (pg_tup hc h hn hst)) fun v σ H Q ⟨G, ms, s, h, d, hh, sl, i1, q⟩ => ?_
  unfold gUn at q
  cases er : rowOf h d with
  | none => rw [er] at q; exact q.elim
  | some xs =>
    rw [er] at q
    dsimp only at q
    obtain ⟨p, ws, rfl, h2, h3⟩ := hh.row i1 er
    have hl : ws.length = gs.length := by
      rw [← h3.length]
      cases e2 : unp gs xs s h with
      | none => rw [e2] at q; exact q.elim
      | some s' => exact unp_len e2
    rcases h2 with h2 | h2
    · exact .inl ⟨p, ws, rfl, h2, hl, G, ms, s, h, xs, hh, sl, h3, q⟩
    · exact .inr ⟨p, ws, rfl, h2, hl, G, ms, s, h, xs, hh, sl, h3, q⟩
/-- a, b = e -/
def sUn (g : Tg) (f : FE) : FS := fun s h => RS.ofR s (f s h) fun d h1 => match g d s h1 with
  | some s' => .nx s' h1
  | none => .bad
theorem vs_un {tg e : Expr} {f : FE} {g : Tg} (he : VE X W pin e f) (hg : VG X pin vs tg g) (hs : swapsWithSole [tg] e pos.line X.env = pure false := by rfl) (hw : swappedStores [tg] e X.env = pure none := by rfl)
    (h1 : (assignEach [tg] X.env).map (·.2) = [assign tg X.env] := by rfl) : VS X W pin (.Assign [tg] e pos) (sUn g f) := by
  refine ps_imp (ps_asg he hg hs hw h1) fun D σ H ⟨G, ms, s, h, hh, sl, q⟩ => ⟨G, ms, s, h, hh, sl, PostS.ofR sl q fun d h1 v H1 G1 ms1 e1 p1 hh1 i1 q1 => ?_⟩
  refine ⟨G1, ms1, s, h1, d, hh1, sl.mono e1 p1, i1, ?_⟩
  cases e2 : g d s h1 with
  | none => rw [e2] at q1; exact q1
  | some s' =>
    rw [e2] at q1
    exact fun σ' _ sl' => q1 σ' H1 G1 ms1 (GLe.refl _) (pre_refl _) hh1 sl'
/-- a, b = x, y -/
def sPar (i j : Nat) (f : FA) : FS := fun s h => match f s h with
  | .ok [x, y] h1 => .nx ((s.set i (some x)).set j (some y)) h1
  | .ok _ _ => .bad
  | .err x h1 => .er x s h1
  | .bad => .bad
theorem vs_par (i j : Nat) {x y : Str} {f : FA} {px py pt : Pos} {kt k2 : Nat} {pt2 : Pos} (hc : X.calm = true) (hN : X.N.Nodup) (ha : VA X W pin [a, b] f) (hi : X.N[i]? = some x := by rfl) (hj : X.N[j]? = some y := by rfl) (hij : i ≠ j := by decide)
    (hx : X.env.scope.names.lookup x = some .local := by rfl) (hy : X.env.scope.names.lookup y = some .local := by rfl) (np : NotPin pin i := by first | exact notPin_nil | decide) (np2 : NotPin pin j := by first | exact notPin_nil | decide)
    (hw : swappedStores [.Tuple [.Name x px, .Name y py] kt pt] (.Tuple [a, b] k2 pt2) X.env = pure (some [x, y]) := by rfl)
    (hs : swapsWithSole [.Tuple [.Name x px, .Name y py] kt pt] (.Tuple [a, b] k2 pt2) pos.line X.env = pure false := by rfl) :
    VS X W pin (.Assign [.Tuple [.Name x px, .Name y py] kt pt] (.Tuple [a, b] k2 pt2) pos) (sPar i j f) := by
  refine ps_imp (ps_par hc hN hi hj hij hx hy ha hw hs) fun D σ H ⟨G, ms, s, h, hh, sl, q⟩ => ⟨G, ms, s, h, hh, sl, ?_⟩
  unfold sPar at q
  cases e : f s h with
  | bad => rw [e] at q; exact q
  | err z h1 => rw [e] at q; exact fun H' G2 ms2 d h1 h2 h3 h4 => q σ H' G2 ms2 d h1 h2 h3 (sl.mono h1 h2) h4
  | ok ds h1 =>
    rw [e] at q
    intro ws H1 G1 ms1 e1 p1 hh1 i1
    match ds, i1, q with
    | [x, y], i1, q =>
      obtain ⟨v, w, rfl, j1, j2⟩ := isL2 i1
      exact ⟨v, w, rfl, q _ H1 G1 ms1 e1 p1 hh1 (((sl.mono e1 p1).set j1 np).set j2 np2)⟩
    | [], _, q => exact q.elim
    | [_], _, q => exact q.elim
    | _ :: _ :: _ :: _, _, q => exact q.elim

inductive It0 where
  | seq (ds : List D)
  | rng (lo : Int) (n : Nat)
  | loc (n : Nat)
abbrev FI : Type := Ss → Hs → R It0
/-- J yields ds, wherever the still part has grown -/
def Yields (K : PySem.W.Frag) (J : It) (G0 : GG) (ms0 : List Addr) (ds : List D) : Prop := ∀ (i : Nat) (h : Hs) (G : GG) (ms : List Addr) (H : Hp), Hh K G ms h H → Same G0.1 G.1 → ms0 <+: ms →
  (∀ d, ds[i]? = some d → J.go i H ∧ ∀ x H', J.yld i H x H' → ∃ G', GLe G G' ∧ Hh K G' ms h H' ∧ Is K G' ms d x) ∧ (ds.length = i → J.stop i H)
def ItIs (K : PySem.W.Frag) (G : GG) (ms : List Addr) : It0 → It → Prop
  | .seq ds, J => Yields K J G ms ds ∧ ds.length ≤ sizeLine
  | .rng lo n, J => J = Itr lo n
  | .loc n, J => ∃ a, ms[n]? = some a ∧ J = Itl K a
def rdI (X : Cx) (W : WX) (pin : List Pn) (f : FI) : TI := fun σ H R => ∃ G ms s h, Hh X.K G ms h H ∧ Sl X.K G ms pin s σ ∧ Post X.K X.mg (fun c d H => W c d σ H) G ms (ItIs X.K) (f s h) R
abbrev VI (X : Cx) (W : WX) (pin : List Pn) (tg e : Expr) (f : FI) : Prop := PI X tg e (rdI X W pin f)
theorem pi_imp {tg e : Expr} {t t' : TI} (h : PI X tg e t) (q : ∀ σ H Q, t' σ H Q → t σ H Q) : PI X tg e t' := ⟨fun pins s σ H Q I w => h.run pins s σ H Q I (q _ _ _ w)⟩
/-- a list or a tuple -/
def iSeq (K : PySem.W.Frag) (tl : TE) : TI := fun σ H R => tl σ H fun x H1 => ∃ a, x = .ref a ∧ (((∃ xs, SqL K H1 a xs) ∧ R (Itl K a) H1) ∨ ((∃ xs, SqT K H1 a xs) ∧ R (Itt K a) H1))
theorem pi_seq {tg l : Expr} {tl : TE} (hl : PE X l tl) : PI X tg l (iSeq X.K tl) := by
  refine ⟨fun pins s σ H R I h => ?_⟩
  refine thn (hl.run pins s σ H _ I h) fun v s1 ⟨x, H1, I1, r1, q1⟩ => ?_
  obtain ⟨a, e, ⟨⟨xs, hq⟩, q⟩ | ⟨⟨xs, hq⟩, q⟩⟩ := q1
  · subst e
    cases r1
    obtain ⟨its, rv, p, hz⟩ := I1.list hq
    refine wpAny_pyIter_list p.isList ?_
    refine ⟨s1.heap.objs.size, [s1.heap.objs.size], _, _, H1, rfl, I1.kept (t' := s1.toks) fun b o e => Heap.get?_push_of_some _ e, turn_list a _, ⟨_, Heap.get?_push_size _ rfl, rfl, rfl⟩, fun b hb => ?_, q⟩
    have e : b = s1.heap.objs.size := by simpa using hb
    subst e
    exact I1.fpOk (Nat.le_refl _) (I1.hok.fresh (Nat.le_refl _))
  · subst e
    cases r1
    obtain ⟨its, rv, p, hz⟩ := I1.tuple hq
    refine wpAny_pyIter_tuple (show s1.heap.IsTuple a its.toArray from p) ?_
    refine ⟨s1.heap.objs.size, [s1.heap.objs.size], _, _, H1, rfl, I1.kept (t' := s1.toks) fun b o e => Heap.get?_push_of_some _ e, turn_tuple a _, ⟨_, Heap.get?_push_size _ rfl, rfl, rfl⟩, fun b hb => ?_, q⟩
    have e : b = s1.heap.objs.size := by simpa using hb
    subst e
    exact I1.fpOk (Nat.le_refl _) (I1.hok.fresh (Nat.le_refl _))
theorem yields_list {a : Addr} {ds : List D} {ws : List V} (q : SqL K G.1 a ws) (i : IsL K G ms ds ws) : Yields K (Itl K a) G ms ds := fun j h G' ms' H hh e p => by
  have q' : SqL K H a ws := hh.sub.seq (e.seq q)
  have i' := IsL.mono' e p _ _ i
  refine ⟨fun d hd => ?_, fun hl => ⟨ws, q', by rw [← i.length]; exact Nat.le_of_eq hl⟩⟩
  obtain ⟨v, h1, h2⟩ := i'.get hd
  refine ⟨⟨ws, v, q', h1⟩, fun x H' ⟨e1, e2⟩ => ?_⟩
  subst e1
  have := e2 ws q'
  rw [h1] at this
  cases this
  exact ⟨G', .refl _, hh, h2⟩
theorem yields_tup {a : Addr} {ds : List D} {ws : List V} (q : SqT K G.1 a ws) (i : IsL K G ms ds ws) : Yields K (Itt K a) G ms ds := fun j h G' ms' H hh e p => by
  have q' : SqT K H a ws := Same.sqT hh.sub (Same.sqT e q)
  have i' := IsL.mono' e p _ _ i
  refine ⟨fun d hd => ?_, fun hl => ⟨ws, q', by rw [← i.length]; exact Nat.le_of_eq hl⟩⟩
  obtain ⟨v, h1, h2⟩ := i'.get hd
  refine ⟨⟨ws, v, q', h1⟩, fun x H' ⟨e1, e2⟩ => ?_⟩
  subst e1
  have := e2 ws q'
  rw [h1] at this
  cases this
  exact ⟨G', .refl _, hh, h2⟩
def iRow (f : FE) : FI := fun s h => (f s h).bind fun d h1 => match d with
  | .tup xs => .ok (.seq xs) h1
  | .lst xs => .ok (.seq xs) h1
  | .scr xs => .ok (.seq xs) h1
  | .loc n => if n < h1.length then .ok (.loc n) h1 else .bad
  | _ => .bad
theorem vi_row {tg e : Expr} {f : FE} (he : VE X W pin e f) : VI X W pin tg e (iRow f) := by
  refine pi_imp (pi_seq he) fun σ H R ⟨G, ms, s, h, hh, sl, q⟩ => ⟨G, ms, s, h, hh, sl, Post.bind q fun d h1 v H1 G1 ms1 e1 p1 hh1 i1 q1 => ?_⟩
  cases d with
  | tup xs =>
    obtain ⟨a, ws, rfl, k1, k2⟩ := id i1
    exact ⟨a, rfl, .inr ⟨⟨ws, .of (hh1.sub _ _ k1)⟩, q1.fin hh1 ⟨yields_tup (.of k1) k2, hh1.rowz i1 rfl⟩⟩⟩
  | lst xs =>
    obtain ⟨a, ws, rfl, k1, k2⟩ := id i1
    exact ⟨a, rfl, .inl ⟨⟨ws, .of (hh1.sub _ _ k1)⟩, q1.fin hh1 ⟨yields_list (.of k1) k2, hh1.rowz i1 rfl⟩⟩⟩
  | scr xs =>
    obtain ⟨a, ws, rfl, k1, k2⟩ := id i1
    exact ⟨a, rfl, .inl ⟨⟨ws, hh1.sub.seq k1⟩, q1.fin hh1 ⟨yields_list k1 k2, hh1.rowz i1 rfl⟩⟩⟩
  | loc n =>
    dsimp only at q1
    split at q1
    · obtain ⟨a, k1, rfl⟩ := i1
      obtain ⟨ws, k2⟩ := hh1.some_at k1
      exact ⟨a, rfl, .inl ⟨⟨ws, .of k2⟩, q1.fin hh1 ⟨a, k1, rfl⟩⟩⟩
    · exact q1.elim
  | _ => exact q1.elim
/-- range -/
def rgL (lo : Int) (n : Nat) : List D := (List.range n).map fun (i : Nat) => D.int (lo + i)
theorem rgL_get {lo : Int} {n i : Nat} {d : D} (h : (rgL lo n)[i]? = some d) : i < n ∧ d = .int (lo + i) := by
  unfold rgL at h
  rw [List.getElem?_map] at h
  cases q : (List.range n)[i]? with
  | none => rw [q] at h; cases h
  | some j =>
    rw [q] at h
    have hi : i < n := by
      rcases Nat.lt_or_ge i n with z | z
      · exact z
      · rw [List.getElem?_eq_none (by simpa using z)] at q; cases q
    rw [List.getElem?_range hi] at q
    cases q
    exact ⟨hi, (Option.some.inj h).symm⟩
theorem yields_range {lo : Int} {n : Nat} : Yields K (Itr lo n) G ms (rgL lo n) := fun j h G' ms' H hh e p => by
  refine ⟨fun d hd => ?_, fun hl => ?_⟩
  · obtain ⟨hi, rfl⟩ := rgL_get hd
    exact ⟨hi, fun x H' ⟨e1, e2⟩ => by subst e1 e2; exact ⟨G', .refl _, hh, rfl⟩⟩
  · have : (rgL lo n).length = n := by unfold rgL; simp
    rw [this] at hl
    exact Nat.le_of_eq hl
def r62 (i : Int) : Prop := -(2 ^ 62) ≤ i ∧ i < 2 ^ 62
open Classical in
noncomputable def iRng1 (f : FA) : FI := fun s h => (f s h).bind fun ds h1 => match ds with
  | [.int j] => if r62 j then .ok (.rng 0 j.toNat) h1 else .bad
  | _ => .bad
open Classical in
noncomputable def iRng2 (f : FA) : FI := fun s h => (f s h).bind fun ds h1 => match ds with
  | [.int i, .int j] => if r62 i ∧ r62 j then .ok (.rng i (j - i).toNat) h1 else .bad
  | _ => .bad
theorem vi_range1 {tg e : Expr} {f : FA} {p : Pos} (hg : Gl X "range") (hm : X.mg "range" = none) (ha : VA X W pin [e] f) (hs : starEach [e] X.env = [(false, eval e X.env)] := by rfl) : VI X W pin tg (.Call (.Name "range" p) [e] [] pos) (iRng1 f) := by
  refine pi_imp (pi_range1 hg hm ha hs) fun σ H R ⟨G, ms, s, h, hh, sl, q⟩ => ⟨G, ms, s, h, hh, sl, Post.bind q fun ds h1 ws H1 G1 ms1 e1 p1 hh1 i1 q1 => ?_⟩
  split at q1
  · obtain ⟨v, rfl, j1⟩ := isL1 (ds := []) i1
    cases j1
    split at q1
    · rename_i hz
      exact ⟨_, rfl, hz.1, hz.2, q1.fin hh1 rfl⟩
    · exact q1.elim
  · exact q1.elim
theorem vi_range2 {tg e e' : Expr} {f : FA} {p : Pos} (hg : Gl X "range") (hm : X.mg "range" = none) (ha : VA X W pin [e, e'] f) (hs : starEach [e, e'] X.env = [(false, eval e X.env), (false, eval e' X.env)] := by rfl) (hs2 : starEach [e'] X.env = [(false, eval e' X.env)] := by rfl) :
    VI X W pin tg (.Call (.Name "range" p) [e, e'] [] pos) (iRng2 f) := by
  refine pi_imp (pi_range2 hg hm ha hs hs2) fun σ H R ⟨G, ms, s, h, hh, sl, q⟩ => ⟨G, ms, s, h, hh, sl, Post.bind q fun ds h1 ws H1 G1 ms1 e1 p1 hh1 i1 q1 => ?_⟩
  split at q1
  · obtain ⟨v, w, rfl, j1, j2⟩ := isL2 i1
    cases j1; cases j2
    split at q1
    · rename_i hz
      exact ⟨_, _, rfl, ⟨hz.1.1, hz.1.2, hz.2.1, hz.2.2⟩, q1.fin hh1 rfl⟩
    · exact q1.elim
  · exact q1.elim
end
end WD
namespace WD
open PySem PySem.Spec PyProof.Rows L2
/-- behind a turn -/
def afterT (r : RS) (k : Ss → Hs → RS) : RS := match r with
  | .nx s h => k s h
  | .ct s h => k s h
  | .bk s h => .nx s h
  | .rt d h => .rt d h
  | .er x s h => .er x s h
  | .bad => .bad
def loopS (g : Tg) (b : FS) : List D → FS
  | [], s, h => .nx s h
  | d :: ds, s, h => match g d s h with
    | some s' => afterT (b s' h) (loopS g b ds)
    | none => .bad
def loopL (g : Tg) (b : FS) (n : Nat) : Nat → Nat → FS
  | 0, _, _, _ => .bad
  | f + 1, i, s, h => match locAt h n with
    | some xs => match xs[i]? with
      | some d => (match g d s h with
        | some s' => afterT (b s' h) (loopL g b n f (i + 1))
        | none => .bad)
      | none => .nx s h
    | none => .bad
def sFor (fi : FI) (g : Tg) (b : FS) : FS := fun s h => match fi s h with
  | .ok (.seq ds) h1 => loopS g b ds s h1
  | .ok (.rng lo n) h1 => loopS g b (rgL lo n) s h1
  | .ok (.loc n) h1 => match locAt h1 n with
    | some xs => loopL g b n (xs.length + 1) 0 s h1
    | none => .bad
  | .err x h1 => .er x s h1
  | .bad => .bad
section
variable {X : Cx} {W : WX} {pin : List Pn} {K : PySem.W.Frag} {mg : Str → Option Value} {E : XK} {G G' : GG} {H : Hp} {ms ms' : List Addr} {h : Hs} {pos : Pos} {a b c : Expr} {rest : List Expr} {vs : List Nat}
theorem after_post {σ σ' : L2.St} {r : RS} {k : Ss → Hs → RS} {D0 : Ends} {N : L2.St → Hp → Prop} (q : PostS W K mg pin σ G ms (afterT r k) D0)
    (hN : ∀ s1 h1 σ1 H1 G1 ms1, GLe G G1 → ms <+: ms1 → Hh K G1 ms1 h1 H1 → Sl K G1 ms1 pin s1 σ1 → PostS W K mg pin σ1 G1 ms1 (k s1 h1) D0 → N σ1 H1) : PostS W K mg pin σ' G ms r { D0 with nx := N, ct := N, bk := D0.nx } := by
  cases r with
  | nx s1 h1 => exact fun σ1 H1 G1 ms1 e1 p1 hh1 sl1 => hN s1 h1 σ1 H1 G1 ms1 e1 p1 hh1 sl1 (PostS.mono (r := k s1 h1) q e1 p1)
  | ct s1 h1 => exact fun σ1 H1 G1 ms1 e1 p1 hh1 sl1 => hN s1 h1 σ1 H1 G1 ms1 e1 p1 hh1 sl1 (PostS.mono (r := k s1 h1) q e1 p1)
  | bk s1 h1 => exact q
  | rt d h1 => exact q
  | er x s1 h1 => exact q
  | bad => exact q
theorem vs_for {tg iter : Expr} {body : List Stmt} {fi : FI} {g : Tg} {f : FS} (hp : PassesOwn (model X.prog X.w) X.A X.env X.xe) (hc : X.calm = true) (hi : VI X W pin tg iter fi) (hg : VG X pin vs tg g) (hb : VSs X W pin body f)
    (hs : ∀ x, foldedSetIterable iter X.env x = pure x := by intro _; rfl) : VS X W pin (.For tg iter body [] pos) (sFor fi g f) := by
  refine ps_imp (ps_for hp hc hi hg hb hs) fun D σ H ⟨G, ms, s, h, hh, sl, q⟩ => ⟨G, ms, s, h, hh, sl, ?_⟩
  unfold sFor at q
  cases e : fi s h with
  | bad => rw [e] at q; exact q
  | err z h1 => rw [e] at q; exact fun H' G2 ms2 d h1 h2 h3 h4 => q σ H' G2 ms2 d h1 h2 h3 (sl.mono h1 h2) h4
  | ok it h1 =>
    rw [e] at q
    intro J H1 G1 ms1 e1 p1 hh1 ij
    have seqs : ∀ ds, Yields X.K J G1 ms1 ds → PostS W X.K X.mg pin σ G ms (loopS g f ds s h1) D →
        (∃ WW : Nat → Nat → L2.St → Hp → Prop, (∃ m, WW 0 m σ H1) ∧ ∀ i m σ H, WW i m σ H → (J.stop i H ∧ D.nx σ H) ∨ (J.go i H ∧ ∃ N : L2.St → Hp → Prop, (∀ σ' H', N σ' H' → ∃ m', m' < m ∧ WW (i + 1) m' σ' H') ∧
          ∀ x H', J.yld i H x H' → rdG X pin vs g x σ H' fun σ2 H2 => rdS X W pin f { D with nx := N, ct := N, bk := D.nx } σ2 H2)) := fun ds ij q => by
      refine ⟨fun i m σ' H' => ∃ G2 ms2 s2 h2, Hh X.K G2 ms2 h2 H' ∧ Sl X.K G2 ms2 pin s2 σ' ∧ GLe G1 G2 ∧ ms1 <+: ms2 ∧ (m = ds.length - i ∧ i ≤ ds.length) ∧ PostS W X.K X.mg pin σ' G2 ms2 (loopS g f (ds.drop i) s2 h2) D,
        ⟨ds.length, G1, ms1, s, h1, hh1, sl.mono e1 p1, .refl _, pre_refl _, ⟨by simp, Nat.zero_le _⟩, PostS.mono (r := loopS g f ds s h1) q e1 p1⟩, ?_⟩
      rintro i m σ2 H2 ⟨G2, ms2, s2, h2, hh2, sl2, e2, p2, ⟨rfl, hle⟩, q2⟩
      by_cases hi : i < ds.length
      · have hd : ds.drop i = ds[i] :: ds.drop (i + 1) := List.drop_eq_getElem_cons hi
        rw [hd] at q2
        obtain ⟨hgo, hy⟩ := (ij i h2 G2 ms2 H2 hh2 e2.le p2).1 ds[i] (List.getElem?_eq_getElem hi)
        refine .inr ⟨hgo, fun σ' H' => ∃ G3 ms3 s3 h3, Hh X.K G3 ms3 h3 H' ∧ Sl X.K G3 ms3 pin s3 σ' ∧ GLe G1 G3 ∧ ms1 <+: ms3 ∧ PostS W X.K X.mg pin σ' G3 ms3 (loopS g f (ds.drop (i + 1)) s3 h3) D, ?_, ?_⟩
        · rintro σ' H' ⟨G3, ms3, s3, h3, k1, k2, k3, k4, k5⟩
          exact ⟨ds.length - (i + 1), by omega, G3, ms3, s3, h3, k1, k2, k3, k4, ⟨rfl, hi⟩, k5⟩
        · intro x H' y
          obtain ⟨G3, e3, hh3, i3⟩ := hy x H' y
          refine ⟨G3, ms2, s2, h2, ds[i], hh3, sl2.mono e3 (pre_refl _), i3, ?_⟩
          unfold loopS at q2
          cases eg : g ds[i] s2 h2 with
          | none => rw [eg] at q2; exact q2
          | some s3 =>
            rw [eg] at q2
            intro σ3 _ sl3
            refine ⟨G3, ms2, s3, h2, hh3, sl3, after_post (PostS.mono (r := afterT (f s3 h2) (loopS g f (ds.drop (i + 1)))) (σ' := σ3) q2 e3 (pre_refl _)) ?_⟩
            exact fun s4 h4 σ4 H4 G4 ms4 e4 p4 hh4 sl4 q4 => ⟨G4, ms4, s4, h4, hh4, sl4, (e2.trans e3).trans e4, pre_trans p2 p4, q4⟩
      · rw [List.drop_eq_nil_of_le (by omega)] at q2
        exact .inl ⟨(ij i h2 G2 ms2 H2 hh2 e2.le p2).2 (by omega), q2 σ2 H2 G2 ms2 (.refl _) (pre_refl _) hh2 sl2⟩
    cases it with
    | seq ds => exact seqs ds ij.1 q
    | rng lo n =>
      cases ij
      exact seqs (rgL lo n) yields_range q
    | loc n =>
      obtain ⟨ad, ha, rfl⟩ := ij
      dsimp only at q
      cases el : locAt h1 n with
      | none => rw [el] at q; exact q.elim
      | some xs =>
        rw [el] at q
        dsimp only at q
        refine ⟨fun i m σ' H' => ∃ G2 ms2 s2 h2, Hh X.K G2 ms2 h2 H' ∧ Sl X.K G2 ms2 pin s2 σ' ∧ GLe G1 G2 ∧ ms1 <+: ms2 ∧ PostS W X.K X.mg pin σ' G2 ms2 (loopL g f n m i s2 h2) D,
          ⟨xs.length + 1, G1, ms1, s, h1, hh1, sl.mono e1 p1, .refl _, pre_refl _, PostS.mono (r := loopL g f n (xs.length + 1) 0 s h1) q e1 p1⟩, ?_⟩
        rintro i m σ2 H2 ⟨G2, ms2, s2, h2, hh2, sl2, e2, p2, q2⟩
        cases m with
        | zero => exact q2.elim
        | succ m =>
          unfold loopL at q2
          cases el2 : locAt h2 n with
          | none => rw [el2] at q2; exact q2.elim
          | some ys =>
            rw [el2] at q2
            dsimp only at q2
            obtain ⟨ad', ws, k1, k2, k3⟩ := hh2.at (locAt_some el2)
            rw [pre_get p2 ha] at k1
            cases k1
            have hq : SqL X.K H2 ad ws := .of k2
            cases ey : ys[i]? with
            | none =>
              rw [ey] at q2
              refine .inl ⟨⟨ws, hq, ?_⟩, q2 σ2 H2 G2 ms2 (.refl _) (pre_refl _) hh2 sl2⟩
              rw [← k3.length]
              exact List.getElem?_eq_none_iff.mp ey
            | some d =>
              rw [ey] at q2
              dsimp only at q2
              obtain ⟨v, j1, j2⟩ := k3.get ey
              refine .inr ⟨⟨ws, v, hq, j1⟩, fun σ' H' => ∃ G3 ms3 s3 h3, Hh X.K G3 ms3 h3 H' ∧ Sl X.K G3 ms3 pin s3 σ' ∧ GLe G1 G3 ∧ ms1 <+: ms3 ∧ PostS W X.K X.mg pin σ' G3 ms3 (loopL g f n m (i + 1) s3 h3) D, ?_, ?_⟩
              · rintro σ' H' ⟨G3, ms3, s3, h3, k1, k2, k3, k4, k5⟩
                exact ⟨m, by omega, G3, ms3, s3, h3, k1, k2, k3, k4, k5⟩
              · rintro x H' ⟨rfl, y⟩
                have := y ws hq
                rw [j1] at this
                cases this
                refine ⟨G2, ms2, s2, h2, d, hh2, sl2, j2, ?_⟩
                cases eg : g d s2 h2 with
                | none => rw [eg] at q2; exact q2
                | some s3 =>
                  rw [eg] at q2
                  dsimp only at q2
                  intro σ3 _ sl3
                  refine ⟨G2, ms2, s3, h2, hh2, sl3, after_post (σ' := σ3) q2 ?_⟩
                  exact fun s4 h4 σ4 H4 G4 ms4 e4 p4 hh4 sl4 q4 => ⟨G4, ms4, s4, h4, hh4, sl4, e2.trans e4, pre_trans p2 p4, q4⟩
end
def whileF (t : FT) (b : FS) : Nat → FS
  | 0, _, _ => .bad
  | n + 1, s, h => match t s h with
    | .ok k h1 => if k = true then afterT (b s h1) (whileF t b n) else .nx s h1
    | .err x h1 => .er x s h1
    | .bad => .bad
open Classical in
noncomputable def sWhile (t : FT) (b : FS) : FS := fun s h => if q : ∃ n, whileF t b n s h ≠ .bad then whileF t b (Classical.choose q) s h else .bad
theorem afterT_bad {r : RS} {k k' : Ss → Hs → RS} (hk : ∀ s h, k s h ≠ .bad → k' s h = k s h) (h : afterT r k ≠ .bad) : afterT r k' = afterT r k := by
  cases r with
  | nx s h1 => exact hk s h1 h
  | ct s h1 => exact hk s h1 h
  | _ => rfl
theorem whileF_mono {t : FT} {b : FS} : ∀ {n m : Nat} {s : Ss} {h : Hs}, n ≤ m → whileF t b n s h ≠ .bad → whileF t b m s h = whileF t b n s h
  | 0, _, _, _, _, h => absurd rfl h
  | n + 1, 0, _, _, hl, _ => absurd hl (by omega)
  | n + 1, m + 1, s, h, hl, hn => by
    unfold whileF at hn ⊢
    cases e : t s h with
    | bad => rfl
    | err x h1 => rfl
    | ok k h1 =>
      rw [e] at hn
      dsimp only at hn ⊢
      cases k with
      | false => rfl
      | true =>
        rw [if_pos rfl] at hn ⊢
        exact afterT_bad (fun s h q => whileF_mono (by omega) q) hn
theorem sWhile_eq {t : FT} {b : FS} {n : Nat} {s : Ss} {h : Hs} {r : RS} (e : whileF t b n s h = r) (hr : r ≠ .bad) : sWhile t b s h = r := by
  have q : ∃ n, whileF t b n s h ≠ .bad := ⟨n, by rw [e]; exact hr⟩
  unfold sWhile
  rw [dif_pos q]
  have h1 := Classical.choose_spec q
  rcases Nat.le_total (Classical.choose q) n with hl | hl
  · rw [← whileF_mono hl h1, e]
  · rw [whileF_mono hl (by rw [e]; exact hr), e]
theorem sWhile_run {t : FT} {b : FS} {s : Ss} {h : Hs} : sWhile t b s h = .bad ∨ ∃ n, whileF t b n s h = sWhile t b s h := by
  unfold sWhile
  split
  · exact .inr ⟨_, rfl⟩
  · exact .inl rfl
section
variable {X : Cx} {W : WX} {pin : List Pn} {pos : Pos} {c : Expr}
theorem vs_while {body : List Stmt} {t : FT} {f : FS} (hp : PassesOwn (model X.prog X.w) X.A X.env X.xe) (hc : VT X W pin c t) (hb : VSs X W pin body f) : VS X W pin (.While c body [] pos) (sWhile t f) := by
  refine ps_imp (ps_while hp hc hb) fun D σ H ⟨G, ms, s, h, hh, sl, q⟩ => ?_
  rcases sWhile_run (t := t) (b := f) (s := s) (h := h) with e | ⟨n, e⟩
  · rw [e] at q; exact q.elim
  · rw [← e] at q
    refine ⟨fun m σ' H' => ∃ G2 ms2 s2 h2, Hh X.K G2 ms2 h2 H' ∧ Sl X.K G2 ms2 pin s2 σ' ∧ PostS W X.K X.mg pin σ' G2 ms2 (whileF t f m s2 h2) D, ⟨n, G, ms, s, h, hh, sl, q⟩, ?_⟩
    rintro m σ2 H2 ⟨G2, ms2, s2, h2, hh2, sl2, q2⟩
    cases m with
    | zero => exact q2.elim
    | succ m =>
      refine ⟨G2, ms2, s2, h2, hh2, sl2, ?_⟩
      unfold whileF at q2
      cases et : t s2 h2 with
      | bad => rw [et] at q2; exact q2
      | err x h3 => rw [et] at q2; exact fun H' G3 ms3 d h1 h2 h3 h4 => q2 σ2 H' G3 ms3 d h1 h2 h3 (sl2.mono h1 h2) h4
      | ok k h3 =>
        rw [et] at q2
        dsimp only at q2
        intro k' H3 G3 ms3 e3 p3 hh3 ek
        subst ek
        cases k with
        | false => exact q2 σ2 H3 G3 ms3 e3 p3 hh3 (sl2.mono e3 p3)
        | true =>
          rw [if_pos rfl] at q2 ⊢
          refine ⟨fun σ' H' => ∃ G4 ms4 s4 h4, Hh X.K G4 ms4 h4 H' ∧ Sl X.K G4 ms4 pin s4 σ' ∧ PostS W X.K X.mg pin σ' G4 ms4 (whileF t f m s4 h4) D, fun σ' H' hw => ⟨m, by omega, hw⟩, G3, ms3, s2, h3, hh3, sl2.mono e3 p3, ?_⟩
          refine after_post (PostS.mono (σ' := σ2) (r := afterT (f s2 h3) (whileF t f m)) q2 e3 p3) ?_
          exact fun s4 h4 σ4 H4 G4 ms4 e4 p4 hh4 sl4 q4 => ⟨G4, ms4, s4, h4, hh4, sl4, q4⟩
end
end WD
namespace WD
open PySem PySem.Spec PyProof.Rows L2
def wipeS (s : Ss) : List Nat → Ss
  | [] => s
  | v :: vs => (wipeS s vs).set v none
theorem wipeS_length (s : Ss) : ∀ vs : List Nat, (wipeS s vs).length = s.length
  | [] => rfl
  | v :: vs => by unfold wipeS; rw [List.length_set, wipeS_length s vs]
theorem wipeS_some {s : Ss} {i : Nat} {x : D} : ∀ {vs : List Nat}, (wipeS s vs)[i]? = some (some x) → s[i]? = some (some x) ∧ i ∉ vs
  | [], h => ⟨h, by simp⟩
  | v :: vs, h => by
    unfold wipeS at h
    by_cases hi : v = i
    · subst hi
      by_cases hv : v < (wipeS s vs).length
      · rw [List.getElem?_set_self hv] at h; cases h
      · rw [List.getElem?_eq_none (by simpa using hv)] at h; cases h
    · rw [List.getElem?_set_ne hi] at h
      obtain ⟨h1, h2⟩ := wipeS_some h
      exact ⟨h1, by simp only [List.mem_cons, not_or]; exact ⟨fun e => hi e.symm, h2⟩⟩
theorem wipe_in {σ : L2.St} {i : Nat} : ∀ {vs : List Nat}, i ∈ vs → (wipe σ vs)[i]? = if i < σ.length then some none else none
  | [], h => (nomatch h)
  | v :: vs, h => by
    unfold wipe
    by_cases hi : v = i
    · subst hi
      by_cases hv : v < σ.length
      · rw [if_pos hv, List.getElem?_set_self (by rw [wipe_length]; exact hv)]
      · rw [if_neg hv, List.getElem?_eq_none (by rw [List.length_set, wipe_length]; omega)]
    · rw [List.getElem?_set_ne hi]
      exact wipe_in (by rcases List.mem_cons.mp h with e | e; exact absurd e.symm hi; exact e)
theorem wipe_but {σ σ2 : L2.St} {vs : List Nat} (b : But vs (wipe σ vs) σ2) : wipe σ2 vs = wipe σ vs := by
  have hl : σ2.length = σ.length := by rw [b.len, wipe_length]
  apply List.ext_getElem?
  intro j
  by_cases hj : j ∈ vs
  · rw [wipe_in hj, wipe_in hj, hl]
  · rw [wipe_out hj, b.out j hj]
def quiet {α : Type} (r : R α) : R α := match r with
  | .ok d h' => .ok d h'
  | _ => .bad
/-- one turn -/
def stepC (g : Tg) (tt : FT) (te : FE) (s : Ss) (d : D) (h : Hs) (no : Hs → R D) (yes : D → Hs → R D) : R D := match g d s h with
  | none => .bad
  | some s2 => (quiet (tt s2 h)).bind fun b h3 => if b = true then (quiet (te s2 h3)).bind fun y h4 => yes y h4 else no h3
def compA (g : Tg) (tt : FT) (te : FE) (s : Ss) (k : List D → Hs → R D) : List D → List D → Hs → R D
  | [], acc, h => k acc h
  | d :: ds, acc, h => stepC g tt te s d h (fun h3 => compA g tt te s k ds acc h3) fun y h4 => compA g tt te s k ds (acc ++ [y]) h4
def compL (g : Tg) (tt : FT) (te : FE) (s : Ss) (n : Nat) (k : List D → Hs → R D) : Nat → Nat → List D → Hs → R D
  | 0, _, _, _ => .bad
  | f + 1, i, acc, h => match locAt h n with
    | none => .bad
    | some xs => match xs[i]? with
      | none => k acc h
      | some d => stepC g tt te s d h (fun h3 => compL g tt te s n k f (i + 1) acc h3) fun y h4 => compL g tt te s n k f (i + 1) (acc ++ [y]) h4
def eComp (m : Bool) (vs : List Nat) (fi : FI) (g : Tg) (tt : FT) (te : FE) : FE := fun s h => (fi s h).bind fun it h1 => match it with
  | .seq ds => compA g tt te (wipeS s vs) (newL m) ds [] h1
  | .rng lo n => if n ≤ sizeLine then compA g tt te (wipeS s vs) (newL m) (rgL lo n) [] h1 else .bad
  | .loc n => match locAt h1 n with
    | some xs => compL g tt te (wipeS s vs) n (newL m) (xs.length + 1) 0 [] h1
    | none => .bad
def tYesF : FT := fun _ h => .ok true h
abbrev VTs (X : Cx) (W : WX) (pin : List Pn) (es : List Expr) (f : FT) : Prop := PTs X es (rdT X W pin f)
abbrev W0 : WX := fun _ _ _ _ => False
section
variable {X : Cx} {W : WX} {pin : List Pn} {K : PySem.W.Frag} {mg : Str → Option Value} {E : XK} {G G' : GG} {H : Hp} {ms ms' : List Addr} {h : Hs} {pos : Pos} {c : Expr} {vs : List Nat}
theorem vts_nil : VTs X W pin [] tYesF := ⟨fun pins s σ H Q I ⟨G, ms, s', h, hh, sl, q⟩ => pts_nil.run pins s σ H Q I (Post.fin (b := true) q hh rfl)⟩
theorem vts_one {f : FT} (h : VT X W pin c f) : VTs X W pin [c] f := pts_one h
theorem Sl.mono' {s : Ss} {σ : L2.St} (x : Sl K G ms pin s σ) (e : Same G.1 G'.1) (p : ms <+: ms') : Sl K G' ms' pin s σ :=
  ⟨x.len, fun i d q => by obtain ⟨v, h1, h2⟩ := x.get i d q; exact ⟨v, h1, Is.mono' e p d v h2⟩, fun z hz => (x.pin z hz).mono' e p⟩
theorem Sl.wipe {s : Ss} {σ : L2.St} (x : Sl K G ms pin s σ) : Sl K G ms [] (wipeS s vs) (L2.wipe σ vs) := by
  refine ⟨by rw [wipeS_length, wipe_length]; exact x.len, fun i d e => ?_, fun _ h => (nomatch h)⟩
  obtain ⟨h1, h2⟩ := wipeS_some e
  obtain ⟨v, k1, k2⟩ := x.get i d h1
  exact ⟨v, by rw [wipe_out h2]; exact k1, k2⟩
/-- a turn of a comprehension over the list at D -/
theorem comp_turn {Xb : Cx} (eK : Xb.K = X.K) {g : Tg} {tt : FT} {te : FE} {s : Ss} {σ : L2.St} {d : D} {x : V} {h2 : Hs} {G1 G3 : GG} {ms1 ms2 : List Addr} {H2 : Hp} {Dd : Addr} {acc : List D} {ws : List V} {Q : VK} {no : Hs → R D} {yes : D → Hs → R D} {Nx : Hp → Prop}
    (hh : Hh X.K G3 ms2 h2 H2) (sl : Sl X.K G3 ms2 [] (wipeS s vs) (L2.wipe σ vs)) (i : Is X.K G3 ms2 d x) (e1 : Same G1.1 G3.1) (p1 : ms1 <+: ms2) (ef : G3.2 = upd G1.2 Dd (.lst ws)) (ia : IsL X.K G3 ms2 acc ws) (hz : acc.length < sizeLine)
    (q : Post X.K mg E G1 ms1 (Is X.K) (stepC g tt te (wipeS s vs) d h2 no yes) Q)
    (hno : ∀ h5 G5 ms5 H5, Hh X.K G5 ms5 h5 H5 → Same G1.1 G5.1 → ms1 <+: ms5 → G5.2 = upd G1.2 Dd (.lst ws) → IsL X.K G5 ms5 acc ws → Post X.K mg E G1 ms1 (Is X.K) (no h5) Q → Nx H5)
    (hyes : ∀ y v h5 G5 ms5 H5, Hh X.K G5 ms5 h5 H5 → Same G1.1 G5.1 → ms1 <+: ms5 → G5.2 = upd G1.2 Dd (.lst (ws ++ [v])) → IsL X.K G5 ms5 (acc ++ [y]) (ws ++ [v]) → Post X.K mg E G1 ms1 (Is X.K) (yes y h5) Q → Nx H5) :
    rdG Xb [] vs g x (L2.wipe σ vs) H2 fun σ2 H2 => L2.wipe σ2 vs = L2.wipe σ vs ∧ rdT Xb W0 [] tt σ2 H2 fun b H3 =>
      if b = true then rdE Xb W0 [] te σ2 H3 fun y H4 => ∃ acc, H4 Dd = some (.lst acc) ∧ acc.length < sizeLine ∧ Nx (upd H4 Dd (.lst (acc ++ [y]))) else Nx H3 := by
  unfold stepC at q
  refine ⟨G3, ms2, wipeS s vs, h2, d, by rw [eK]; exact hh, by rw [eK]; exact sl, by rw [eK]; exact i, ?_⟩
  cases eg : g d (wipeS s vs) h2 with
  | none => rw [eg] at q; exact q.elim
  | some s2 =>
    rw [eg] at q
    dsimp only at q
    intro σ2 b2 sl2
    refine ⟨wipe_but b2, G3, ms2, s2, h2, by rw [eK]; exact hh, sl2, ?_⟩
    cases et : tt s2 h2 with
    | bad => rw [et] at q; exact q.elim
    | err z h3 => rw [et] at q; exact q.elim
    | ok b h3 =>
      rw [et] at q
      dsimp only [quiet, R.bind] at q
      intro b' H3 G4 ms4 e4 p4 hh4 eb
      subst eb
      rw [eK] at hh4 sl2
      cases b with
      | false => exact hno h3 G4 ms4 H3 hh4 (e1.trans e4.le) (pre_trans p1 p4) (e4.fr.trans ef) (IsL.mono e4 p4 _ _ ia) q
      | true =>
        rw [if_pos rfl] at q ⊢
        refine ⟨G4, ms4, s2, h3, by rw [eK]; exact hh4, by rw [eK]; exact sl2.mono e4 p4, ?_⟩
        cases ee : te s2 h3 with
        | bad => rw [ee] at q; exact q.elim
        | err z h4 => rw [ee] at q; exact q.elim
        | ok y h4 =>
          rw [ee] at q
          dsimp only [quiet, R.bind] at q
          intro v H4 G5 ms5 e5 p5 hh5 iy
          rw [eK] at hh5 iy
          have ef5 : G5.2 = upd G1.2 Dd (.lst ws) := (e5.fr.trans e4.fr).trans ef
          have hD : G5.2 Dd = some (.lst ws) := by rw [ef5, upd_same]
          refine ⟨ws, hh5.frm _ _ hD, by rw [← ia.length]; exact hz, ?_⟩
          have ia5 := IsL.mono (e4.trans e5) (pre_trans p4 p5) _ _ ia
          refine hyes y v h4 (fupd G5 Dd (.lst (ws ++ [v]))) ms5 _ (hh5.reframe hD) ((e1.trans e4.le).trans e5.le) (pre_trans p1 (pre_trans p4 p5)) ?_ ?_ q
          · show upd G5.2 Dd _ = _
            rw [ef5, upd_upd]
          · exact IsL.mono' (G := G5) (G' := fupd G5 Dd (.lst (ws ++ [v]))) (Same.refl G5.1) (pre_refl _) _ _ (ia5.append (.one iy))
/-- the end of a comprehension -/
theorem comp_end {m : Bool} {G1 G2 : GG} {ms1 ms2 : List Addr} {h2 : Hs} {H2 : Hp} {Dd : Addr} {acc : List D} {ws : List V} {Q : VK}
    (hh : Hh K G2 ms2 h2 H2) (e1 : Same G1.1 G2.1) (p1 : ms1 <+: ms2) (ef : G2.2 = upd G1.2 Dd (.lst ws)) (hF : G1.2 Dd = none) (ia : IsL K G2 ms2 acc ws) (hz : acc.length ≤ sizeLine)
    (q : Post K mg E G1 ms1 (Is K) (newL m acc h2) Q) : Q (.ref Dd) H2 := by
  have hD : G2.2 Dd = some (.lst ws) := by rw [ef, upd_same]
  obtain ⟨g0, m0⟩ := hh.frd _ _ hD
  have hFF : ∀ a u, G1.2 a = some u → a ≠ Dd ∧ G2.2 a = some u := fun a u e => by
    have hne : a ≠ Dd := fun z => by rw [z, hF] at e; cases e
    exact ⟨hne, by rw [ef, upd_ne hne]; exact e⟩
  cases m with
  | false =>
    refine Post.fin2 (a := D.lst acc) (G' := (upd G2.1 Dd (.lst ws), G1.2)) q ⟨e1.trans (same_upd g0), rfl⟩ p1 (hh.thaw hD hFF (show ws.length ≤ sizeLine by rw [← ia.length]; exact hz)) ?_
    exact ⟨Dd, ws, rfl, upd_same, IsL.mono' (G := G2) (same_upd g0) (pre_refl _) _ _ ia⟩
  | true =>
    refine Post.fin2 (a := D.loc h2.length) (G' := (G2.1, G1.2)) (ms' := ms2 ++ [Dd]) q ⟨e1, rfl⟩ (pre_trans p1 ⟨[Dd], rfl⟩) (hh.adopt hD hFF ia hz) ⟨Dd, ?_, rfl⟩
    rw [← hh.len]
    simp
theorem comp_read (m : Bool) {fi : FI} {g : Tg} {tt : FT} {te : FE} {σ : L2.St} {H : Hp} {Q : VK} (hq : rdE X W pin (eComp m vs fi g tt te) σ H Q) : tLc (rdI X W pin fi) (rdG X [] vs g) (rdT X W0 [] tt) (rdE X W0 [] te) vs σ H Q := by
  obtain ⟨G, ms, s, h, hh, sl, q⟩ := hq
  refine ⟨G, ms, s, h, hh, sl, Post.bind q fun it h1 J H1 G1 ms1 e1 p1 hh1 ij q1 => ?_⟩
  intro Dd hD
  have hF := hh1.fnone hD
  have hh2 : Hh X.K (fupd G1 Dd (.lst [])) ms1 h1 (upd H1 Dd (.lst [])) := hh1.frame hD
  have seqs : ∀ ds, Yields X.K J G1 ms1 ds → ds.length ≤ sizeLine → Post X.K X.mg (fun c d H => W c d σ H) G1 ms1 (Is X.K) (compA g tt te (wipeS s vs) (newL m) ds [] h1) Q →
      (∃ WW : Nat → Nat → Hp → Prop, (∃ m, WW 0 m (upd H1 Dd (.lst []))) ∧ ∀ i m H, WW i m H →
        (J.stop i H ∧ Q (.ref Dd) H) ∨ (J.go i H ∧ ∃ Nx : Hp → Prop, (∀ H', Nx H' → ∃ m', m' < m ∧ WW (i + 1) m' H') ∧ ∀ x H', J.yld i H x H' → rdG X [] vs g x (L2.wipe σ vs) H' fun σ2 H2 => L2.wipe σ2 vs = L2.wipe σ vs ∧ rdT X W0 [] tt σ2 H2 fun b H3 =>
          if b = true then rdE X W0 [] te σ2 H3 fun y H4 => ∃ acc, H4 Dd = some (.lst acc) ∧ acc.length < sizeLine ∧ Nx (upd H4 Dd (.lst (acc ++ [y]))) else Nx H3)) := fun ds ij hlen q => by
    refine ⟨fun i m' H' => ∃ G2 ms2 h2 acc ws, Hh X.K G2 ms2 h2 H' ∧ Same G1.1 G2.1 ∧ ms1 <+: ms2 ∧ G2.2 = upd G1.2 Dd (.lst ws) ∧ IsL X.K G2 ms2 acc ws ∧ acc.length ≤ i ∧ i ≤ ds.length ∧ m' = ds.length - i ∧
        Post X.K X.mg (fun c d H => W c d σ H) G1 ms1 (Is X.K) (compA g tt te (wipeS s vs) (newL m) (ds.drop i) acc h2) Q,
      ⟨ds.length, _, ms1, h1, [], [], hh2, Same.refl _, pre_refl _, rfl, rfl, Nat.le_refl _, Nat.zero_le _, by simp, q⟩, ?_⟩
    rintro i m' H' ⟨G2, ms2, h2, acc, ws, k1, k2, k3, k4, k5, k6, k7, rfl, k8⟩
    by_cases hi : i < ds.length
    · have hd : ds.drop i = ds[i] :: ds.drop (i + 1) := List.drop_eq_getElem_cons hi
      rw [hd] at k8
      obtain ⟨hgo, hy⟩ := (ij i h2 G2 ms2 H' k1 k2 k3).1 ds[i] (List.getElem?_eq_getElem hi)
      refine .inr ⟨hgo, fun H' => ∃ G2 ms2 h2 acc ws, Hh X.K G2 ms2 h2 H' ∧ Same G1.1 G2.1 ∧ ms1 <+: ms2 ∧ G2.2 = upd G1.2 Dd (.lst ws) ∧ IsL X.K G2 ms2 acc ws ∧ acc.length ≤ i + 1 ∧
        Post X.K X.mg (fun c d H => W c d σ H) G1 ms1 (Is X.K) (compA g tt te (wipeS s vs) (newL m) (ds.drop (i + 1)) acc h2) Q, ?_, ?_⟩
      · rintro H' ⟨G2, ms2, h2, acc, ws, k1, k2, k3, k4, k5, k6, k8⟩
        exact ⟨ds.length - (i + 1), by omega, G2, ms2, h2, acc, ws, k1, k2, k3, k4, k5, k6, hi, rfl, k8⟩
      · intro x H3 y
        obtain ⟨G3, e3, hh3, i3⟩ := hy x H3 y
        have hs3 : Sl X.K G3 ms2 [] (wipeS s vs) (L2.wipe σ vs) := (Sl.wipe (vs := vs) ((sl.mono e1 p1).mono' k2 k3)).mono e3 (pre_refl _)
        refine comp_turn rfl hh3 hs3 i3 (k2.trans e3.le) k3 (e3.fr.trans k4) (IsL.mono e3 (pre_refl _) _ _ k5) (by omega) k8 ?_ ?_
        · exact fun h5 G5 ms5 H5 a1 a2 a3 a4 a5 a6 => ⟨G5, ms5, h5, acc, ws, a1, a2, a3, a4, a5, by omega, a6⟩
        · exact fun y v h5 G5 ms5 H5 a1 a2 a3 a4 a5 a6 => ⟨G5, ms5, h5, acc ++ [y], ws ++ [v], a1, a2, a3, a4, a5, by rw [List.length_append]; simp; omega, a6⟩
    · rw [List.drop_eq_nil_of_le (by omega)] at k8
      refine .inl ⟨(ij i h2 G2 ms2 H' k1 k2 k3).2 (by omega), ?_⟩
      exact comp_end k1 k2 k3 k4 hF k5 (by omega) k8
  cases it with
  | seq ds => exact seqs ds ij.1 ij.2 q1
  | rng lo n =>
    cases ij
    dsimp only at q1
    split at q1
    · rename_i hz
      exact seqs (rgL lo n) yields_range (by unfold rgL; simpa using hz) q1
    · exact q1.elim
  | loc n =>
    obtain ⟨ad, ha, rfl⟩ := ij
    dsimp only at q1
    cases el : locAt h1 n with
    | none => rw [el] at q1; exact q1.elim
    | some xs =>
      rw [el] at q1
      dsimp only at q1
      refine ⟨fun i m' H' => ∃ G2 ms2 h2 acc ws, Hh X.K G2 ms2 h2 H' ∧ Same G1.1 G2.1 ∧ ms1 <+: ms2 ∧ G2.2 = upd G1.2 Dd (.lst ws) ∧ IsL X.K G2 ms2 acc ws ∧ (acc.length ≤ i ∧ acc.length ≤ sizeLine) ∧
          Post X.K X.mg (fun c d H => W c d σ H) G1 ms1 (Is X.K) (compL g tt te (wipeS s vs) n (newL m) m' i acc h2) Q,
        ⟨xs.length + 1, _, ms1, h1, [], [], hh2, Same.refl _, pre_refl _, rfl, rfl, ⟨Nat.le_refl _, Nat.zero_le _⟩, q1⟩, ?_⟩
      rintro i m' H' ⟨G2, ms2, h2, acc, ws, k1, k2, k3, k4, k5, k6, k8⟩
      cases m' with
      | zero => exact k8.elim
      | succ m' =>
        unfold compL at k8
        cases el2 : locAt h2 n with
        | none => rw [el2] at k8; exact k8.elim
        | some ys =>
          rw [el2] at k8
          dsimp only at k8
          obtain ⟨ad', zs, j1, j2, j3⟩ := k1.at (locAt_some el2)
          have hyz := k1.atz (locAt_some el2)
          rw [pre_get k3 ha] at j1
          cases j1
          have hq : SqL X.K H' ad zs := .of j2
          cases ey : ys[i]? with
          | none =>
            rw [ey] at k8
            dsimp only at k8
            refine .inl ⟨⟨zs, hq, ?_⟩, comp_end k1 k2 k3 k4 hF k5 k6.2 k8⟩
            rw [← j3.length]
            exact List.getElem?_eq_none_iff.mp ey
          | some d =>
            rw [ey] at k8
            dsimp only at k8
            have hiy : i < ys.length := (List.getElem?_eq_some_iff.mp ey).1
            obtain ⟨v, n1, n2⟩ := j3.get ey
            refine .inr ⟨⟨zs, v, hq, n1⟩, fun H' => ∃ G2 ms2 h2 acc ws, Hh X.K G2 ms2 h2 H' ∧ Same G1.1 G2.1 ∧ ms1 <+: ms2 ∧ G2.2 = upd G1.2 Dd (.lst ws) ∧ IsL X.K G2 ms2 acc ws ∧ (acc.length ≤ i + 1 ∧ acc.length ≤ sizeLine) ∧
              Post X.K X.mg (fun c d H => W c d σ H) G1 ms1 (Is X.K) (compL g tt te (wipeS s vs) n (newL m) m' (i + 1) acc h2) Q, fun H' hw => ⟨m', by omega, hw⟩, ?_⟩
            rintro x H3 ⟨rfl, y⟩
            have := y zs hq
            rw [n1] at this
            cases this
            have hs3 : Sl X.K G2 ms2 [] (wipeS s vs) (L2.wipe σ vs) := Sl.wipe (vs := vs) ((sl.mono e1 p1).mono' k2 k3)
            refine comp_turn rfl k1 hs3 n2 k2 k3 k4 k5 (Nat.lt_of_le_of_lt k6.1 (Nat.lt_of_lt_of_le hiy hyz)) k8 ?_ ?_
            · exact fun h5 G5 ms5 H5 a1 a2 a3 a4 a5 a6 => ⟨G5, ms5, h5, acc, ws, a1, a2, a3, a4, a5, ⟨by omega, k6.2⟩, a6⟩
            · exact fun y v h5 G5 ms5 H5 a1 a2 a3 a4 a5 a6 => ⟨G5, ms5, h5, acc ++ [y], ws ++ [v], a1, a2, a3, a4, a5, ⟨by rw [List.length_append]; simp; omega, by rw [List.length_append]; exact Nat.le_trans (Nat.add_le_add_right k6.1 1) (Nat.le_trans hiy hyz)⟩, a6⟩
theorem ve_comp (m : Bool) {elt tg iter : Expr} {ifs : List Expr} {scope : Scope} (own : List (Str × Nat)) {fi : FI} {g : Tg} {tt : FT} {te : FE} (hc : X.calm = true) (hN : X.N.Nodup) (hi : VI X W pin tg iter fi) (ok : BlkOk X.N X.env.scope scope own)
    (hg : ∀ (s : Shared) (H : Hp) (C : Addr) (cl : List (Str × Addr)) (fp : List Addr), VG (X.blk s H scope (compEnvC scope cl C X.env) fp) [] (own.map (·.2)) tg g) (ht : ∀ (s : Shared) (H : Hp) (C : Addr) (cl : List (Str × Addr)) (fp : List Addr), VTs (X.blk s H scope (compEnvC scope cl C X.env) fp) W0 [] ifs tt)
    (he : ∀ (s : Shared) (H : Hp) (C : Addr) (cl : List (Str × Addr)) (fp : List Addr), VE (X.blk s H scope (compEnvC scope cl C X.env) fp) W0 [] elt te) (hs : ∀ x, foldedSetIterable iter X.env x = pure x := by intro _; rfl) :
    VE X W pin (.ListComp elt [⟨tg, iter, ifs, 0⟩] scope pos) (eComp m (own.map (·.2)) fi g tt te) :=
  pe_imp (pe_lc (g := rdG X [] (own.map (fun (p : Str × Nat) => p.2)) g) (tt := rdT X W0 [] tt) (te := rdE X W0 [] te) hc hN hi ok hg ht he hs) fun σ H Q q => comp_read m q
theorem vs_setComp (m : Bool) (i : Nat) {y : Str} {py : Pos} {elt tg iter : Expr} {ifs : List Expr} {scope : Scope} {spos : Pos} (own : List (Str × Nat)) {fi : FI} {g : Tg} {tt : FT} {te : FE} (hc : X.calm = true) (hN : X.N.Nodup) (hi : VI X W pin tg iter fi) (ok : BlkOk X.N X.env.scope scope own)
    (hg : ∀ (s : Shared) (H : Hp) (C : Addr) (cl : List (Str × Addr)) (fp : List Addr), VG (X.blk s H scope (compEnvC scope cl C X.env) fp) [] (own.map (·.2)) tg g) (ht : ∀ (s : Shared) (H : Hp) (C : Addr) (cl : List (Str × Addr)) (fp : List Addr), VTs (X.blk s H scope (compEnvC scope cl C X.env) fp) W0 [] ifs tt)
    (he : ∀ (s : Shared) (H : Hp) (C : Addr) (cl : List (Str × Addr)) (fp : List Addr), VE (X.blk s H scope (compEnvC scope cl C X.env) fp) W0 [] elt te)
    (hy : X.N[i]? = some y := by rfl) (hyl : X.env.scope.names.lookup y = some .local := by rfl) (np : NotPin pin i := by first | exact notPin_nil | decide)
    (hsw : swapsWith (.ListComp elt [⟨tg, iter, ifs, 0⟩] scope pos) (some (.Name y py)) spos.line X.env = pure true := by exact sw_true rfl rfl rfl (by decide +kernel)) (hs : ∀ x, foldedSetIterable iter X.env x = pure x := by intro _; rfl) :
    VS X W pin (.Assign [.Name y py] (.ListComp elt [⟨tg, iter, ifs, 0⟩] scope pos) spos) (sSet i (eComp m (own.map (·.2)) fi g tt te)) := by
  refine ps_imp (ps_setLc (g := rdG X [] (own.map (fun (p : Str × Nat) => p.2)) g) (tt := rdT X W0 [] tt) (te := rdE X W0 [] te) hc hN hy hyl hsw hi ok hg ht he hs) fun D σ H ⟨G, ms, s, h, hh, sl, q⟩ => ?_
  refine comp_read m ⟨G, ms, s, h, hh, sl, PostS.ofR sl q fun d h1 v H1 G1 ms1 e1 p1 hh1 i1 q1 => ?_⟩
  exact q1 _ H1 G1 ms1 (GLe.refl _) (pre_refl _) hh1 ((sl.mono e1 p1).set i1 np)
end
end WD
namespace WD
open PySem PySem.Spec PyProof.Rows L2
mutual
def D.und (n : Nat) : D → Bool
  | .tup xs => undL n xs
  | .lst xs => undL n xs
  | .scr xs => undL n xs
  | .dic _ xs => undL n xs
  | .loc m => decide (m < n)
  | _ => true
def undL (n : Nat) : List D → Bool
  | [] => true
  | x :: xs => x.und n && undL n xs
end
def O.und (n : Nat) : O → Bool
  | .lst xs => undL n xs
section
variable {K : PySem.W.Frag} {mg : Str → Option Value} {E : XK} {G G' : GG} {H : Hp} {ms ms' : List Addr} {h h' : Hs}
theorem get_cut {n : Nat} {a : Addr} (p : ms <+: ms') (h : ms'[n]? = some a) (hn : n < ms.length) : ms[n]? = some a := by
  obtain ⟨t, rfl⟩ := p
  rw [List.getElem?_append_left hn] at h; exact h
theorem lt_of_get {α : Type} {l : List α} {n : Nat} {a : α} (h : l[n]? = some a) : n < l.length := by
  rcases Nat.lt_or_ge n l.length with q | q
  · exact q
  · rw [List.getElem?_eq_none q] at h; cases h
mutual
theorem Is.cut (p : ms <+: ms') : ∀ (d : D) (v : V), Is K G ms' d v → d.und ms.length = true → Is K G ms d v
  | .non, _, h, _ => h
  | .bl _, _, h, _ => h
  | .int _, _, h, _ => h
  | .str _, _, h, _ => h
  | .tup xs, v, h, b => by
    obtain ⟨a, vs, h1, h2, h3⟩ := h
    exact ⟨a, vs, h1, h2, IsL.cut p xs vs h3 (by simpa [D.und] using b)⟩
  | .lst xs, v, h, b => by
    obtain ⟨a, vs, h1, h2, h3⟩ := h
    exact ⟨a, vs, h1, h2, IsL.cut p xs vs h3 (by simpa [D.und] using b)⟩
  | .scr xs, v, h, b => by
    obtain ⟨a, vs, h1, h2, h3⟩ := h
    exact ⟨a, vs, h1, h2, IsL.cut p xs vs h3 (by simpa [D.und] using b)⟩
  | .dic ks xs, v, h, b => by
    obtain ⟨a, vs, h1, h2, hl, h3⟩ := h
    exact ⟨a, vs, h1, h2, hl, IsL.cut p xs vs h3 (by simpa [D.und] using b)⟩
  | .loc n, v, h, b => by
    obtain ⟨a, h1, h2⟩ := h
    exact ⟨a, get_cut p h1 (by simpa [D.und] using b), h2⟩
theorem IsL.cut (p : ms <+: ms') : ∀ (xs : List D) (vs : List V), IsL K G ms' xs vs → undL ms.length xs = true → IsL K G ms xs vs
  | [], _, h, _ => h
  | x :: xs, vs, h, b => by
    obtain ⟨v, r, h1, h2, h3⟩ := h
    simp only [undL, Bool.and_eq_true] at b
    exact ⟨v, r, h1, Is.cut p x v h2 b.1, IsL.cut p xs r h3 b.2⟩
end
mutual
theorem Is.und : ∀ (d : D) (v : V), Is K G ms d v → d.und ms.length = true
  | .non, _, _ => rfl
  | .bl _, _, _ => rfl
  | .int _, _, _ => rfl
  | .str _, _, _ => rfl
  | .tup xs, v, h => by
    obtain ⟨a, vs, h1, h2, h3⟩ := h
    simpa [D.und] using IsL.und xs vs h3
  | .lst xs, v, h => by
    obtain ⟨a, vs, h1, h2, h3⟩ := h
    simpa [D.und] using IsL.und xs vs h3
  | .scr xs, v, h => by
    obtain ⟨a, vs, h1, h2, h3⟩ := h
    simpa [D.und] using IsL.und xs vs h3
  | .dic ks xs, v, h => by
    obtain ⟨a, vs, h1, h2, hl, h3⟩ := h
    simpa [D.und] using IsL.und xs vs h3
  | .loc n, v, h => by
    obtain ⟨a, h1, h2⟩ := h
    simpa [D.und] using lt_of_get h1
theorem IsL.und : ∀ (xs : List D) (vs : List V), IsL K G ms xs vs → undL ms.length xs = true
  | [], _, _ => rfl
  | x :: xs, vs, h => by
    obtain ⟨v, r, h1, h2, h3⟩ := h
    simp only [undL, Bool.and_eq_true]
    exact ⟨Is.und x v h2, IsL.und xs r h3⟩
end
theorem Hh.und (x : Hh K G ms h H) {i : Nat} {o : O} (e : h[i]? = some o) : o.und ms.length = true := by
  have hm : i < ms.length := by rw [x.len]; exact lt_of_get e
  have q := x.obj i ms[i] o (List.getElem?_eq_getElem hm) e
  cases o with
  | lst xs =>
    obtain ⟨vs, h1, h2, _⟩ := q
    exact IsL.und xs vs h2
theorem Hh.trunc (x : Hh K G ms' h' H) (p : ms <+: ms') (hb : ∀ (i : Nat) (o : O), i < ms.length → h'[i]? = some o → o.und ms.length = true) : Hh K G ms (h'.take ms.length) H := by
  have hl : ms.length ≤ ms'.length := p.length_le
  have sub : ∀ a ∈ ms, a ∈ ms' := fun a ha => p.subset ha
  refine ⟨x.sub, x.gsz, x.frm, fun a o e => ⟨(x.frd a o e).1, fun hm => (x.frd a o e).2 (sub a hm)⟩, ?_, ?_, fun a ha => x.dis a (sub a ha), fun n a o e1 e2 => ?_⟩
  · rw [List.length_take, ← x.len]; omega
  · obtain ⟨t, rfl⟩ := p
    exact (List.nodup_append.mp x.nd).1
  · have hn := lt_of_get e1
    rw [List.getElem?_take_of_lt hn] at e2
    have q := x.obj n a o (pre_get p e1) e2
    have b := hb n o hn e2
    cases o with
    | lst xs =>
      obtain ⟨vs, h1, h2, h3⟩ := q
      exact ⟨vs, h1, IsL.cut p _ _ h2 b, h3⟩
theorem Hh.ice (x : Hh K G ms h H) {a : Addr} {o : HO} (e : H a = some o) (g1 : G.1 a = none) (g2 : G.2 a = none) (nm : a ∉ ms) (hz : SzO o) : Hh K (gupd G a o) ms h H := by
  refine ⟨fun b u q => ?_, fun b u q => ?_, x.frm, fun b u q => ⟨?_, (x.frd b u q).2⟩, x.len, x.nd, fun b hb => ?_, fun n b u e1 e2 => (x.obj n b u e1 e2).mono (gle_upd g1) (pre_refl _) rfl⟩
  · by_cases hq : b = a
    · subst hq
      have q : upd G.1 b o b = some u := q
      rw [upd_same] at q; cases q; exact e
    · have q : upd G.1 a o b = some u := q
      rw [upd_ne hq] at q; exact x.sub b u q
  · by_cases hq : b = a
    · subst hq
      have q : upd G.1 b o b = some u := q
      rw [upd_same] at q; cases q; exact hz
    · have q : upd G.1 a o b = some u := q
      rw [upd_ne hq] at q; exact x.gsz b u q
  · show upd G.1 a o b = none
    rw [upd_ne (fun z => by have q : G.2 b = some u := q; rw [z, g2] at q; cases q)]; exact (x.frd b u q).1
  · show upd G.1 a o b = none
    rw [upd_ne (fun z => nm (by rw [← z]; exact hb))]; exact x.dis b hb
end
inductive Md where
  | trunc | keep | move
def TruncOk (n : Nat) (h h' : Hs) : Prop := ∀ (i : Nat) (o : O), i < n → h'[i]? = some o → h[i]? = some o ∨ o.und n = true
def frz1 (n : Nat) (h' : Hs) (d : D) : Option D := if d.und n = true then some d else match d with
  | .loc m => match locAt h' m with
    | some xs => if undL n xs = true then some (.lst xs) else none
    | none => none
  | _ => none
open Classical in
noncomputable def exitT (h : Hs) (d : D) (h' : Hs) : R D := if TruncOk h.length h h' then (match frz1 h.length h' d with
  | some d' => .ok d' (h'.take h.length)
  | none => .bad) else .bad
open Classical in
noncomputable def exitM (h : Hs) (m : Nat) (h' : Hs) : R D := if TruncOk h.length h h' ∧ h.length ≤ m then (match locAt h' m with
  | some xs => if undL h.length xs = true then .ok (.loc h.length) (h'.take h.length ++ [.lst xs]) else .bad
  | none => .bad) else .bad
noncomputable def exitF (md : Md) (h : Hs) (d : D) (h' : Hs) : R D := match md with
  | .keep => .ok d h'
  | .trunc => exitT h d h'
  | .move => match d with
    | .loc m => exitM h m h'
    | _ => exitT h d h'
open Classical in
noncomputable def exitX (h : Hs) (x : Xn) (h' : Hs) : R D := if TruncOk h.length h h' ∧ (∀ f d, x.val = some (f, d) → d.und h.length = true) then .err x (h'.take h.length) else .bad
noncomputable def runF (n N : Nat) (md : Md) (b : FS) : List D → Hs → R D := fun ds h => if ds.length = n then (match b (ds.map some ++ List.replicate (N - n) none) h with
  | .nx _ h' => exitF md h .non h'
  | .rt d h' => exitF md h d h'
  | .er x _ h' => exitX h x h'
  | _ => .bad) else .bad
/-- a def's promise: it does what g says -/
def spF (K : PySem.W.Frag) (mg : Str → Option Value) (n : Nat) (g : List D → Hs → R D) : Sp := fun vs H Q E => vs.length = n ∧ ∃ G ms ds h, Hh K G ms h H ∧ IsL K G ms ds vs ∧ Post K mg E G ms (Is K) (g ds h) Q
section
variable {K : PySem.W.Frag} {mg : Str → Option Value} {E : XK} {G G' : GG} {H H' : Hp} {ms ms' : List Addr} {h h' : Hs}
theorem trunc_ok (x : Hh K G ms h H) (x' : Hh K G' ms' h' H') (p : ms <+: ms') (t : TruncOk h.length h h') : Hh K G' ms (h'.take h.length) H' := by
  rw [← x.len] at t ⊢
  refine x'.trunc p fun i o hi e => ?_
  rcases t i o hi e with q | q
  · exact x.und q
  · exact q
theorem exitT_post {d : D} {v : V} {Q : VK} (x : Hh K G ms h H) (e : GLe G G') (p : ms <+: ms') (x' : Hh K G' ms' h' H') (i : Is K G' ms' d v) (q : Post K mg E G ms (Is K) (exitT h d h') Q) : Q v H' := by
  unfold exitT at q
  split at q
  · rename_i t
    have xt := trunc_ok x x' p t
    unfold frz1 at q
    split at q
    · rename_i d' ed
      split at ed
      · rename_i hb
        cases ed
        exact q.fin2 e (pre_refl _) xt (Is.cut p _ _ i (by rw [x.len]; exact hb))
      · split at ed
        · rename_i m hb
          split at ed
          · rename_i xs ex
            split at ed
            · rename_i hx
              cases ed
              obtain ⟨a, vs, e1, e2, e3, e4⟩ := x'.locW i ex
              subst e1
              have g1 := x'.dis a (List.mem_of_getElem? e2)
              have g2 : G'.2 a = none := by
                cases z : G'.2 a with
                | none => rfl
                | some u => exact absurd (List.mem_of_getElem? e2) (x'.frd a u z).2
              have nm : a ∉ ms := fun hm => by
                obtain ⟨j, hj⟩ := List.getElem?_of_mem hm
                have := nd_ix x'.nd (pre_get p hj) e2
                subst this
                exact hb (by simpa [D.und, x.len] using lt_of_get hj)
              refine q.fin2 (e.trans (gle_upd g1)) (pre_refl _) (xt.ice e3 g1 g2 nm (show vs.length ≤ sizeLine by rw [← e4.length]; exact x'.atz (locAt_some ex))) ⟨a, vs, rfl, upd_same, ?_⟩
              exact IsL.mono (gle_upd g1) (pre_refl _) _ _ (IsL.cut p _ _ e4 (by rw [x.len]; exact hx))
            · cases ed
          · cases ed
        · cases ed
    · exact q.elim
  · exact q.elim
theorem exitM_post {m : Nat} {v : V} {Q : VK} (x : Hh K G ms h H) (e : GLe G G') (p : ms <+: ms') (x' : Hh K G' ms' h' H') (i : Is K G' ms' (.loc m) v) (q : Post K mg E G ms (Is K) (exitM h m h') Q) : Q v H' := by
  unfold exitM at q
  split at q
  · rename_i t
    have xt := trunc_ok x x' p t.1
    split at q
    · rename_i xs ex
      split at q
      · rename_i hx
        obtain ⟨a, vs, e1, e2, e3, e4⟩ := x'.locW i ex
        subst e1
        have e4' := IsL.cut p _ _ e4 (by rw [x.len]; exact hx)
        have hz := x'.atz (locAt_some ex)
        have nm : a ∉ ms := fun hm => by
          obtain ⟨j, hj⟩ := List.getElem?_of_mem hm
          have := nd_ix x'.nd (pre_get p hj) e2
          subst this
          have := lt_of_get hj
          rw [x.len] at this
          omega
        have hl : (h'.take h.length).length = ms.length := xt.len.symm
        have pp : ms <+: ms ++ [a] := ⟨[a], rfl⟩
        refine q.fin2 (ms' := ms ++ [a]) e pp ?_ ⟨a, by rw [← x.len]; simp, rfl⟩
        refine ⟨xt.sub, xt.gsz, xt.frm, fun b u z => ⟨(xt.frd b u z).1, fun hm => ?_⟩, by simp [hl], ?_, fun b hb => ?_, fun n b u e1 e2' => ?_⟩
        · rcases List.mem_append.mp hm with w | w
          · exact (xt.frd b u z).2 w
          · have : b = a := by simpa using w
            subst this
            exact (x'.frd b u z).2 (List.mem_of_getElem? e2)
        · refine List.nodup_append.mpr ⟨xt.nd, by simp, fun b hb c hc => ?_⟩
          have : c = a := by simpa using hc
          subst this
          exact fun z => nm (by rw [← z]; exact hb)
        · rcases List.mem_append.mp hb with w | w
          · exact xt.dis b w
          · have : b = a := by simpa using w
            subst this
            exact x'.dis _ (List.mem_of_getElem? e2)
        · by_cases hn : n < ms.length
          · rw [List.getElem?_append_left hn] at e1
            rw [List.getElem?_append_left (by rw [hl]; exact hn)] at e2'
            exact (xt.obj n b u e1 e2').mono (GLe.refl _) pp rfl
          · have hn' : n = ms.length := by
              have := lt_of_get e1
              simp at this; omega
            subst hn'
            simp at e1
            rw [← hl] at e2'
            simp at e2'
            subst e1 e2'
            exact ⟨vs, e3, IsL.mono (GLe.refl _) pp _ _ e4', hz⟩
      · exact q.elim
    · exact q.elim
  · exact q.elim
theorem exitF_post {md : Md} {d : D} {v : V} {Q : VK} (x : Hh K G ms h H) (e : GLe G G') (p : ms <+: ms') (x' : Hh K G' ms' h' H') (i : Is K G' ms' d v) (q : Post K mg E G ms (Is K) (exitF md h d h') Q) : Q v H' := by
  cases md with
  | keep => exact q.fin2 e p x' i
  | trunc => exact exitT_post x e p x' i q
  | move =>
    cases d with
    | loc m => exact exitM_post x e p x' i q
    | _ => exact exitT_post x e p x' i q
theorem exitX_post {y : Xn} {d : Option Addr} {Q : VK} (x : Hh K G ms h H) (e : GLe G G') (p : ms <+: ms') (x' : Hh K G' ms' h' H') (i : XIs K G' ms' H' y d) (q : Post K mg E G ms (Is K) (exitX h y h') Q) : E (clsV mg y) d H' := by
  unfold exitX at q
  split at q
  · rename_i t
    have xt := trunc_ok x x' p t.1
    refine q H' G' ms d e (pre_refl _) xt ?_
    unfold XIs at i ⊢
    cases ev : y.val with
    | none => rw [ev] at i; exact i
    | some fd =>
      obtain ⟨f, dd⟩ := fd
      rw [ev] at i
      obtain ⟨a, v, k1, k2, k3⟩ := i
      exact ⟨a, v, k1, k2, Is.cut p _ _ k3 (by rw [x.len]; exact t.2 f dd ev)⟩
  · exact q.elim
theorem map_start {N : List Str} {ds : List D} {vs : List V} (i : IsL K G ms ds vs) : Sl K G ms [] (ds.map some ++ List.replicate (N.length - ds.length) none) (start N vs) := by
  unfold L2.start
  have hl := i.length
  refine ⟨by simp [hl], fun j d e => ?_, fun _ h => (nomatch h)⟩
  by_cases hj : j < ds.length
  · rw [List.getElem?_append_left (by simpa using hj), List.getElem?_map] at e
    cases ed : ds[j]? with
    | none => rw [ed] at e; cases e
    | some d' =>
      rw [ed] at e
      cases e
      obtain ⟨v, k1, k2⟩ := i.get ed
      refine ⟨v, ?_, k2⟩
      rw [List.getElem?_append_left (by rw [List.length_map, ← hl]; exact hj), List.getElem?_map, k1]
      rfl
  · rw [List.getElem?_append_right (by simpa using hj)] at e
    have := List.mem_of_getElem? e
    have := List.eq_of_mem_replicate this
    cases this
end
section
variable {P : Program} {w : World} {K : PySem.W.Frag} {mg : Str → Option Value} {base : Heap}
/-- THE RULE for a def -/
theorem fn_ok (md : Md) {x qual : Str} {st : Stmt} {f : Addr} {fd : FuncData} {N ps : List Str} {k : Nat} {b : FS} (F : Fun K x qual st f fd) (S : FnScope N ps (defScope st))
    (hb : ∀ (cdv : Value) (A : Around) (outer : List Env) (s : Shared) (H : Hp) (E : XK), Room k (A.deeper (envOfC qual (defScope st) s.heap.objs.size f cdv)) → VSs (cxOf (L2.CX P w) P w K mg base N qual (defScope st) f cdv A outer s H E) (fun cls d _ H => E cls d H) [] (defBody st) b) :
    FnOk P w K mg base (L2.CX P w) (k + 1) f fd ps (spF K mg ps.length (runF ps.length N.length md b)) := by
  refine F.okX S (fun vs H Q E h => h.1) (fun cdv A outer s H vs Q E hr h => ?_)
  obtain ⟨hl, G, ms, ds, h, hh, i, q⟩ := h
  refine ⟨_, hb cdv A outer s H E hr, G, ms, _, h, hh, map_start (N := N) i, ?_⟩
  have hd : ds.length = ps.length := by rw [i.length]; exact hl
  unfold runF at q
  rw [if_pos hd] at q
  rw [hd]
  cases e : b (ds.map some ++ List.replicate (N.length - ps.length) none) h with
  | nx s' h' =>
    rw [e] at q
    exact fun σ' H' G' ms' e1 p1 hh1 sl1 => exitF_post (d := .non) hh e1 p1 hh1 rfl q
  | rt d h' =>
    rw [e] at q
    exact fun v H' G' ms' e1 p1 hh1 i1 => exitF_post hh e1 p1 hh1 i1 q
  | er y s' h' =>
    rw [e] at q
    exact fun σ' H' G' ms' d e1 p1 hh1 _ i1 => exitX_post hh e1 p1 hh1 i1 q
  | bk s' h' => rw [e] at q; exact q.elim
  | ct s' h' => rw [e] at q; exact q.elim
  | bad => rw [e] at q; exact q.elim
end
section
variable {X : Cx} {W : WX} {pin : List Pn} {pos p : Pos}
def eCall (n : Nat) (g : List D → Hs → R D) (f : FA) : FE := fun s h => (f s h).bind fun ds h1 => if ds.length = n then g ds h1 else .bad
theorem ve_call {k n : Nat} {f : Addr} {fd : FuncData} {ps : List Str} {x : Str} {e : Expr} {es : List Expr} {g : List D → Hs → R D} {fa : FA} (F : FnOk X.prog X.w X.K X.mg X.base (L2.CX X.prog X.w) k f fd ps (spF X.K X.mg n g)) (hr : Room k X.A) (hg : Gl X x) (hm : X.mg x = some (.ref f)) (hk : PySem.W.keepIn X.K (.ref f) = true) (hb : Binds X.K fd ps []) (tk : Takes X W)
    (ha : VA X W pin (e :: es) fa) (hdb : (x == ("__debug__" : Str)) = false := by decide) (he : starEach (e :: es) X.env = (false, eval e X.env) :: starEach es X.env := by rfl) (hpl : (backTo pos (starEach es X.env)).any (·.1) = false := by rfl) :
    VE X W pin (.Call (.Name x p) (e :: es) [] pos) (eCall n g fa) := by
  refine pe_imp (pe_callS F hr hg hm hk hb (fun σ => passAt tk σ) ha hdb he hpl) fun σ H Q ⟨G, ms, s, h, hh, sl, q⟩ => ⟨G, ms, s, h, hh, sl, Post.bind q fun ds h1 vs H1 G1 ms1 e1 p1 hh1 i1 q1 => ?_⟩
  by_cases hn : ds.length = n
  · rw [if_pos hn] at q1
    exact ⟨by rw [← i1.length]; exact hn, G1, ms1, ds, h1, hh1, i1, q1⟩
  · rw [if_neg hn] at q1; exact q1.elim
end
/-- the law's own promise -/
def spL (K : PySem.W.Frag) (g : List D → Hs → R D) : Sp := fun vs H Q _ => spF K (fun _ => none) 1 g vs H Q fun _ _ _ => False
theorem spL_imp {K : PySem.W.Frag} {mg : Str → Option Value} {g : List D → Hs → R D} {vs : List V} {H : Hp} {Q : VK} {E : XK} (q : spL K g vs H Q E) : spF K mg 1 g vs H Q E := by
  obtain ⟨hl, G, ms, ds, h, hh, i, q⟩ := q
  refine ⟨hl, G, ms, ds, h, hh, i, ?_⟩
  cases e : g ds h with
  | ok d h' => rw [e] at q; exact q
  | err x h' => rw [e] at q; exact fun H' G' ms' d h1 h2 h3 h4 => (q H' G' ms' d h1 h2 h3 h4).elim
  | bad => rw [e] at q; exact q
end WD
namespace WD
open PySem PySem.Spec PyProof.Rows L2
def sRaise (name : Str) : FS := fun s h => .er ⟨name, none⟩ s h
abbrev veBm : List Value := [.type "ValueError", .type "Exception", .type "BaseException", .type "object"]
/-- what is known of an own error's class -/
structure Xc (K : PySem.W.Frag) (mg : Str → Option Value) (x : Str) (C : Addr) : Prop where
  g : mg x = some (.ref C)
  q : PySem.W.excIn K C veBm "ValueError.__new__" = true
  k : PySem.W.keepIn K (.ref C) = true
  b : PySem.W.subIn K (.ref C) (.type "BaseException") = some true
  t : PySem.W.typeIn K (.ref C) = some (.type "type")
section
variable {X : Cx} {W : WX} {pin : List Pn} {pos : Pos}
theorem pmk_own0 {x : Str} {p : Pos} {C : Addr} (c : Xc X.K X.mg x C) (hg : Gl X x) (hdb : (x == ("__debug__" : Str)) = false := by decide) : PMk X (.Call (.Name x p) [] [] pos) (fun _ H Q => Q (.ref C) none H) := by
  intro pins s σ H Q I h
  refine wpAny_Call_Name_kw (ld_glob I hg c.g ?_ hdb)
  refine PySem.W.callWith_K0 I.kIn c.k ?_
  obtain ⟨bm, N, nm, qn, bs, hdct, sn, sub, ab, col, dd, k0, k1, k2, k3, k5, mN, hC, hN, hni, T⟩ := exc_obj I.kIn c.q
  refine wpAny_call_exc_subT PySem.F.excBase_ValueError T hC hN hni (fun h' e hm => ?_) (Nat.zero_le _)
  exact mk_of I hm (raises_own c.b c.t) h (I.hok.gone hm.new)
theorem vs_raise {x : Str} {p pos' : Pos} {C : Addr} (c : Xc X.K X.mg x C) (hg : Gl X x) (hc : X.calm = true) (tk : Takes X W) (hdb : (x == ("__debug__" : Str)) = false := by decide) : VS X W pin (.Raise (some (.Call (.Name x p) [] [] pos')) none pos) (sRaise x) := by
  refine ps_imp (ps_raise hc tk (pmk_own0 c hg hdb)) fun D σ H ⟨G, ms, s, h, hh, sl, q⟩ => ?_
  have e : clsV X.mg ⟨x, none⟩ = .ref C := by unfold clsV; rw [c.g]; rfl
  have := q σ H G ms none (GLe.refl _) (pre_refl _) hh sl rfl
  rw [e] at this
  exact this
end
/-- every error is a DaysError and a ValueError -/
def subX (y c : Str) : Bool := decide (y = c) || decide (c = "DaysError") || decide (c = "ValueError")
def unset (i : Nat) (r : RS) : RS := match r with
  | .nx s h => .nx (s.set i none) h
  | .bk s h => .bk (s.set i none) h
  | .ct s h => .ct (s.set i none) h
  | .rt d h => .rt d h
  | _ => .bad
def sTry (c : Str) (i : Nat) (names : List Str) (fb : FS) (fs : Str → FS) : FS := fun s h => match fb s h with
  | .er y s' h' => if y.val.isNone = true ∧ y.name ∈ names ∧ i < s'.length then (if subX y.name c = true then unset i (fs y.name (s'.set i none) h') else .er y s' h') else .bad
  | r => r
section
variable {X : Cx} {W : WX} {pin : List Pn} {pos : Pos} {K : PySem.W.Frag} {G : GG} {ms : List Addr}
theorem Sl.setPin {s : Ss} {σ : L2.St} {i : Nat} {v : V} (x : Sl K G ms pin s σ) (np : NotPin pin i) (hi : i < σ.length) : Sl K G ms (.s i v :: pin) (s.set i none) (σ.set i (some v)) := by
  refine ⟨by simp [x.len], fun j d e => ?_, fun p hp => ?_⟩
  · by_cases hj : j = i
    · subst hj
      rw [List.getElem?_set_self (by rw [x.len]; exact hi)] at e
      cases e
    · rw [List.getElem?_set_ne (Ne.symm hj)] at e ⊢
      exact x.get j d e
  · rcases List.mem_cons.mp hp with rfl | hp
    · exact List.getElem?_set_self hi
    · exact (x.pin p hp).set (np p hp)
theorem Sl.unPin {s : Ss} {σ : L2.St} {i : Nat} {v : V} (x : Sl K G ms (.s i v :: pin) s σ) (np : NotPin pin i) : Sl K G ms pin (s.set i none) (σ.set i none) := by
  refine ⟨by simp [x.len], fun j d e => ?_, fun p hp => ?_⟩
  · by_cases hj : j = i
    · subst hj
      have hl := lt_of_get e
      simp at hl
      rw [List.getElem?_set_self hl] at e
      cases e
    · rw [List.getElem?_set_ne (Ne.symm hj)] at e ⊢
      exact x.get j d e
  · exact (x.pin p (List.mem_cons_of_mem _ hp)).set (np p hp)
/-- try: body; except c as n: suite -/
theorem vs_try (i : Nat) (names : List Str) {x n : Str} {body suite : List Stmt} {b0 : Stmt} {np pos' : Pos} {fb : FS} {fs : Str → FS} {C : Addr} (hs : X.stack = X.env :: X.outer) (hf : X.env.frame = some X.env.locals) (hN : X.N.Nodup) (hg : Gl X x) (hm : X.mg x = some (.ref C)) (tk : Takes X W)
    (hex : ∀ y ∈ names, PySem.W.exmOne X.K (clsV X.mg ⟨y, none⟩) (.ref C) = some (subX y x))
    (hb : ∀ (W : WX) (pn : List (Addr × Obj)) (xe : Value → Shared → Prop), Takes (X.tr pn xe) W → PassesOwn (model X.prog X.w) X.A X.env xe → VSs (X.tr pn xe) W pin body fb)
    (hsu : ∀ (a : Addr) (oe : Obj) (y : Str) (pn : List (Addr × Obj)), y ∈ names → Zc (clsV X.mg ⟨y, none⟩) none oe → (∃ vs, oe.data = .fields vs) → VSs (X.suite a ((a, oe) :: pn)) W0 (.s i (.ref a) :: pin) (b0 :: suite) (fs y))
    (hi : X.N[i]? = some n := by rfl) (hln : X.env.kindOf n = some .local := by rfl) (npn : NotPin pin i := by first | exact notPin_nil | decide) (hdb : (x == ("__debug__" : Str)) = false := by decide) :
    VS X W pin (.Try body [.ExceptHandler (some (.Name x np)) (some n) (b0 :: suite) pos'] [] [] pos) (sTry x i names fb fs) := by
  refine ⟨fun pins s σ H D I hq => ?_⟩
  have hlen := I.len
  have hil : i < σ.length := by rw [hlen]; exact lt_of_get hi
  refine (ps_try_as (tb := fun W => rdS X W pin fb) (ts := fun a cls d D σ H => ∃ y, y ∈ names ∧ cls = clsV X.mg ⟨y, none⟩ ∧ d = none ∧ rdS X W0 (.s i (.ref a) :: pin) (fs y) D σ H) hs hf hN hi hln ⟨hg, hdb, .inl hm⟩ tk hb ?_).run pins s σ H D I ?_
  · intro a oe cls d pn hz hfl
    refine ⟨fun pins s σ H D I hq => ?_⟩
    obtain ⟨y, hy, rfl, rfl, hq⟩ := hq
    exact (hsu a oe y pn hy hz hfl).run pins s σ H D I hq
  · obtain ⟨G, ms, s, h, hh, sl, q⟩ := hq
    refine ⟨G, ms, s, h, hh, sl, ?_⟩
    unfold sTry at q
    cases e : fb s h with
    | nx s' h' => rw [e] at q; exact q
    | rt d h' => rw [e] at q; exact q
    | bk s' h' => rw [e] at q; exact q
    | ct s' h' => rw [e] at q; exact q
    | bad => rw [e] at q; exact q
    | er y s' h' =>
      rw [e] at q
      dsimp only at q
      split at q
      · rename_i hy
        obtain ⟨yn, yv⟩ := y
        have hv : yv = none := by
          cases yv with
          | none => rfl
          | some _ => cases hy.1
        subst hv
        intro σ' H' G' ms' d e1 p1 hh1 sl1 xi
        have hd : d = none := xi
        subst hd
        refine ⟨_, hex yn hy.2.1, fun hbt a ha => ?_, fun hbf => ?_⟩
        · rw [if_pos hbt] at q
          have hl' : i < σ'.length := by
            rw [← sl1.len]; exact hy.2.2
          refine ⟨yn, hy.2.1, rfl, rfl, G', ms', s'.set i none, h', hh1, sl1.setPin npn hl', ?_⟩
          have q' := PostS.mono (σ' := σ'.set i (some (.ref a))) (r := unset i (fs yn (s'.set i none) h')) q e1 p1
          cases er : fs yn (s'.set i none) h' with
          | nx s2 h2 => rw [er] at q'; exact fun σ2 H2 G2 ms2 e2 p2 hh2 sl2 => q' _ H2 G2 ms2 e2 p2 hh2 (sl2.unPin npn)
          | bk s2 h2 => rw [er] at q'; exact fun σ2 H2 G2 ms2 e2 p2 hh2 sl2 => q' _ H2 G2 ms2 e2 p2 hh2 (sl2.unPin npn)
          | ct s2 h2 => rw [er] at q'; exact fun σ2 H2 G2 ms2 e2 p2 hh2 sl2 => q' _ H2 G2 ms2 e2 p2 hh2 (sl2.unPin npn)
          | rt d h2 => rw [er] at q'; exact q'
          | er z s2 h2 => rw [er] at q'; exact q'.elim
          | bad => rw [er] at q'; exact q'
        · rw [if_neg (by rw [hbf]; decide)] at q
          exact q σ' H' G' ms' none e1 p1 hh1 sl1 rfl
      · exact q.elim
/-- isinstance(n, c) of the caught error -/
theorem ve_isE {a Dc : Addr} {oe : Obj} {pn : List (Addr × Obj)} (i : Nat) {n x : Str} {cv : Value} {c : V} {b : Bool} {p p1 p2 : Pos} (C : ExcC X.K Dc) (hz : Zc (.ref Dc) none oe) (hf : ∃ vs, oe.data = .fields vs) (hk : PySem.W.kitOne X.K (.ref Dc) cv = some b) (hcv : ∀ u, RelV c u → u = cv)
    (hx : PE (X.suite a ((a, oe) :: pn)) (.Name x p2) (tC c)) (hp : Pn.s i (V.ref a) ∈ pin) (hgi : Gl X "isinstance") (hmi : X.mg "isinstance" = none) (hN : X.N[i]? = some n := by rfl) (hv : Vis X.env.scope n := by first | exact Or.inl rfl | exact Or.inr (Or.inl rfl) | exact Or.inr (Or.inr rfl))
    (hd : (n == ("__debug__" : Str)) = false := by decide) (hcd : (n == ("__classdict__" : Str)) = false := by decide)
    (hs1 : starEach [.Name n p1, .Name x p2] X.env = (false, eval (.Name n p1) X.env) :: starEach [.Name x p2] X.env := by rfl) (hs2 : starEach [.Name x p2] X.env = (false, eval (.Name x p2) X.env) :: starEach [] X.env := by rfl) (hpl : (backTo pos (starEach [.Name x p2] X.env)).any (·.1) = false := by rfl) :
    VE (X.suite a ((a, oe) :: pn)) W pin (.Call (.Name "isinstance" p) [.Name n p1, .Name x p2] [] pos) (eC (.bl b)) := by
  refine pe_imp (pe_callB (call_isE C hz hf) hgi hmi (by decide +kernel) (pa_cons (pe_var (X := X.suite a ((a, oe) :: pn)) (i := i) hN hv hd hcd) (pa_cons hx pa_nil hs2) hs1) (by decide) (by decide) hs1 hpl) fun σ H Q ⟨G, ms, s, h, hh, sl, q⟩ => ?_
  refine ⟨.ref a, sl.pin _ hp, ?_⟩
  exact ⟨c, cv, b, rfl, hcv, hk, Post.fin (b := V.bl b) q hh rfl⟩
end
end WD
namespace WD
open PySem PySem.Spec PyProof.Rows L2
section
variable {X : Cx} {W : WX} {pin : List Pn} {K : PySem.W.Frag} {mg : Str → Option Value} {E : XK} {G G' : GG} {H : Hp} {ms ms' : List Addr} {h : Hs} {pos : Pos}
theorem Post.newD {ks : List Key} {xs : List D} {vs : List V} {Q : VK} {p : Addr} (q : Post K mg E G ms (Is K) (.ok (.dic ks xs) h) Q) (hh : Hh K G ms h H) (i : IsL K G ms xs vs) (hl : ks.length = vs.length) (hp : H p = none) : Q (.ref p) (upd H p (.dK (ks.zip vs))) := by
  have eg : GLe G (gupd G p (.dK (ks.zip vs))) := gle_upd (hh.gnone hp)
  exact q.fin2 eg (pre_refl _) (hh.still hp trivial) ⟨p, vs, rfl, upd_same, hl, IsL.mono eg (pre_refl _) _ _ i⟩
theorem ve_dict0 : VE X W pin (.Dict [] [] pos) (eC (.dic [] [])) :=
  pe_imp pe_dnewK fun σ H Q ⟨G, ms, s, h, hh, sl, q⟩ p hp => Post.newD (vs := []) q hh rfl rfl hp
theorem upd_upd {H : Hp} {p : Addr} {o o' : HO} : upd (upd H p o) p o' = upd H p o' := by
  funext a
  by_cases hz : a = p
  · subst hz; rw [upd_same, upd_same]
  · rw [upd_ne hz, upd_ne hz, upd_ne hz]
theorem ve_dict1 {i j : Int} {a b : Nat} {p1 p2 : Pos} : VE X W pin (.Dict [some (.Constant (.int i) a p1)] [.Constant (.int j) b p2] pos) (eC (.dic [.inl i] [.int j])) :=
  pe_imp (pe_disp (pps_cons pe_int pe_int pps_nil) rfl rfl (by simp) (by simp)) fun σ H Q ⟨G, ms, s, h, hh, sl, q⟩ p hp => by
    refine ⟨upd_same, [(.inl i, .int j)], rfl, by simp, ?_⟩
    rw [upd_upd]
    exact Post.newD (vs := [.int j]) q hh ⟨_, _, rfl, rfl, rfl⟩ rfl hp
end
end WD
namespace WD
open PySem PySem.Spec PyProof.Rows L2
set_option maxHeartbeats 1000000 in
theorem enum_new1 {v : Value} {o : Obj} {Z : Heap → Prop} (B : Begins v o Z) :
    Meets (Builtin.«enumerate.__new__» ⟨[.type "enumerate", v], []⟩) (fun _ R s => Z s.heap ∧
      R (.ok (.ret (.ref (s.heap.push o).objs.size))) { s with heap := (s.heap.push o).push { cls := .type "enumerate", data := .fields #[.none, .bool false, .ref s.heap.objs.size, rawInt 0, .none, .none] } }) :=
  .of_wp fun prog w A R s h => by
    obtain ⟨hp, gs, dr, tk, os⟩ := s
    obtain ⟨h1, h⟩ := h
    have hsub := sub_enumerate
    have q1 : ∀ {A' : Around} {E : Value → Shared → Prop} {Q : Value → Shared → Prop}, Q (.ref hp.objs.size) ⟨hp.push o, gs, dr, tk, os⟩ → wpAny (model prog w) A' (pyIter v) Q E ⟨hp, gs, dr, tk, os⟩ :=
      fun q => B.iter prog w _ _ ⟨hp, gs, dr, tk, os⟩ _ h1 q
    wp_walk using q1
    refine wpAny_stack_any fun st => wpAny_pure ?_
    split
    · rename_i c _ _ _ _ _
      cases (c == Value.type "enumerate") <;> (wp_walk using q1; exact ⟨_, rfl, h⟩)
    · wp_walk using q1
      exact ⟨_, rfl, h⟩
theorem enum_call1 {prog : Program} {w : World} {A : Around} {E : Value → Shared → Prop} {s : Shared} {v : Value} {o : Obj} {Z : Heap → Prop} {Q : Value → Shared → Prop} (B : Begins v o Z) (h1 : Z s.heap)
    (h : ∀ h', IsEnum h' (s.heap.objs.size + 1) s.heap.objs.size 0 .none → h'.get? s.heap.objs.size = some o → (∀ b o, s.heap.get? b = some o → h'.get? b = some o) → Q (.ref (s.heap.objs.size + 1)) { s with heap := h' }) :
    wpAny (model prog w) A (call (.type "enumerate") [v]) Q E s := by
  refine callType_new F.called_enumerate (by decide) (F.typeCall_enumerate_1 _) (F.newCall_enumerate_1 _) (fun obj => F.args_object_init_2 obj _) F.entry_enumerate_new (enum_new1 B) ⟨h1, ?_⟩
  have hz : (s.heap.push o).objs.size = s.heap.objs.size + 1 := Heap.size_push ..
  show _ ∧ _
  rw [hz]
  have he : IsEnum ((s.heap.push o).push { cls := .type "enumerate", data := .fields #[.none, .bool false, .ref s.heap.objs.size, rawInt 0, .none, .none] }) (s.heap.objs.size + 1) s.heap.objs.size 0 .none := by
    have q := Heap.get?_push_size (s.heap.push o) (o := { cls := .type "enumerate", data := .fields #[.none, .bool false, .ref s.heap.objs.size, rawInt 0, .none, .none] }) rfl
    rw [hz] at q; exact q
  exact ⟨⟨_, he, rfl⟩, h _ he (Heap.get?_push_of_some _ (Heap.get?_push_size _ B.free)) fun b o x => Heap.get?_push_of_some _ (Heap.get?_push_of_some _ x)⟩
/-- the tuple at a, each item in a new pair -/
def IteT (K : PySem.W.Frag) (a : Addr) : It :=
  ⟨fun i H => ∃ (xs : List V) (x : V), SqT K H a xs ∧ xs[i]? = some x, fun i H v H' => ∃ T x, v = .ref T ∧ H T = none ∧ H' = upd H T (.tup [.int (i : Nat), x]) ∧ ∀ xs, SqT K H a xs → xs[i]? = some x, fun i H => ∃ xs : List V, SqT K H a xs ∧ xs.length = i⟩
theorem turn_enumT {P : Program} {w : World} {K : PySem.W.Frag} {elts : List Expr} {kk : Nat} {tpos : Pos} (a e it : Addr) :
    Turn P w K (.Tuple elts kk tpos) (IteT K a) [e, it] e (fun i h => (∃ old, IsEnum h e it ((i : Nat) : Int) old) ∧ h.IsTupleIter it a i ∧ e ≠ it ∧ a ≠ it ∧ a ≠ e) where
  mem := List.mem_cons_self
  obj := fun i h st b hb => by
    obtain ⟨⟨old, he⟩, ⟨o, ho, hc, hd⟩, _⟩ := st
    rcases (show b = e ∨ b = it by simpa using hb) with rfl | rfl
    · exact ⟨_, he, fun v q => nomatch q⟩
    · exact ⟨o, ho, fun v q => by rw [hd] at q; cases q⟩
  keep := fun i h h' st k => let ⟨⟨old, he⟩, hi, hne⟩ := st; ⟨⟨old, k e (by simp) _ he⟩, hi.at fun o q => k it (by simp) o q, hne⟩
  item := by
    intro X hP hw hK hc i pins s σ H E I hf st hg
    subst hP hw hK
    obtain ⟨⟨old, he⟩, hit, hne, hai, hae⟩ := st
    obtain ⟨xs, x, hq, hx⟩ := hg
    obtain ⟨its, rv, p, hz⟩ := I.tuple hq
    obtain ⟨u, hu, ru⟩ := rv.get hx
    have hel : e < s.heap.objs.size := Heap.lt_size he
    have hil : it < s.heap.objs.size := by obtain ⟨_, q, _⟩ := hit; exact Heap.lt_size q
    have hlt : i < its.toArray.size := by
      rcases Nat.lt_or_ge i its.length with z | z
      · simpa using z
      · rw [List.getElem?_eq_none z] at hu; cases hu
    refine wpAny_pyNext_enum_itemC (Draws.tuple (A := X.A.in1) (I.ok.hd hc) it a hai its.toArray) he ⟨hit, p⟩ hlt hne (by simp; exact ⟨hne, Ne.symm hae⟩) fun x' h' tk hPx ho st' hT hsz hk => ?_
    have hxu : x' = u := by
      have h2 : its[i]? = some x' := by simpa using hPx
      rw [hu] at h2
      exact (Option.some.inj h2).symm
    subst hxu
    refine ⟨_, rfl, wpAny_letOwnedTupleGo_enum (s := { s with heap := h', toks := tk + 1 }) ho fun h'' he' sb => ?_⟩
    have hT2 : h''.get? s.heap.objs.size = some { cls := .type "tuple", data := .seq #[.int i tk, x'] } := (sb.2 _ (Nat.ne_of_gt hel)).trans hT
    have new : ObjOk X.prog X.w (upd H s.heap.objs.size (.tup [.int (i : Nat), x])) h'' s.heap.objs.size (.tup [.int (i : Nat), x]) :=
      ⟨show 2 ≤ sizeLine by decide, [.int i tk, x'], .cons ⟨_, rfl⟩ (.cons ru .nil), ⟨_, hT2, rfl, _, rfl⟩⟩
    have I1 : Inv X pins σ (upd H s.heap.objs.size (.tup [.int (i : Nat), x])) { s with heap := h'', toks := tk + 1 } :=
      I.turnedNew (ch := [e, it]) (fun b ob hb q => (sb.2 b (fun z => hb (by simp [z]))).trans (hk b ob (fun z => hb (by simp [z])) (fun z => hb (by simp [z])) q)) hf (Nat.le_refl _) new
    refine ⟨.ref s.heap.objs.size, _, I1, rfl, ⟨_, x, rfl, I.hok.fresh (Nat.le_refl _), rfl, fun ys hy => by rw [I.tuple_inj hy hq]; exact hx⟩, ⟨⟨x', ?_⟩, st'.1.at fun o q => (sb.2 it (Ne.symm hne)).trans q, hne, hai, hae⟩, fun b hb => ?_⟩
    · rw [show ((i + 1 : Nat) : Int) = (i : Int) + 1 by omega]; exact he'
    · have hb' : b < s.heap.objs.size := by
        rcases (show b = e ∨ b = it by simpa using hb) with rfl | rfl
        · exact hel
        · exact hil
      rw [upd_ne (Nat.ne_of_lt hb')]
      exact (hf b hb).1
  done := by
    intro X hP hw hK hc i pins s σ H E I hf st hg
    subst hP hw hK
    obtain ⟨⟨old, he⟩, hit, hne, hai, hae⟩ := st
    obtain ⟨xs, hq, hx⟩ := hg
    obtain ⟨its, rv, p, hz⟩ := I.tuple hq
    obtain ⟨f0, f1, f2, f3, f4, f5⟩ := hf it (by simp)
    have hl : its.toArray.size = i := by have := rv.length; simp; omega
    exact wpAny_pyNext_enum_endD (Draws.tuple (A := X.A.in1) (I.ok.hd hc) it a hai its.toArray) he (by rw [hl]; exact ⟨hit, p⟩) fun h' eb => ⟨rfl, I.turned (t' := s.toks) (fun b o hb q => eb b o hb q) f0 f1 f3 f4 f5⟩
  self := fun A i s Q E st h => let ⟨⟨_, he⟩, _⟩ := st; wpAny_pyIter_enum he h
section
variable {X : Cx} {W : WX} {pin : List Pn} {K : PySem.W.Frag} {mg : Str → Option Value} {E : XK} {G G' : GG} {H : Hp} {ms ms' : List Addr} {h : Hs} {pos : Pos}
/-- enumerate of a list or a tuple -/
def iEnumA (K : PySem.W.Frag) (ta : TA) : TI := fun σ H R => ta σ H fun vs H1 => ∃ a, vs = [.ref a] ∧ (((∃ xs, SqL K H1 a xs) ∧ R (Ite K a) H1) ∨ ((∃ xs, SqT K H1 a xs) ∧ R (IteT K a) H1))
theorem pi_enumA {e : Expr} {ta : TA} {p tpos : Pos} {elts : List Expr} {kk : Nat} (hg : Gl X "enumerate") (hm : X.mg "enumerate" = none) (ha : PA X [e] ta) (hs : starEach [e] X.env = [(false, eval e X.env)] := by rfl) :
    PI X (.Tuple elts kk tpos) (.Call (.Name "enumerate" p) [e] [] pos) (iEnumA X.K ta) := by
  refine ⟨fun pins s σ H R I h => ?_⟩
  refine Call_ (ld_blt I hg hm boot_enumerate (PyProof.Rows.callWith_type1 (thn (ha.run pos pins s σ H _ I h) fun us s1 ⟨vs, H1, I1, r1, q1⟩ => ?_) hs rfl))
  obtain ⟨a, rfl, q1⟩ := q1
  cases r1 with
  | cons r rr =>
    cases rr
    cases r
    have fp : ∀ b ∈ [s1.heap.objs.size + 1, s1.heap.objs.size], FpOk X pins H1 b := fun b hb => by
      have hle : s1.heap.objs.size ≤ b := by
        rcases (show b = s1.heap.objs.size + 1 ∨ b = s1.heap.objs.size by simpa using hb) with rfl | rfl
        · exact Nat.le_add_right _ _
        · exact Nat.le_refl _
      exact I1.fpOk hle (I1.hok.fresh hle)
    rcases q1 with ⟨⟨xs, hq⟩, q⟩ | ⟨⟨xs, hq⟩, q⟩
    · obtain ⟨its, rv, p', hz⟩ := I1.list hq
      refine call_enumerate_list p'.isList fun h' he hit hsz hk => wpAny_pyIter_enum he ?_
      exact ⟨s1.heap.objs.size + 1, [s1.heap.objs.size + 1, s1.heap.objs.size], _, _, H1, rfl, I1.kept (t' := s1.toks) hk, turn_enum a (s1.heap.objs.size + 1) s1.heap.objs.size, ⟨⟨.none, he⟩, hit, Nat.succ_ne_self _⟩, fp, q⟩
    · obtain ⟨its, rv, p', hz⟩ := I1.tuple hq
      have hal : a < s1.heap.objs.size := by obtain ⟨_, q, _⟩ := p'; exact Heap.lt_size q
      refine enum_call1 (begins_tuple a its.toArray) p' fun h' he hit hk => wpAny_pyIter_enum he ?_
      exact ⟨s1.heap.objs.size + 1, [s1.heap.objs.size + 1, s1.heap.objs.size], _, _, H1, rfl, I1.kept (t' := s1.toks) hk, turn_enumT a (s1.heap.objs.size + 1) s1.heap.objs.size, ⟨⟨.none, he⟩, ⟨_, hit, rfl, rfl⟩, Nat.succ_ne_self _, Nat.ne_of_lt hal, Nat.ne_of_lt (Nat.lt_succ_of_lt hal)⟩, fp, q⟩
def enL : Nat → List D → List D
  | _, [] => []
  | i, d :: ds => .tup [.int (i : Nat), d] :: enL (i + 1) ds
theorem enL_length : ∀ (ds : List D) (i : Nat), (enL i ds).length = ds.length
  | [], _ => rfl
  | d :: ds, i => by simp [enL, enL_length ds]
theorem enL_get : ∀ (ds : List D) (k i : Nat), (enL k ds)[i]? = (ds[i]?).map fun d => .tup [.int ((k + i : Nat)), d]
  | [], k, i => by simp [enL]
  | d :: ds, k, 0 => by simp [enL]
  | d :: ds, k, i + 1 => by
    rw [enL, List.getElem?_cons_succ, List.getElem?_cons_succ, enL_get ds (k + 1) i]
    rw [show k + 1 + i = k + (i + 1) by omega]
theorem pair_new {a b : D} {x y : V} {p : Addr} (hh : Hh K G ms h H) (i1 : Is K G ms a x) (i2 : Is K G ms b y) (hp : H p = none) : ∃ G', GLe G G' ∧ Hh K G' ms h (upd H p (.tup [x, y])) ∧ Is K G' ms (.tup [a, b]) (.ref p) := by
  have eg : GLe G (gupd G p (.tup [x, y])) := gle_upd (hh.gnone hp)
  exact ⟨_, eg, hh.still hp (show 2 ≤ sizeLine by decide), p, [x, y], rfl, upd_same, x, [y], rfl, Is.mono eg (pre_refl _) _ _ i1, y, [], rfl, Is.mono eg (pre_refl _) _ _ i2, rfl⟩
theorem yields_enL {a : Addr} {ds : List D} {ws : List V} (q : SqL K G.1 a ws) (i : IsL K G ms ds ws) : Yields K (Ite K a) G ms (enL 0 ds) := fun j h G' ms' H hh e p => by
  have q' : SqL K H a ws := hh.sub.seq (e.seq q)
  have i' := IsL.mono' e p _ _ i
  refine ⟨fun d hd => ?_, fun hl => ⟨ws, q', by rw [← i.length]; rw [enL_length] at hl; exact Nat.le_of_eq hl⟩⟩
  rw [enL_get] at hd
  cases hx : ds[j]? with
  | none => rw [hx] at hd; cases hd
  | some b =>
    rw [hx] at hd
    cases hd
    obtain ⟨v, h1, h2⟩ := i'.get hx
    refine ⟨⟨ws, v, q', h1⟩, fun x H' ⟨T, x', e1, e2, e3, e4⟩ => ?_⟩
    subst e1 e3
    have := e4 ws q'
    rw [h1] at this
    cases this
    rw [Nat.zero_add]
    exact pair_new hh rfl h2 e2
theorem yields_enT {a : Addr} {ds : List D} {ws : List V} (q : SqT K G.1 a ws) (i : IsL K G ms ds ws) : Yields K (IteT K a) G ms (enL 0 ds) := fun j h G' ms' H hh e p => by
  have q' : SqT K H a ws := Same.sqT hh.sub (Same.sqT e q)
  have i' := IsL.mono' e p _ _ i
  refine ⟨fun d hd => ?_, fun hl => ⟨ws, q', by rw [← i.length]; rw [enL_length] at hl; exact hl⟩⟩
  rw [enL_get] at hd
  cases hx : ds[j]? with
  | none => rw [hx] at hd; cases hd
  | some b =>
    rw [hx] at hd
    cases hd
    obtain ⟨v, h1, h2⟩ := i'.get hx
    refine ⟨⟨ws, v, q', h1⟩, fun x H' ⟨T, x', e1, e2, e3, e4⟩ => ?_⟩
    subst e1 e3
    have := e4 ws q'
    rw [h1] at this
    cases this
    rw [Nat.zero_add]
    exact pair_new hh rfl h2 e2
def iEnumerate (f : FA) : FI := fun s h => (f s h).bind fun ds h1 => match ds with
  | [.tup xs] => .ok (.seq (enL 0 xs)) h1
  | [.lst xs] => .ok (.seq (enL 0 xs)) h1
  | _ => .bad
theorem vi_enumerate {e : Expr} {f : FA} {p tpos : Pos} {elts : List Expr} {kk : Nat} (hg : Gl X "enumerate") (hm : X.mg "enumerate" = none) (ha : VA X W pin [e] f) (hs : starEach [e] X.env = [(false, eval e X.env)] := by rfl) :
    VI X W pin (.Tuple elts kk tpos) (.Call (.Name "enumerate" p) [e] [] pos) (iEnumerate f) := by
  refine pi_imp (pi_enumA hg hm ha hs) fun σ H R ⟨G, ms, s, h, hh, sl, q⟩ => ⟨G, ms, s, h, hh, sl, Post.bind q fun ds h1 ws H1 G1 ms1 e1 p1 hh1 i1 q1 => ?_⟩
  split at q1
  · obtain ⟨v, rfl, j1⟩ := isL1 (ds := []) i1
    obtain ⟨a, us, rfl, k1, k2⟩ := id j1
    exact ⟨a, rfl, .inr ⟨⟨us, .of (hh1.sub _ _ k1)⟩, q1.fin hh1 ⟨yields_enT (.of k1) k2, by rw [enL_length]; exact hh1.rowz j1 rfl⟩⟩⟩
  · obtain ⟨v, rfl, j1⟩ := isL1 (ds := []) i1
    obtain ⟨a, us, rfl, k1, k2⟩ := id j1
    exact ⟨a, rfl, .inl ⟨⟨us, .of (hh1.sub _ _ k1)⟩, q1.fin hh1 ⟨yields_enL (.of k1) k2, by rw [enL_length]; exact hh1.rowz j1 rfl⟩⟩⟩
  · exact q1.elim
/-- zip of two lists or two tuples -/
def zpL : List D → List D → List D
  | x :: xs, y :: ys => .tup [x, y] :: zpL xs ys
  | _, _ => []
theorem zpL_length : ∀ (xs ys : List D), (zpL xs ys).length = min xs.length ys.length
  | [], ys => by simp [zpL]
  | x :: xs, [] => by simp [zpL]
  | x :: xs, y :: ys => by simp [zpL, zpL_length xs ys]
theorem zpL_get : ∀ (xs ys : List D) (i : Nat) (d : D), (zpL xs ys)[i]? = some d → ∃ x y, xs[i]? = some x ∧ ys[i]? = some y ∧ d = .tup [x, y]
  | [], ys, i, d, h => by simp [zpL] at h
  | x :: xs, [], i, d, h => by simp [zpL] at h
  | x :: xs, y :: ys, 0, d, h => by simp [zpL] at h; exact ⟨x, y, rfl, rfl, h.symm⟩
  | x :: xs, y :: ys, i + 1, d, h => by
    simp only [zpL, List.getElem?_cons_succ] at h
    exact zpL_get xs ys i d h
theorem yields_zpL {a b : Addr} {xs ys : List D} {us ws : List V} (q1 : SqL K G.1 a us) (q2 : SqL K G.1 b ws) (i1 : IsL K G ms xs us) (i2 : IsL K G ms ys ws) : Yields K (Itz K a b) G ms (zpL xs ys) := fun j h G' ms' H hh e p => by
  have q1' : SqL K H a us := hh.sub.seq (e.seq q1)
  have q2' : SqL K H b ws := hh.sub.seq (e.seq q2)
  have j1 := IsL.mono' e p _ _ i1
  have j2 := IsL.mono' e p _ _ i2
  refine ⟨fun d hd => ?_, fun hl => ⟨us, ws, q1', q2', by rw [zpL_length, i1.length, i2.length] at hl; omega⟩⟩
  obtain ⟨x, y, hx, hy, rfl⟩ := zpL_get _ _ _ _ hd
  obtain ⟨v, h1, h2⟩ := j1.get hx
  obtain ⟨u, h3, h4⟩ := j2.get hy
  refine ⟨⟨us, ws, v, u, q1', q2', h1, h3⟩, fun z H' ⟨T, x', y', e1, e2, e3, e4, e5⟩ => ?_⟩
  subst e1 e3
  have t1 := e4 us q1'
  have t2 := e5 ws q2'
  rw [h1] at t1
  rw [h3] at t2
  cases t1
  cases t2
  exact pair_new hh h2 h4 e2
theorem yields_zpT {a b : Addr} {xs ys : List D} {us ws : List V} (q1 : SqT K G.1 a us) (q2 : SqT K G.1 b ws) (i1 : IsL K G ms xs us) (i2 : IsL K G ms ys ws) : Yields K (RZ.ItzT K a b) G ms (zpL xs ys) := fun j h G' ms' H hh e p => by
  have q1' : SqT K H a us := Same.sqT hh.sub (Same.sqT e q1)
  have q2' : SqT K H b ws := Same.sqT hh.sub (Same.sqT e q2)
  have j1 := IsL.mono' e p _ _ i1
  have j2 := IsL.mono' e p _ _ i2
  refine ⟨fun d hd => ?_, fun hl => ⟨us, ws, q1', q2', by rw [zpL_length, i1.length, i2.length] at hl; omega⟩⟩
  obtain ⟨x, y, hx, hy, rfl⟩ := zpL_get _ _ _ _ hd
  obtain ⟨v, h1, h2⟩ := j1.get hx
  obtain ⟨u, h3, h4⟩ := j2.get hy
  refine ⟨⟨us, ws, v, u, q1', q2', h1, h3⟩, fun z H' ⟨T, x', y', e1, e2, e3, e4, e5⟩ => ?_⟩
  subst e1 e3
  have t1 := e4 us q1'
  have t2 := e5 ws q2'
  rw [h1] at t1
  rw [h3] at t2
  cases t1
  cases t2
  exact pair_new hh h2 h4 e2
def iZip (f : FA) : FI := fun s h => (f s h).bind fun ds h1 => match ds with
  | [.tup xs, .tup ys] => .ok (.seq (zpL xs ys)) h1
  | [.lst xs, .lst ys] => .ok (.seq (zpL xs ys)) h1
  | _ => .bad
theorem vi_zip {e e2 : Expr} {f : FA} {p tpos : Pos} {elts : List Expr} {kk : Nat} (hg : Gl X "zip") (hm : X.mg "zip" = none) (ha : VA X W pin [e, e2] f)
    (hs : starEach [e, e2] X.env = (false, eval e X.env) :: starEach [e2] X.env := by rfl) (hpl : (backTo pos (starEach [e2] X.env)).any (·.1) = false := by rfl) :
    VI X W pin (.Tuple elts kk tpos) (.Call (.Name "zip" p) [e, e2] [] pos) (iZip f) := by
  refine pi_imp (RZ.pi_zipA hg hm ha hs hpl) fun σ H R ⟨G, ms, s, h, hh, sl, q⟩ => ⟨G, ms, s, h, hh, sl, Post.bind q fun ds h1 ws H1 G1 ms1 e1 p1 hh1 i1 q1 => ?_⟩
  split at q1
  · obtain ⟨v, w, rfl, j1, j2⟩ := isL2 i1
    obtain ⟨a, us, rfl, k1, k2⟩ := id j1
    obtain ⟨b, vs, rfl, l1, l2⟩ := id j2
    exact ⟨a, b, us, vs, rfl, .inr ⟨.of (hh1.sub _ _ k1), .of (hh1.sub _ _ l1), q1.fin hh1 ⟨yields_zpT (.of k1) (.of l1) k2 l2, by rw [zpL_length]; have := hh1.rowz j1 rfl; omega⟩⟩⟩
  · obtain ⟨v, w, rfl, j1, j2⟩ := isL2 i1
    obtain ⟨a, us, rfl, k1, k2⟩ := id j1
    obtain ⟨b, vs, rfl, l1, l2⟩ := id j2
    exact ⟨a, b, us, vs, rfl, .inl ⟨.of (hh1.sub _ _ k1), .of (hh1.sub _ _ l1), q1.fin hh1 ⟨yields_zpL (.of k1) (.of l1) k2 l2, by rw [zpL_length]; have := hh1.rowz j1 rfl; omega⟩⟩⟩
  · exact q1.elim
end
end WD
namespace WD
open PySem PySem.Spec PyProof.Rows L2
def fgS (vs : List Nat) (r : RS) : RS := match r with
  | .nx s h => .nx (wipeS s vs) h
  | .ct s h => .ct (wipeS s vs) h
  | .bk s h => .bk (wipeS s vs) h
  | r => r
/-- forgotten behind -/
def sFa (vs : List Nat) (f : FS) : FS := fun s h => fgS vs (f s h)
/-- forgotten ahead -/
def sFb (vs : List Nat) (f : FS) : FS := fun s h => f (wipeS s vs) h
section
variable {X : Cx} {W : WX} {pin : List Pn} {K : PySem.W.Frag} {mg : Str → Option Value} {G : GG} {ms : List Addr} {vs : List Nat}
theorem Sl.fgt {s : Ss} {σ : L2.St} (x : Sl K G ms pin s σ) : Sl K G ms pin (wipeS s vs) σ :=
  ⟨by rw [wipeS_length]; exact x.len, fun i d e => x.get i d (wipeS_some e).1, x.pin⟩
theorem vss_fa {st : List Stmt} {f : FS} (h : VSs X W pin st f) : VSs X W pin st (sFa vs f) := by
  refine pss_imp h fun D σ H ⟨G, ms, s, h, hh, sl, q⟩ => ⟨G, ms, s, h, hh, sl, ?_⟩
  unfold sFa fgS at q
  cases e : f s h with
  | nx s' h' => rw [e] at q; exact fun σ' H' G' ms' e1 p1 hh1 sl1 => q σ' H' G' ms' e1 p1 hh1 sl1.fgt
  | ct s' h' => rw [e] at q; exact fun σ' H' G' ms' e1 p1 hh1 sl1 => q σ' H' G' ms' e1 p1 hh1 sl1.fgt
  | bk s' h' => rw [e] at q; exact fun σ' H' G' ms' e1 p1 hh1 sl1 => q σ' H' G' ms' e1 p1 hh1 sl1.fgt
  | rt d h' => rw [e] at q; exact q
  | er x s' h' => rw [e] at q; exact q
  | bad => rw [e] at q; exact q
theorem vs_fa {st : Stmt} {f : FS} (h : VS X W pin st f) : VS X W pin st (sFa vs f) := by
  refine ps_imp h fun D σ H ⟨G, ms, s, h, hh, sl, q⟩ => ⟨G, ms, s, h, hh, sl, ?_⟩
  unfold sFa fgS at q
  cases e : f s h with
  | nx s' h' => rw [e] at q; exact fun σ' H' G' ms' e1 p1 hh1 sl1 => q σ' H' G' ms' e1 p1 hh1 sl1.fgt
  | ct s' h' => rw [e] at q; exact fun σ' H' G' ms' e1 p1 hh1 sl1 => q σ' H' G' ms' e1 p1 hh1 sl1.fgt
  | bk s' h' => rw [e] at q; exact fun σ' H' G' ms' e1 p1 hh1 sl1 => q σ' H' G' ms' e1 p1 hh1 sl1.fgt
  | rt d h' => rw [e] at q; exact q
  | er x s' h' => rw [e] at q; exact q
  | bad => rw [e] at q; exact q
theorem vs_fb {st : Stmt} {f : FS} (h : VS X W pin st f) : VS X W pin st (sFb vs f) := by
  refine ps_imp h fun D σ H ⟨G, ms, s, h, hh, sl, q⟩ => ⟨G, ms, wipeS s vs, h, hh, sl.fgt, q⟩
end
def rgC (lo c : Int) (n : Nat) : List D := (List.range n).map fun (i : Nat) => D.int (lo + (i : Nat) * c)
open Classical in
noncomputable def iRngC (f : FA) : FI := fun s h => (f s h).bind fun ds h1 => match ds with
  | [.int i, .int j, .int c] => if RgC i j c (Builtin.Range.rangeSize i j c).toNat ∧ (Builtin.Range.rangeSize i j c).toNat ≤ sizeLine then .ok (.seq (rgC i c (Builtin.Range.rangeSize i j c).toNat)) h1 else .bad
  | _ => .bad
section
variable {X : Cx} {W : WX} {pin : List Pn} {K : PySem.W.Frag} {G : GG} {ms : List Addr} {pos : Pos}
theorem rgC_get {lo c : Int} {n i : Nat} {d : D} (h : (rgC lo c n)[i]? = some d) : i < n ∧ d = .int (lo + (i : Nat) * c) := by
  unfold rgC at h
  rw [List.getElem?_map] at h
  by_cases hi : i < n
  · rw [List.getElem?_range hi] at h
    exact ⟨hi, (Option.some.inj h).symm⟩
  · rw [List.getElem?_eq_none (by simpa using hi)] at h; cases h
theorem yields_rgC {lo c : Int} {n : Nat} : Yields K (Itc lo c n) G ms (rgC lo c n) := fun j h G' ms' H hh e p => by
  refine ⟨fun d hd => ?_, fun hl => ?_⟩
  · obtain ⟨hi, rfl⟩ := rgC_get hd
    exact ⟨hi, fun x H' ⟨e1, e2⟩ => by subst e1 e2; exact ⟨G', .refl _, hh, rfl⟩⟩
  · have : (rgC lo c n).length = n := by unfold rgC; simp
    rw [this] at hl
    exact Nat.le_of_eq hl
theorem vi_range3 {tg e e' e'' : Expr} {f : FA} {p : Pos} (hg : Gl X "range") (hm : X.mg "range" = none) (ha : VA X W pin [e, e', e''] f)
    (hs : starEach [e, e', e''] X.env = (false, eval e X.env) :: starEach [e', e''] X.env := by rfl) (hpl : (backTo pos (starEach [e', e''] X.env)).any (·.1) = false := by rfl) : VI X W pin tg (.Call (.Name "range" p) [e, e', e''] [] pos) (iRngC f) := by
  refine pi_imp (pi_range3 hg hm ha hs hpl) fun σ H R ⟨G, ms, s, h, hh, sl, q⟩ => ⟨G, ms, s, h, hh, sl, Post.bind q fun ds h1 ws H1 G1 ms1 e1 p1 hh1 i1 q1 => ?_⟩
  split at q1
  · obtain ⟨v, r, rfl, j1, w, r2, rfl, j2, u, r3, rfl, j3, j4⟩ := i1
    cases j1; cases j2; cases j3; cases j4
    split at q1
    · rename_i hz
      refine ⟨_, _, _, _, rfl, hz.1, q1.fin hh1 ⟨yields_rgC, ?_⟩⟩
      unfold rgC; simpa using hz.2
    · exact q1.elim
  · exact q1.elim
end
theorem plain_call {f : Expr} {a : List Expr} {k : List Keyword} {p : Pos} : PlainIx (.Call f a k p) := fun _ _ => rfl
end WD
namespace SrtO
open PySem PySem.Spec PyProof.Rows Srt
section
variable {prog : Program} {w : World} {A : Around} {E : Value → Shared → Prop} {s : Shared}
theorem wd_collectT {t : Addr} {us : List Value} {Q : List Value → Shared → Prop} (ht : s.heap.IsTuple t us.toArray) (hz : us.length ≤ sizeLine)
    (q : Q us { s with heap := (s.heap.push (seqObj "list" #[] 0)).update s.heap.objs.size (Obj.mapSeq (· ++ us.toArray)) }) : wpAny (model prog w) A (collect (.ref t)) Q E s := by
  obtain ⟨ob, e1, e2, m, e3⟩ := id ht
  have e4 : (s.heap.push (seqObj "list" #[] 0)).get? t = some ob := Heap.get?_push_of_some _ e1
  unfold collect
  refine wpAny_bind (wpAny_runValue (codeAny_builtin entry_proto_collect' ?x0))
  case x0 =>
    show wpAny _ _ (do again (.builtin "list.__iadd__" ⟨[← newList [], .ref t], []⟩)) _ _ s
    refine wpAny_bind (wpAny_newList (wpAny_pure ⟨Code.quiet_builtin _ (by decide +kernel), codeAny_builtin entry_list_iadd' ?x1⟩))
    show wpAny _ _ (Builtin.List.listExtendWith (.ref s.heap.objs.size) (.ref t) (.ref s.heap.objs.size)) _ _ { s with heap := s.heap.push (seqObj "list" #[] 0) }
    unfold Builtin.List.listExtendWith
    refine wpAny_bind (wpAny_typeOf (T := "tuple") ⟨ob, e4, e2⟩ ?x2)
    have tt : (Value.type "tuple" == Value.type "tuple") = true := by rfl
    rw [if_pos (by rw [tt]; simp)]
    refine wpAny_bind (listItems_at e4 e3 (wpAny_bind (listItems_at (xs := #[]) (n := 0) (Heap.get?_push_size _ rfl) rfl ?x3)))
    rw [if_neg (by simp)]
    refine wpAny_bind (listUpdate_at (xs := #[]) (n := 0) (Heap.get?_push_size _ rfl) rfl (wpAny_pure ?x4) (Nat.zero_le _) (by show (#[] ++ us.toArray).size ≤ sizeLine + 1; simp only [Array.size_append, List.size_toArray, List.length_nil]; omega))
    show wpAny (model prog w) A (do
        let o ← load s.heap.objs.size
        match o.data with
        | .seq xs _ => pure xs.toList
        | _ => unsupported "internal:collect") Q E { s with heap := (s.heap.push (seqObj "list" #[] 0)).update s.heap.objs.size (Obj.mapSeq (· ++ us.toArray)) }
    refine wpAny_bind (wpAny_load (get?_update_seq (Heap.get?_push_size _ rfl) _) ?x5)
    show wpAny _ _ (pure ((#[] : Array Value) ++ us.toArray).toList) Q E _
    have e5 : ((#[] : Array Value) ++ us.toArray).toList = us := by simp
    rw [e5]; exact wpAny_pure q
theorem wd_sortedT {t : Addr} {us : List Value} {lt : Value → Value → Bool} {Q : Value → Shared → Prop} (O : Swo lt) (ht : s.heap.IsTuple t us.toArray) (hz : us.length ≤ sizeLine)
    (hS : 2 ≤ us.length → ∀ (h1 : Heap) (a : Addr), h1.get? a = some (seqObj "list" us.toArray 0) → (∀ b o, s.heap.get? b = some o → b ≠ a ∧ h1.get? b = some o) → SortableO prog w A.in1.in1 { s with heap := h1 } a us lt)
    (q : ∀ out : List Value, Srtd lt out → Stb lt out us → Q (.ref (s.heap.objs.size + 1)) { s with heap := sortedAll s.heap us out.toArray }) : wpAny (model prog w) A (call (.builtin "sorted") [.ref t]) Q E s := by
  refine Calls.call_function_entry kind_sorted plain_sorted entry_sorted (args_sorted1 _) ?x
  unfold Builtin.«sorted»
  refine wpAny_bind (m := checkCount "sorted" 1 1 _) (wpAny_pure (wpAny_bind (wd_collectT ht hz (wpAny_bind (wpAny_newList ?y hz)))))
  have z1 : ((s.heap.push (seqObj "list" #[] 0)).update s.heap.objs.size (Obj.mapSeq (· ++ us.toArray))).objs.size = s.heap.objs.size + 1 := by rw [Heap.size_update, size_push']
  have z2 : (((s.heap.push (seqObj "list" #[] 0)).update s.heap.objs.size (Obj.mapSeq (· ++ us.toArray))).push (seqObj "list" us.toArray 0)).get? (s.heap.objs.size + 1) = some (seqObj "list" us.toArray 0) := by
    rw [← z1]; exact Heap.get?_push_size _ rfl
  have z3 : ∀ b o, s.heap.get? b = some o → b ≠ s.heap.objs.size + 1 ∧ (((s.heap.push (seqObj "list" #[] 0)).update s.heap.objs.size (Obj.mapSeq (· ++ us.toArray))).push (seqObj "list" us.toArray 0)).get? b = some o := fun b o e => by
    have hb : b < s.heap.objs.size := Heap.lt_size e
    refine ⟨Nat.ne_of_lt (Nat.lt_succ_of_lt hb), Heap.get?_push_of_some _ ((Heap.get?_update_ne _ _ _ _ (Nat.ne_of_lt hb)).trans (Heap.get?_push_of_some _ e))⟩
  show wpAny _ _ _ _ _ { s with heap := ((s.heap.push (seqObj "list" #[] 0)).update s.heap.objs.size (Obj.mapSeq (· ++ us.toArray))).push (seqObj "list" us.toArray 0) }
  rw [z1]
  exact wpAny_bind (wpAny_holding (wpAny_call_entry slot_list_sort ⟨_, z2, rfl⟩ entry_list_sort (list_sort_ord O z2 hz (fun h2 => hS h2 _ _ z2 z3) fun out a b => ⟨_, rfl, wpAny_pure ⟨_, rfl, q out a b⟩⟩) (args_list_sort _)))
end
end SrtO
namespace WD
open PySem PySem.Spec PyProof.Rows L2
open Classical in
noncomputable def shlD : D → D → Hs → R D
  | .int i, .int j, h => if powOk i j then .ok (.int (i * 2 ^ j.toNat)) h else .bad
  | _, _, _ => .bad
def shrD : D → D → Hs → R D
  | .int i, .int j, h => if 0 ≤ j then .ok (.int (i / 2 ^ j.toNat)) h else .bad
  | _, _, _ => .bad
def bandD : D → D → Hs → R D
  | .int i, .int j, h => .ok (.int (Builtin.bitAnd i j)) h
  | _, _, _ => .bad
def absD : List D → Hs → R D
  | [.int i], h => .ok (.int (if i < 0 then -i else i)) h
  | _, _ => .bad
section
variable {X : Cx} {W : WX} {pin : List Pn} {K : PySem.W.Frag} {mg : Str → Option Value} {E : XK} {G G' : GG} {H : Hp} {ms ms' : List Addr} {h : Hs} {pos : Pos} {a b c : Expr} {rest : List Expr}
theorem od_shl : OpD X (binaryOp .LShift) shlD := by
  intro pins s σ H x y v u Q I rx ry ⟨G, ms, h, da, db, hh, ia, ib, q⟩
  unfold shlD at q
  split at q
  · cases ia; cases ib
    split at q
    · rename_i hz
      exact op_shl pins s σ H _ _ v u Q I rx ry ⟨_, _, rfl, rfl, hz, q.fin hh rfl⟩
    · exact q.elim
  · exact q.elim
theorem od_shr : OpD X (binaryOp .RShift) shrD := by
  intro pins s σ H x y v u Q I rx ry ⟨G, ms, h, da, db, hh, ia, ib, q⟩
  unfold shrD at q
  split at q
  · cases ia; cases ib
    split at q
    · rename_i hz
      exact op_shr pins s σ H _ _ v u Q I rx ry ⟨_, _, rfl, rfl, hz, q.fin hh rfl⟩
    · exact q.elim
  · exact q.elim
theorem od_band : OpD X (binaryOp .BitAnd) bandD := by
  intro pins s σ H x y v u Q I rx ry ⟨G, ms, h, da, db, hh, ia, ib, q⟩
  unfold bandD at q
  split at q
  · cases ia; cases ib
    exact op_and pins s σ H _ _ v u Q I rx ry ⟨_, _, rfl, rfl, q.fin hh rfl⟩
  · exact q.elim
theorem cd_abs : CallD X (.builtin "abs") absD := by
  intro pins s σ H xs us Q I r ⟨G, ms, h, ds, hh, i, q⟩
  unfold absD at q
  split at q
  · obtain ⟨v, rfl, i1⟩ := isL1 (ds := []) i
    cases i1
    exact call_abs pins s σ H _ us Q I r ⟨_, rfl, q.fin hh rfl⟩
  · exact q.elim
end
section
variable {α : Type}
def insL (lt : α → α → Bool) (x : α) : List α → List α
  | [] => [x]
  | y :: ys => if lt y x = true then y :: insL lt x ys else x :: y :: ys
def sortL (lt : α → α → Bool) : List α → List α
  | [] => []
  | x :: xs => insL lt x (sortL lt xs)
theorem insL_perm {lt : α → α → Bool} {x : α} : ∀ ys : List α, (insL lt x ys).Perm (x :: ys)
  | [] => List.Perm.refl _
  | y :: ys => by
    unfold insL
    split
    · exact ((insL_perm ys).cons y).trans (List.Perm.swap x y ys)
    · exact List.Perm.refl _
theorem sortL_perm {lt : α → α → Bool} : ∀ xs : List α, (sortL lt xs).Perm xs
  | [] => List.Perm.refl _
  | x :: xs => (insL_perm _).trans ((sortL_perm xs).cons x)
theorem insL_srt {lt : α → α → Bool} {x : α} (as : ∀ a b, lt a b = true → lt b a = false) (tr : ∀ a b c, lt b a = false → lt c b = false → lt c a = false) : ∀ ys : List α, ys.Pairwise (fun a b => lt b a = false) → (insL lt x ys).Pairwise (fun a b => lt b a = false)
  | [], _ => List.pairwise_singleton _ _
  | y :: ys, h => by
    have h0 := List.pairwise_cons.mp h
    unfold insL
    split
    · rename_i hl
      refine List.pairwise_cons.mpr ⟨fun z hz => ?_, insL_srt as tr ys h0.2⟩
      rcases List.mem_cons.mp ((insL_perm ys).mem_iff.mp hz) with rfl | hz
      · exact as _ _ hl
      · exact h0.1 z hz
    · rename_i hl
      have hl : lt y x = false := by simpa using hl
      refine List.pairwise_cons.mpr ⟨fun z hz => ?_, h⟩
      rcases List.mem_cons.mp hz with rfl | hz
      · exact hl
      · exact tr _ _ _ hl (h0.1 z hz)
theorem sortL_srt {lt : α → α → Bool} (as : ∀ a b, lt a b = true → lt b a = false) (tr : ∀ a b c, lt b a = false → lt c b = false → lt c a = false) : ∀ xs : List α, (sortL lt xs).Pairwise (fun a b => lt b a = false)
  | [] => List.Pairwise.nil
  | x :: xs => insL_srt as tr _ (sortL_srt as tr xs)
theorem srt_uniq {r : α → α → Prop} (anti : ∀ a b, r a b → r b a → a = b) : ∀ xs ys : List α, xs.Pairwise r → ys.Pairwise r → xs.Perm ys → xs = ys
  | [], ys, _, _, p => (List.nil_perm.mp p).symm
  | x :: xs, ys, hx, hy, p => by
    cases ys with
    | nil => exact absurd p.length_eq (by simp)
    | cons y ys =>
      have hx' := List.pairwise_cons.mp hx
      have hy' := List.pairwise_cons.mp hy
      have e : x = y := by
        rcases List.mem_cons.mp (p.mem_iff.mp List.mem_cons_self) with e | e
        · exact e
        · rcases List.mem_cons.mp (p.mem_iff.mpr List.mem_cons_self) with e2 | e2
          · exact e2.symm
          · exact anti _ _ (hx'.1 y e2) (hy'.1 x e)
      subst e
      rw [srt_uniq anti xs ys hx'.2 hy'.2 (List.Perm.cons_inv p)]
end
def ltI (a b : Int) : Bool := decide (a < b)
def sortI (ns : List Int) : List Int := sortL ltI ns
theorem sortI_perm (ns : List Int) : (sortI ns).Perm ns := sortL_perm ns
theorem sortI_srt (ns : List Int) : (sortI ns).Pairwise (· ≤ ·) := by
  refine (sortL_srt (lt := ltI) (fun a b h => ?_) (fun a b c h1 h2 => ?_) ns).imp fun {a b} h => ?_
  · simp only [ltI, decide_eq_true_eq, decide_eq_false_iff_not] at h ⊢; omega
  · simp only [ltI, decide_eq_false_iff_not] at h1 h2 ⊢; omega
  · simp only [ltI, decide_eq_false_iff_not] at h; omega
theorem sortI_uniq {ms ns : List Int} (p : ms.Perm ns) (h : ms.Pairwise (· ≤ ·)) : ms = sortI ns :=
  srt_uniq (fun a b h1 h2 => by omega) _ _ h (sortI_srt ns) (p.trans (sortI_perm ns).symm)
abbrev ltPr := SrtO.lexB
def sortP (ps : List (Int × Int)) : List (Int × Int) := sortL ltPr ps
theorem ltPr_as (a b : Int × Int) (h : ltPr a b = true) : ltPr b a = false := by
  have := SrtO.lexB_iff.mp h
  exact SrtO.lexB_no.mpr (by omega)
theorem ltPr_tr (a b c : Int × Int) (h1 : ltPr b a = false) (h2 : ltPr c b = false) : ltPr c a = false := by
  have := SrtO.lexB_no.mp h1
  have := SrtO.lexB_no.mp h2
  exact SrtO.lexB_no.mpr (by omega)
theorem sortP_perm (ps : List (Int × Int)) : (sortP ps).Perm ps := sortL_perm ps
theorem sortP_srt (ps : List (Int × Int)) : (sortP ps).Pairwise (fun a b => ltPr b a = false) := sortL_srt ltPr_as ltPr_tr ps
theorem sortP_uniq {ms ns : List (Int × Int)} (p : ms.Perm ns) (h : ms.Pairwise (fun a b => ltPr b a = false)) : ms = sortP ns :=
  srt_uniq (fun a b h1 h2 => by
    have := SrtO.lexB_no.mp h1
    have := SrtO.lexB_no.mp h2
    exact Prod.ext (by omega) (by omega)) _ _ h (sortP_srt ns) (p.trans (sortP_perm ns).symm)
/-- a pair of ints -/
def prD (p : Int × Int) : D := .tup [.int p.1, .int p.2]
def prsOf : List D → Option (List (Int × Int))
  | [] => some []
  | .tup [.int i, .int j] :: r => match prsOf r with
    | some ns => some ((i, j) :: ns)
    | none => none
  | _ => none
theorem prsOf_eq : ∀ {ds : List D} {ps : List (Int × Int)}, prsOf ds = some ps → ds = ps.map prD
  | [], ps, e => by cases e; rfl
  | d :: ds, ps, e => by
    unfold prsOf at e
    split at e
    · rename_i heq; cases heq
    · rename_i i j r heq
      cases heq
      split at e
      · rename_i ns' e'
        cases e
        rw [prsOf_eq e']; rfl
      · cases e
    · cases e
@[simp] theorem prsOf_map : ∀ (ps : List (Int × Int)), prsOf (ps.map prD) = some ps
  | [] => rfl
  | p :: ps => by
    show prsOf (.tup [.int p.1, .int p.2] :: ps.map prD) = _
    unfold prsOf
    rw [prsOf_map ps]
/-- sorted of a row of ints, of a list of pairs of ints -/
def sortedD (m : Bool) : List D → Hs → R D
  | [d], h => match rowOf h d with
    | some xs => match intsOf xs with
      | some ns => newL m ((sortI ns).map D.int) h
      | none => match lstOf h d with
        | some _ => match prsOf xs with
          | some ps => newL m ((sortP ps).map prD) h
          | none => .bad
        | none => .bad
    | none => .bad
  | _, _ => .bad
section
variable {X : Cx} {W : WX} {pin : List Pn} {K : PySem.W.Frag} {mg : Str → Option Value} {E : XK} {G G' : GG} {H : Hp} {ms ms' : List Addr} {h : Hs} {pos : Pos} {a b c : Expr} {rest : List Expr}
/-- sorted(t), t a tuple of ints -/
def rSortedTI (K : PySem.W.Frag) : List V → Hp → VK → Prop := fun vs H Q => ∃ (a : Addr) (ns : List Int), vs = [V.ref a] ∧ SqT K H a (ns.map V.int) ∧ ∀ (ms : List Int) (p : Addr), ms.Perm ns → ms.Pairwise (· ≤ ·) → H p = none → Q (.ref p) (upd H p (.lst (ms.map V.int)))
theorem cr_sortedTI : CallR X (.builtin "sorted") (rSortedTI X.K) := by
  intro pins s σ H vs us Q I r ⟨a, ns, e0, hs, q⟩
  subst e0
  obtain ⟨its, rv, hl, hz⟩ := I.tuple hs
  rw [Vals.ref1 r]
  have hi := rv.ints
  have hz' : its.length ≤ sizeLine := by rw [← rv.length]; exact hz
  refine SrtO.wd_sortedT SrtO.swo_int hl hz' (fun h2 _ _ _ _ => SrtO.ints_sortable hi h2) fun out h1 h2 => ?_
  obtain ⟨k1, k2, k3⟩ := SrtO.ints_out hi h1 h2
  obtain ⟨ep, he⟩ := PyProof.Rows.sortedAll_at s.heap its out.toArray
  have hlen : ((out.map SrtO.iv).map V.int).length ≤ sizeLine := by rw [List.length_map, k2.length_eq]; simpa using hz
  refine ⟨.ref _, upd H (s.heap.objs.size + 1) (.lst ((out.map SrtO.iv).map V.int)), ?_, rfl, q _ _ k2 k3 (I.hok.fresh (Nat.le_succ _))⟩
  exact I.laid (t' := s.toks) (fun _ _ => PyProof.Rows.sortedAll_old) (Nat.le_succ _) ⟨hlen, out, ep, vals_of_ints k1, he⟩
open Classical in
noncomputable def pkV (H : Hp) (v : V) : Int × Int := if e : ∃ t i j, v = V.ref t ∧ H t = some (.tup [.int i, .int j]) then (e.choose_spec.choose, e.choose_spec.choose_spec.choose) else (0, 0)
theorem pkV_eq {t : Addr} {i j : Int} (e : H t = some (.tup [.int i, .int j])) : pkV H (V.ref t) = (i, j) := by
  unfold pkV
  have ex : ∃ t' i j, V.ref t = V.ref t' ∧ H t' = some (.tup [.int i, .int j]) := ⟨t, i, j, rfl, e⟩
  rw [dif_pos ex]
  obtain ⟨h1, h2⟩ := ex.choose_spec.choose_spec.choose_spec
  have h3 : t = ex.choose := by injection h1
  have e' : H ex.choose = some (.tup [.int i, .int j]) := by rw [← h3]; exact e
  have h2 := e'.symm.trans h2
  simp only [Option.some.injEq, HO.tup.injEq, List.cons.injEq, V.int.injEq, and_true] at h2
  exact Prod.ext h2.1.symm h2.2.symm
theorem IsL.prs (hh : Hh K G ms h H) : ∀ {ps : List (Int × Int)} {vs : List V}, IsL K G ms (ps.map prD) vs → vs.map (pkV H) = ps ∧ ∀ v ∈ vs, ∃ t, v = .ref t ∧ G.1 t = some (.tup [.int (pkV H v).1, .int (pkV H v).2])
  | [], _, i => by cases i; exact ⟨rfl, fun v hv => nomatch hv⟩
  | p :: ps, _, i => by
    obtain ⟨v, r, rfl, ⟨t, ws, rfl, e1, e2⟩, i3⟩ := i
    obtain ⟨w1, w2, rfl, j1, j2⟩ := isL2 e2
    cases j1; cases j2
    have ek := pkV_eq (hh.sub _ _ e1)
    obtain ⟨k1, k2⟩ := IsL.prs hh i3
    refine ⟨by rw [List.map_cons, ek, k1], fun v hv => ?_⟩
    rcases List.mem_cons.mp hv with rfl | hv
    · exact ⟨t, rfl, by rw [ek]; exact e1⟩
    · exact k2 v hv
theorem IsL.prs_of : ∀ {vs : List V}, (∀ v ∈ vs, ∃ t, v = .ref t ∧ G.1 t = some (.tup [.int (pkV H v).1, .int (pkV H v).2])) → IsL K G ms ((vs.map (pkV H)).map prD) vs
  | [], _ => rfl
  | v :: vs, hv => by
    obtain ⟨t, rfl, e⟩ := hv v List.mem_cons_self
    exact ⟨.ref t, vs, rfl, ⟨t, _, rfl, e, _, _, rfl, rfl, _, _, rfl, rfl, rfl⟩, IsL.prs_of fun u hu => hv u (List.mem_cons_of_mem _ hu)⟩
theorem cd_sorted (m : Bool) : CallD X (.builtin "sorted") (sortedD m) := by
  intro pins s σ H xs us Q I r ⟨G, ms, h, ds, hh, i, q⟩
  unfold sortedD at q
  split at q
  · obtain ⟨v, rfl, i1⟩ := isL1 (ds := []) i
    split at q
    · rename_i ys e
      split at q
      · rename_i ns e2
        obtain ⟨p, vs, rfl, h2, h3⟩ := hh.row i1 e
        have hlen : ∀ ms : List Int, ms.Perm ns → (ms.map D.int).length ≤ sizeLine := fun ms pm => by
          have := hh.rowz i1 e
          rw [intsOf_eq e2, List.length_map] at this
          rw [List.length_map, pm.length_eq]; exact this
        rw [intsOf_eq e2] at h3
        rw [h3.ints] at h2
        rcases h2 with h2 | h2
        · exact cr_sortedI pins s σ H _ us Q I r ⟨p, ns, rfl, h2, fun ks p' pm sr hp => by
            rw [← sortI_uniq pm sr] at q
            exact q.newL hh (.of_ints ks) (hlen ks pm) hp⟩
        · exact cr_sortedTI pins s σ H _ us Q I r ⟨p, ns, rfl, h2, fun ks p' pm sr hp => by
            rw [← sortI_uniq pm sr] at q
            exact q.newL hh (.of_ints ks) (hlen ks pm) hp⟩
      · split at q
        · rename_i zs e3
          split at q
          · rename_i ps e4
            obtain ⟨p, vs, rfl, h2, h3⟩ := hh.list i1 e3
            have ez : ys = zs := by
              have q1 := hh.row i1 e
              rename_i dd _ _ _ _ _
              cases dd <;> first | (cases e3; done) | exact Option.some.inj (e.symm.trans e3)
            subst ez
            have hlz := hh.rowz i1 e
            rw [prsOf_eq e4] at h3 hlz
            obtain ⟨k1, k2⟩ := h3.prs hh
            refine cr_sortedPO pins s σ H _ us Q I r ⟨p, vs, pkV H, rfl, h2, fun x hx => ?_, fun zs p' sr st hp => ?_⟩
            · obtain ⟨t, e5, e6⟩ := k2 x hx
              exact ⟨t, e5, hh.sub _ _ e6⟩
            · have pm := st.perm
              have em : zs.map (pkV H) = sortP ps := sortP_uniq (by rw [← k1]; exact pm.map _) (List.pairwise_map.mpr (List.Pairwise.imp (fun {a b} hab => hab) sr))
              have i5 : IsL X.K G ms ((zs.map (pkV H)).map prD) zs := IsL.prs_of fun v hv => k2 v (pm.mem_iff.mp hv)
              rw [em] at i5
              refine q.newL hh i5 ?_ hp
              rw [List.length_map, (sortP_perm ps).length_eq]
              simpa using hlz
          · exact q.elim
        · exact q.elim
    · exact q.elim
  · exact q.elim
end
end WD
namespace WD
open PySem PySem.Spec PyProof.Rows L2
/-- a class that is only asked for -/
structure Xg (K : PySem.W.Frag) (mg : Str → Option Value) (x : Str) (C : Addr) : Prop where
  g : mg x = some (.ref C)
theorem kitAny_own {K : PySem.W.Frag} {t : Value} : ∀ cs : List (Addr × Bool), (∀ p ∈ cs, PySem.W.kitOne K t (.ref p.1) = some p.2) → PySem.W.kitAny K t (cs.map fun p => .ref p.1) = some (cs.any (·.2))
  | [], _ => rfl
  | p :: cs, h => by
    have h1 := h p List.mem_cons_self
    have h2 := kitAny_own cs fun q hq => h q (List.mem_cons_of_mem _ hq)
    rw [List.map_cons, List.any_cons, PySem.W.kitAny, h1]
    cases hp : p.2 with
    | true => rfl
    | false => rw [Bool.false_or]; exact h2
theorem paired_own : ∀ cs : List (Addr × Bool), Paired ClsV (cs.map fun p => V.ref p.1) (cs.map fun p => Value.ref p.1)
  | [] => .nil
  | p :: cs => .cons (.own p.1) (paired_own cs)
def rIsET (K : PySem.W.Frag) (D a : Addr) : List V → Hp → VK → Prop := fun xs H Q => ∃ (tp : Addr) (cs : List (Addr × Bool)), xs = [.ref a, .ref tp] ∧ H tp = some (.tup (cs.map fun p => V.ref p.1)) ∧ (∀ p ∈ cs, PySem.W.kitOne K (.ref D) (.ref p.1) = some p.2) ∧ Q (.bl (cs.any (·.2))) H
theorem call_isET {X : Cx} {a D : Addr} {oe : Obj} {pn : List (Addr × Obj)} (C : ExcC X.K D) (hz : Zc (.ref D) none oe) (hf : ∃ vs, oe.data = .fields vs) : CallR (X.suite a ((a, oe) :: pn)) (.builtin "isinstance") (rIsET X.K D a) := by
  intro pins s σ H xs us Q I r ⟨tp, cs, e0, hT, hk, q⟩
  subst e0
  obtain ⟨u1, u2, e1, r1, r2⟩ := vals2 r
  subst e1
  cases (show u2 = Value.ref tp from r2)
  cases (show u1 = Value.ref a from r1)
  obtain ⟨hget, _⟩ := I.pin (a, oe) (List.mem_append.mpr (.inl List.mem_cons_self))
  obtain ⟨vs, hv⟩ := hf
  have J : PySem.W.InstAt s.heap a oe D none := by
    obtain ⟨oc, od, oda, osl⟩ := oe
    obtain ⟨h1, h2⟩ := hz
    dsimp only at h1 h2 hv
    subst h1 h2 hv
    exact ⟨hget, rfl, rfl, trivial⟩
  obtain ⟨_, its, rv, o, g1, g2, n, g3⟩ := (show ObjOk X.prog X.w H s.heap tp (.tup (cs.map fun p => V.ref p.1)) from I.hok tp _ hT)
  have e3 := ClsV.all (paired_own cs) rv
  subst e3
  obtain ⟨oc, od, dt, sl⟩ := o
  simp only at g2 g3
  subst g2 g3
  exact PySem.W.kia_tup (PySem.W.handS_kitx_exc C.hg C.hk C.hs C.hd C.ha C.hn C.ht C.hm) I.kIn J g1 (kitAny_own cs hk) (fun z => nomatch z) fun tk => ⟨.bl _, H, I.kept (t' := tk) fun _ _ z => z, rfl, q⟩
section
variable {X : Cx} {W : WX} {pin : List Pn} {pos : Pos} {K : PySem.W.Frag} {G : GG} {ms : List Addr}
theorem ve_isET {a Dc : Addr} {oe : Obj} {pn : List (Addr × Obj)} (i : Nat) {n : Str} {es : List Expr} {tx : Nat} {cs : List (Addr × Bool)} {b : Bool} {p p1 p2 : Pos} (C : ExcC X.K Dc) (hz : Zc (.ref Dc) none oe) (hf : ∃ vs, oe.data = .fields vs) (hk : ∀ p ∈ cs, PySem.W.kitOne X.K (.ref Dc) (.ref p.1) = some p.2) (hb : cs.any (·.2) = b) (hlen : cs.length ≤ sizeLine)
    (hx : PA (X.suite a ((a, oe) :: pn)) es (fun _ H Q => Q (cs.map fun p => V.ref p.1) H)) (hp : Pn.s i (V.ref a) ∈ pin) (hgi : Gl X "isinstance") (hmi : X.mg "isinstance" = none) (hN : X.N[i]? = some n := by rfl) (hv : Vis X.env.scope n := by first | exact Or.inl rfl | exact Or.inr (Or.inl rfl) | exact Or.inr (Or.inr rfl))
    (hd : (n == ("__debug__" : Str)) = false := by decide) (hcd : (n == ("__classdict__" : Str)) = false := by decide)
    (hs1 : starEach [.Name n p1, .Tuple es tx p2] X.env = (false, eval (.Name n p1) X.env) :: starEach [.Tuple es tx p2] X.env := by rfl) (hs2 : starEach [.Tuple es tx p2] X.env = (false, eval (.Tuple es tx p2) X.env) :: starEach [] X.env := by rfl) (hpl : (backTo pos (starEach [.Tuple es tx p2] X.env)).any (·.1) = false := by rfl) :
    VE (X.suite a ((a, oe) :: pn)) W pin (.Call (.Name "isinstance" p) [.Name n p1, .Tuple es tx p2] [] pos) (eC (.bl b)) := by
  refine pe_imp (pe_callB (call_isET C hz hf) hgi hmi (by decide +kernel) (pa_cons (pe_var (X := X.suite a ((a, oe) :: pn)) (i := i) hN hv hd hcd) (pa_cons (pe_tup hx) pa_nil hs2) hs1) (by decide) (by decide) hs1 hpl) fun σ H Q ⟨G, ms, s, h, hh, sl, q⟩ => ?_
  refine ⟨.ref a, sl.pin _ hp, ?_⟩
  refine ⟨by rw [List.length_map]; exact hlen, fun tp htp => ⟨tp, cs, rfl, upd_same, hk, ?_⟩⟩
  rw [hb]
  have eg : GLe G (gupd G tp (.tup (cs.map fun p => V.ref p.1))) := gle_upd (hh.gnone htp)
  exact Post.fin2 (b := V.bl b) q eg (pre_refl _) (hh.still htp (by show (cs.map fun p => V.ref p.1).length ≤ sizeLine; rw [List.length_map]; exact hlen)) rfl
end
def indexD : D → List D → Hs → R D
  | o, [y], h => match toP h 64 o, toP h 64 y with
    | some (.list ps), some p => match ps.findIdx? (fun z => PyData.eqv z p) with
      | some j => .ok (.int (j : Nat)) h
      | none => .bad
    | _, _ => .bad
  | _, _, _ => .bad
section
variable {X : Cx} {W : WX} {pin : List Pn} {K : PySem.W.Frag} {mg : Str → Option Value} {E : XK} {G G' : GG} {H : Hp} {ms ms' : List Addr} {h : Hs} {pos : Pos} {a b c : Expr} {rest : List Expr}
theorem md_index (hu : X.A.units + 65 < cLine) : MtD X "list.index" indexD := by
  intro pins s σ H x xs v us Q I rx rs ⟨G, ms, h, d, ds, hh, i, il, q⟩
  unfold indexD at q
  split at q
  · obtain ⟨w, e0, i1⟩ := isL1 (ds := []) il
    subst e0
    split at q
    · rename_i ps p e1 e2
      split at q
      · rename_i j ej
        obtain ⟨hj, h1, h2⟩ := List.findIdx?_eq_some_iff_getElem.mp ej
        have dl := dp_of hh _ _ _ _ i e1
        have dy := dp_of hh _ _ _ _ i1 e2
        obtain ⟨l, rfl⟩ : ∃ l, x = V.ref l := by
          cases dl with
          | lst _ _ => exact ⟨_, rfl⟩
        refine mt_indexD hu pins s σ H _ _ v us Q I rx rs ⟨l, w, p, ps, j, ps[j], rfl, rfl, dl, dy, shaped_of e1 (Nat.le_refl _), shaped_of e2 (Nat.le_refl _), List.getElem?_eq_getElem hj, h1, fun m z hm hz => ?_, q.fin hh rfl⟩
        have hml : m < ps.length := by omega
        rw [List.getElem?_eq_getElem hml] at hz
        cases hz
        simpa using h2 m hm
      · exact q.elim
    · exact q.elim
  · exact q.elim
def inX (n : Bool) : D → D → Hs → R D := fun x y h => match toP h 64 x, toP h 64 y with
  | some p, some (.list ps) => .ok (.bl (if n = true then !(ps.any fun z => PyData.eqv z p) else ps.any fun z => PyData.eqv z p)) h
  | some p, some (.tuple ps) => .ok (.bl (if n = true then !(ps.any fun z => PyData.eqv z p) else ps.any fun z => PyData.eqv z p)) h
  | _, _ => .bad
theorem room_in_at {A : Around} {d : PyData} {ds : List PyData} (s : SeqAt.shaped d = true) (hu : A.units + 65 < cLine) : A.units + 1 + min (PyData.depthAll ds) d.depth < cLine := room_in_shaped s hu
theorem od_inX (hu : X.A.units + 65 < cLine) : OpD X (compareOp .In) (inX false) := by
  intro pins s σ H x y v u Q I rx ry ⟨G, ms, h, da, db, hh, ia, ib, q⟩
  unfold inX at q
  split at q
  · rename_i p ps e1 e2
    exact op_inD hu pins s σ H _ _ v u Q I rx ry ⟨p, ps, dp_of hh _ _ _ _ ia e1, dp_of hh _ _ _ _ ib e2, shaped_of e1 (Nat.le_refl _), shaped_of e2 (Nat.le_refl _), q.fin hh rfl⟩
  · rename_i p ps e1 e2
    obtain ⟨as, r1⟩ := Dp.reads I p x v (dp_of hh _ _ _ _ ia e1) rx
    obtain ⟨bs, r2⟩ := Dp.reads I (.tuple ps) y u (dp_of hh _ _ _ _ ib e2) ry
    exact SeqAt.in_tuple_reads r2 r1 (SeqAt.canLay_of_shaped (shaped_of e2 (Nat.le_refl _))) (SeqAt.canLay_of_shaped (shaped_of e1 (Nat.le_refl _))) (room_in_at (shaped_of e1 (Nat.le_refl _)) hu) ⟨.bl _, H, I, rfl, q.fin hh rfl⟩
  · exact q.elim
theorem od_notinX (hu : X.A.units + 65 < cLine) : OpD X (compareOp .NotIn) (inX true) := by
  intro pins s σ H x y v u Q I rx ry ⟨G, ms, h, da, db, hh, ia, ib, q⟩
  unfold inX at q
  split at q
  · rename_i p ps e1 e2
    exact op_notInD hu pins s σ H _ _ v u Q I rx ry ⟨p, ps, dp_of hh _ _ _ _ ia e1, dp_of hh _ _ _ _ ib e2, shaped_of e1 (Nat.le_refl _), shaped_of e2 (Nat.le_refl _), q.fin hh rfl⟩
  · rename_i p ps e1 e2
    obtain ⟨as, r1⟩ := Dp.reads I p x v (dp_of hh _ _ _ _ ia e1) rx
    obtain ⟨bs, r2⟩ := Dp.reads I (.tuple ps) y u (dp_of hh _ _ _ _ ib e2) ry
    exact SeqAt.notIn_tuple_reads r2 r1 (SeqAt.canLay_of_shaped (shaped_of e2 (Nat.le_refl _))) (SeqAt.canLay_of_shaped (shaped_of e1 (Nat.le_refl _))) (room_in_at (shaped_of e1 (Nat.le_refl _)) hu) ⟨.bl _, H, I, rfl, q.fin hh rfl⟩
  · exact q.elim
theorem units65 {k : Nat} {A : Around} (r : Room k A) : A.units + 65 < cLine := by have := r.un; omega
open Classical in
noncomputable def mulLv : D → D → Hs → R D
  | .lst xs, .int k, h => if repOk k xs.length then newL true (List.replicate k.toNat xs).flatten h else .bad
  | _, _, _ => .bad
theorem od_mulLv : OpD X (binaryOp .Mult) mulLv := by
  intro pins s σ H x y v u Q I rx ry ⟨G, ms, h, da, db, hh, ia, ib, q⟩
  unfold mulLv at q
  split at q
  · rename_i xs k
    cases ib
    split at q
    · rename_i hz
      obtain ⟨l, vs, rfl, h2, h3⟩ := hh.listX ia rfl
      exact op_rep pins s σ H _ _ v u Q I rx ry ⟨l, k, vs, rfl, rfl, h2, hz.1, hz.2.1, by rw [← h3.length]; exact hz.2.2, fun p hp => q.newL hh (h3.rep _) (by rw [len_rep]; rw [Nat.mul_comm]; exact hz.2.2) hp⟩
    · exact q.elim
  · exact q.elim
def addLv : D → D → Hs → R D := fun x y h => match lstX h x, lstX h y with
  | some xs, some ys => if xs.length + ys.length ≤ sizeLine then newL true (xs ++ ys) h else .bad
  | _, _ => .bad
theorem od_addLv : OpD X (binaryOp .Add) addLv := by
  intro pins s σ H x y v u Q I rx ry ⟨G, ms, h, da, db, hh, ia, ib, q⟩
  unfold addLv at q
  split at q
  · rename_i xs ys ea eb
    split at q
    · rename_i hz
      obtain ⟨l, vs, rfl, h2, h3⟩ := hh.listX ia ea
      obtain ⟨l', ws, rfl, k2, k3⟩ := hh.listX ib eb
      exact op_cat pins s σ H _ _ v u Q I rx ry ⟨l, l', vs, ws, rfl, rfl, h2, k2, by rw [← h3.length, ← k3.length]; exact hz, fun p hp => q.newL hh (h3.append k3) (by rw [List.length_append]; exact hz) hp⟩
    · exact q.elim
  · exact q.elim
end
end WD
namespace WD
open PySem PySem.Spec PyProof.Rows L2
def insU (x : Int) : List Int → List Int
  | [] => [x]
  | y :: ys => if y < x then y :: insU x ys else if y = x then y :: ys else x :: y :: ys
def sortU : List Int → List Int
  | [] => []
  | x :: xs => insU x (sortU xs)
theorem insU_mem {x k : Int} : ∀ ys : List Int, k ∈ insU x ys ↔ k = x ∨ k ∈ ys
  | [] => by simp [insU]
  | y :: ys => by
    unfold insU
    split
    · rw [List.mem_cons, insU_mem ys, List.mem_cons]
      constructor
      · rintro (h | h | h)
        · exact .inr (.inl h)
        · exact .inl h
        · exact .inr (.inr h)
      · rintro (h | h | h)
        · exact .inr (.inl h)
        · exact .inl h
        · exact .inr (.inr h)
    · split
      · rename_i e
        rw [List.mem_cons]
        constructor
        · exact fun h => .inr h
        · rintro (h | h)
          · exact .inl (by omega)
          · exact h
      · rw [List.mem_cons]
theorem sortU_mem {k : Int} : ∀ xs : List Int, k ∈ sortU xs ↔ k ∈ xs
  | [] => Iff.rfl
  | x :: xs => by rw [sortU, insU_mem, sortU_mem xs, List.mem_cons]
theorem insU_srt {x : Int} : ∀ ys : List Int, ys.Pairwise (· < ·) → (insU x ys).Pairwise (· < ·)
  | [], _ => List.pairwise_singleton _ _
  | y :: ys, h => by
    have h0 := List.pairwise_cons.mp h
    unfold insU
    split
    · rename_i hl
      refine List.pairwise_cons.mpr ⟨fun z hz => ?_, insU_srt ys h0.2⟩
      rcases (insU_mem ys).mp hz with rfl | hz
      · exact hl
      · exact h0.1 z hz
    · split
      · exact h
      · refine List.pairwise_cons.mpr ⟨fun z hz => ?_, h⟩
        rcases List.mem_cons.mp hz with rfl | hz
        · omega
        · have := h0.1 z hz
          omega
theorem sortU_srt : ∀ xs : List Int, (sortU xs).Pairwise (· < ·)
  | [] => List.Pairwise.nil
  | x :: xs => insU_srt _ (sortU_srt xs)
theorem srtU_uniq : ∀ xs ys : List Int, xs.Pairwise (· < ·) → ys.Pairwise (· < ·) → (∀ k, k ∈ xs ↔ k ∈ ys) → xs = ys
  | [], [], _, _, _ => rfl
  | [], y :: ys, _, _, h => absurd ((h y).mpr List.mem_cons_self) (by simp)
  | x :: xs, [], _, _, h => absurd ((h x).mp List.mem_cons_self) (by simp)
  | x :: xs, y :: ys, hx, hy, h => by
    have hx' := List.pairwise_cons.mp hx
    have hy' := List.pairwise_cons.mp hy
    have e : x = y := by
      rcases List.mem_cons.mp ((h x).mp List.mem_cons_self) with e | e
      · exact e
      · rcases List.mem_cons.mp ((h y).mpr List.mem_cons_self) with e2 | e2
        · exact e2.symm
        · have := hx'.1 y e2
          have := hy'.1 x e
          omega
    subst e
    rw [srtU_uniq xs ys hx'.2 hy'.2 fun k => ?_]
    constructor
    · intro hk
      rcases List.mem_cons.mp ((h k).mp (List.mem_cons_of_mem _ hk)) with e | e
      · have := hx'.1 k hk; omega
      · exact e
    · intro hk
      rcases List.mem_cons.mp ((h k).mpr (List.mem_cons_of_mem _ hk)) with e | e
      · have := hy'.1 k hk; omega
      · exact e
theorem sortU_len {ks ns : List Int} (nd : ks.Nodup) (h : ∀ k, k ∈ ks ↔ k ∈ ns) : (sortU ns).length = ks.length := by
  have e : sortU ns = sortU ks := srtU_uniq _ _ (sortU_srt ns) (sortU_srt ks) fun k => by rw [sortU_mem, sortU_mem, h k]
  rw [e]
  have key : ∀ ks : List Int, ks.Nodup → (sortU ks).length = ks.length := by
    intro ks
    induction ks with
    | nil => intro _; rfl
    | cons k ks ih =>
      intro nd
      have nd' := List.nodup_cons.mp nd
      have hn : k ∉ sortU ks := fun hm => nd'.1 ((sortU_mem ks).mp hm)
      have hi : ∀ ys : List Int, k ∉ ys → (insU k ys).length = ys.length + 1 := by
        intro ys
        induction ys with
        | nil => intro _; rfl
        | cons y ys ihy =>
          intro hk
          have h1 : y ≠ k := fun e => hk (by rw [e]; exact List.mem_cons_self)
          unfold insU
          split
          · rw [List.length_cons, ihy fun hm => hk (List.mem_cons_of_mem _ hm)]; rfl
          · rfl
      rw [sortU, hi _ hn, ih nd'.2]; rfl
  exact key ks nd
theorem firstMet_nd (val : Nat → Int) : ∀ i, (PyProof.Rows.firstMet val i).Nodup
  | 0 => by rw [firstMet_zero]; exact List.nodup_nil
  | i + 1 => by
    rw [firstMet_succ]
    unfold step_dedup
    split
    · exact firstMet_nd val i
    · rename_i hn
      refine List.nodup_append.mpr ⟨firstMet_nd val i, by simp, fun a ha b hb e => ?_⟩
      have hb : b = val i := by simpa using hb
      subst hb
      exact hn (List.any_eq_true.mpr ⟨a, ha, by simpa using e⟩)
theorem map_getD_range {ns : List Int} : (List.range ns.length).map (fun i => ns.getD i 0) = ns := by
  apply List.ext_getElem
  · simp
  · intro i h1 h2
    simp [List.getD, List.getElem?_eq_getElem h2]
def lenSetD : List D → Hs → R D
  | [d], h => match rowOf h d with
    | some xs => match intsOf xs with
      | some ns => if ns.length ≤ 1000 then .ok (.int (sortU ns).length) h else .bad
      | none => .bad
    | none => .bad
  | _, _ => .bad
def tLenSet (K : PySem.W.Frag) (te : TE) : TE := fun σ H Q => te σ H fun x H1 => ∃ (l : Addr) (ns : List Int), x = .ref l ∧ (SqL K H1 l (ns.map V.int) ∨ SqT K H1 l (ns.map V.int)) ∧ ns.length ≤ 1000 ∧ Q (.int (sortU ns).length) H1
section
variable {X : Cx} {W : WX} {pin : List Pn} {pos : Pos}
theorem pe_lenSetW {e : Expr} {te : TE} {p1 p2 q1 : Pos} (he : PE X e te) (hg : Gl X "len") (hm : X.mg "len" = none) (hg' : Gl X "set") (hm' : X.mg "set" = none) (hc : X.calm = true := by rfl) (hs : starEach [e] X.env = (false, eval e X.env) :: starEach [] X.env := by rfl) :
    PE X (.Call (.Name "len" p1) [.Call (.Name "set" p2) [e] [] q1] [] pos) (tLenSet X.K te) := by
  refine ⟨fun pins s σ H Q I hq => Call_ (ld_blt I hg hm PySem.boot_len (PyProof.Rows.callWith_builtin1 (PyProof.Rows.args_cons (Call_ (ld_blt I hg' hm' PyProof.Rows.boot_set (PyProof.Rows.callWith_type1 (PyProof.Rows.args_cons (thn (he.run pins s σ H _ I hq) fun v s1 z => PyProof.Rows.args_nil ?x) hs) hs rfl))) rfl) rfl rfl))⟩
  obtain ⟨x, H1, I1, r1, l, ns, e1, e2, e3, q1⟩ := z
  subst e1
  cases r1
  rcases e2 with e2 | e2
  · obtain ⟨its, rv, pl, hz⟩ := I1.list e2
    have hn : its.toArray.size = ns.length := by rw [List.size_toArray, ← rv.length, List.length_map]
    refine call_set_list (I1.ok.hd hc) pl.isList (by simpa using rv.ints) (by rw [hn]; unfold scanBound; omega) fun h' tk hS hk => PyProof.Rows.args_nil ?y
    obtain ⟨o, es, ep, t, k1, k2, k3, _, _, _, k7, k8⟩ := hS
    have I2 : Inv X pins σ H1 { s1 with heap := h', toks := tk } := I1.kept fun b o e => hk b o (Heap.lt_size e) e
    have hl : (PyProof.Rows.firstMet (fun i => ns.getD i 0) its.toArray.size).length = (sortU ns).length := by
      refine (sortU_len (firstMet_nd _ _) fun k => ?_).symm
      have ha := firstMet_any (fun i => ns.getD i 0) its.toArray.size k
      rw [hn, map_getD_range] at ha
      rw [hn]
      rw [Bool.eq_iff_iff] at ha
      simpa using ha
    have hle := firstMet_length_le (fun i => ns.getD i 0) its.toArray.size
    exact call_len_set k1 k2 k3 k7 (by rw [k8]; omega) ⟨.int (sortU ns).length, H1, I2.tok _, ⟨_, by rw [k8, hl]⟩, q1⟩
  · obtain ⟨its, rv, pt, hz⟩ := I1.tuple e2
    refine call_set_tupI ns (I1.ok.hd hc) (show s1.heap.IsTuple l its.toArray from pt) (by simpa using rv.ints) (by unfold scanBound; omega) fun h' tk c R hcn hk => PyProof.Rows.args_nil ?y2
    obtain ⟨o, es, ep, t, k1, k2, k3, _, nd, hm2, _, k7, k8, _, _⟩ := R
    have I2 : Inv X pins σ H1 { s1 with heap := h', toks := tk } := I1.kept hk
    have hl : es.size = (sortU ns).length := by
      have := sortU_len (ks := es.toList.map keyOf) (ns := ns) nd fun k => by rw [← hm2 k, decide_eq_true_eq]
      rw [this]; simp
    exact call_len_set k1 k2 k3 k7 (by rw [k8]; omega) ⟨.int (sortU ns).length, H1, I2.tok _, ⟨_, by rw [hl]⟩, q1⟩
theorem ve_lenSet {e : Expr} {f : FE} {p1 p2 q1 : Pos} (he : VE X W pin e f) (hg : Gl X "len") (hm : X.mg "len" = none) (hg' : Gl X "set") (hm' : X.mg "set" = none) (hc : X.calm = true := by rfl) (hs : starEach [e] X.env = (false, eval e X.env) :: starEach [] X.env := by rfl) :
    VE X W pin (.Call (.Name "len" p1) [.Call (.Name "set" p2) [e] [] q1] [] pos) (eB lenSetD (aCons f aNil)) := by
  refine pe_imp (pe_lenSetW he hg hm hg' hm' hc hs) fun σ H Q ⟨G, ms, s, h, hh, sl, q⟩ => ⟨G, ms, s, h, hh, sl, ?_⟩
  have q' : Post X.K X.mg (fun c d H => W c d σ H) G ms (Is X.K) ((f s h).bind fun d h1 => calm1 (lenSetD [d] h1)) Q := by
    cases ef : f s h with
    | ok d h1 => simpa [eB, aCons, aNil, ef] using q
    | err x h1 => simpa [eB, aCons, aNil, ef] using q
    | bad => simpa [eB, aCons, aNil, ef] using q
  refine Post.bind q' fun d h1 v H1 G1 ms1 e1 p1 hh1 i1 q1 => ?_
  have q1 := calm1_post q1
  simp only [lenSetD] at q1
  cases er : rowOf h1 d with
  | none => rw [er] at q1; exact q1.elim
  | some ys =>
    rw [er] at q1
    cases ei : intsOf ys with
    | none => simp only [ei] at q1; exact q1.elim
    | some ns =>
      simp only [ei] at q1
      by_cases hz : ns.length ≤ 1000
      · rw [if_pos hz] at q1
        obtain ⟨p, vs, rfl, h2, h3⟩ := hh1.row i1 er
        rw [intsOf_eq ei] at h3
        rw [h3.ints] at h2
        exact ⟨p, ns, rfl, h2, hz, q1.fin hh1 rfl⟩
      · rw [if_neg hz] at q1; exact q1.elim
end
theorem insU_le {x : Int} : ∀ ys : List Int, (insU x ys).length ≤ ys.length + 1
  | [] => Nat.le_refl _
  | y :: ys => by
    unfold insU
    split
    · have := insU_le (x := x) ys
      simp only [List.length_cons]; omega
    · split <;> simp
theorem sortU_le : ∀ xs : List Int, (sortU xs).length ≤ xs.length
  | [] => Nat.le_refl _
  | x :: xs => Nat.le_trans (insU_le _) (Nat.succ_le_succ (sortU_le xs))
def sortSetD : List D → Hs → R D
  | [.tup xs], h => match intsOf xs with
    | some ns => if ns.length < 64 then .ok (.lst ((sortU ns).map D.int)) h else .bad
    | none => .bad
  | _, _ => .bad
def tSortSet (K : PySem.W.Frag) (te : TE) : TE := fun σ H Q => te σ H fun x H1 => ∃ (l : Addr) (ns : List Int), x = .ref l ∧ SqT K H1 l (ns.map V.int) ∧ ns.length < 64 ∧ ∀ p, H1 p = none → Q (.ref p) (upd H1 p (.lst ((sortU ns).map V.int)))
section
variable {X : Cx} {W : WX} {pin : List Pn} {pos : Pos}
theorem pe_sortSet {e : Expr} {te : TE} {p1 p2 q1 : Pos} (he : PE X e te) (hg : Gl X "sorted") (hm : X.mg "sorted" = none) (hg' : Gl X "set") (hm' : X.mg "set" = none) (hc : X.calm = true := by rfl) (hs : starEach [e] X.env = (false, eval e X.env) :: starEach [] X.env := by rfl) :
    PE X (.Call (.Name "sorted" p1) [.Call (.Name "set" p2) [e] [] q1] [] pos) (tSortSet X.K te) := by
  refine ⟨fun pins s σ H Q I hq => Call_ (ld_blt I hg hm (show bootBuiltins "sorted" = some (.builtin "sorted") by decide +kernel) (PyProof.Rows.callWith_builtin1 (PyProof.Rows.args_cons (Call_ (ld_blt I hg' hm' PyProof.Rows.boot_set (PyProof.Rows.callWith_type1 (PyProof.Rows.args_cons (thn (he.run pins s σ H _ I hq) fun v s1 z => PyProof.Rows.args_nil ?x) hs) hs rfl))) rfl) rfl rfl))⟩
  obtain ⟨x, H1, I1, r1, l, ns, e1, e2, e3, q1⟩ := z
  subst e1
  cases r1
  obtain ⟨its, rv, pt, hz⟩ := I1.tuple e2
  refine call_set_tupI ns (I1.ok.hd hc) (show s1.heap.IsTuple l its.toArray from pt) (by simpa using rv.ints) (by unfold scanBound; omega) fun h' tk c R hcn hk => PyProof.Rows.args_nil ?y
  have I2 : Inv X pins σ H1 { s1 with heap := h', toks := tk } := I1.kept hk
  refine sorted_set (s := { s1 with heap := h', toks := tk }) R (I2.ok.hd hc) (by omega) fun s' p out c ms k g o hp hg hi hs hm hl => ?_
  have em : ms = sortU ns := srtU_uniq _ _ hs (sortU_srt ns) fun j => by rw [hm j, decide_eq_true_eq, sortU_mem]
  subst em
  have hlen : ((sortU ns).map V.int).length ≤ sizeLine := by rw [List.length_map, hl, sizeLine_eq]; omega
  have hn : H1 p = none := I2.hok.fresh hp
  refine ⟨.ref p, upd H1 p (.lst ((sortU ns).map V.int)), ?_, rfl, q1 p hn⟩
  have J : Inv X pins σ (upd H1 p (.lst ((sortU ns).map V.int))) { ({ s1 with heap := h', toks := tk } : Shared) with heap := s'.heap, gens := s'.gens, drawn := s'.drawn, toks := s'.toks } := I2.call (ch := []) (Un.laid k hp hn) (I2.hok.laid k hp ⟨hlen, out.toList, c, vals_of_ints hi, hg⟩) (by rw [g]; exact I2.bare) (fun _ z => nomatch z)
  have e : s' = { ({ s1 with heap := h', toks := tk } : Shared) with heap := s'.heap, gens := s'.gens, drawn := s'.drawn, toks := s'.toks } := by
    cases s'; cases s1; cases o; rfl
  rw [e]; exact J
theorem ve_sortSet {e : Expr} {f : FE} {p1 p2 q1 : Pos} (he : VE X W pin e f) (hg : Gl X "sorted") (hm : X.mg "sorted" = none) (hg' : Gl X "set") (hm' : X.mg "set" = none) (hc : X.calm = true := by rfl) (hs : starEach [e] X.env = (false, eval e X.env) :: starEach [] X.env := by rfl) :
    VE X W pin (.Call (.Name "sorted" p1) [.Call (.Name "set" p2) [e] [] q1] [] pos) (eB sortSetD (aCons f aNil)) := by
  refine pe_imp (pe_sortSet he hg hm hg' hm' hc hs) fun σ H Q ⟨G, ms, s, h, hh, sl, q⟩ => ⟨G, ms, s, h, hh, sl, ?_⟩
  have q' : Post X.K X.mg (fun c d H => W c d σ H) G ms (Is X.K) ((f s h).bind fun d h1 => calm1 (sortSetD [d] h1)) Q := by
    cases ef : f s h with
    | ok d h1 => simpa [eB, aCons, aNil, ef] using q
    | err x h1 => simpa [eB, aCons, aNil, ef] using q
    | bad => simpa [eB, aCons, aNil, ef] using q
  refine Post.bind q' fun d h1 v H1 G1 ms1 e1 p1 hh1 i1 q1 => ?_
  have q1 := calm1_post q1
  cases d with
  | tup xs =>
    simp only [sortSetD] at q1
    cases ei : intsOf xs with
    | none => simp only [ei] at q1; exact q1.elim
    | some ns =>
      simp only [ei] at q1
      by_cases hz : ns.length < 64
      · rw [if_pos hz] at q1
        obtain ⟨p, vs, rfl, h2, h3⟩ := hh1.tuple i1
        rw [intsOf_eq ei] at h3
        rw [h3.ints] at h2
        exact ⟨p, ns, rfl, h2, hz, fun p' hp => Post.newL (m := false) q1 hh1 (.of_ints (sortU ns)) (by rw [List.length_map]; exact Nat.le_trans (sortU_le ns) (Nat.le_trans (Nat.le_of_lt hz) (by decide))) hp⟩
      · rw [if_neg hz] at q1; exact q1.elim
  | _ => exact q1.elim
end
end WD
namespace WD
open PySem PySem.Spec PyProof.Rows L2
structure RoomG (k : Nat) (A : Around) : Prop extends Room k A where
  gu : A.guards = some []
theorem RoomG.mono {j k : Nat} {A : Around} (r : RoomG k A) (h : j ≤ k) : RoomG j A := ⟨r.toRoom.mono h, r.gu⟩
theorem RoomG.under {k : Nat} {A : Around} (r : RoomG (k + 1) A) (env : Env) : RoomG k (A.deeper env) := ⟨r.toRoom.deeper env, r.gu⟩
theorem RoomG.u65 {k : Nat} {A : Around} (r : RoomG k A) : A.units + 65 < cLine := units65 r.toRoom
structure FnG (P : Program) (w : World) (K : PySem.W.Frag) (mg : Str → Option Value) (base : Heap) (k : Nat) (f : Addr) (fd : FuncData) (ps : List Str) (sp : Sp) : Prop where
  count : ∀ xs H Q E, sp xs H Q E → xs.length = ps.length
  goes : ∀ A outer s H args us xs Q E, RoomG k A → Env0 P w K mg base A outer s H → BindsTo s fd args (ps.zip us) → Vals xs us → sp xs H Q E →
      codeAny (model P w) A (.call (.ref f) args) (CR (L2.CX P w) outer P w H s Q E) s
section
variable {P : Program} {w : World} {K : PySem.W.Frag} {mg : Str → Option Value} {base : Heap} {f : Addr} {fd : FuncData} {ps : List Str} {sp : Sp}
theorem FnG.mono {j k : Nat} (F : FnG P w K mg base j f fd ps sp) (hj : j ≤ k) : FnG P w K mg base k f fd ps sp :=
  ⟨F.count, fun A outer s H args us xs Q E r => F.goes A outer s H args us xs Q E (r.mono hj)⟩
theorem FnG.imp {k : Nat} {sp' : Sp} (F : FnG P w K mg base k f fd ps sp) (hi : ∀ xs H Q E, sp' xs H Q E → sp xs H Q E) : FnG P w K mg base k f fd ps sp' :=
  ⟨fun xs H Q E q => F.count xs H Q E (hi _ _ _ _ q), fun A outer s H args us xs Q E r e b v q => F.goes A outer s H args us xs Q E r e b v (hi _ _ _ _ q)⟩
theorem fnG_of {x qual : Str} {st : Stmt} {N : List Str} {k : Nat} (F : Fun K x qual st f fd) (S : FnScope N ps (defScope st)) (cnt : ∀ xs H Q E, sp xs H Q E → xs.length = ps.length)
    (bd : ∀ cdv A outer s H xs Q E, RoomG k (A.deeper (envOfC qual (defScope st) s.heap.objs.size f cdv)) → sp xs H Q E →
      ∃ t, PSs (cxOf (L2.CX P w) P w K mg base N qual (defScope st) f cdv A outer s H E) (defBody st) t ∧ t ⟨fun _ H' => Q .non H', Q, fun _ _ => False, fun _ _ => False⟩ (start N xs) H) : FnG P w K mg base (k + 1) f fd ps sp := by
  obtain ⟨oc, od, kV, doc, pm, an, cdv, ct, osl, rfl, lk, ccd⟩ := F.ex
  refine ⟨cnt, fun A outer s H args us xs Q E room env bnd vals q => ?_⟩
  have kin : K.In s.heap := env.mod.kin.keeps fun a ob z => (env.bs a ob z).1
  have nol : s.heap.NoLimit := env.mod.nolimit.keeps fun a ob z => (env.bs a ob z).1
  refine codeAny_call_function room.toRoom.depth (kin _ _ lk) rfl S.co S.gen rfl (PySem.W.codeRec_of kin ccd) (bnd _ _ _ _ (wpAny_newFunctionEnv_cells S.kind (fun z hz => ?_) fun ev hev st1 inC => ?_))
  · rcases S.par z.1 (List.of_mem_zip (show (z.1, z.2) ∈ _ from hz)).1 with t | t
    · exact Or.inl t
    · exact Or.inr ⟨t, PySem.W.cellsFrom_some _ _ _ (Or.inl t)⟩
  subst hev
  refine ⟨nol.keeps inC.toInCall.keep, codeAny_func ?_⟩
  obtain ⟨tt, rd, go⟩ := bd cdv A outer s H xs Q E (room.under _) q
  have iv := inv_start (CX := L2.CX P w) (N := N) (E := E) S room.toRoom.hd env (cnt _ _ _ _ q) vals inC
  refine wpAny_mono (rd.run [] st1 (start N xs) H _ iv go) (fun fl s2 ends => ?_) fun _ _ z => z
  match fl, ends with
  | .ret u, ⟨v, σ', H', J, rv, z⟩ => exact ⟨v, H', J.os, J.bare, J.base, J.hok, rv, z⟩
  | .next, ⟨σ', H', J, z⟩ => exact ⟨V.non, H', J.os, J.bare, J.base, J.hok, rfl, z⟩
  | .brk, ⟨_, _, _, z⟩ => exact z.elim
  | .cont, ⟨_, _, _, z⟩ => exact z.elim
theorem fn_okG (md : Md) {x qual : Str} {st : Stmt} {N : List Str} {k : Nat} {b : FS} (F : Fun K x qual st f fd) (S : FnScope N ps (defScope st))
    (hb : ∀ (cdv : Value) (A : Around) (outer : List Env) (s : Shared) (H : Hp) (E : XK), RoomG k (A.deeper (envOfC qual (defScope st) s.heap.objs.size f cdv)) → VSs (cxOf (L2.CX P w) P w K mg base N qual (defScope st) f cdv A outer s H E) (fun cls d _ H => E cls d H) [] (defBody st) b) :
    FnG P w K mg base (k + 1) f fd ps (spF K mg ps.length (runF ps.length N.length md b)) := by
  refine fnG_of F S (fun vs H Q E h => h.1) (fun cdv A outer s H vs Q E hr h => ?_)
  obtain ⟨hl, G, ms, ds, h, hh, i, q⟩ := h
  refine ⟨_, hb cdv A outer s H E hr, G, ms, _, h, hh, map_start (N := N) i, ?_⟩
  have hd : ds.length = ps.length := by rw [i.length]; exact hl
  unfold runF at q
  rw [if_pos hd] at q
  rw [hd]
  cases e : b (ds.map some ++ List.replicate (N.length - ps.length) none) h with
  | nx s' h' =>
    rw [e] at q
    exact fun σ' H' G' ms' e1 p1 hh1 sl1 => exitF_post (d := .non) hh e1 p1 hh1 rfl q
  | rt d h' =>
    rw [e] at q
    exact fun v H' G' ms' e1 p1 hh1 i1 => exitF_post hh e1 p1 hh1 i1 q
  | er y s' h' =>
    rw [e] at q
    exact fun σ' H' G' ms' d e1 p1 hh1 _ i1 => exitX_post hh e1 p1 hh1 i1 q
  | bk s' h' => rw [e] at q; exact q.elim
  | ct s' h' => rw [e] at q; exact q.elim
  | bad => rw [e] at q; exact q.elim
end
section
variable {X : Cx} {W : WX} {pin : List Pn} {pos p : Pos}
theorem pe_callG {k : Nat} {f : Addr} {fd : FuncData} {ps : List Str} {x : Str} {e : Expr} {es : List Expr} {sp : Sp} {t : TA} (F : FnG X.prog X.w X.K X.mg X.base k f fd ps sp) (hr : RoomG k X.A) (hg : Gl X x) (hm : X.mg x = some (.ref f)) (hk : PySem.W.keepIn X.K (.ref f) = true) (hb : Binds X.K fd ps []) (tk : Takes X W)
    (ha : PA X (e :: es) t) (hdb : (x == ("__debug__" : Str)) = false) (he : starEach (e :: es) X.env = (false, eval e X.env) :: starEach es X.env) (hpl : (backTo pos (starEach es X.env)).any (·.1) = false) :
    PE X (.Call (.Name x p) (e :: es) [] pos) (tCallS sp (WE W) t) := by
  refine ⟨fun pins s σ H Q I q => wpAny_Call_Name_kw (ld_glob I hg hm ?_ hdb)⟩
  refine PySem.W.callWith_K (h₀ := X.base) I.ok.mod.kin hk (thn (ha.run pos pins s σ H _ I q) fun us s1 z => ?_) he hpl
  obtain ⟨vs, H1, J, rr, qq⟩ := z
  refine ⟨J.kIn, ?_⟩
  have hn : us.length = ps.length := rr.length.symm.trans (F.count _ _ _ _ qq)
  have bb : BindsTo s1 fd ⟨us, []⟩ (ps.zip us) := by simpa using hb s1 us J.kIn (by simpa using hn)
  refine wpAny_call (codeAny_mono (F.goes X.A X.stack s1 H1 ⟨us, []⟩ us vs Q (WE W σ) hr J.env0 bb rr qq) fun r s2 hz => ?_)
  match r, hz with
  | .error er, hz => exact passAt tk σ pins H1 s1 er s2 J hz
  | .ok (.ret u), hz => exact J.after hz
theorem ve_callG {k n : Nat} {f : Addr} {fd : FuncData} {ps : List Str} {x : Str} {e : Expr} {es : List Expr} {g : List D → Hs → R D} {fa : FA} (F : FnG X.prog X.w X.K X.mg X.base k f fd ps (spF X.K X.mg n g)) (hr : RoomG k X.A) (hg : Gl X x) (hm : X.mg x = some (.ref f)) (hk : PySem.W.keepIn X.K (.ref f) = true) (hb : Binds X.K fd ps []) (tk : Takes X W)
    (ha : VA X W pin (e :: es) fa) (hdb : (x == ("__debug__" : Str)) = false := by decide) (he : starEach (e :: es) X.env = (false, eval e X.env) :: starEach es X.env := by rfl) (hpl : (backTo pos (starEach es X.env)).any (·.1) = false := by rfl) :
    VE X W pin (.Call (.Name x p) (e :: es) [] pos) (eCall n g fa) := by
  refine pe_imp (pe_callG F hr hg hm hk hb tk ha hdb he hpl) fun σ H Q ⟨G, ms, s, h, hh, sl, q⟩ => ⟨G, ms, s, h, hh, sl, Post.bind q fun ds h1 vs H1 G1 ms1 e1 p1 hh1 i1 q1 => ?_⟩
  by_cases hn : ds.length = n
  · rw [if_pos hn] at q1
    exact ⟨by rw [← i1.length]; exact hn, G1, ms1, ds, h1, hh1, i1, q1⟩
  · rw [if_neg hn] at q1; exact q1.elim
end
open Classical in
noncomputable def reprD : List D → Hs → R D
  | [d], h => match toP h 60 d with
    | some p => if p.showable = true ∧ p.shown.length ≤ sizeLine then .ok (.str p.shown) h else .bad
    | none => .bad
  | _, _ => .bad
section
variable {X : Cx}
theorem cd_repr {k : Nat} (hr : RoomG k X.A) : CallD X (.builtin "repr") reprD := by
  intro pins s σ H xs us Q I r ⟨G, ms, h, ds, hh, i, q⟩
  unfold reprD at q
  split at q
  · rename_i d
    split at q
    · rename_i p e
      split at q
      · rename_i hz
        obtain ⟨v, rfl, i1⟩ := isL1 (ds := []) i
        obtain ⟨u, rfl, rv⟩ := vals1 r
        obtain ⟨lay, dep⟩ := toP_ok h 60 d p e
        obtain ⟨as, rd⟩ := Dp.reads I p v u (dp_of hh _ _ _ _ i1 e) rv
        have un := hr.u65
        have fin : ∀ h' t tk, (∀ b o, s.heap.get? b = some o → h'.get? b = some o) → EP X pins σ Q (.str p.shown t) { s with heap := h', toks := tk } := fun h' t tk kp => ⟨.str p.shown, H, I.kept kp, ⟨t, rfl⟩, q.fin hh rfl⟩
        cases u with
        | ref a => exact repr_of_reads' rd hz.1 (PyData.noDict_hsm (PyData.hasDict_of_canLay p lay)) hr.gu (by omega) (fun _ _ z => z) fin hz.2
        | int j t =>
          cases rd
          exact PySem.P.repr_of_int (by simpa [PyData.showable] using hz.1) (fin s.heap _ _ fun _ _ z => z)
        | str y t =>
          cases rd
          exact PySem.P.repr_of_str (fin s.heap _ _ fun _ _ z => z) hz.2
        | none => cases rd; exact PySem.P.repr_of_none (fin s.heap _ _ fun _ _ z => z)
        | bool b => cases rd; exact PySem.P.repr_of_bool (fin s.heap _ _ fun _ _ z => z)
        | _ => cases rd
      · exact q.elim
    · exact q.elim
  · exact q.elim
end
theorem headG {P : Program} {w : World} {K : PySem.W.Frag} {mg mb : Str → Option Value} {k : Nat} {fa a : Addr} {fd : FuncData} {x : Str} {sp : Sp} {st : Shared} {items : List Value} {ns : List Int}
    (kin : K.In st.heap) (main : st.heap.Ns mainGlobals mg) (blt : st.heap.Ns builtinsNs mb) (bb : ∀ y : Str, y ≠ "__name__" → mb y = bootBuiltins y) (nol : st.heap.NoLimit) (gn : st.gens = #[])
    (scr : st.heap.get? a = some { cls := .type "list", data := .seq items.toArray }) (areI : IntsAre items ns) (len : ns.length ≤ sizeLine) (rm : RoomG k callerA)
    (F : ∀ base : Heap, K.In base → base.Ns mainGlobals mg → FnG P w K mg base k fa fd [x] sp) (bnd : ∀ (s : Shared) (u : Value), BindsTo s fd ⟨[u], []⟩ [(x, u)])
    (told : ∀ H : Hp, Only H → SqL K H a (ns.map V.int) → sp [.ref a] H (fun v _ => v = .bl true) fun _ _ _ => False) :
    codeAny (model P w) callerA (.call (.ref fa) ⟨[.ref a], []⟩) (fun r s' => r = .ok (.ret (.bool true)) ∧ OldK st.heap s'.heap ∧ s'.os = st.os ∧ AllBare s'.gens) st := by
  have vals := vals_ints areI
  have many := areI.length
  have go : ∀ H : Hp, Only H → SqL K H a (ns.map V.int) → HOk P w H st.heap → (∀ b, H b ≠ none → b = a ∧ K.lookup a = none) →
      codeAny (model P w) callerA (.call (.ref fa) ⟨[.ref a], []⟩) (fun r s' => r = .ok (.ret (.bool true)) ∧ OldK st.heap s'.heap ∧ s'.os = st.os ∧ AllBare s'.gens) st := by
    intro H onl sq ok at_
    have dictFree : ∀ {b : Addr} {m : Str → Option Value}, st.heap.Ns b m → (hidT st.heap H).Ns b m := by
      rintro b m ⟨o, es, ep, e, d, r⟩
      refine ⟨o, es, ep, hidT_get e ?_, d, r⟩
      refine Classical.byContradiction fun z => ?_
      obtain ⟨rfl, _⟩ := at_ b z
      rw [scr] at e
      cases e
      exact absurd d (fun q => by cases q)
    have kinB : K.In (hidT st.heap H) := fun b o e => hidT_get (kin b o e) (Classical.byContradiction fun z => by
      obtain ⟨rfl, n⟩ := at_ b z
      rw [n] at e
      cases e)
    have modB : Mod K mg (hidT st.heap H) := by
      refine ⟨kinB, dictFree main, ⟨mb, dictFree blt, bb⟩, ?_⟩
      obtain ⟨m, z1, z2⟩ := nol
      exact ⟨m, dictFree z1, z2⟩
    have env : Env0 P w K mg (hidT st.heap H) callerA [] st H :=
      ⟨rfl, modB, fun _ _ e => of_hidT e, Nat.le_of_eq (hidT_size st.heap H), trivial, fun _ z => (nomatch z), ok, .of_eq gn⟩
    refine codeAny_mono ((F _ kinB (dictFree main)).goes callerA [] st H ⟨[.ref a], []⟩ [.ref a] [.ref a] _ _ rm env (bnd st (.ref a)) (.cons rfl .nil) (told H onl sq)) fun r s' z => ?_
    match r, z with
    | .error e, z =>
      obtain ⟨_, _, _, _, _, _, _, _, _, _, _, _, no⟩ := (show L2.CX P w [] H st (fun _ _ _ => False) e s' from z)
      exact no.elim
    | .ok (.ret u), ⟨v, H', os, bare, un, ok', rel, (ev : v = .bl true)⟩ =>
      subst ev
      obtain rfl : u = Value.bool true := rel
      refine ⟨rfl, .of_keep fun b o e => ?_, os, bare⟩
      rcases onl b with n | ⟨ob, ys, y⟩
      · exact un.keep b o e n (fun q => (nomatch q)) (by simp)
      · have one := (ok b _ y).1
        rw [e] at one
        cases one
        exact (ok' b _ (un.frzs b _ _ y)).1
  cases own : K.lookup a with
  | some o =>
    have e := kin a o own
    rw [scr] at e
    cases e
    exact go (fun _ => none) (fun _ => .inl rfl) (.inr ⟨_, items.toArray, _, own, rfl, rfl, rfl, by rw [List.size_toArray, many]; exact len, by simpa using vals⟩) (fun _ _ q => (nomatch q)) fun _ q => absurd rfl q
  | none =>
    let fz : HO := .frz { cls := .type "list", data := .seq items.toArray } (.lst (ns.map V.int))
    have no : ∀ b u, (if b = a then some fz else none) = some u → b = a ∧ fz = u := fun b u q => by
      split at q
      · rename_i hb; cases q; exact ⟨hb, rfl⟩
      · cases q
    refine go (fun b => if b = a then some fz else none) (fun b => ?_) (.inl (.inr ⟨_, if_pos rfl⟩)) (fun b u q => ?_) fun b q => ⟨Classical.byContradiction fun z => q (if_neg z), own⟩
    · by_cases hb : b = a
      · exact .inr ⟨_, _, if_pos hb⟩
      · exact .inl (if_neg hb)
    · obtain ⟨rfl, rfl⟩ := no b u q
      exact ⟨scr, by rw [List.length_map]; exact len, items, _, vals, scr⟩
theorem walkG {l : PySem.W.OpenLaw} {n k : Nat} {q : Program} {loose : List Str} {XP : (Str → Option Value) → Heap → Prop} {YP : World → Heap → Prop} {d : DefRec} {K : Params → PySem.W.Frag} {sp : World → Sp} {x : Str}
    (most : l.most = some n) (fits : n ≤ sizeLine) (nodef : d.params.defaults = []) (rm : RoomG k callerA) (hY : ∀ (w : World) (h : Heap), YP w h → (K w.params).In h)
    (F : ∀ w mg fa (h : Heap), (K w.params).In h → h.Ns mainGlobals mg → mg d.name = some (.ref fa) →
      ∃ fd : FuncData, (∀ (s : Shared) (u : Value), BindsTo s fd ⟨[u], []⟩ [(x, u)]) ∧ ∀ base : Heap, (K w.params).In base → base.Ns mainGlobals mg → FnG l.prog w (K w.params) mg base k fa fd [x] (sp w))
    (told : ∀ w H a (ns : List Int), ns.length ≤ n → Only H → SqL (K w.params) H a (ns.map V.int) → sp w [.ref a] H (fun v _ => v = .bl true) fun _ _ _ => False) :
    PySem.W.WalkO q loose XP YP l.row.toRowW d [] (fun f vs => PySem.call f vs) :=
  Att.attach_call most nodef fun w s0 st mg mb fa o pm cd doc a items ns G Y _ _ _ hm scr areI le gn =>
    have kin := hY w _ Y
    have ⟨_, bnd, ok⟩ := F w mg fa _ kin G.T.g hm
    headG kin G.T.g G.T.b G.T.builtins G.T.nolimit gn scr areI (Nat.le_trans le fits) rm ok bnd fun H onl sq => told w H a ns le onl sq
end WD
namespace WD
open PySem PySem.Spec PyProof.Rows L2
def lexGe (ns ms : List Int) : Bool := Ob.lexAt (fun j => ns.getD j 0 == ms.getD j 0) (fun j => decide (ms.getD j 0 ≤ ns.getD j 0)) (decide (ns.length ≥ ms.length)) 0 (min ns.length ms.length)
def geT : D → D → Hs → R D
  | .tup xs, .tup ys, h => match intsOf xs, intsOf ys with
    | some ns, some ms => .ok (.bl (lexGe ns ms)) h
    | _, _ => .bad
  | _, _, _ => .bad
section
variable {X : Cx} {W : WX} {pin : List Pn}
theorem ints_tup {pins : List (Addr × Obj)} {σ : L2.St} {H : Hp} {s : Shared} {a : Addr} {ns : List Int} (I : L2.Inv X pins σ H s) (ha : SqT X.K H a (ns.map V.int)) :
    ∃ its : Array Value, s.heap.IsTuple a its ∧ its.size = ns.length ∧ ∀ j (hj : j < its.size), ∃ t, its[j] = .int (ns.getD j 0) t := by
  obtain ⟨its, r, p, _⟩ := I.tuple ha
  have q : IntsAre its ns := Vals.ints r
  have n : its.toArray.size = ns.length := by rw [List.size_toArray]; exact q.length
  exact ⟨its.toArray, p, n, fun j hj => PyProof.Rows.IntsAre.int_at q _ _ (by simp only [List.size_toArray] at hj; simp [hj])⟩
theorem od_geT (hu : X.A.units + 65 < cLine) : OpD X (compareOp .GtE) geT := by
  intro pins s σ H x y v u Q I rx ry ⟨G, ms, h, da, db, hh, ia, ib, q⟩
  unfold geT at q
  split at q
  · rename_i xs ys _
    split at q
    · rename_i ns ks e1 e2
      rw [intsOf_eq e1] at ia
      rw [intsOf_eq e2] at ib
      obtain ⟨a, vs, rfl, a2, a3⟩ := ia
      obtain ⟨b, ws, rfl, b2, b3⟩ := ib
      rw [a3.ints] at a2
      rw [b3.ints] at b2
      cases rx
      cases ry
      obtain ⟨t1, p1, n1, g1⟩ := ints_tup I (ns := ns) (.inl (.inl (hh.sub _ _ a2)))
      obtain ⟨t2, p2, n2, g2⟩ := ints_tup I (ns := ks) (.inl (.inl (hh.sub _ _ b2)))
      have go := Ob.RcOp.tuples_ge (A := X.A) (s := s) p1 p2 (show X.A.units < cLine by omega) (e := fun j => ns.getD j 0 == ks.getD j 0) (r := fun j => decide (ks.getD j 0 ≤ ns.getD j 0))
        (fun j h1 h2 => by
          obtain ⟨w1, z1⟩ := g1 j h1
          obtain ⟨w2, z2⟩ := g2 j h2
          rw [z1, z2]; exact SeqAt.EqAt.int_int _ _ _ _)
        (fun j h1 h2 _ => by
          obtain ⟨w1, z1⟩ := g1 j h1
          obtain ⟨w2, z2⟩ := g2 j h2
          rw [z1, z2]; exact Ob.RcOp.ge_int _ _ _ _)
      rw [n1, n2] at go
      exact go X.prog X.w X.xe (EP X pins σ Q) ⟨.bl (lexGe ns ks), H, I, rfl, q.fin hh rfl⟩
    · exact q.elim
  · exact q.elim
def sBad : FS := fun _ _ => .bad
theorem vs_any {st : Stmt} : VS X W pin st sBad := ⟨fun pins s σ H D I hq => by obtain ⟨G, ms, sl, h, hh, i, q⟩ := hq; exact q.elim⟩
end
theorem lexGe_two {a b c d : Int} : lexGe [a, b] [c, d] = decide (c < a ∨ (a = c ∧ d ≤ b)) := by
  unfold lexGe
  by_cases h1 : a = c
  · subst h1
    by_cases h2 : b = d
    · subst h2; simp [Ob.lexAt]
    · simp [Ob.lexAt, h2]
  · simp [Ob.lexAt, h1]
    omega
@[simp] theorem x_geP {p q : Int × Int} {h : Hs} : geT (prD p) (prD q) h = .ok (.bl (decide (q.1 < p.1 ∨ (p.1 = q.1 ∧ q.2 ≤ p.2)))) h := by
  show R.ok (D.bl (lexGe [p.1, p.2] [q.1, q.2])) h = _
  rw [lexGe_two]
end WD
namespace WD
open PySem PySem.Spec PyProof.Rows L2
theorem notPin_one {i j : Nat} {v : V} (h : j ≠ i) : NotPin [.s j v] i := fun p hp => by
  obtain rfl : p = .s j v := by simpa using hp
  exact h
theorem call_isP {Y : Cx} {a D : Addr} {oe : Obj} (hp : (a, oe) ∈ Y.pn) (C : ExcC Y.K D) (hz : Zc (.ref D) none oe) (hf : ∃ vs, oe.data = .fields vs) : CallR Y (.builtin "isinstance") (rIsE Y.K D a) := by
  intro pins s σ H xs us Q I r ⟨c, cv, b, e0, hcv, hk, q⟩
  subst e0
  obtain ⟨u1, u2, e1, r1, r2⟩ := vals2 r
  subst e1
  cases (show u1 = Value.ref a from r1)
  cases hcv _ r2
  have got := (I.pin (a, oe) (List.mem_append_left _ hp)).1
  obtain ⟨vs, hv⟩ := hf
  have at_ : PySem.W.InstAt s.heap a oe D none := by
    obtain ⟨oc, od, dt, sl⟩ := oe
    obtain ⟨z1, z2⟩ := hz
    simp only at z1 z2 hv
    subst z1 z2 hv
    exact ⟨got, rfl, rfl, trivial⟩
  exact PySem.W.kia_one (PySem.W.handS_kitx_exc C.hg C.hk C.hs C.hd C.ha C.hn C.ht C.hm) I.kIn at_ hk (fun z => nomatch z) fun tk => ⟨.bl b, H, I.kept (t' := tk) fun _ _ z => z, rfl, q⟩
section
variable {Y : Cx} {W : WX} {pin : List Pn} {pos : Pos}
theorem ve_isP {a Dc : Addr} {oe : Obj} (i : Nat) {n x : Str} {cv : Value} {c : V} {b : Bool} {p p1 p2 : Pos} (hpn : (a, oe) ∈ Y.pn) (C : ExcC Y.K Dc) (hz : Zc (.ref Dc) none oe) (hf : ∃ vs, oe.data = .fields vs) (hk : PySem.W.kitOne Y.K (.ref Dc) cv = some b) (hcv : ∀ u, RelV c u → u = cv)
    (hx : PE Y (.Name x p2) (tC c)) (hp : Pn.s i (V.ref a) ∈ pin) (hgi : Gl Y "isinstance") (hmi : Y.mg "isinstance" = none) (hN : Y.N[i]? = some n := by rfl) (hv : Vis Y.env.scope n := by first | exact Or.inl rfl | exact Or.inr (Or.inl rfl) | exact Or.inr (Or.inr rfl))
    (hd : (n == ("__debug__" : Str)) = false := by decide) (hcd : (n == ("__classdict__" : Str)) = false := by decide)
    (hs1 : starEach [.Name n p1, .Name x p2] Y.env = (false, eval (.Name n p1) Y.env) :: starEach [.Name x p2] Y.env := by rfl) (hs2 : starEach [.Name x p2] Y.env = (false, eval (.Name x p2) Y.env) :: starEach [] Y.env := by rfl) (hpl : (backTo pos (starEach [.Name x p2] Y.env)).any (·.1) = false := by rfl) :
    VE Y W pin (.Call (.Name "isinstance" p) [.Name n p1, .Name x p2] [] pos) (eC (.bl b)) := by
  refine pe_imp (pe_callB (call_isP hpn C hz hf) hgi hmi (by decide +kernel) (pa_cons (pe_var (X := Y) (i := i) hN hv hd hcd) (pa_cons hx pa_nil hs2) hs1) (by decide) (by decide) hs1 hpl) fun σ H Q ⟨G, ms, s, h, hh, sl, q⟩ => ?_
  exact ⟨.ref a, sl.pin _ hp, c, cv, b, rfl, hcv, hk, Post.fin (b := V.bl b) q hh rfl⟩
end
/-- what is asked of an error: one of the classes names, by its object -/
structure ErO (mg : Str → Option Value) (names : List Str) (y : Str) (o : Obj) : Prop where
  mem : y ∈ names
  cls : Zc (clsV mg ⟨y, none⟩) none o
  fld : ∃ vs, o.data = .fields vs
structure FnE (P : Program) (w : World) (K : PySem.W.Frag) (mg : Str → Option Value) (base : Heap) (k : Nat) (f : Addr) (fd : FuncData) (x : Str) (names : List Str) (g : Str → Hs → R D) : Prop where
  goes : ∀ A outer s H p y Q, L2H.RoomH k A → L2H.PinOk outer H s p → ErO mg names y p.2 → Env0 P w K mg base A outer s H → BindsTo s fd ⟨[.ref p.1], []⟩ [(x, .ref p.1)] →
    (∃ G ms h, Hh K G ms h H ∧ Post K mg (fun _ _ _ => False) G ms (Is K) (g y h) Q) → codeAny (model P w) A (.call (.ref f) ⟨[.ref p.1], []⟩) (CR (L2.CX P w) outer P w H s Q (fun _ _ _ => False)) s
noncomputable def runE (N : Nat) (md : Md) (b : FS) (h : Hs) : R D := match b (List.replicate N none) h with
  | .nx _ h' => exitF md h .non h'
  | .rt d h' => exitF md h d h'
  | _ => .bad
section
variable {P : Program} {w : World} {K : PySem.W.Frag} {mg : Str → Option Value} {base : Heap} {f : Addr} {fd : FuncData}
theorem FnE.mono {j k : Nat} {x : Str} {names : List Str} {g : Str → Hs → R D} (F : FnE P w K mg base j f fd x names g) (h : j ≤ k) : FnE P w K mg base k f fd x names g := ⟨fun A outer s H p y Q r => F.goes A outer s H p y Q (r.mono h)⟩
theorem fnE_ok (md : Md) {x0 qual x : Str} {st : Stmt} {N : List Str} {k : Nat} {names : List Str} {b : Str → FS} (F : Fun K x0 qual st f fd) (S : FnScope N [x] (defScope st))
    (hb : ∀ cdv A outer s H p y, L2H.RoomH k (A.deeper (envOfC qual (defScope st) s.heap.objs.size f cdv)) → ErO mg names y p.2 →
      VSs (L2H.cxH (L2.CX P w) P w K mg base N qual (defScope st) f cdv A outer s H (fun _ _ _ => False) p) W0 [.s 0 (.ref p.1)] (defBody st) (b y)) :
    FnE P w K mg base (k + 1) f fd x names (fun y h => runE N.length md (b y) h) := by
  obtain ⟨oc, od, kV, doc, pm, an, cdv, ct, osl, rfl, lk, ccd⟩ := F.ex
  refine ⟨fun A outer s H p y Q room pk er env bnd q => ?_⟩
  have kin : K.In s.heap := env.mod.kin.keeps fun a ob z => (env.bs a ob z).1
  have nol : s.heap.NoLimit := env.mod.nolimit.keeps fun a ob z => (env.bs a ob z).1
  refine codeAny_call_function room.depth (kin _ _ lk) rfl S.co S.gen rfl (PySem.W.codeRec_of kin ccd) (bnd _ _ _ _ (wpAny_newFunctionEnv_cells S.kind (fun z hz => ?_) fun ev hev st1 inC => ?_))
  · obtain rfl : z = (x, Value.ref p.1) := by simpa using hz
    rcases S.par x List.mem_cons_self with t | t
    · exact Or.inl t
    · exact Or.inr ⟨t, PySem.W.cellsFrom_some _ _ _ (Or.inl t)⟩
  subst hev
  refine ⟨nol.keeps inC.toInCall.keep, codeAny_func ?_⟩
  have rd := hb cdv A outer s H p y (room.deeper _) er
  have iv := L2H.inv_startH (CX := L2.CX P w) (N := N) (ps := [x]) (us := [.ref p.1]) (vs := [.ref p.1]) (E := fun _ _ _ => False) S pk env rfl (.cons rfl .nil) inC
  obtain ⟨G, ms, h, hh, q⟩ := q
  have hN : 0 < N.length := by
    have := congrArg List.length S.pre
    rw [List.length_take] at this
    simp at this
    omega
  have sl : Sl K G ms [Pn.s 0 (V.ref p.1)] (List.replicate N.length none) (L2.start N [V.ref p.1]) := by
    refine ⟨by simp [L2.start]; omega, fun i d e => ?_, fun z hz => ?_⟩
    · have := List.mem_of_getElem? e
      have := List.eq_of_mem_replicate this
      cases this
    · obtain rfl : z = Pn.s 0 (V.ref p.1) := by simpa using hz
      rfl
  let En : Ends := ⟨fun _ H' => Q .non H', Q, fun _ _ => False, fun _ _ => False⟩
  have go : rdS (L2H.cxH (L2.CX P w) P w K mg base N qual (defScope st) f cdv A outer s H (fun _ _ _ => False) p) W0 [.s 0 (.ref p.1)] (b y) En (L2.start N [V.ref p.1]) H := by
    refine ⟨G, ms, _, h, hh, sl, ?_⟩
    unfold runE at q
    cases e : b y (List.replicate N.length none) h with
    | nx s' h' =>
      rw [e] at q
      exact fun σ' H' G' ms' e1 p1 hh1 sl1 => exitF_post (d := .non) hh e1 p1 hh1 rfl q
    | rt d h' =>
      rw [e] at q
      exact fun v H' G' ms' e1 p1 hh1 i1 => exitF_post hh e1 p1 hh1 i1 q
    | er z s' h' => rw [e] at q; exact q.elim
    | bk s' h' => rw [e] at q; exact q.elim
    | ct s' h' => rw [e] at q; exact q.elim
    | bad => rw [e] at q; exact q.elim
  refine wpAny_mono (rd.run [] st1 (L2.start N [V.ref p.1]) H En iv go) (fun fl s2 ends => ?_) fun _ _ z => z
  match fl, ends with
  | .ret u, ⟨v, σ', H', J, rv, z⟩ => exact ⟨v, H', J.os, J.bare, J.base, J.hok, rv, z⟩
  | .next, ⟨σ', H', J, z⟩ => exact ⟨V.non, H', J.os, J.bare, J.base, J.hok, rfl, z⟩
  | .brk, ⟨_, _, _, z⟩ => exact z.elim
  | .cont, ⟨_, _, _, z⟩ => exact z.elim
end
def eErr (r : Hs → R D) : FE := fun _ h => r h
@[simp] theorem x_eErr {r : Hs → R D} {s : Ss} {h : Hs} : eErr r s h = r h := (rfl)
section
variable {X : Cx} {W : WX} {pin : List Pn} {pos : Pos}
/-- f(error), in the suite -/
theorem ve_callE {k : Nat} {f a : Addr} {oe : Obj} {pn : List (Addr × Obj)} {fd : FuncData} {x fx n y : Str} {names : List Str} {g : Str → Hs → R D} {p p1 : Pos} (i : Nat) (F : FnE X.prog X.w X.K X.mg X.base k f fd x names g) (hr : Room k X.A) (er : ErO X.mg names y oe) (hg : Gl X fx) (hm : X.mg fx = some (.ref f)) (hkp : PySem.W.keepIn X.K (.ref f) = true) (hb : Binds X.K fd [x] [])
    (hp : Pn.s i (V.ref a) ∈ pin) (hN : X.N[i]? = some n := by rfl) (hv : Vis X.env.scope n := by first | exact Or.inl rfl | exact Or.inr (Or.inl rfl) | exact Or.inr (Or.inr rfl))
    (hd : (n == ("__debug__" : Str)) = false := by decide) (hcd : (n == ("__classdict__" : Str)) = false := by decide) (hdb : (fx == ("__debug__" : Str)) = false := by decide)
    (hs1 : starEach [.Name n p1] X.env = (false, eval (.Name n p1) X.env) :: starEach [] X.env := by rfl) (hpl : (backTo pos (starEach [] X.env)).any (·.1) = false := by rfl) :
    VE (X.suite a ((a, oe) :: pn)) W0 pin (.Call (.Name fx p) [.Name n p1] [] pos) (eErr (g y)) := by
  refine ⟨fun pins s σ H Q I ⟨G, ms, s', h, hh, sl, q⟩ => wpAny_Call_Name_kw (ld_glob I hg hm ?_ hdb)⟩
  have ha : PA (X.suite a ((a, oe) :: pn)) [.Name n p1] (tCons _ tNil) := pa_cons (pe_var (X := X.suite a ((a, oe) :: pn)) (i := i) hN hv hd hcd) pa_nil hs1
  refine PySem.W.callWith_K (h₀ := X.base) I.ok.mod.kin hkp (thn (ha.run pos pins s σ H (fun vs H1 => vs = [V.ref a] ∧ H1 = H) I ⟨.ref a, sl.pin _ hp, rfl, rfl⟩) fun us s1 z => ?_) hs1 hpl
  obtain ⟨vs, H1, J, rr, rfl, rfl⟩ := z
  refine ⟨J.kIn, ?_⟩
  obtain ⟨u, rfl, ru⟩ := vals1 rr
  cases (show u = Value.ref a from ru)
  have bb : BindsTo s1 fd ⟨[.ref a], []⟩ [(x, .ref a)] := by simpa using hb s1 [.ref a] J.kIn rfl
  have pk := J.pin (a, oe) (List.mem_append_left _ List.mem_cons_self)
  have pin0 : L2H.PinOk X.stack H1 s1 (a, oe) := ⟨pk.1, pk.2.1, fun hm => (List.mem_cons.mp (J.stkSub a hm)).elim pk.2.2.1 pk.2.2.2.1, pk.2.2.2.2⟩
  refine wpAny_call (codeAny_mono (F.goes (X.suite a ((a, oe) :: pn)).A X.stack s1 H1 (a, oe) y Q ⟨hr.dp, hr.un⟩ pin0 er J.env0 bb ⟨G, ms, h, hh, q⟩) fun r s2 hz => ?_)
  match r, hz with
  | .error e, hz =>
    obtain ⟨_, _, _, _, _, _, _, _, _, _, _, _, no⟩ := (show L2.CX X.prog X.w X.stack H1 s1 (fun _ _ _ => False) e s2 from hz)
    exact no.elim
  | .ok (.ret u), hz => exact J.after hz
end
end WD
namespace WD
open PySem PySem.Spec PyProof.Rows L2
theorem args_sum_two (a b : Value) : argsOk "sum" ⟨[a, b], []⟩ := by unfold argsOk; kernel_rfl
/-- the lists that are summed lie in the heap -/
def LsAt (h : Heap) (ls : List (Addr × List Value)) (bar : List Addr) : Prop := ∀ p ∈ ls, p.1 ∉ bar ∧ ∃ c, h.get? p.1 = some { cls := .type "list", dict := none, data := .seq p.2.toArray c, slots := #[] }
theorem LsAt.keep {h h' : Heap} {ls : List (Addr × List Value)} {bar : List Addr} (x : LsAt h ls bar) (k : ∀ b o, b ∉ bar → h.get? b = some o → h'.get? b = some o) : LsAt h' ls bar := fun p hp => by
  obtain ⟨h1, c, h2⟩ := x p hp
  exact ⟨h1, c, k _ _ h1 h2⟩
section
variable {prog : Program} {w : World} {A : Around} {R : Result → Shared → Prop} {E : Value → Shared → Prop}
theorem sumL_loop {I ax S z0 : Addr} {its : Array Value} (hh : A.in1.handled = none) (hne : ax ≠ I) (hSI : S ≠ I) (hSx : S ≠ ax) (ls : List (Addr × List Value)) (hits : its = (ls.map fun p => Value.ref p.1).toArray) (z1 : z0 ≤ S) :
    ∀ (k i : Nat) (s : Shared) (T : Addr) (acc : List Value) (cT cS : Nat), ls.length - i = k → i ≤ ls.length → (s.heap.IsListIter I ax i ∧ s.heap.IsList ax its) → s.heap.get? S = some { cls := .type "list", dict := none, data := .seq #[.ref T] cS, slots := #[] } →
    T ∉ [I, S] → s.heap.get? T = some { cls := .type "list", dict := none, data := .seq acc.toArray cT, slots := #[] } → LsAt s.heap ls [I, S] → acc.length + ((ls.drop i).map fun p => p.2.length).sum ≤ sizeLine →
    (∀ h' tk T' c', (∀ b o, b ∉ [I, S] → s.heap.get? b = some o → h'.get? b = some o) → h'.get? T' = some { cls := .type "list", dict := none, data := .seq (acc ++ ((ls.drop i).map (·.2)).flatten).toArray c', slots := #[] } → (k = 0 ∧ T' = T ∨ z0 ≤ T' ∧ T' ∉ [I, S]) → R (.ok (.ret (.ref T'))) { s with heap := h', toks := tk }) →
    codeAny (model prog w) A (.builtin "sum.loop" ⟨[.ref I, .ref S, rawInt 2, rawInt 0], []⟩) R s := by
  have W := Walks.list (prog := prog) (w := w) (A := A.in1) hh I ax hne its
  have hsz : its.size = ls.length := by rw [hits]; simp
  intro k
  induction k with
  | zero =>
    intro i s T acc cT cS hk hi hst hS hTn hT hL hz hR
    have hin : i = ls.length := by omega
    refine codeAny_builtin F.entry_sum_loop ?_
    rw [Around.under_plainId F.plain_sum_loop _]
    show wpAny _ A.in1 (seqItems? (.ref S) >>= _) _ _ s
    refine wpAny_bind (wpAny_seqItems hS rfl ?_)
    show wpAny _ A.in1 (tryCatch (pyNext (.ref I)) _ >>= _) _ _ s
    refine wpAny_bind (wpAny_tryCatch (W.done s _ _ (by rw [hsz, ← hin]; exact hst) fun h' tk hk' => ?_))
    have kb : ∀ b o, b ∉ [I, S] → s.heap.get? b = some o → h'.get? b = some o := fun b o hb e => hk' b o (fun q => hb (by simp at q; simp [q])) e
    refine wpAny_pure (hR h' tk T cT kb ?_ (.inl ⟨rfl, rfl⟩))
    rw [hin, List.drop_length]
    simpa using kb T _ hTn hT
  | succ k ih =>
    intro i s T acc cT cS hk hi hst hS hTn hT hL hz hR
    have hlt : i < ls.length := by omega
    refine codeAny_builtin F.entry_sum_loop ?_
    rw [Around.under_plainId F.plain_sum_loop _]
    show wpAny _ A.in1 (seqItems? (.ref S) >>= _) _ _ s
    refine wpAny_bind (wpAny_seqItems hS rfl ?_)
    show wpAny _ A.in1 (tryCatch (pyNext (.ref I)) _ >>= _) _ _ s
    refine wpAny_bind (wpAny_tryCatch (W.item i s _ _ (by omega) hst fun v h' tk hP hst' hk' => ?_))
    have ev : v = .ref (ls[i]).1 := by
      rw [hits] at hP
      simp [List.getElem?_eq_getElem hlt] at hP
      exact hP.symm
    subst ev
    have kb : ∀ b o, b ∉ [I, S] → s.heap.get? b = some o → h'.get? b = some o := fun b o hb e => hk' b o (fun q => hb (by simp at q; simp [q])) e
    have hS' := hk' S _ (by simp [hSI]) hS
    have hT' := kb T _ hTn hT
    obtain ⟨hp1, c2, hp2⟩ := hL.keep kb (ls[i]) (List.getElem_mem hlt)
    have hdr : ls.drop i = ls[i] :: ls.drop (i + 1) := List.drop_eq_getElem_cons hlt
    rw [hdr] at hz hR
    simp only [List.map_cons, List.sum_cons, List.flatten_cons] at hz hR
    show wpAny _ A.in1 ((holding [Value.ref (ls[i]).1] (binaryOp .Add (.ref T) (.ref (ls[i]).1))).attempt >>= _) _ _ _
    refine wpAny_bind (wpAny_attempt (wpAny_holding (PySem.P.add_list (items := acc.toArray) (items2 := (ls[i]).2.toArray) (n := cT) (n2 := c2) hT' hp2 ?_ (by simp; omega))))
    have ea : acc.toArray ++ (ls[i]).2.toArray = (acc ++ (ls[i]).2).toArray := by simp
    rw [ea]
    show wpAny _ A.in1 (updateSeq S (fun _ => #[.ref h'.objs.size]) >>= _) _ _ _
    have gp : ∀ b o, h'.get? b = some o → (h'.push { cls := .type "list", data := .seq (acc ++ (ls[i]).2).toArray }).get? b = some o := fun b o e => Heap.get?_push_of_some _ e
    have hSp := gp S _ hS'
    have hI' : I < h'.objs.size := by obtain ⟨o, e, _⟩ := hst'.1; exact Heap.lt_size e
    have hSlt : S < h'.objs.size := Heap.lt_size hS'
    have hN : h'.objs.size ∉ [I, S] := by simp; exact ⟨Nat.ne_of_gt hI', Nat.ne_of_gt hSlt⟩
    have hNget : (h'.push { cls := .type "list", data := .seq (acc ++ (ls[i]).2).toArray }).get? h'.objs.size = some { cls := .type "list", dict := none, data := .seq (acc ++ (ls[i]).2).toArray 0, slots := #[] } := Heap.get?_push_size _ rfl
    refine wpAny_bind ?_
    refine wpAny_updateSeq hSp rfl ?_
    have hS2 := Heap.get?_update_self (Obj.mapSeq fun _ => #[Value.ref h'.objs.size]) hSp rfl
    refine wpAny_bind (wpAny_letGo ?_)
    refine wpAny_bind ?_
    have up1 : ∀ b o, b ∉ [I, S] → (h'.push { cls := .type "list", data := .seq (acc ++ (ls[i]).2).toArray }).get? b = some o → ((h'.push { cls := .type "list", data := .seq (acc ++ (ls[i]).2).toArray }).update S (Obj.mapSeq fun _ => #[Value.ref h'.objs.size])).get? b = some o := fun b o hb e => (Heap.get?_update_other _ _ (fun q : S = b => hb (by simp [q]))).trans e
    refine wpAny_updateSeq hS2 rfl (wpAny_pure ⟨plainId_quiet F.plain_sum_loop _, ih (i + 1) _ h'.objs.size (acc ++ (ls[i]).2) 0 _ (by omega) hlt ?_ (Heap.get?_update_self _ hS2 rfl) hN ?_ ?_ (by rw [List.length_append]; omega) fun h'' tk'' T' c' hk'' hT'' hor => ?_⟩)
    · refine ⟨hst'.1.at fun o e => ?_, hst'.2.at fun o e => ?_⟩
      · exact (Heap.get?_update_other _ _ hSI).trans ((Heap.get?_update_other _ _ hSI).trans (gp _ _ e))
      · exact (Heap.get?_update_other _ _ hSx).trans ((Heap.get?_update_other _ _ hSx).trans (gp _ _ e))
    · have hNS : S ≠ h'.objs.size := Nat.ne_of_lt hSlt
      exact (Heap.get?_update_other _ _ hNS).trans ((Heap.get?_update_other _ _ hNS).trans hNget)
    · exact hL.keep fun b o hb e => (Heap.get?_update_other _ _ (fun q : S = b => hb (by simp [q]))).trans (up1 b o hb (gp _ _ (kb b o hb e)))
    · rw [List.append_assoc] at hT''
      refine hR h'' tk'' T' c' (fun b o hb e => hk'' b o hb ((Heap.get?_update_other _ _ (fun q : S = b => hb (by simp [q]))).trans (up1 b o hb (gp _ _ (kb b o hb e))))) hT'' (.inr ?_)
      rcases hor with ⟨_, rfl⟩ | hor
      · exact ⟨Nat.le_of_lt (Nat.lt_of_le_of_lt z1 hSlt), hN⟩
      · exact hor
theorem call_sumL {s : Shared} {a b : Addr} {ls : List (Addr × List Value)} {st : List Value} {cb : Nat} {Q : Value → Shared → Prop} (hh : A.handled = none) (hl : s.heap.IsList a (ls.map fun p => Value.ref p.1).toArray) (hb : s.heap.get? b = some { cls := .type "list", dict := none, data := .seq st.toArray cb, slots := #[] })
    (hL : LsAt s.heap ls []) (hz : st.length + (ls.map fun p => p.2.length).sum ≤ sizeLine)
    (h : ∀ h' tk T' c', (∀ b o, s.heap.get? b = some o → h'.get? b = some o) → h'.get? T' = some { cls := .type "list", dict := none, data := .seq (st ++ (ls.map (·.2)).flatten).toArray c', slots := #[] } → (ls = [] ∧ T' = b ∨ s.heap.objs.size ≤ T') → Q (.ref T') { s with heap := h', toks := tk }) :
    wpAny (model prog w) A (call (.builtin "sum") [.ref a, .ref b]) Q E s := by
  refine call_function_tree F.kind_sum F.plain_sum F.entry_sum (args_sum_two _ _) ?_
  unfold Builtin.«sum»
  simp only [List.length_cons, List.length_nil]
  rw [if_neg (by decide)]
  refine wpAny_bind (wpAny_of_eq (show Builtin.Builtins.bindParams "sum" ["start"] 0 ⟨[Value.ref b], []⟩ = pure [some (.ref b)] from rfl) ?_)
  have ha : a < s.heap.objs.size := by obtain ⟨_, e, _⟩ := hl; exact Heap.lt_size e
  refine wpAny_bind (wpAny_pyIter_list hl ?_)
  refine wpAny_bind (wpAny_pure ?_)
  have gp : ∀ x o, s.heap.get? x = some o → (s.heap.push { cls := .type "list_iterator", data := .fields #[.ref a, .int 0 0] }).get? x = some o := fun x o e => Heap.get?_push_of_some _ e
  have hbT : Shared.TypeIs { s with heap := s.heap.push { cls := .type "list_iterator", data := .fields #[.ref a, .int 0 0] } } (.ref b) "list" := ⟨_, gp _ _ hb, rfl⟩
  simp only [List.forIn_cons, List.forIn_nil]
  refine wpAny_bind (wpAny_bind (wpAny_bind (wpAny_isInstance (T := "list") (b := false) hbT PySem.F.sub_list_str ?_)))
  simp only [Bool.false_eq_true, if_false]
  refine wpAny_pure (wpAny_bind (wpAny_bind (wpAny_isInstance (T := "list") (b := false) hbT PySem.F.sub_list_bytes ?_)))
  simp only [Bool.false_eq_true, if_false]
  refine wpAny_pure (wpAny_bind (wpAny_bind (wpAny_isInstance (T := "list") (b := false) hbT PySem.F.sub_list_bytearray ?_)))
  simp only [Bool.false_eq_true, if_false]
  refine wpAny_pure (wpAny_pure ?_)
  refine wpAny_bind (wpAny_newObj_type ?_)
  have hs1 : (s.heap.push { cls := .type "list_iterator", data := .fields #[.ref a, .int 0 0] }).objs.size = s.heap.objs.size + 1 := Heap.size_push ..
  have g2 : ∀ x o, (s.heap.push { cls := .type "list_iterator", data := .fields #[.ref a, .int 0 0] }).get? x = some o → ((s.heap.push { cls := .type "list_iterator", data := .fields #[.ref a, .int 0 0] }).push { cls := .type "list", data := .seq #[Value.ref b] }).get? x = some o := fun x o e => Heap.get?_push_of_some _ e
  have lt_old : ∀ x o, s.heap.get? x = some o → x ∉ [s.heap.objs.size, (s.heap.push { cls := .type "list_iterator", data := .fields #[.ref a, .int 0 0] }).objs.size] := fun x o e q => by
    have lt := Heap.lt_size e
    rw [hs1] at q
    rcases List.mem_cons.mp q with q | q
    · exact Nat.lt_irrefl _ (q ▸ lt)
    · rw [List.mem_singleton.mp q] at lt
      exact Nat.lt_irrefl _ (Nat.lt_trans (Nat.lt_succ_self _) lt)
  refine wpAny_pure ⟨plainId_quiet F.plain_sum_loop _, sumL_loop (I := s.heap.objs.size) (ax := a) (z0 := s.heap.objs.size) (S := (s.heap.push { cls := .type "list_iterator", data := .fields #[.ref a, .int 0 0] }).objs.size) (its := (ls.map fun p => Value.ref p.1).toArray) (by simp [hh]) (Nat.ne_of_lt ha) (by rw [hs1]; exact Nat.succ_ne_self _) (by rw [hs1]; exact Nat.ne_of_gt (Nat.lt_succ_of_lt ha)) ls rfl (by rw [hs1]; exact Nat.le_succ _) ls.length 0 _ b st cb 0 (by omega) (Nat.zero_le _) ⟨⟨_, g2 _ _ (Heap.get?_push_size _ rfl), rfl, rfl⟩, ?_⟩ (Heap.get?_push_size _ rfl) (lt_old _ _ hb) (g2 _ _ (gp _ _ hb)) ?_ (by simpa using hz) fun h' tk T' c' hk hT hor => ?_⟩
  · exact hl.at fun o e => g2 _ _ (gp _ _ e)
  · intro p hp
    obtain ⟨_, c, e⟩ := hL p hp
    exact ⟨lt_old _ _ e, c, g2 _ _ (gp _ _ e)⟩
  · refine h h' tk T' c' (fun x o e => hk x o (lt_old _ _ e) (g2 _ _ (gp _ _ e))) (by simpa using hT) ?_
    rcases hor with ⟨q, rfl⟩ | q
    · exact .inl ⟨List.length_eq_zero_iff.mp q, rfl⟩
    · exact .inr q.1
end
/-- sum(xs, ys), xs a list of lists -/
def rSumL : List V → Hp → VK → Prop := fun vs H Q => ∃ (a b : Addr) (ls : List (Addr × List V)) (st : List V), vs = [V.ref a, V.ref b] ∧ H a = some (.lst (ls.map fun p => V.ref p.1)) ∧ H b = some (.lst st) ∧ (∀ p ∈ ls, H p.1 = some (.lst p.2)) ∧ st.length + (ls.map fun p => p.2.length).sum ≤ sizeLine ∧
  (ls = [] → Q (.ref b) H) ∧ ∀ p, H p = none → Q (.ref p) (upd H p (.lst (st ++ (ls.map (·.2)).flatten)))
theorem vals_refs : ∀ {ls : List (Addr × List V)} {us : List Value}, Vals (ls.map fun p => V.ref p.1) us → us = ls.map fun p => Value.ref p.1
  | [], _, r => by cases r; rfl
  | p :: ls, _, r => by
    cases r with
    | cons r t =>
      cases r
      rw [vals_refs t]; rfl
section
variable {X : Cx} {W : WX} {pin : List Pn} {K : PySem.W.Frag} {mg : Str → Option Value} {E : XK} {G G' : GG} {H : Hp} {ms ms' : List Addr} {h : Hs}
theorem lists_at {pins : List (Addr × Obj)} {σ : L2.St} {s : Shared} (I : L2.Inv X pins σ H s) : ∀ ls : List (Addr × List V), (∀ p ∈ ls, H p.1 = some (.lst p.2)) → ∃ lw : List (Addr × List Value), lw.map (·.1) = ls.map (·.1) ∧ (lw.map fun p => p.2.length) = (ls.map fun p => p.2.length) ∧ Vals (ls.map (·.2)).flatten (lw.map (·.2)).flatten ∧ LsAt s.heap lw []
  | [], _ => ⟨[], rfl, rfl, .nil, fun _ z => nomatch z⟩
  | p :: ls, hp => by
    obtain ⟨lw, h1, h2, h3, h4⟩ := lists_at I ls fun q hq => hp q (List.mem_cons_of_mem _ hq)
    obtain ⟨z, its, n, r, e1, e2⟩ := I.lstM (hp p List.mem_cons_self)
    refine ⟨(p.1, its) :: lw, by simp [h1], by simp [h2, e1], ?_, fun q hq => ?_⟩
    · simp only [List.map_cons, List.flatten_cons]
      exact r.append h3
    · rcases List.mem_cons.mp hq with rfl | hq
      · exact ⟨by simp, n, e2⟩
      · exact h4 q hq
theorem cr_sumL (hc : X.calm = true) : CallR X (.builtin "sum") rSumL := by
  intro pins s σ H vs us Q I r ⟨a, b, ls, st, e0, ha, hb, hp, hz, q0, q1⟩
  subst e0
  obtain ⟨u1, u2, e1, r1, r2⟩ := vals2 r
  subst e1
  cases (show u1 = Value.ref a from r1)
  cases (show u2 = Value.ref b from r2)
  obtain ⟨lw, l1, l2, l3, l4⟩ := lists_at I ls hp
  obtain ⟨z, its, n, ra, e2, e3⟩ := I.lstM ha
  obtain ⟨z', itb, nb, rb, e4, e5⟩ := I.lstM hb
  have ei : its = lw.map fun p => Value.ref p.1 := by
    rw [vals_refs ra]
    have : (lw.map (·.1)).map Value.ref = (ls.map (·.1)).map Value.ref := by rw [l1]
    rw [List.map_map, List.map_map] at this
    exact this.symm
  subst ei
  refine call_sumL (ls := lw) (st := itb) (I.ok.hd hc) ⟨_, e3, rfl, n, rfl⟩ e5 l4 (by rw [← e4, l2]; exact hz) fun h' tk T' c' hk hT hor => ?_
  rcases hor with ⟨hn, rfl⟩ | hor
  · have : ls = [] := by
      subst hn
      exact List.map_eq_nil_iff.mp l1.symm
    exact ⟨.ref T', H, I.kept hk, rfl, q0 this⟩
  · have hl : (st ++ (ls.map (·.2)).flatten).length ≤ sizeLine := by
      rw [List.length_append, List.length_flatten, List.map_map]; exact hz
    exact ⟨.ref T', _, I.laid (a := T') (o := .lst (st ++ (ls.map (·.2)).flatten)) hk hor ⟨hl, _, c', rb.append l3, hT⟩, rfl, q1 _ (I.hok.fresh hor)⟩
def listsOf (h : Hs) : List D → Option (List (List D))
  | [] => some []
  | d :: ds => match lstX h d, listsOf h ds with
    | some xs, some r => some (xs :: r)
    | _, _ => none
def sumLD : List D → Hs → R D
  | [d, .lst ys], h => match lstX h d with
    | some xs => match listsOf h xs with
      | some yss => if ys.length + (yss.map List.length).sum ≤ sizeLine then .ok (.lst (ys ++ yss.flatten)) h else .bad
      | none => .bad
    | none => .bad
  | _, _ => .bad
theorem lists_of (hh : Hh K G ms h H) : ∀ {xs : List D} {vs : List V} {yss : List (List D)}, IsL K G ms xs vs → listsOf h xs = some yss → ∃ ls : List (Addr × List V), vs = (ls.map fun p => V.ref p.1) ∧ (∀ p ∈ ls, H p.1 = some (.lst p.2)) ∧ (ls.map fun p => p.2.length) = yss.map List.length ∧ IsL K G ms yss.flatten (ls.map (·.2)).flatten ∧ (ls = [] → yss = [])
  | [], vs, yss, i, e => by
    cases e
    cases i
    exact ⟨[], rfl, fun _ z => (nomatch z), rfl, rfl, fun _ => rfl⟩
  | x :: xs, vs, yss, i, e => by
    obtain ⟨v, r, rfl, i1, i2⟩ := i
    unfold listsOf at e
    split at e
    · rename_i ys yr e1 e2
      cases e
      obtain ⟨a, ws, rfl, ha, hi⟩ := hh.listX i1 e1
      obtain ⟨ls, h1, h2, h3, h4, _⟩ := lists_of hh i2 e2
      refine ⟨(a, ws) :: ls, by simp [h1], fun p hp => ?_, by simp [h3, hi.length], ?_, fun z => nomatch z⟩
      · rcases List.mem_cons.mp hp with rfl | hp
        · exact ha
        · exact h2 p hp
      · simp only [List.map_cons, List.flatten_cons]
        exact hi.append h4
    · cases e
theorem cd_sumL (hc : X.calm = true) : CallD X (.builtin "sum") sumLD := by
  intro pins s σ H xs us Q I r ⟨G, ms, h, ds, hh, i, q⟩
  unfold sumLD at q
  split at q
  · rename_i d ys
    obtain ⟨v, w, rfl, i1, i2⟩ := isL2 i
    split at q
    · rename_i zs e
      split at q
      · rename_i yss e2
        split at q
        · rename_i hz
          obtain ⟨a, vs, rfl, ha, hi⟩ := hh.listX i1 e
          obtain ⟨ls, l1, l2, l3, l4, l5⟩ := lists_of hh hi e2
          subst l1
          obtain ⟨b, ws, rfl, hb, hj⟩ := hh.listX (xs := ys) i2 rfl
          refine cr_sumL hc pins s σ H _ us Q I r ⟨a, b, ls, ws, rfl, ha, hb, l2, by rw [l3, ← hj.length]; exact hz, fun e0 => ?_, fun p hp => ?_⟩
          · rw [l5 e0, List.flatten_nil, List.append_nil] at q
            exact q.fin hh i2
          · exact Post.newL (m := false) q hh (hj.append l4) (by rw [List.length_append, List.length_flatten]; exact hz) hp
        · exact q.elim
      · exact q.elim
    · exact q.elim
  · exact q.elim
end
theorem listsOf_map {α : Type} {h : Hs} {f : α → D} {g : α → List D} : ∀ xs : List α, (∀ x ∈ xs, lstX h (f x) = some (g x)) → listsOf h (xs.map f) = some (xs.map g)
  | [], _ => rfl
  | x :: xs, e => by
    rw [List.map_cons, listsOf, e x List.mem_cons_self, listsOf_map xs fun y hy => e y (List.mem_cons_of_mem _ hy)]; rfl
end WD
namespace WD
open PySem PySem.Spec PyProof.Rows L2
abbrev sObj (w : World) : Obj := { cls := .type "set", dict := none, data := .set #[] 0 (.fresh 0 0 (!w.params.followText "set-order")) }
section
variable {P : Program} {w : World} {A : Around} {E : Value → Shared → Prop} {s : Shared}
theorem call_setLi {ll : Addr} {its : Array Value} (nz : List Int) {Q : Value → Shared → Prop} (hh : A.handled = none) (hL : s.heap.IsList ll its) (hI : IntsAre its.toList nz) (hB : nz.length + 1 < scanBound)
    (fin : ∀ (h' : Heap) (tk c : Nat), SetR w h' s.heap.objs.size (fun j => decide (j ∈ nz)) c → c ≤ nz.length → (∀ b o, s.heap.get? b = some o → h'.get? b = some o) → Q (.ref s.heap.objs.size) { s with heap := h', toks := tk }) :
    wpAny (model P w) A (call (.type "set") [.ref ll]) Q E s := by
  have hzz : its.size = nz.length := by have q := IntsAre.length hI; rw [Array.length_toList] at q; exact q
  obtain ⟨cc, ttl, gmro⟩ := F.called_set.mro
  have gmade := F.called_set.made
  have gsub := F.called_set.sub
  refine wpAny_call (codeAny_of_tree ?tree)
  show wpAny _ _ (callAny (.type "set") _) _ _ _
  refine wpAny_pure ⟨Code.quiet_builtin _ (by decide +kernel), codeAny_builtin F.entry_type_call ?body⟩
  rw [Around.under_plain (weight_type_call_type "set" [.ref ll] []) rfl]
  have g1 := F.called_set.notType
  have g2 := F.called_set.canCreate
  have gct := F.typeCall_set_1 (.ref ll)
  repeat (any_goals (first | assumption | wp_step))
  refine codeAny_mono (code_set_led1 (.ref ll) (E := E) (Q₁ := fun ob s₁ => ob = .ref s.heap.objs.size ∧ s₁ = { s with heap := s.heap.push (sObj w) }) ⟨rfl, rfl⟩) fun r s₁ hr => ?made
  cases r with
  | error e => exact hr
  | ok fl =>
    cases fl with
    | ret ob =>
      obtain ⟨rfl, rfl⟩ := hr
      have gS : (s.heap.push (sObj w)).get? s.heap.objs.size = some (sObj w) := Heap.get?_push_size _ rfl
      have gT : Shared.TypeIs { s with heap := s.heap.push (sObj w) } (.ref s.heap.objs.size) "set" := ⟨_, gS, rfl⟩
      have gli := F.called_set.init.lookup
      have gbi := F.called_set.init.bind (.ref s.heap.objs.size)
      repeat (any_goals (first | assumption | wp_step))
      refine codeAny_mono (codeAny_call_builtin (R := wants (fun r s₂ => r = .none ∧ ∃ h' tk c, s₂ = { s with heap := h', toks := tk } ∧ SetR w h' s.heap.objs.size (fun j => decide (j ∈ nz)) c ∧ c ≤ nz.length ∧ (∀ b o, s.heap.get? b = some o → h'.get? b = some o)) E) F.called_set.init.plain F.entry_set_init (check_set_init_1 gT ?init)) fun r₂ s₂ hr₂ => ?after
      case init =>
        obtain ⟨oL, gol, gcl, nL, gdl⟩ := hL
        obtain ⟨oc, od, odt, osl⟩ := oL
        simp only at gcl gdl
        subst gcl; subst gdl
        have gol' : (s.heap.push (sObj w)).get? ll = some { cls := .type "list", dict := od, data := .seq its nL, slots := osl } := Heap.get?_push_of_some _ gol
        have gs1 := F.sub_list_set
        have gs2 := F.sub_list_frozenset
        have gne : (Value.type "list" == Value.type "dict") = false := by decide
        have hL1 : (s.heap.push (sObj w)).IsList ll its := ⟨_, gol', rfl, nL, rfl⟩
        unfold Builtin.«set.__init__» noKeywords Builtin.Frozenset.updateFrom
        generalize gPI : pyIter = PI
        wp_walk
        subst gPI
        refine wpAny_pyIter_list hL1 (wpAny_bind (wpAny_runValue ?run))
        have glt : ll < s.heap.objs.size := Heap.lt_size gol
        have h3 : A.in1.in1.in1.handled = none := by simp [hh]
        have gnI : ll ≠ (s.heap.push (sObj w)).objs.size := by rw [Heap.size_push]; exact Nat.ne_of_lt (Nat.lt_succ_of_lt glt)
        have gSf : s.heap.objs.size ∉ [(s.heap.push (sObj w)).objs.size, ll] := by
          rw [Heap.size_push]
          simp only [List.mem_cons, List.mem_singleton, List.not_mem_nil, or_false, not_or]
          exact ⟨Nat.ne_of_lt (Nat.lt_succ_self _), Nat.ne_of_gt glt⟩
        have gval : ∀ (i : Nat) (v : Value), its[i]? = some v → ∃ k t, nz[i]? = some k ∧ v = .int k t := fun i v hv => by
          have hi : i < nz.length := by rw [← hzz]; exact (Array.getElem?_eq_some_iff.mp hv).1
          obtain ⟨t, e⟩ := PyProof.Rows.IntsAre.int_at hI i v (by rw [Array.getElem?_toList]; exact hv)
          refine ⟨nz[i], t, List.getElem?_eq_getElem hi, ?_⟩
          rw [e, List.getD_eq_getElem?_getD, List.getElem?_eq_getElem hi] <;> rfl
        refine set_update_ints ((Walks.list h3 _ ll gnI its).toS) s.heap.objs.size gSf nz hzz hB gval (its.size - 0) 0 _ (by omega) (Nat.zero_le _) ⟨⟨_, Heap.get?_push_size _ rfl, rfl, rfl⟩, (hL1.push _)⟩ ?g0 ?gR
        case g0 =>
          have gget : ((s.heap.push (sObj w)).push { cls := .type "list_iterator", data := .fields #[.ref ll, .int 0 0] }).get? s.heap.objs.size = some (sObj w) := Heap.get?_push_of_some _ gS
          exact ⟨0, Nat.le_refl 0, setR_new_at gget⟩
        case gR =>
          intro s' c' gm gc' gS'
          obtain ⟨h', g2, d', tk', os'⟩ := s'
          obtain rfl : g2 = s.gens := gm.gens
          obtain rfl : d' = s.drawn := gm.drawn
          obtain rfl : os' = s.os := gm.os
          show wpAny _ _ _ _ _ _
          refine wpAny_pure ?_
          show wpAny _ _ (ret Value.none) _ _ _
          rw [hzz] at gc'
          refine wpAny_pure ⟨rfl, h', tk', c', rfl, gS', gc', fun b o e => ?_⟩
          have b0 : b < s.heap.objs.size := Heap.lt_size e
          have b2 : b ≠ (s.heap.push (sObj w)).objs.size := by rw [Heap.size_push]; exact Nat.ne_of_lt (Nat.lt_succ_of_lt b0)
          exact gm.heap b o (by simp only [List.mem_cons, List.mem_singleton, List.not_mem_nil, or_false, not_or]; exact ⟨Nat.ne_of_lt b0, b2⟩) (Heap.get?_push_of_some _ (Heap.get?_push_of_some _ e))
      case after =>
        cases r₂ with
        | error e => exact hr₂
        | ok fl₂ =>
          cases fl₂ with
          | ret r =>
            obtain ⟨rfl, h', tk, c', rfl, gS', gc', gk'⟩ := hr₂
            repeat (any_goals (first | assumption | wp_step))
            exact fin _ _ _ gS' gc' gk'
          | _ => exact hr₂.elim
    | _ => exact hr.elim
end
def sortSetX : List D → Hs → R D
  | [d], h => match rowOf h d with
    | some xs => match intsOf xs with
      | some ns => if ns.length < 64 then .ok (.lst ((sortU ns).map D.int)) h else .bad
      | none => .bad
    | none => .bad
  | _, _ => .bad
def tSortSetX (K : PySem.W.Frag) (te : TE) : TE := fun σ H Q => te σ H fun x H1 => ∃ (l : Addr) (ns : List Int), x = .ref l ∧ (SqL K H1 l (ns.map V.int) ∨ SqT K H1 l (ns.map V.int)) ∧ ns.length < 64 ∧ ∀ p, H1 p = none → Q (.ref p) (upd H1 p (.lst ((sortU ns).map V.int)))
section
variable {X : Cx} {W : WX} {pin : List Pn} {pos : Pos}
theorem pe_sortSetX {e : Expr} {te : TE} {p1 p2 q1 : Pos} (he : PE X e te) (hg : Gl X "sorted") (hm : X.mg "sorted" = none) (hg' : Gl X "set") (hm' : X.mg "set" = none) (hc : X.calm = true := by rfl) (hs : starEach [e] X.env = (false, eval e X.env) :: starEach [] X.env := by rfl) :
    PE X (.Call (.Name "sorted" p1) [.Call (.Name "set" p2) [e] [] q1] [] pos) (tSortSetX X.K te) := by
  refine ⟨fun pins s σ H Q I hq => Call_ (ld_blt I hg hm (show bootBuiltins "sorted" = some (.builtin "sorted") by decide +kernel) (PyProof.Rows.callWith_builtin1 (PyProof.Rows.args_cons (Call_ (ld_blt I hg' hm' PyProof.Rows.boot_set (PyProof.Rows.callWith_type1 (PyProof.Rows.args_cons (thn (he.run pins s σ H _ I hq) fun v s1 z => PyProof.Rows.args_nil ?x) hs) hs rfl))) rfl) rfl rfl))⟩
  obtain ⟨x, H1, I1, r1, l, ns, e1, e2, e3, q1⟩ := z
  subst e1
  cases r1
  have go : ∀ (h' : Heap) (tk c : Nat), SetR X.w h' s1.heap.objs.size (fun j => decide (j ∈ ns)) c → c ≤ ns.length → (∀ b o, s1.heap.get? b = some o → h'.get? b = some o) → wpAny (model X.prog X.w) X.A (call (.builtin "sorted") [.ref s1.heap.objs.size]) (EP X pins σ Q) X.xe { s1 with heap := h', toks := tk } := fun h' tk c R hcn hk => by
    have I2 : Inv X pins σ H1 { s1 with heap := h', toks := tk } := I1.kept hk
    refine sorted_set (s := { s1 with heap := h', toks := tk }) R (I2.ok.hd hc) (by omega) fun s' p out c ms k g o hp hg hi hs hm hl => ?_
    have em : ms = sortU ns := srtU_uniq _ _ hs (sortU_srt ns) fun j => by rw [hm j, decide_eq_true_eq, sortU_mem]
    subst em
    have hlen : ((sortU ns).map V.int).length ≤ sizeLine := by rw [List.length_map, hl, sizeLine_eq]; omega
    have hn : H1 p = none := I2.hok.fresh hp
    refine ⟨.ref p, upd H1 p (.lst ((sortU ns).map V.int)), ?_, rfl, q1 p hn⟩
    have J : Inv X pins σ (upd H1 p (.lst ((sortU ns).map V.int))) { ({ s1 with heap := h', toks := tk } : Shared) with heap := s'.heap, gens := s'.gens, drawn := s'.drawn, toks := s'.toks } := I2.call (ch := []) (Un.laid k hp hn) (I2.hok.laid k hp ⟨hlen, out.toList, c, vals_of_ints hi, hg⟩) (by rw [g]; exact I2.bare) (fun _ z => nomatch z)
    have e : s' = { ({ s1 with heap := h', toks := tk } : Shared) with heap := s'.heap, gens := s'.gens, drawn := s'.drawn, toks := s'.toks } := by
      cases s'; cases s1; cases o; rfl
    rw [e]; exact J
  rcases e2 with e2 | e2
  · obtain ⟨its, rv, pl, hz⟩ := I1.list e2
    exact call_setLi ns (I1.ok.hd hc) pl.isList (by simpa using rv.ints) (by unfold scanBound; omega) fun h' tk c R hcn hk => PyProof.Rows.args_nil (go h' tk c R hcn hk)
  · obtain ⟨its, rv, pt, hz⟩ := I1.tuple e2
    exact call_set_tupI ns (I1.ok.hd hc) (show s1.heap.IsTuple l its.toArray from pt) (by simpa using rv.ints) (by unfold scanBound; omega) fun h' tk c R hcn hk => PyProof.Rows.args_nil (go h' tk c R hcn hk)
theorem ve_sortSetX {e : Expr} {f : FE} {p1 p2 q1 : Pos} (he : VE X W pin e f) (hg : Gl X "sorted") (hm : X.mg "sorted" = none) (hg' : Gl X "set") (hm' : X.mg "set" = none) (hc : X.calm = true := by rfl) (hs : starEach [e] X.env = (false, eval e X.env) :: starEach [] X.env := by rfl) :
    VE X W pin (.Call (.Name "sorted" p1) [.Call (.Name "set" p2) [e] [] q1] [] pos) (eB sortSetX (aCons f aNil)) := by
  refine pe_imp (pe_sortSetX he hg hm hg' hm' hc hs) fun σ H Q ⟨G, ms, s, h, hh, sl, q⟩ => ⟨G, ms, s, h, hh, sl, ?_⟩
  have q' : Post X.K X.mg (fun c d H => W c d σ H) G ms (Is X.K) ((f s h).bind fun d h1 => calm1 (sortSetX [d] h1)) Q := by
    cases ef : f s h with
    | ok d h1 => simpa [eB, aCons, aNil, ef] using q
    | err x h1 => simpa [eB, aCons, aNil, ef] using q
    | bad => simpa [eB, aCons, aNil, ef] using q
  refine Post.bind q' fun d h1 v H1 G1 ms1 e1 p1 hh1 i1 q1 => ?_
  have q1 := calm1_post q1
  simp only [sortSetX] at q1
  cases er : rowOf h1 d with
  | none => rw [er] at q1; exact q1.elim
  | some ys =>
    rw [er] at q1
    cases ei : intsOf ys with
    | none => simp only [ei] at q1; exact q1.elim
    | some ns =>
      simp only [ei] at q1
      by_cases hz : ns.length < 64
      · rw [if_pos hz] at q1
        obtain ⟨p, vs, rfl, h2, h3⟩ := hh1.row i1 er
        rw [intsOf_eq ei] at h3
        rw [h3.ints] at h2
        exact ⟨p, ns, rfl, h2, hz, fun p' hp => Post.newL (m := false) q1 hh1 (.of_ints (sortU ns)) (by rw [List.length_map]; exact Nat.le_trans (sortU_le ns) (Nat.le_trans (Nat.le_of_lt hz) (by decide))) hp⟩
      · rw [if_neg hz] at q1; exact q1.elim
end
theorem x_sortSetX {ns : List Int} {d : D} {h : Hs} (hr : rowOf h d = some (ns.map D.int)) (hz : ns.length < 64) : sortSetX [d] h = .ok (.lst ((sortU ns).map D.int)) h := by
  simp only [sortSetX, hr, intsOf_map, if_pos hz]
end WD
namespace SrtO
open PySem PySem.Spec PyProof.Rows Srt
def lexF (fin : Bool) : List Int → List Int → Bool
  | a :: as, b :: bs => if a = b then lexF fin as bs else decide (a < b)
  | _, _ => fin
def lexL : List Int → List Int → Bool
  | _, [] => false
  | [], _ :: _ => true
  | a :: as, b :: bs => if a = b then lexL as bs else decide (a < b)
theorem lexF_eq : ∀ ns ms : List Int, lexF (decide (ns.length < ms.length)) ns ms = lexL ns ms
  | [], [] => rfl
  | [], _ :: _ => by simp [lexF, lexL]
  | _ :: _, [] => by simp [lexF, lexL]
  | a :: as, b :: bs => by
    have ih := lexF_eq as bs
    simp only [lexF, lexL, List.length_cons, Nat.add_lt_add_iff_right]
    split
    · exact ih
    · rfl
theorem lexL_asym : ∀ a b : List Int, lexL a b = true → lexL b a = false
  | [], [], h => rfl
  | [], _ :: _, _ => rfl
  | _ :: _, [], h => by cases h
  | a :: as, b :: bs, h => by
    simp only [lexL] at h ⊢
    by_cases e : a = b
    · rw [if_pos e] at h; rw [if_pos e.symm]; exact lexL_asym as bs h
    · rw [if_neg e, decide_eq_true_eq] at h
      rw [if_neg (Ne.symm e), decide_eq_false_iff_not]; omega
theorem lexL_tr : ∀ a b c : List Int, lexL b a = false → lexL c b = false → lexL c a = false
  | [], _, c, _, _ => by cases c <;> rfl
  | _ :: _, [], _, h, _ => by cases h
  | _ :: _, _ :: _, [], _, h => by cases h
  | x :: a, y :: b, z :: c, h1, h2 => by
    simp only [lexL] at h1 h2 ⊢
    by_cases e1 : y = x
    · rw [if_pos e1] at h1
      by_cases e2 : z = y
      · rw [if_pos e2] at h2
        rw [if_pos (e2.trans e1)]
        exact lexL_tr a b c h1 h2
      · rw [if_neg e2] at h2
        rw [if_neg (by omega)]
        rw [decide_eq_false_iff_not] at h2 ⊢; omega
    · rw [if_neg e1, decide_eq_false_iff_not] at h1
      by_cases e2 : z = y
      · rw [if_neg (by omega), decide_eq_false_iff_not]; omega
      · rw [if_neg e2, decide_eq_false_iff_not] at h2
        rw [if_neg (by omega), decide_eq_false_iff_not]; omega
theorem lexL_tot : ∀ a b : List Int, lexL a b = false → lexL b a = false → a = b
  | [], [], _, _ => rfl
  | [], _ :: _, h, _ => by cases h
  | _ :: _, [], _, h => by cases h
  | a :: as, b :: bs, h1, h2 => by
    simp only [lexL] at h1 h2
    by_cases e : a = b
    · rw [if_pos e] at h1; rw [if_pos e.symm] at h2
      rw [e, lexL_tot as bs h1 h2]
    · rw [if_neg e, decide_eq_false_iff_not] at h1
      rw [if_neg (Ne.symm e), decide_eq_false_iff_not] at h2
      omega
theorem swo_rows {β : Type} (k : β → List Int) : Swo fun v u => lexL (k v) (k u) := ⟨fun _ _ h => lexL_asym _ _ h, fun _ _ _ h1 h2 => lexL_tr _ _ _ h1 h2⟩
def IsRow (h : Heap) (v : Value) (ns : List Int) : Prop := ∃ (a : Addr) (o : Obj) (us : Array Value) (n : Nat), v = .ref a ∧ h.get? a = some o ∧ o.cls = .type "tuple" ∧ o.data = .seq us n ∧ IntsAre us.toList ns
theorem IsRow.keeps {h h' : Heap} {v : Value} {ns : List Int} (x : IsRow h v ns) (k : ∀ b o, h.get? b = some o → o.cls = .type "tuple" → h'.get? b = some o) : IsRow h' v ns := by
  obtain ⟨a, o, us, n, h1, h2, h3, h4, h5⟩ := x
  exact ⟨a, o, us, n, h1, k _ _ h2 h3, h3, h4, h5⟩
section
variable {prog : Program} {w : World} {A : Around} {E : Value → Shared → Prop} {s : Shared}
theorem oneLt_any_i {f : Bool} {a b : Int} {t u : Tok} {Q : Bool → Shared → Prop} (h : Q (decide (a < b)) s) : wpAny (model prog w) A (oneLt' f (.int a t) (.int b u)) Q E s := by
  cases f with
  | true => exact oneLt_int h
  | false => exact PySem.W.kat_one _ _ (PyProof.Rows.lt_int h)
theorem kat_ints {fin : Bool} {Q : Bool → Shared → Prop} : ∀ (us vs : List Value) (ns ms : List Int) (i : Nat), IntsAre us ns → IntsAre vs ms → Q (lexF fin ns ms) s → PySem.W.KatLex prog w A true fin Q (us.zip vs) i s
  | [], vs, ns, ms, i, h1, h2, q => by
    cases h1
    exact PySem.W.kat_nil (by cases h2 <;> exact q)
  | _ :: _, [], ns, ms, i, h1, h2, q => by
    cases h2
    cases h1
    exact PySem.W.kat_nil q
  | u :: us, v :: vs, ns, ms, i, h1, h2, q => by
    cases h1 with
    | cons n t h1 =>
      cases h2 with
      | cons m t' h2 =>
        rw [List.zip_cons_cons]
        refine PySem.W.kat_cons (SeqAt.EqAt.int_int n t m t' prog w _ _ ?_)
        refine PySem.W.kat_go (fun e => ?_) (fun e => ?_)
        · have e : n = m := by simpa using e
          refine PySem.W.kat_yes (kat_ints us vs _ _ (i + 1) h1 h2 ?_)
          simp only [lexF, if_pos e] at q
          exact q
        · have e : ¬ n = m := by simpa using e
          refine PySem.W.kat_no (oneLt_any_i ?_)
          simp only [lexF, if_neg e] at q
          exact q
theorem ints_len {us : List Value} {ns : List Int} (h : IntsAre us ns) : us.length = ns.length := h.length
theorem rows_cmp {vs : List Value} {k : Value → List Int} (hp : ∀ v ∈ vs, IsRow s.heap v (k v)) : Cmp prog w A s (tuples' true) (fun p => p.1 ∈ vs) (lt2 fun v u => lexL (k v) (k u)) := by
  intro p q hm hm'
  obtain ⟨a, o, us, n, e, ho, hc, hd, hi⟩ := hp _ hm
  obtain ⟨a', o', us', n', e', ho', hc', hd', hi'⟩ := hp _ hm'
  show wpAny (model prog w) A (keyLt' (tuples' true) p.1 q.1) (fun r s' => s' = s ∧ r = lexL (k p.1) (k q.1)) (fun _ _ => False) s
  rw [e, e'] at *
  refine PySem.W.kat_lt ho hd ho' hd' (kat_ints _ _ _ _ 0 hi hi' ⟨rfl, ?_⟩)
  rw [← lexF_eq]
  congr 1
  have h1 := ints_len hi
  have h2 := ints_len hi'
  simp only [Array.length_toList] at h1 h2
  rw [h1, h2]
theorem lexAt_eq (ns ms : List Int) (z : Bool) : ∀ (k i : Nat), i + k = min ns.length ms.length → Ob.lexAt (fun j => ns.getD j 0 == ms.getD j 0) (fun j => decide (ns.getD j 0 < ms.getD j 0)) z i k = lexF z (ns.drop i) (ms.drop i)
  | 0, i, h => by
    rw [Ob.lexAt_zero]
    rcases Nat.le_total ns.length ms.length with q | q
    · rw [List.drop_eq_nil_of_le (show ns.length ≤ i by omega)]; rfl
    · rw [List.drop_eq_nil_of_le (show ms.length ≤ i by omega)]
      cases ns.drop i <;> rfl
  | k + 1, i, h => by
    have h1 : i < ns.length := by omega
    have h2 : i < ms.length := by omega
    rw [Ob.lexAt_succ, lexAt_eq ns ms z k (i + 1) (by omega), List.drop_eq_getElem_cons h1, List.drop_eq_getElem_cons h2]
    have e1 : ns.getD i 0 = ns[i] := by simp [List.getD, List.getElem?_eq_getElem h1]
    have e2 : ms.getD i 0 = ms[i] := by simp [List.getD, List.getElem?_eq_getElem h2]
    rw [e1, e2]
    simp only [lexF, beq_iff_eq]
theorem rows_cmp1 {vs : List Value} {k : Value → List Int} (hu : A.units < cLine) (hp : ∀ v ∈ vs, IsRow s.heap v (k v)) : Cmp prog w A s oneType' (fun p => p.1 ∈ vs) (lt2 fun v u => lexL (k v) (k u)) := by
  intro p q hm hm'
  obtain ⟨a, ⟨cls, dd, data, sl⟩, us, n, e, ho, hc, hd, hi⟩ := hp _ hm
  obtain ⟨a', ⟨cls', dd', data', sl'⟩, us', n', e', ho', hc', hd', hi'⟩ := hp _ hm'
  simp only at hc hd hc' hd'
  subst hc hd hc' hd'
  show wpAny (model prog w) A (keyLt' oneType' p.1 q.1) (fun r s' => s' = s ∧ r = lexL (k p.1) (k q.1)) (fun _ _ => False) s
  rw [e, e'] at *
  have g1 : ∀ j (hj : j < us.size), ∃ t, us[j] = .int ((k (Value.ref a)).getD j 0) t := fun j hj => PyProof.Rows.IntsAre.int_at hi _ _ (by simp [hj])
  have g2 : ∀ j (hj : j < us'.size), ∃ t, us'[j] = .int ((k (Value.ref a')).getD j 0) t := fun j hj => PyProof.Rows.IntsAre.int_at hi' _ _ (by simp [hj])
  rw [keyLt'_oneType, oneLt'_eq]
  simp only [if_true]
  refine wpAny_bind (wpAny_cRoomFor hu ?_)
  refine wpAny_bind (wpAny_callSpecialIfBound?_slot (T := "tuple") ⟨_, ho, rfl⟩ PySem.F.slot_tuple_lt (call_meets PySem.F.slot_tuple_lt ⟨_, ho, rfl⟩ PySem.F.entry_tuple_lt (PySem.F.args_tuple_lt_2 _ _) (Ob.tuple_ltAt a a' us us' n n' dd dd' sl sl' (fun j => (k (Value.ref a)).getD j 0 == (k (Value.ref a')).getD j 0) (fun j => decide ((k (Value.ref a)).getD j 0 < (k (Value.ref a')).getD j 0))) ⟨ho, ho', fun j h1 h2 => ?_, fun j h1 h2 _ => ?_, ?_⟩))
  · obtain ⟨t1, z1⟩ := g1 j h1
    obtain ⟨t2, z2⟩ := g2 j h2
    rw [z1, z2]; exact SeqAt.EqAt.int_int _ _ _ _
  · obtain ⟨t1, z1⟩ := g1 j h1
    obtain ⟨t2, z2⟩ := g2 j h2
    rw [z1, z2]; exact Ob.RcOp.lt_int _ _ _ _
  · have n1 := ints_len hi
    have n2 := ints_len hi'
    simp only [Array.length_toList] at n1 n2
    rw [n1, n2, lexAt_eq _ _ _ _ 0 (by omega), List.drop_zero, List.drop_zero, lexF_eq]
    exact wpAny_truthy_bool ⟨rfl, rfl⟩
theorem rows_firsts {M : Model} {k : Value → List Int} : ∀ (vs : List Value) {Q : List (Option Value) → Shared → Prop}, (∀ v ∈ vs, IsRow s.heap v (k v)) → (∀ fs : List (Option Value), fs.length = vs.length → (∀ (i : Nat) (v : Value), vs[i]? = some v → (fs[i]?.bind id).isSome = decide (k v ≠ [])) → Q fs s) → wpAny M A (vs.mapM firstOfTuple') Q E s
  | [], Q, _, h => by rw [List.mapM_nil]; exact wpAny_pure (h [] rfl (by simp))
  | v :: vs, Q, hp, h => by
    obtain ⟨a, o, us, n, e, ho, hc, hd, hi⟩ := hp v List.mem_cons_self
    rw [List.mapM_cons, e]
    refine wpAny_bind ?_
    rw [PySem.W.kas_first_eq]
    refine wpAny_bind (PySem.W.Looks.here (show PySem.W.Looks M s.heap (typeOf (.ref a)) o.cls from (PySem.W.Looks.ld ho).andThen .now) ?_)
    rw [hc, if_neg (by first | decide | simp)]
    refine wpAny_bind (listItems_at ho hd (wpAny_pure ?_))
    refine wpAny_bind (rows_firsts vs (Q := fun bs s' => wpAny M A (pure (us[0]? :: bs)) Q E s') (fun u hu => hp u (List.mem_cons_of_mem _ hu)) fun fs hl hf => wpAny_pure (h _ (by simp [hl]) fun i u hu => ?_))
    cases i with
    | zero =>
      have hu : v = u := by simpa using hu
      subst hu
      have hl := ints_len hi
      simp only [Array.length_toList] at hl
      cases hk : k v with
      | nil =>
        rw [hk] at hl
        have hz : us.size = 0 := by simpa using hl
        simp [hz]
      | cons x xs =>
        rw [hk] at hl
        have hz : 0 < us.size := by rw [hl]; simp
        simp [Array.getElem?_eq_getElem hz]
    | succ i => simpa using hf i u (by simpa using hu)
/-- how such rows are told apart: none of them empty, or the first one is -/
theorem rows_sortableO {a : Addr} {vs : List Value} {k : Value → List Int} (h0 : 0 < vs.length) (hu : A.units < cLine) (hp : ∀ v ∈ vs, IsRow s.heap v (k v)) (hc : (∀ v ∈ vs, k v ≠ []) ∨ ∃ v r, vs = v :: r ∧ k v = []) (ha : ∀ o, s.heap.get? a = some o → o.cls ≠ .type "tuple") :
    SortableO prog w A s a vs fun v u => lexL (k v) (k u) := by
  intro h' keep
  have hp' : ∀ v ∈ vs, IsRow h' v (k v) := fun v hm => (hp v hm).keeps fun b o e c => keep b o (fun z => by subst z; exact ha o e c) e
  rcases hc with hc | ⟨v0, r, hv, hk0⟩
  · refine ⟨tuples' true, fun Q E hq => ?_, rows_cmp hp'⟩
    have hkt : ∀ l : List Value, (∀ v ∈ l, IsRow h' v (k v) ∧ k v ≠ []) → ∃ fs : List Value, PySem.W.KatTups h' l fs ∧ fs.length = l.length ∧ ∀ f ∈ fs, ∃ x t, f = .int x t := by
      intro l
      induction l with
      | nil => exact fun _ => ⟨[], trivial, rfl, by simp⟩
      | cons v l ih =>
        intro hl
        obtain ⟨fs, f1, f2, f3⟩ := ih fun u hu => hl u (List.mem_cons_of_mem _ hu)
        obtain ⟨⟨a, o, us, n, e, ho, hc', hd, hi⟩, hne⟩ := hl v List.mem_cons_self
        have hz := ints_len hi
        simp only [Array.length_toList] at hz
        have hpos : 0 < us.size := by
          rw [hz]; exact List.length_pos_iff.mpr hne
        obtain ⟨t, et⟩ := PyProof.Rows.IntsAre.int_at hi 0 us[0] (by simp [hpos])
        refine ⟨us[0] :: fs, ⟨⟨a, o, us, n, e, ho, hc', hd, by simp [hpos]⟩, f1⟩, by simp [f2], fun f hf => ?_⟩
        rcases List.mem_cons.mp hf with rfl | hf
        · exact ⟨_, t, et⟩
        · exact f3 f hf
    obtain ⟨fs, f1, f2, f3⟩ := hkt vs fun v hv => ⟨hp' v hv, hc v hv⟩
    refine PySem.W.kat_kind (T := .type "int") (s := { s with heap := h' }) f1 (by omega) (fun f hm => ?_) (by rfl) ?_
    · obtain ⟨x, t, rfl⟩ := f3 f hm
      exact PySem.W.Looks.now
    · have e : (Value.type "int" != Value.type "tuple") = true := by first | decide +kernel | rfl | decide
      rw [e]
      exact hq
  · refine ⟨oneType', fun Q E hq => ?_, rows_cmp1 hu hp'⟩
    rw [kat_kind_eq, List.mapM_toArray, map_eq_pure_bind]
    refine wpAny_bind (wpAny_bind (rows_firsts (s := { s with heap := h' }) (k := k) vs hp' fun fs hl hf => wpAny_pure ?_))
    have h1 := hf 0 v0 (by rw [hv]; rfl)
    rw [hk0] at h1
    have h1 : (fs[0]?.bind id).isSome = false := by simpa using h1
    have hall : (fs.toArray.all fun x => x.isSome) = false := by
      cases fs with
      | nil => rw [hv] at hl; cases hl
      | cons f fs =>
        simp only [List.getElem?_cons_zero, Option.bind_some, id] at h1
        simp [h1]
    have h2 : (fs.toArray[0]?.bind id).isSome = false := by simpa using h1
    rw [if_neg (by rw [hall]; decide)]
    simp only [h2, Bool.false_eq_true, if_false]
    rw [oneTypeOnly'_eq, List.mapM_toArray, map_eq_pure_bind]
    refine wpAny_bind (wpAny_bind (wpAny_bind (PySem.W.kas_mapM (r := Value.type "tuple") _ (fun v hv Q' hq => ?_) (wpAny_pure ?_))))
    · obtain ⟨a, o, us, n, e, ho, hc', hd, hi⟩ := hp' v hv
      rw [e]
      have : PySem.W.Looks (model prog w) h' (typeOf (.ref a)) o.cls := (PySem.W.Looks.ld ho).andThen .now
      rw [hc'] at this
      exact this.here hq
    · have hall2 : ((List.map (fun _ => Value.type "tuple") vs).toArray.all fun x => x == Value.type "tuple") = true := by
        simp only [List.all_toArray, List.all_map, List.all_eq_true]
        intro _ _
        rfl
      have h0' : (List.map (fun _ => Value.type "tuple") vs).toArray[0]? = some (Value.type "tuple") := by rw [hv]; simp
      rw [h0']
      simp only [hall2, if_true]
      exact wpAny_pure (wpAny_pure hq)
theorem sorted_rowsO {l : Addr} {vs : List Value} {k : Value → List Int} {Q : Value → Shared → Prop} (hl : s.heap.IsList l vs.toArray) (hz : vs.length ≤ sizeLine) (hu : A.in1.in1.units < cLine) (hp : ∀ v ∈ vs, IsRow s.heap v (k v)) (hc : (∀ v ∈ vs, k v ≠ []) ∨ ∃ v r, vs = v :: r ∧ k v = [])
    (h : ∀ (h' : Heap) (d : Addr) (out : List Value), Srtd (fun v u => lexL (k v) (k u)) out → Stb (fun v u => lexL (k v) (k u)) out vs → (∀ b o, s.heap.get? b = some o → h'.get? b = some o) → s.heap.objs.size ≤ d → (∃ n, h'.get? d = some (seqObj "list" out.toArray n)) → Q (.ref d) { s with heap := h' }) :
    wpAny (model prog w) A (call (.builtin "sorted") [.ref l]) Q E s := by
  refine sorted_ord (swo_rows k) hl hz (fun h2 h₁ a ha kk => ?_) fun out hs hb => ?_
  · refine rows_sortableO (s := { s with heap := h₁ }) (by omega) hu (fun v hm => (hp v hm).keeps fun b o e _ => (kk b o e).2) hc fun o e => ?_
    have e' : some o = some (seqObj "list" vs.toArray 0) := e.symm.trans ha
    cases e'
    intro c
    exact absurd (Value.type.inj c) (by decide)
  · exact h _ _ out hs hb (fun b o e => sortedAll_old e) (Nat.le_succ _) (sortedAll_at s.heap vs out.toArray)
end
end SrtO
namespace WD
open PySem PySem.Spec PyProof.Rows L2
def tI (ns : List Int) : D := .tup (ns.map D.int)
def sortD (ds : List (List Int)) : List (List Int) := sortL SrtO.lexL ds
theorem sortD_perm (ds : List (List Int)) : (sortD ds).Perm ds := sortL_perm ds
theorem sortD_srt (ds : List (List Int)) : (sortD ds).Pairwise (fun a b => SrtO.lexL b a = false) := sortL_srt SrtO.lexL_asym SrtO.lexL_tr ds
theorem sortD_uniq {ms ns : List (List Int)} (p : ms.Perm ns) (h : ms.Pairwise (fun a b => SrtO.lexL b a = false)) : ms = sortD ns :=
  srt_uniq (fun a b h1 h2 => SrtO.lexL_tot a b h2 h1) _ _ h (sortD_srt ns) (p.trans (sortD_perm ns).symm)
def daysOf : List D → Option (List (List Int))
  | [] => some []
  | .tup xs :: r => match intsOf xs, daysOf r with
    | some ns, some ds => some (ns :: ds)
    | _, _ => none
  | _ => none
theorem daysOf_eq : ∀ {xs : List D} {ds : List (List Int)}, daysOf xs = some ds → xs = ds.map tI
  | [], ds, e => by cases e; rfl
  | d :: xs, ds, e => by
    unfold daysOf at e
    split at e
    · rename_i heq; cases heq
    · rename_i ys r heq
      cases heq
      split at e
      · rename_i ns ds' e1 e2
        cases e
        rw [daysOf_eq e2, intsOf_eq e1]; rfl
      · cases e
    · cases e
theorem daysOf_map : ∀ ds : List (List Int), daysOf (ds.map tI) = some ds
  | [] => rfl
  | d :: ds => by
    show daysOf (.tup (d.map D.int) :: ds.map tI) = _
    unfold daysOf
    rw [daysOf_map ds, intsOf_map]
/-- none of them is empty, or the first one is -/
def dOk : List (List Int) → Bool
  | [] => true
  | d :: ds => d.isEmpty || (d :: ds).all fun x => !x.isEmpty
def sortedX (m : Bool) : List D → Hs → R D
  | [d], h => match lstOf h d with
    | some xs => match daysOf xs with
      | some ds => if dOk ds = true then newL m ((sortD ds).map tI) h else .bad
      | none => .bad
    | none => .bad
  | _, _ => .bad
section
variable {X : Cx} {K : PySem.W.Frag} {mg : Str → Option Value} {G : GG} {H : Hp} {ms : List Addr} {h : Hs}
def rSortedDO (K : PySem.W.Frag) : List V → Hp → VK → Prop := fun vs H Q => ∃ (a : Addr) (xs : List V) (k : V → List Int), vs = [V.ref a] ∧ SqL K H a xs ∧ (∀ x ∈ xs, ∃ t, x = V.ref t ∧ H t = some (.tup ((k x).map V.int))) ∧ ((∀ x ∈ xs, k x ≠ []) ∨ ∃ x r, xs = x :: r ∧ k x = []) ∧
  ∀ ys p, SrtO.Srtd (fun x y => SrtO.lexL (k x) (k y)) ys → SrtO.Stb (fun x y => SrtO.lexL (k x) (k y)) ys xs → H p = none → Q (.ref p) (upd H p (.lst ys))
theorem cr_sortedDO (hu : X.A.units + 65 < cLine) : CallR X (.builtin "sorted") (rSortedDO X.K) := by
  intro pins s σ H vs us Q I r hsp
  obtain ⟨a, xs, k, rfl, hs, hx, hc, q⟩ := hsp
  obtain ⟨its, rv, hl, hz⟩ := I.list hs
  obtain ⟨u, rfl, ru⟩ := vals1 r
  obtain rfl : u = Value.ref a := ru
  have hrf : ∀ x ∈ xs, ∃ a, x = V.ref a := fun x m => ⟨(hx x m).choose, (hx x m).choose_spec.1⟩
  obtain ⟨e1, e2⟩ := refs_back rv hrf
  have hlen : its.length ≤ sizeLine := by rw [← rv.length]; exact hz
  have h2u : X.A.in1.in1.units < cLine := by
    show X.A.units + 1 + 1 < cLine
    omega
  have hk : (∀ v ∈ its, k (backV v) ≠ []) ∨ ∃ v r, its = v :: r ∧ k (backV v) = [] := by
    rcases hc with hc | ⟨x, r, ex, ek⟩
    · exact .inl fun v hv => hc _ (by rw [e1]; exact List.mem_map_of_mem hv)
    · cases its with
      | nil => rw [e1] at ex; cases ex
      | cons v r' =>
        rw [e1, List.map_cons] at ex
        injection ex with ex1 ex2
        exact .inr ⟨v, r', rfl, by rw [ex1]; exact ek⟩
  refine SrtO.sorted_rowsO (k := fun u => k (backV u)) hl.isList hlen h2u (fun v hv => ?_) hk fun h' d out h1 h2 kp hd hn => ?_
  · obtain ⟨t, rfl⟩ := e2 v hv
    have hm : V.ref t ∈ xs := by
      rw [e1]
      exact List.mem_map.mpr ⟨Value.ref t, hv, rfl⟩
    obtain ⟨t', e, ht⟩ := hx _ hm
    cases e
    obtain ⟨_, its2, r2, o, ho, hcl, n, hd⟩ := I.hok _ _ ht
    exact ⟨t, o, its2.toArray, n, rfl, ho, hcl, hd, Vals.ints r2⟩
  · have h3 : ∀ u ∈ out, ∃ a, u = Value.ref a := fun u hu => e2 u (h2.perm.mem_iff.mp hu)
    obtain ⟨n, hn⟩ := hn
    have hb : SrtO.Stb (fun x y => SrtO.lexL (k x) (k y)) (out.map backV) xs := by
      rw [e1]
      exact SrtO.Stb.map (SrtO.swo_rows k) backV h2
    refine ⟨.ref d, upd H d (.lst (out.map backV)), I.laid (t' := s.toks) kp hd ⟨?_, out, n, vals_back h3, hn⟩, rfl, q _ d (SrtO.srtd_map h1) hb (I.hok.fresh hd)⟩
    rw [hb.len]; exact hz
open Classical in
noncomputable def dyV (H : Hp) (v : V) : List Int := if e : ∃ (t : Addr) (ns : List Int), v = V.ref t ∧ H t = some (.tup (ns.map V.int)) then e.choose_spec.choose else []
theorem map_int_inj : ∀ {a b : List Int}, a.map V.int = b.map V.int → a = b
  | [], [], _ => rfl
  | [], _ :: _, e => by cases e
  | _ :: _, [], e => by cases e
  | x :: a, y :: b, e => by
    simp only [List.map_cons, List.cons.injEq, V.int.injEq] at e
    rw [e.1, map_int_inj e.2]
theorem dyV_eq {t : Addr} {ns : List Int} (e : H t = some (.tup (ns.map V.int))) : dyV H (V.ref t) = ns := by
  unfold dyV
  have ex : ∃ (t' : Addr) (ns : List Int), V.ref t = V.ref t' ∧ H t' = some (.tup (ns.map V.int)) := ⟨t, ns, rfl, e⟩
  rw [dif_pos ex]
  obtain ⟨h1, h2⟩ := ex.choose_spec.choose_spec
  have h3 : t = ex.choose := by injection h1
  have e' : H ex.choose = some (.tup (ns.map V.int)) := by rw [← h3]; exact e
  have h2 := e'.symm.trans h2
  simp only [Option.some.injEq, HO.tup.injEq] at h2
  exact (map_int_inj h2).symm
theorem IsL.dys (hh : Hh K G ms h H) : ∀ {ds : List (List Int)} {vs : List V}, IsL K G ms (ds.map tI) vs → vs.map (dyV H) = ds ∧ ∀ v ∈ vs, ∃ t, v = .ref t ∧ G.1 t = some (.tup ((dyV H v).map V.int))
  | [], _, i => by cases i; exact ⟨rfl, fun v hv => nomatch hv⟩
  | d :: ds, _, i => by
    obtain ⟨v, r, rfl, ⟨t, ws, rfl, e1, e2⟩, i3⟩ := i
    rw [e2.ints] at e1
    have ek := dyV_eq (hh.sub _ _ e1)
    obtain ⟨k1, k2⟩ := IsL.dys hh i3
    refine ⟨by rw [List.map_cons, ek, k1], fun v hv => ?_⟩
    rcases List.mem_cons.mp hv with rfl | hv
    · exact ⟨t, rfl, by rw [ek]; exact e1⟩
    · exact k2 v hv
theorem IsL.dys_of : ∀ {vs : List V}, (∀ v ∈ vs, ∃ t, v = .ref t ∧ G.1 t = some (.tup ((dyV H v).map V.int))) → IsL K G ms ((vs.map (dyV H)).map tI) vs
  | [], _ => rfl
  | v :: vs, hv => by
    obtain ⟨t, rfl, e⟩ := hv v List.mem_cons_self
    exact ⟨.ref t, vs, rfl, ⟨t, _, rfl, e, .of_ints _⟩, IsL.dys_of fun u hu => hv u (List.mem_cons_of_mem _ hu)⟩
theorem row_lst {h : Hs} {d : D} {xs : List D} (e : lstOf h d = some xs) : rowOf h d = some xs := by
  cases d <;> first | (cases e; done) | exact e
theorem cd_sortedX (m : Bool) (hu : X.A.units + 65 < cLine) : CallD X (.builtin "sorted") (sortedX m) := by
  intro pins s σ H xs us Q I r ⟨G, ms, h, ds, hh, i, q⟩
  unfold sortedX at q
  split at q
  · obtain ⟨v, rfl, i1⟩ := isL1 (ds := []) i
    split at q
    · rename_i zs e3
      split at q
      · rename_i ps e4
        split at q
        · rename_i hok
          obtain ⟨p, vs, rfl, h2, h3⟩ := hh.list i1 e3
          have hlz : zs.length ≤ sizeLine := hh.rowz i1 (row_lst e3)
          rw [daysOf_eq e4] at h3 hlz
          obtain ⟨k1, k2⟩ := h3.dys hh
          refine cr_sortedDO hu pins s σ H _ us Q I r ⟨p, vs, dyV H, rfl, h2, fun x hx => ?_, ?_, fun zs p' sr st hp => ?_⟩
          · obtain ⟨t, e5, e6⟩ := k2 x hx
            exact ⟨t, e5, hh.sub _ _ e6⟩
          · subst k1
            cases vs with
            | nil => exact .inl fun x hx => nomatch hx
            | cons v r =>
              simp only [List.map_cons, dOk, Bool.or_eq_true] at hok
              rcases hok with hok | hok
              · exact .inr ⟨v, r, rfl, List.isEmpty_iff.mp hok⟩
              · refine .inl fun x hx hk => ?_
                rw [← List.map_cons, List.all_map, List.all_eq_true] at hok
                have := hok x hx
                simp [hk] at this
          · have pm := st.perm
            have em : zs.map (dyV H) = sortD ps := sortD_uniq (by rw [← k1]; exact pm.map _) (List.pairwise_map.mpr (List.Pairwise.imp (fun {a b} hab => hab) sr))
            have i5 : IsL X.K G ms ((zs.map (dyV H)).map tI) zs := IsL.dys_of fun v hv => k2 v (pm.mem_iff.mp hv)
            rw [em] at i5
            refine q.newL hh i5 ?_ hp
            rw [List.length_map, (sortD_perm ps).length_eq]
            simpa using hlz
        · exact q.elim
      · exact q.elim
    · exact q.elim
  · exact q.elim
end
end WD
namespace WD
open PySem PySem.Spec PyProof.Rows L2
def isBlD (n : Bool) : D → D → Hs → R D
  | .bl a, .bl b, h => .ok (.bl (if n = true then !decide (a = b) else decide (a = b))) h
  | _, _, _ => .bad
section
variable {X : Cx}
theorem od_isB : OpD X (compareOp .Is) (isBlD false) := by
  intro pins s σ H x y v u Q I rx ry ⟨G, ms, h, da, db, hh, ia, ib, q⟩
  unfold isBlD at q
  split at q
  · rename_i a b
    cases ia; cases ib
    cases rx; cases ry
    show wpAny _ _ ((isSame (Value.bool a) (Value.bool b)) >>= fun z => pure (Value.bool z)) _ _ s
    refine wpAny_bind (wpAny_isSame_plain rfl (wpAny_pure (fin_bl I (q.fin hh rfl) ?_)))
    cases a <;> cases b <;> rfl
  · exact q.elim
theorem od_isnotB : OpD X (compareOp .IsNot) (isBlD true) := by
  intro pins s σ H x y v u Q I rx ry ⟨G, ms, h, da, db, hh, ia, ib, q⟩
  unfold isBlD at q
  split at q
  · rename_i a b
    cases ia; cases ib
    cases rx; cases ry
    show wpAny _ _ ((isSame (Value.bool a) (Value.bool b)) >>= fun z => pure (Value.bool (!z))) _ _ s
    refine wpAny_bind (wpAny_isSame_plain rfl (wpAny_pure (fin_bl I (q.fin hh rfl) ?_)))
    cases a <;> cases b <;> rfl
  · exact q.elim
end
end WD
namespace WD
open PySem PySem.Spec PyProof.Rows L2
open PySem.Sem (wp)
section
variable {prog : Program} {w : World} {A : Around} {E : Value → Shared → Prop} {s : Shared}
theorem zm_item {z TI TO i1 i2 l1 l2 : Addr} {k1 k2 : Nat} {xs ys : Array Value} {x y a b : Value} {Q : Option Value → Shared → Prop} (D : ZipApart z TI TO i1 i2 l1 l2)
    (hz : IsZip s.heap z TI TO .none) (hTI : IsPair s.heap TI (.ref i1) (.ref i2)) (hTO : IsPair s.heap TO a b)
    (h1 : s.heap.IsTupleIter i1 l1 k1) (h2 : s.heap.IsListIter i2 l2 k2) (hl1 : s.heap.IsTuple l1 xs) (hl2 : s.heap.IsList l2 ys) (hx : xs[k1]? = some x) (hy : ys[k2]? = some y)
    (hQ : ∀ h', IsZip h' z TI TO (rawInt s.heap.objs.size) → IsPair h' TO x y → h'.IsTupleIter i1 l1 (k1 + 1) → h'.IsListIter i2 l2 (k2 + 1) → IsPair h' s.heap.objs.size x y →
      (∀ c o, c ≠ z → c ≠ TO → c ≠ i1 → c ≠ i2 → s.heap.get? c = some o → h'.get? c = some o) → Q (some (.ref s.heap.objs.size)) { s with heap := h' }) :
    wpAny (model prog w) A (pyNext (.ref z)) Q E s := by
  have hT : s.TypeIs (.ref z) "zip" := ⟨_, hz, rfl⟩
  unfold pyNext
  refine wpAny_bind (wpAny_attempt (wpAny_callSpecial?_slot (name := Str.ofString "__next__") hT F.slot_zip_next
    (wpAny_call_entry F.slot_zip_next hT F.entry_zip_next ?_ (F.args_zip_next_1 _))))
  show wpAny _ _ (field (.ref z) 2 >>= _) _ _ _
  refine wpAny_bind (wpAny_field hz rfl (x := .bool false) rfl ?_)
  show wpAny _ _ (field (.ref z) 3 >>= _) _ _ _
  refine wpAny_bind (wpAny_field hz rfl (x := .ref TI) rfl (wpAny_bind (wpAny_seqItems hTI rfl ?_)))
  show wpAny _ _ (Builtin.SmallTypes.ownedTupleIsFree (.ref z) >>= _) _ _ _
  refine wpAny_bind ?_
  unfold Builtin.SmallTypes.ownedTupleIsFree
  refine wpAny_bind (wpAny_field hz rfl (x := .none) rfl (wpAny_pure ?_))
  simp only [if_true]
  refine wpAny_bind (wpAny_rule (wpAny_bind (wpAny_field hz rfl (x := .ref TO) rfl (wpAny_bind (wpAny_setField_rec hz (by simp) fun g1 z1 b1 => ?_)))))
  replace z1 : IsZip g1 z TI TO .ellipsis := z1
  refine wpAny_bind ?_
  simp only [List.zipIdx_cons, List.zipIdx_nil, List.forIn_cons, List.forIn_nil]
  refine wpAny_bind (wpAny_bind (wpAny_onRaise ?_))
  show wpAny _ _ (Builtin.SmallTypes.nextOf (.ref i1) >>= _) _ _ _
  refine wpAny_bind (RZ.nextOf_tuple_item (h1.extBut b1.extBut D.i1z) (hl1.extBut b1.extBut D.l1z) hx fun g2 t2 b2 => wpAny_pure ?_)
  have o2 : IsPair g2 TO a b := b2.extBut _ _ D.TOi1 (b1.extBut _ _ D.TOz hTO)
  refine wpAny_bind (wpAny_seqItems o2 rfl (wpAny_bind (wpAny_updateSeq_pair o2 fun g3 o3 b3 => ?_)))
  replace o3 : IsPair g3 TO x b := o3
  refine wpAny_bind (wpAny_letGo (wpAny_pure ?_))
  refine wpAny_bind (wpAny_bind (wpAny_onRaise ?_))
  show wpAny _ _ (Builtin.SmallTypes.nextOf (.ref i2) >>= _) _ _ _
  refine wpAny_bind (wpAny_nextOf_list_item (((h2.extBut b1.extBut D.i2z).extBut b2.extBut D.i12.symm).extBut b3.extBut D.TOi2.symm)
    (((hl2.extBut b1.extBut D.l2z).extBut b2.extBut D.l2i1).extBut b3.extBut D.l2TO) hy fun g4 t4 b4 => wpAny_pure ?_)
  have o4 : IsPair g4 TO x b := b4.extBut _ _ D.TOi2 o3
  refine wpAny_bind (wpAny_seqItems o4 rfl (wpAny_bind (wpAny_updateSeq_pair o4 fun g5 o5 b5 => ?_)))
  replace o5 : IsPair g5 TO x y := o5
  refine wpAny_bind (wpAny_letGo (wpAny_pure (wpAny_pure ?_)))
  refine wpAny_bind (wpAny_seqItems o5 rfl (wpAny_bind (wpAny_newTuple ?_)))
  have hsz : g5.objs.size = s.heap.objs.size := by rw [b5.1, b4.1, b3.1, b2.1, b1.1]
  have z5 : IsZip g5 z TI TO .ellipsis := b5.extBut _ _ D.TOz.symm (b4.extBut _ _ D.i2z.symm (b3.extBut _ _ D.TOz.symm (b2.extBut _ _ D.i1z.symm z1)))
  have t1' : g5.IsTupleIter i1 l1 (k1 + 1) := ((t2.extBut b3.extBut D.TOi1.symm).extBut b4.extBut D.i12).extBut b5.extBut D.TOi1.symm
  have t2' : g5.IsListIter i2 l2 (k2 + 1) := t4.extBut b5.extBut D.TOi2.symm
  have hzl : z < g5.objs.size := Heap.lt_size z5
  show wpAny _ _ (Builtin.SmallTypes.ownedTupleHandOut (.ref z) (.ref g5.objs.size) >>= _) _ _ _
  refine wpAny_bind ?_
  unfold Builtin.SmallTypes.ownedTupleHandOut
  have z6 : IsZip (g5.push { cls := .type "tuple", data := .seq #[x, y] }) z TI TO .ellipsis := Heap.get?_push_of_some _ z5
  refine wpAny_bind (wpAny_setField_rec z6 (by simp) fun g7 z7 b7 => ?_)
  replace z7 : IsZip g7 z TI TO (rawInt g5.objs.size) := z7
  refine wpAny_setField_rec z7 (by simp) fun g8 z8 b8 => ?_
  replace z8 : IsZip g8 z TI TO (rawInt g5.objs.size) := z8
  have up : ∀ c o, c ≠ z → g5.get? c = some o → g8.get? c = some o := fun c o c1 e => b8.extBut _ _ c1 (b7.extBut _ _ c1 (Heap.get?_push_of_some _ e))
  have p8 : IsPair g8 g5.objs.size x y := b8.extBut _ _ (Nat.ne_of_gt hzl) (b7.extBut _ _ (Nat.ne_of_gt hzl) (Heap.get?_push_size _ rfl))
  rw [hsz] at z8 p8
  refine wpAny_pure ⟨_, rfl, wpAny_pure ?_⟩
  show Q (some (.ref g5.objs.size)) _
  rw [hsz]
  exact hQ g8 z8 (up _ _ D.TOz o5) (t1'.at fun o e => up _ o D.i1z e) (t2'.at fun o e => up _ o D.i2z e) p8 fun c o c1 c2 c3 c4 e =>
    up c o c1 (b5.extBut _ _ c2 (b4.extBut _ _ c4 (b3.extBut _ _ c2 (b2.extBut _ _ c3 (b1.extBut _ _ c1 e)))))
theorem zm_end {z TI TO i1 i2 l1 l2 : Addr} {k1 k2 : Nat} {xs ys : Array Value} {a b : Value} {Q : Option Value → Shared → Prop} (hh : A.handled = none) (D : ZipApart z TI TO i1 i2 l1 l2)
    (hz : IsZip s.heap z TI TO .none) (hTI : IsPair s.heap TI (.ref i1) (.ref i2)) (hTO : IsPair s.heap TO a b)
    (h1 : s.heap.IsTupleIter i1 l1 k1) (h2 : s.heap.IsListIter i2 l2 k2) (hl1 : s.heap.IsTuple l1 xs) (hl2 : s.heap.IsList l2 ys) (hend : xs[k1]? = none ∨ ys[k2]? = none)
    (hQ : ∀ h', (∀ c o, c ≠ z → c ≠ TO → c ≠ i1 → c ≠ i2 → s.heap.get? c = some o → h'.get? c = some o) → Q none { s with heap := h' }) : wpAny (model prog w) A (pyNext (.ref z)) Q E s := by
  have hT : s.TypeIs (.ref z) "zip" := ⟨_, hz, rfl⟩
  have stop : ∀ (h' : Heap) (e : Addr) (o : Obj), h'.get? e = some o → o.cls = .type "StopIteration" → (∀ c o, c ≠ z → c ≠ TO → c ≠ i1 → c ≠ i2 → s.heap.get? c = some o → h'.get? c = some o) →
      wpAny (model prog w) A (isInstance (.ref e) (.type "StopIteration") >>= fun b => if b = true then pure none else throw (.ref e)) Q E { s with heap := h' } := fun h' e o ho hc hk =>
    wpAny_bind (wpAny_isInstance (T := "StopIteration") (b := true) ⟨o, ho, hc⟩ isSubtype_stop (wpAny_pure (hQ _ hk)))
  unfold pyNext
  refine wpAny_bind (wpAny_attempt (wpAny_callSpecial?_slot (name := Str.ofString "__next__") hT F.slot_zip_next
    (wpAny_call_entry F.slot_zip_next hT F.entry_zip_next ?_ (F.args_zip_next_1 _))))
  show wpAny _ _ (field (.ref z) 2 >>= _) _ _ _
  refine wpAny_bind (wpAny_field hz rfl (x := .bool false) rfl ?_)
  show wpAny _ _ (field (.ref z) 3 >>= _) _ _ _
  refine wpAny_bind (wpAny_field hz rfl (x := .ref TI) rfl (wpAny_bind (wpAny_seqItems hTI rfl ?_)))
  show wpAny _ _ (Builtin.SmallTypes.ownedTupleIsFree (.ref z) >>= _) _ _ _
  refine wpAny_bind ?_
  unfold Builtin.SmallTypes.ownedTupleIsFree
  refine wpAny_bind (wpAny_field hz rfl (x := .none) rfl (wpAny_pure ?_))
  simp only [if_true]
  refine wpAny_bind (wpAny_rule (wpAny_bind (wpAny_field hz rfl (x := .ref TO) rfl (wpAny_bind (wpAny_setField_rec hz (by simp) fun g1 z1 b1 => ?_)))))
  replace z1 : IsZip g1 z TI TO .ellipsis := z1
  refine wpAny_bind ?_
  simp only [List.zipIdx_cons, List.zipIdx_nil, List.forIn_cons, List.forIn_nil]
  refine wpAny_bind (wpAny_bind (wpAny_onRaise ?_))
  show wpAny _ _ (Builtin.SmallTypes.nextOf (.ref i1) >>= _) _ _ _
  cases hx : xs[k1]? with
  | none =>
    refine wpAny_bind (RZ.nextOf_tuple_end hh (h1.extBut b1.extBut D.i1z) (hl1.extBut b1.extBut D.l1z) hx fun g2 e b2 ⟨oe, hoe, hce⟩ => ?_)
    have z2 : IsZip g2 z TI TO .ellipsis := b2 _ _ D.i1z.symm z1
    have hez : e ≠ z := fun x => by subst x; rw [z2] at hoe; cases hoe; simp at hce
    refine wpAny_setField_rec z2 (by simp) fun g3 _ b3 => ?_
    exact stop g3 e oe (b3.extBut _ _ hez hoe) hce fun c o c1 _ c3 _ x => b3.extBut _ _ c1 (b2 _ _ c3 (b1.extBut _ _ c1 x))
  | some x =>
    have hy : ys[k2]? = none := by
      rcases hend with h | h
      · rw [hx] at h; cases h
      · exact h
    refine wpAny_bind (RZ.nextOf_tuple_item (h1.extBut b1.extBut D.i1z) (hl1.extBut b1.extBut D.l1z) hx fun g2 t2 b2 => wpAny_pure ?_)
    have o2 : IsPair g2 TO a b := b2.extBut _ _ D.TOi1 (b1.extBut _ _ D.TOz hTO)
    refine wpAny_bind (wpAny_seqItems o2 rfl (wpAny_bind (wpAny_updateSeq_pair o2 fun g3 o3 b3 => ?_)))
    refine wpAny_bind (wpAny_letGo (wpAny_pure ?_))
    refine wpAny_bind (wpAny_bind (wpAny_onRaise ?_))
    show wpAny _ _ (Builtin.SmallTypes.nextOf (.ref i2) >>= _) _ _ _
    refine wpAny_bind (wpAny_nextOf_list_end hh (((h2.extBut b1.extBut D.i2z).extBut b2.extBut D.i12.symm).extBut b3.extBut D.TOi2.symm)
      (((hl2.extBut b1.extBut D.l2z).extBut b2.extBut D.l2i1).extBut b3.extBut D.l2TO) hy fun g4 e b4 ⟨oe, hoe, hce⟩ => ?_)
    have z4 : IsZip g4 z TI TO .ellipsis := b4 _ _ D.i2z.symm (b3.extBut _ _ D.TOz.symm (b2.extBut _ _ D.i1z.symm z1))
    have hez : e ≠ z := fun x => by subst x; rw [z4] at hoe; cases hoe; simp at hce
    refine wpAny_setField_rec z4 (by simp) fun g5 _ b5 => ?_
    exact stop g5 e oe (b5.extBut _ _ hez hoe) hce fun c o c1 c2 c3 c4 x => b5.extBut _ _ c1 (b4 _ _ c4 (b3.extBut _ _ c2 (b2.extBut _ _ c3 (b1.extBut _ _ c1 x))))
end
/-- the heap behind the making of the zip -/
def zmH (h : Heap) (l1 l2 : Addr) : Heap :=
  ((((h.push { cls := .type "tuple_iterator", data := .fields #[.ref l1, .int 0 0] }).push { cls := .type "list_iterator", data := .fields #[.ref l2, .int 0 0] }).push
    { cls := .type "tuple", data := .seq #[.ref h.objs.size, .ref (h.objs.size + 1)] }).push { cls := .type "tuple", data := .seq #[.none, .none] }).push
    { cls := .type "zip", data := .fields #[.none, .bool false, .bool false, .ref (h.objs.size + 2), .ref (h.objs.size + 3)] }
theorem meets_zm (l1 l2 : Addr) (xs ys : Array Value) :
    Meets (Builtin.«zip.__new__» ⟨[.type "zip", .ref l1, .ref l2], []⟩) (fun _ R s => s.heap.IsTuple l1 xs ∧ s.heap.IsList l2 ys ∧
      R (.ok (.ret (.ref (s.heap.objs.size + 4)))) { s with heap := zmH s.heap l1 l2 }) :=
  .of_wp fun prog w A R s h => by
    obtain ⟨hp, g, d, tk, os⟩ := s; obtain ⟨hl1, hl2, h⟩ := h
    have hsub := sub_zip
    have hL1 : Heap.IsTuple (Shared.heap ⟨hp, g, d, tk, os⟩) l1 xs := hl1
    have hL2 : Heap.IsList (Shared.heap ⟨hp.push { cls := .type "tuple_iterator", data := .fields #[.ref l1, .int 0 0] }, g, d, tk, os⟩) l2 ys := Heap.IsList.push hl2 _
    wp_walk using wpAny_pyIter_tuple hL1, wpAny_pyIter_list hL2
    simp only [Heap.size_push]
    exact ⟨_, rfl, h⟩
section
variable {prog : Program} {w : World} {A : Around} {E : Value → Shared → Prop} {s : Shared}
theorem call_zm {l1 l2 : Addr} {xs ys : Array Value} {Q : Value → Shared → Prop} (hl1 : s.heap.IsTuple l1 xs) (hl2 : s.heap.IsList l2 ys)
    (h : ∀ h', IsZip h' (s.heap.objs.size + 4) (s.heap.objs.size + 2) (s.heap.objs.size + 3) .none → IsPair h' (s.heap.objs.size + 2) (.ref s.heap.objs.size) (.ref (s.heap.objs.size + 1)) →
      IsPair h' (s.heap.objs.size + 3) .none .none → h'.IsTupleIter s.heap.objs.size l1 0 → h'.IsListIter (s.heap.objs.size + 1) l2 0 →
      (∀ c o, s.heap.get? c = some o → h'.get? c = some o) → Q (.ref (s.heap.objs.size + 4)) { s with heap := h' }) :
    wpAny (model prog w) A (call (.type "zip") [.ref l1, .ref l2]) Q E s := by
  refine callType_new F.called_zip (by decide) (F.typeCall_zip_2 _ _) (F.newCall_zip_2 _ _) (fun obj => F.args_object_init_3 obj _ _) F.entry_zip_new
    (meets_zm l1 l2 xs ys) ⟨hl1, hl2, ?_⟩
  have up : ∀ (o : Obj) (h : Heap) (n : Nat), h.objs.size = n → ∀ (q : o.isFreed = false), (h.push o).get? n = some o := fun o h n e q => by subst e; exact Heap.get?_push_size _ q
  have g5 : (zmH s.heap l1 l2).get? (s.heap.objs.size + 4) = some _ := up _ _ _ (by simp only [Heap.size_push]) rfl
  have g4 : (zmH s.heap l1 l2).get? (s.heap.objs.size + 3) = some _ := Heap.get?_push_of_some _ (up _ _ _ (by simp only [Heap.size_push]) rfl)
  have g3 : (zmH s.heap l1 l2).get? (s.heap.objs.size + 2) = some _ := Heap.get?_push_of_some _ (Heap.get?_push_of_some _ (up _ _ _ (by simp only [Heap.size_push]) rfl))
  have g2 : (zmH s.heap l1 l2).get? (s.heap.objs.size + 1) = some _ := Heap.get?_push_of_some _ (Heap.get?_push_of_some _ (Heap.get?_push_of_some _ (up _ _ _ (by simp only [Heap.size_push]) rfl)))
  have g1 : (zmH s.heap l1 l2).get? s.heap.objs.size = some _ := Heap.get?_push_of_some _ (Heap.get?_push_of_some _ (Heap.get?_push_of_some _ (Heap.get?_push_of_some _ (Heap.get?_push_size _ rfl))))
  exact ⟨⟨_, g5, rfl⟩, h _ g5 g3 g4 ⟨_, g1, rfl, rfl⟩ ⟨_, g2, rfl, rfl⟩ fun c o x =>
    Heap.get?_push_of_some _ (Heap.get?_push_of_some _ (Heap.get?_push_of_some _ (Heap.get?_push_of_some _ (Heap.get?_push_of_some _ x))))⟩
end
/-- the tuple at a and the list at b -/
def ItzM (K : PySem.W.Frag) (a b : Addr) : It :=
  ⟨fun i H => ∃ (xs ys : List V) (x y : V), SqT K H a xs ∧ SqL K H b ys ∧ xs[i]? = some x ∧ ys[i]? = some y,
    fun i H v H' => ∃ T x y, v = .ref T ∧ H T = none ∧ H' = upd H T (.tup [x, y]) ∧ (∀ xs, SqT K H a xs → xs[i]? = some x) ∧ ∀ ys, SqL K H b ys → ys[i]? = some y,
    fun i H => ∃ xs ys : List V, SqT K H a xs ∧ SqL K H b ys ∧ (xs.length ≤ i ∨ ys.length ≤ i)⟩
theorem turn_zm {P : Program} {w : World} {K : PySem.W.Frag} {elts : List Expr} {kk : Nat} {tpos : Pos} {a b z TI TO i1 i2 : Addr} (D : ZipApart z TI TO i1 i2 a b) :
    Turn P w K (.Tuple elts kk tpos) (ItzM K a b) [z, TI, TO, i1, i2] z (fun i h => IsZip h z TI TO .none ∧ IsPair h TI (.ref i1) (.ref i2) ∧ (∃ x y, IsPair h TO x y) ∧ h.IsTupleIter i1 a i ∧ h.IsListIter i2 b i) where
  mem := by simp
  obj := fun i h ⟨hz, hTI, ⟨x, y, hTO⟩, ⟨o1, e1, _, d1⟩, ⟨o2, e2, _, d2⟩⟩ c hc => by
    have e' : c = z ∨ c = TI ∨ c = TO ∨ c = i1 ∨ c = i2 := by simpa using hc
    rcases e' with rfl | rfl | rfl | rfl | rfl
    · exact ⟨_, hz, fun v q => nomatch q⟩
    · exact ⟨_, hTI, fun v q => nomatch q⟩
    · exact ⟨_, hTO, fun v q => nomatch q⟩
    · exact ⟨o1, e1, fun v q => by rw [d1] at q; cases q⟩
    · exact ⟨o2, e2, fun v q => by rw [d2] at q; cases q⟩
  keep := fun i h h' ⟨hz, hTI, ⟨x, y, hTO⟩, h1, h2⟩ k =>
    ⟨k z (by simp) _ hz, k TI (by simp) _ hTI, ⟨x, y, k TO (by simp) _ hTO⟩, h1.at fun o q => k i1 (by simp) o q, h2.at fun o q => k i2 (by simp) o q⟩
  item := by
    intro X hP hw hK hc i pins s σ H E I hf ⟨hz, hTI, ⟨x0, y0, hTO⟩, h1, h2⟩ ⟨xs, ys, x, y, hqx, hqy, hx, hy⟩
    subst hP hw hK
    obtain ⟨its, rv, p, _⟩ := I.tuple hqx
    obtain ⟨its2, rv2, p2, _⟩ := I.list hqy
    obtain ⟨u, hu, ru⟩ := rv.get hx
    obtain ⟨u2, hu2, ru2⟩ := rv2.get hy
    have hzl : z < s.heap.objs.size := Heap.lt_size hz
    refine zm_item D hz hTI hTO h1 h2 p p2.isList (x := u) (y := u2) (by simpa using hu) (by simpa using hu2) fun h' z' TO' h1' h2' hT hk => ?_
    refine ⟨_, rfl, wpAny_letOwnedTupleGo_zip (s := { s with heap := h' }) z' fun h'' z'' sb => ?_⟩
    have hT2 : h''.get? s.heap.objs.size = some { cls := .type "tuple", data := .seq #[u, u2] } := (sb.2 _ (Nat.ne_of_gt hzl)).trans hT
    have new : ObjOk X.prog X.w (upd H s.heap.objs.size (.tup [x, y])) h'' s.heap.objs.size (.tup [x, y]) :=
      ⟨by show 2 ≤ sizeLine; decide, [u, u2], .cons ru (.cons ru2 .nil), ⟨_, hT2, rfl, _, rfl⟩⟩
    have I1 : Inv X pins σ (upd H s.heap.objs.size (.tup [x, y])) { s with heap := h'' } :=
      I.turnedNew (t' := s.toks) (ch := [z, TI, TO, i1, i2]) (fun c o hb q => (sb.2 c (fun q' => hb (by simp [q']))).trans (hk c o (fun q' => hb (by simp [q'])) (fun q' => hb (by simp [q'])) (fun q' => hb (by simp [q'])) (fun q' => hb (by simp [q'])) q)) hf (Nat.le_refl _) new
    refine ⟨.ref s.heap.objs.size, _, I1, rfl, ⟨_, x, y, rfl, I.hok.fresh (Nat.le_refl _), rfl, fun l hl => by rw [I.tuple_inj hl hqx]; exact hx, fun l hl => by rw [I.list_inj hl hqy]; exact hy⟩,
      ⟨z'', (sb.2 _ D.TIz).trans (hk _ _ D.TIz D.TITO D.TIi1 D.TIi2 hTI), ⟨u, u2, (sb.2 _ D.TOz).trans TO'⟩, h1'.at fun o q => (sb.2 _ D.i1z).trans q, h2'.at fun o q => (sb.2 _ D.i2z).trans q⟩, fun c hcm => ?_⟩
    have hlt : c < s.heap.objs.size := by
      have e' : c = z ∨ c = TI ∨ c = TO ∨ c = i1 ∨ c = i2 := by simpa using hcm
      obtain ⟨_, e1, _⟩ := h1
      obtain ⟨_, e2, _⟩ := h2
      rcases e' with q | q | q | q | q <;> rw [q]
      · exact hzl
      · exact Heap.lt_size hTI
      · exact Heap.lt_size hTO
      · exact Heap.lt_size e1
      · exact Heap.lt_size e2
    rw [upd_ne (Nat.ne_of_lt hlt)]
    exact (hf c hcm).1
  done := by
    intro X hP hw hK hc i pins s σ H E I hf ⟨hz, hTI, ⟨x0, y0, hTO⟩, h1, h2⟩ ⟨xs, ys, hqx, hqy, hend⟩
    subst hP hw hK
    obtain ⟨its, rv, p, _⟩ := I.tuple hqx
    obtain ⟨its2, rv2, p2, _⟩ := I.list hqy
    have l1 := rv.length
    have l2 := rv2.length
    have he : its.toArray[i]? = none ∨ its2.toArray[i]? = none := by
      rcases hend with q | q
      · exact .inl (by simp; omega)
      · exact .inr (by simp; omega)
    exact zm_end (I.ok.hd hc) D hz hTI hTO h1 h2 p p2.isList he fun h' hk => ⟨rfl, I.turnedL (t' := s.toks) (ch := [z, TI, TO, i1, i2]) (fun c o hb q =>
      hk c o (fun q' => hb (by simp [q'])) (fun q' => hb (by simp [q'])) (fun q' => hb (by simp [q'])) (fun q' => hb (by simp [q'])) q) hf⟩
  self := fun A i s Q E st h => wpAny_pyIter_zip st.1 h
def iZmA (K : PySem.W.Frag) (ta : TA) : TI := fun σ H R => ta σ H fun vs H1 => ∃ a b xs ys, vs = [.ref a, .ref b] ∧ SqT K H1 a xs ∧ SqL K H1 b ys ∧ R (ItzM K a b) H1
theorem pi_zm {X : Cx} {e e2 : Expr} {ta : TA} {p pos tpos : Pos} {elts : List Expr} {kk : Nat} (hg : Gl X "zip") (hm : X.mg "zip" = none) (ha : PA X [e, e2] ta)
    (hs : starEach [e, e2] X.env = (false, eval e X.env) :: starEach [e2] X.env := by rfl) (hpl : (backTo pos (starEach [e2] X.env)).any (·.1) = false := by rfl) :
    PI X (.Tuple elts kk tpos) (.Call (.Name "zip" p) [e, e2] [] pos) (iZmA X.K ta) := by
  refine ⟨fun pins s σ H R I h => ?_⟩
  refine Call_ (ld_blt I hg hm PyProof.Rows.boot_zip (PyProof.Rows.callWith_type1 (thn (ha.run pos pins s σ H _ I h) fun us s1 ⟨vs, H1, I1, r1, q1⟩ => ?_) hs hpl))
  obtain ⟨a, b, xs, ys, ex, hqx, hqy, q⟩ := q1
  subst ex
  cases r1 with
  | cons r rr =>
    cases rr with
    | cons r' rr =>
      cases rr
      cases r
      cases r'
      obtain ⟨its, rv, p1, _⟩ := I1.tuple hqx
      obtain ⟨its2, rv2, p2, _⟩ := I1.list hqy
      obtain ⟨o1, ho1, _⟩ := id p1
      refine call_zm (show s1.heap.IsTuple a its.toArray from p1) p2.isList fun h' hz hTI hTO h1 h2 hk => wpAny_pyIter_zip hz ?_
      have I2 : Inv X pins σ H1 { s1 with heap := h' } := I1.kept (t' := s1.toks) hk
      refine ⟨s1.heap.objs.size + 4, [s1.heap.objs.size + 4, s1.heap.objs.size + 2, s1.heap.objs.size + 3, s1.heap.objs.size, s1.heap.objs.size + 1], _, _, H1, rfl, I2, turn_zm (PySem.W.ktu_apart s1.heap.objs.size a b (Heap.lt_size ho1) p2.lt), ⟨hz, hTI, ⟨_, _, hTO⟩, h1, h2⟩, fun c hcm => ?_, q⟩
      have hle : s1.heap.objs.size ≤ c := by
        have e' : c = s1.heap.objs.size + 4 ∨ c = s1.heap.objs.size + 2 ∨ c = s1.heap.objs.size + 3 ∨ c = s1.heap.objs.size ∨ c = s1.heap.objs.size + 1 := by simpa using hcm
        rcases e' with z | z | z | z | z <;> rw [z] <;> first | exact Nat.le_add_right _ _ | exact Nat.le_refl _
      exact I1.fpOk hle (I1.hok.fresh hle)
section
variable {X : Cx} {W : WX} {pin : List Pn} {K : PySem.W.Frag} {G : GG} {ms : List Addr} {pos : Pos}
theorem yields_zm {a b : Addr} {xs ys : List D} {us ws : List V} (q1 : SqT K G.1 a us) (q2 : SqL K G.1 b ws) (i1 : IsL K G ms xs us) (i2 : IsL K G ms ys ws) : Yields K (ItzM K a b) G ms (zpL xs ys) := fun j h G' ms' H hh e p => by
  have q1' : SqT K H a us := Same.sqT hh.sub (Same.sqT e q1)
  have q2' : SqL K H b ws := hh.sub.seq (e.seq q2)
  have j1 := IsL.mono' e p _ _ i1
  have j2 := IsL.mono' e p _ _ i2
  refine ⟨fun d hd => ?_, fun hl => ⟨us, ws, q1', q2', by rw [zpL_length, i1.length, i2.length] at hl; omega⟩⟩
  obtain ⟨x, y, hx, hy, rfl⟩ := zpL_get _ _ _ _ hd
  obtain ⟨v, h1, h2⟩ := j1.get hx
  obtain ⟨u, h3, h4⟩ := j2.get hy
  refine ⟨⟨us, ws, v, u, q1', q2', h1, h3⟩, fun z H' ⟨T, x', y', e1, e2, e3, e4, e5⟩ => ?_⟩
  subst e1 e3
  have t1 := e4 us q1'
  have t2 := e5 ws q2'
  rw [h1] at t1
  rw [h3] at t2
  cases t1
  cases t2
  exact pair_new hh h2 h4 e2
def iZm (f : FA) : FI := fun s h => (f s h).bind fun ds h1 => match ds with
  | [.tup xs, .lst ys] => .ok (.seq (zpL xs ys)) h1
  | _ => .bad
theorem vi_zm {e e2 : Expr} {f : FA} {p tpos : Pos} {elts : List Expr} {kk : Nat} (hg : Gl X "zip") (hm : X.mg "zip" = none) (ha : VA X W pin [e, e2] f)
    (hs : starEach [e, e2] X.env = (false, eval e X.env) :: starEach [e2] X.env := by rfl) (hpl : (backTo pos (starEach [e2] X.env)).any (·.1) = false := by rfl) :
    VI X W pin (.Tuple elts kk tpos) (.Call (.Name "zip" p) [e, e2] [] pos) (iZm f) := by
  refine pi_imp (pi_zm hg hm ha hs hpl) fun σ H R ⟨G, ms, s, h, hh, sl, q⟩ => ⟨G, ms, s, h, hh, sl, Post.bind q fun ds h1 ws H1 G1 ms1 e1 p1 hh1 i1 q1 => ?_⟩
  split at q1
  · obtain ⟨v, w, rfl, j1, j2⟩ := isL2 i1
    obtain ⟨a, us, rfl, k1, k2⟩ := id j1
    obtain ⟨b, vs, rfl, l1, l2⟩ := id j2
    exact ⟨a, b, us, vs, rfl, .of (hh1.sub _ _ k1), .of (hh1.sub _ _ l1), q1.fin hh1 ⟨yields_zm (.of k1) (.of l1) k2 l2, by rw [zpL_length]; have := hh1.rowz j1 rfl; omega⟩⟩
  · exact q1.elim
end
end WD
namespace WD
open PySem PySem.Spec PyProof.Rows L2
def eLsRg (m : Bool) (f : FE) : FE := fun s h => (f s h).bind fun d h1 => match d with
  | .int n => if 0 ≤ n ∧ n ≤ 1000000 then newL m (((List.range n.toNat).map fun (i : Nat) => (i : Int)).map D.int) h1 else .bad
  | _ => .bad
section
variable {X : Cx} {W : WX} {pin : List Pn} {pos : Pos}
theorem ve_lsRg (m : Bool) {e : Expr} {f : FE} {p p2 pos2 : Pos} (hf : VE X W pin e f) (hc : X.calm = true) (hgl : Gl X "list") (hml : X.mg "list" = none) (hgr : Gl X "range") (hmr : X.mg "range" = none)
    (na : starEach [e] X.env = (false, eval e X.env) :: starEach [] X.env := by rfl)
    (nb : starEach [.Call (.Name "range" p2) [e] [] pos2] X.env = (false, eval (.Call (.Name "range" p2) [e] [] pos2) X.env) :: starEach [] X.env := by rfl) :
    VE X W pin (.Call (.Name "list" p) [.Call (.Name "range" p2) [e] [] pos2] [] pos) (eLsRg m f) := by
  refine pe_imp (pe_listRg hc hgl hml (prg_1 hgr hmr hf na) nb) fun σ H Q ⟨G, ms, s, h, hh, sl, q⟩ => ⟨G, ms, s, h, hh, sl, Post.bind q fun d h1 v H1 G1 ms1 e1 p1 hh1 i1 q1 => ?_⟩
  cases d with
  | int n =>
    cases i1
    dsimp only at q1
    split at q1
    · rename_i hz
      refine ⟨n, rfl, RgOk.of_le (by omega) (by omega) (by omega) hz.1, fun a ha => ?_⟩
      have i2 : IsL X.K G1 ms1 (((List.range n.toNat).map fun (i : Nat) => (i : Int)).map D.int) (rgV 0 n) := by
        have := IsL.of_ints (K := X.K) (G := G1) (ms := ms1) ((List.range n.toNat).map fun (i : Nat) => (i : Int))
        have e : rgV 0 n = ((List.range n.toNat).map fun (i : Nat) => (i : Int)).map V.int := by
          unfold rgV
          rw [List.map_map, Int.sub_zero]
          refine List.map_congr_left fun i _ => ?_
          simp
        rw [e]; exact this
      exact q1.newL hh1 i2 (by rw [List.length_map, List.length_map, List.length_range]; have : (1000000 : Nat) ≤ sizeLine := by decide
                               omega) ha
    · exact q1.elim
  | _ => exact q1.elim
end
end WD
namespace WD
open PySem PySem.Spec PyProof.Rows L2
section
open PySem.SeqAt AutoSeq1 MeetsSeq MeetsSeq2 MeetsSeq3 SeqRoads2
variable {prog : Program} {w : World}
theorem nl_loop (l b : Addr) (xs ys : Array Value) (n n2 : Nat) (dd dd2 : Option Addr) (sl sl2 : Array (Option Value)) (hsz : xs.size = ys.size) (k : Nat) :
    ∀ i : Nat, xs.size - i = k → MeetsIn prog w (Builtin.«list.__eq__.loop» ⟨[.ref l, .ref b, rawInt i, rawInt 3], []⟩)
      (fun A R s => s.heap.get? l = some { cls := .type "list", dict := dd, data := .seq xs n, slots := sl } ∧ s.heap.get? b = some { cls := .type "list", dict := dd2, data := .seq ys n2, slots := sl2 } ∧
        (∀ j (h1 : j < xs.size) (h2 : j < ys.size), EqP prog w A.in1 s xs[j] ys[j] true) ∧ R (.ok (.ret (.bool false))) s) := by
  induction k with
  | zero =>
    intro i hk A R s h
    obtain ⟨hp, g, d, tk, os⟩ := s; obtain ⟨hl, hb, he, h⟩ := h
    wp_walk using wpAny_loadPart' hl, wpAny_loadPart' hb
    have e1 : xs[((i : Nat) : Int).toNat]? = none := by simp; omega
    have e2 : ys[((i : Nat) : Int).toNat]? = none := by simp; omega
    rw [e1, e2]
    wp_walk using wpAny_loadPart' hl, wpAny_loadPart' hb
    show R (.ok (.ret (.bool (xs.size != ys.size)))) _
    rw [hsz]
    simpa using h
  | succ k ih =>
    intro i hk A R s h
    obtain ⟨hp, g, d, tk, os⟩ := s; obtain ⟨hl, hb, he, h⟩ := h
    wp_walk using wpAny_loadPart' hl, wpAny_loadPart' hb
    have h1 : i < xs.size := by omega
    have h2 : i < ys.size := by omega
    have e1 : xs[((i : Nat) : Int).toNat]? = some xs[i] := by simp [h1]
    have e2 : ys[((i : Nat) : Int).toNat]? = some ys[i] := by simp [h2]
    have hc : ((i : Int) + 1) = ((i + 1 : Nat) : Int) := by push_cast; rfl
    rw [e1, e2]
    refine wpAny_bind (he i h1 h2 _ _ ?_)
    wp_walk
    rw [hc]
    exact ⟨plainId_quiet plain_eq_loop _, codeAny_builtin entry_eq_loop (by
      rw [Around.under_plainId plain_eq_loop _]
      exact ih (i + 1) (by omega) A R _ ⟨hl, hb, he, h⟩)⟩
theorem nl_meets (l b : Addr) (xs ys : Array Value) (n n2 : Nat) (dd dd2 : Option Addr) (sl sl2 : Array (Option Value)) (hsz : xs.size = ys.size) :
    MeetsIn prog w (Builtin.«list.__ne__» ⟨[.ref l, .ref b], []⟩)
      (fun A R s => s.heap.get? l = some { cls := .type "list", dict := dd, data := .seq xs n, slots := sl } ∧ s.heap.get? b = some { cls := .type "list", dict := dd2, data := .seq ys n2, slots := sl2 } ∧
        (∀ j (h1 : j < xs.size) (h2 : j < ys.size), EqP prog w A.in1 s xs[j] ys[j] true) ∧ R (.ok (.ret (.bool false))) s) := by
  intro A R s h
  obtain ⟨hp, g, d, tk, os⟩ := s; obtain ⟨hl, hb, he, h⟩ := h
  have f3 := AutoSeq1.sub_list_list
  have hne : ¬ (xs.size != ys.size) = true := by simp [hsz]
  wp_walk using wpAny_loadPart' hl, wpAny_loadPart' hb
  exact ⟨plainId_quiet plain_eq_loop _, codeAny_builtin entry_eq_loop (by
    rw [Around.under_plainId plain_eq_loop _]
    exact nl_loop l b xs ys n n2 dd dd2 sl sl2 hsz _ 0 rfl A R _ ⟨hl, hb, he, h⟩)⟩
theorem nl_rc {A : Around} {s : Shared} {l b : Addr} {xs ys : Array Value} (hl : s.heap.IsList l xs) (hb : s.heap.IsList b ys) (hsz : xs.size = ys.size) (hu : A.units < cLine)
    (he : ∀ j (h1 : j < xs.size) (h2 : j < ys.size), EqP prog w A.in1 s xs[j] ys[j] true) (E Q : Value → Shared → Prop) (h : Q (.bool false) s) : wpAny (model prog w) A (richCompare .NotEq (.ref l) (.ref b)) Q E s := by
  obtain ⟨⟨cls, dd, data, sl⟩, ho, hc, n, hd⟩ := id hl
  obtain ⟨⟨cls2, dd2, data2, sl2⟩, ho2, hc2, n2, hd2⟩ := id hb
  simp only at hc hd hc2 hd2
  subst hc hd hc2 hd2
  have ta : s.TypeIs (.ref l) "list" := ⟨_, ho, rfl⟩
  have tb : s.TypeIs (.ref b) "list" := ⟨_, ho2, rfl⟩
  exact wpAny_richCompare_same_room (op := .NotEq) ta tb F.slot_list_ne (call_meetsIn F.slot_list_ne ta F.entry_list_ne (F.args_list_ne_2 _ _) (nl_meets l b xs ys n n2 dd dd2 sl sl2 hsz)
    ⟨ho, ho2, he, show Value.bool false ≠ Value.notImplemented ∧ Q (.bool false) s from ⟨(fun x => nomatch x), h⟩⟩) hu
end
/-- nested still lists, dicts of one key at most, flat things; of nesting below n -/
def sameOk : Nat → D → Bool
  | 0, _ => false
  | n + 1, d => match d with
    | .non | .bl _ | .int _ | .str _ => true
    | .lst xs => xs.all (sameOk n)
    | .dic ks xs => decide (ks.length ≤ 1) && xs.all (sameOk n)
    | _ => false
section
variable {K : PySem.W.Frag} {G : GG} {ms : List Addr} {H : Hp} {h : Hs}
theorem paired_same {F : V → V → Prop} : ∀ (xs : List D) (vs ws : List V), IsL K G ms xs vs → IsL K G ms xs ws → (∀ d ∈ xs, ∀ v w, Is K G ms d v → Is K G ms d w → F v w) → Paired F vs ws
  | [], vs, ws, i, j, _ => by cases i; cases j; exact .nil
  | d :: xs, vs, ws, i, j, f => by
    obtain ⟨v, vs', rfl, i1, i2⟩ := i
    obtain ⟨w, ws', rfl, j1, j2⟩ := j
    exact .cons (f d List.mem_cons_self v w i1 j1) (paired_same xs vs' ws' i2 j2 fun e he => f e (List.mem_cons_of_mem _ he))
theorem same_eqV (hh : Hh K G ms h H) : ∀ (n : Nat) (d : D) (v w : V), sameOk n d = true → Is K G ms d v → Is K G ms d w → EqV K H n v w
  | 0, d, v, w, e, _, _ => by cases e
  | n + 1, d, v, w, e, i, j => by
    have all : ∀ xs : List D, xs.all (sameOk n) = true → ∀ d ∈ xs, ∀ v w, Is K G ms d v → Is K G ms d w → EqV K H n v w := fun xs hx d hd v w i j => same_eqV hh n d v w (List.all_eq_true.mp hx d hd) i j
    cases d with
    | non => cases i; cases j; exact .inl ⟨rfl, rfl⟩
    | bl b => cases i; cases j; exact .inl ⟨rfl, rfl⟩
    | int b => cases i; cases j; exact .inl ⟨rfl, rfl⟩
    | str b => cases i; cases j; exact .inl ⟨rfl, rfl⟩
    | tup xs => cases e
    | scr xs => cases e
    | loc m => cases e
    | lst xs =>
      obtain ⟨a, vs, rfl, k1, k2⟩ := i
      obtain ⟨b, ws, rfl, l1, l2⟩ := j
      exact .inr (.inr (.inl ⟨a, b, vs, ws, rfl, rfl, .of (hh.sub _ _ k1), .of (hh.sub _ _ l1), paired_same xs vs ws k2 l2 (all xs e)⟩))
    | dic ks xs =>
      obtain ⟨a, vs, rfl, k1, k3, k2⟩ := i
      obtain ⟨b, ws, rfl, l1, l3, l2⟩ := j
      simp only [sameOk, Bool.and_eq_true, decide_eq_true_eq] at e
      have hp := paired_same xs vs ws k2 l2 (all xs e.2)
      refine .inr (.inr (.inr ⟨a, b, ks.zip vs, ks.zip ws, rfl, rfl, hh.sub _ _ k1, hh.sub _ _ l1, by simp [List.length_zip, ← k3, ← l3], ?_⟩))
      cases ks with
      | nil => intro p q; simp at q
      | cons c cs =>
        cases cs with
        | nil =>
          cases hp with
          | nil => intro p q; simp at q
          | cons f _ =>
            intro p q
            simp at q
            subst q
            exact ⟨_, by simp [valV], f⟩
        | cons c2 cs => exact absurd e.1 (by simp)
end
open Classical in
noncomputable def neX : D → D → Hs → R D := fun x y h => match x with
  | .lst xs => if x = y ∧ xs.all (sameOk 40) = true then .ok (.bl false) h else eqD true x y h
  | _ => eqD true x y h
section
variable {X : Cx}
theorem od_neX (hu : X.A.units + 64 < cLine) : OpD X (compareOp .NotEq) neX := by
  intro pins s σ H x y v u Q I rx ry ⟨G, ms, h, da, db, hh, ia, ib, q⟩
  unfold neX at q
  split at q
  · rename_i xs
    split at q
    · rename_i hc
      obtain ⟨rfl, hall⟩ := hc
      obtain ⟨a, vs, rfl, k1, k2⟩ := id ia
      obtain ⟨b, ws, rfl, l1, l2⟩ := id ib
      cases (show v = Value.ref a from rx)
      cases (show u = Value.ref b from ry)
      have ha : SqL X.K H a vs := .of (hh.sub _ _ k1)
      have hb : SqL X.K H b ws := .of (hh.sub _ _ l1)
      obtain ⟨us, r1, p1, _⟩ := I.list ha
      obtain ⟨us2, r2, p2, _⟩ := I.list hb
      have hp : Paired (EqV X.K H 40) vs ws := paired_same xs vs ws k2 l2 fun d hd v w i j => same_eqV hh 40 d v w (List.all_eq_true.mp hall d hd) i j
      have hsz : us.toArray.size = us2.toArray.size := by
        rw [List.size_toArray, List.size_toArray, ← r1.length, ← r2.length, ← k2.length, ← l2.length]
      refine nl_rc p1.isList p2.isList hsz (by omega) (fun j h1 h2 => ?_) _ _ ⟨.bl false, H, I, rfl, q.fin hh rfl⟩
      have k := items_run (fun x y v u => eqV_run I 40 X.A.in1 (by show X.A.units + 1 + 40 < cLine; omega) x y v u) hp r1 r2 j (by simpa using h1) (by simpa using h2)
      simpa using k
    · exact od_ne hu pins s σ H x y v u Q I rx ry ⟨G, ms, h, _, db, hh, ia, ib, q⟩
  · exact od_ne hu pins s σ H x y v u Q I rx ry ⟨G, ms, h, _, db, hh, ia, ib, q⟩
end
end WD
namespace WD
open PySem PySem.Spec PyProof.Rows L2
def spI (C : Addr) (f : Str) : Sp := fun xs H Q _ => ∃ (a : Addr) (v : V), xs = [.ref a, v] ∧ H a = some (exo a C none) ∧ ∀ dx, H dx = none → dx ≠ a → Q .non (upd (upd H dx (exd dx [(f, v)])) a (exo a C (some dx)))
structure Xf (P : Program) (w : World) (K : PySem.W.Frag) (mg : Str → Option Value) (base : Heap) (x f : Str) (C : Addr) : Prop where
  g : mg x = some (.ref C)
  T : OexC K C
  no : PySem.W.findIn K (.ref C) f = some none
  ex : ∃ fI fd, PySem.W.findIn K (.ref C) "__init__" = some (some (.ref fI)) ∧ PySem.W.typeIn K (.ref fI) = some (.type "function") ∧ Binds K fd ["self", f] [] ∧ FnOk P w K mg base (L2.CX P w) 1 fI fd ["self", f] (spI C f)
theorem vis_par {N P : List Str} {sc : Scope} (S : FnScope N P sc) {x : Str} (h : x ∈ P) : Vis sc x := by
  rcases S.par x h with q | q
  · exact Or.inl q
  · exact Or.inr (Or.inl q)
section
variable {P : Program} {w : World} {K : PySem.W.Frag} {mg : Str → Option Value} {base : Heap}
theorem ok_most {st : Stmt} {q : Str} {C fI : Addr} {fd : FuncData} {p1 p2 p3 p4 : Pos} (F : Fun K "__init__" q st fI fd) (S : FnScope ["self", "most"] ["self", "most"] (defScope st)) (hb : defBody st = [.Assign [.Attribute (.Name "self" p1) "most" p2] (.Name "most" p3) p4]) (T : OexC K C) (n : PySem.W.findIn K (.ref C) "most" = some none) :
    FnOk P w K mg base (L2.CX P w) 1 fI fd ["self", "most"] (spI C "most") := by
  refine F.okX S (fun vs H Q E h => ?_) (fun cdv A outer s H vs Q E hr h => ?_)
  · obtain ⟨a, v, rfl, _⟩ := h; rfl
  · obtain ⟨a, v, rfl, ha, k⟩ := h
    rw [hb]
    refine ⟨_, pss_one (ps_ost (pv 0 (pos := p1) (hv := vis_par S (by simp))) (pv 1 (pos := p3) (hv := vis_par S (by simp)))), ?_⟩
    exact ⟨v, rfl, .ref a, rfl, a, C, rfl, T, n, .inl ⟨ha, k⟩⟩
theorem ok_at {st : Stmt} {q : Str} {C fI : Addr} {fd : FuncData} {p1 p2 p3 p4 : Pos} (F : Fun K "__init__" q st fI fd) (S : FnScope ["self", "at"] ["self", "at"] (defScope st)) (hb : defBody st = [.Assign [.Attribute (.Name "self" p1) "at" p2] (.Name "at" p3) p4]) (T : OexC K C) (n : PySem.W.findIn K (.ref C) "at" = some none) :
    FnOk P w K mg base (L2.CX P w) 1 fI fd ["self", "at"] (spI C "at") := by
  refine F.okX S (fun vs H Q E h => ?_) (fun cdv A outer s H vs Q E hr h => ?_)
  · obtain ⟨a, v, rfl, _⟩ := h; rfl
  · obtain ⟨a, v, rfl, ha, k⟩ := h
    rw [hb]
    refine ⟨_, pss_one (ps_ost (pv 0 (pos := p1) (hv := vis_par S (by simp))) (pv 1 (pos := p3) (hv := vis_par S (by simp)))), ?_⟩
    exact ⟨v, rfl, .ref a, rfl, a, C, rfl, T, n, .inl ⟨ha, k⟩⟩
end
theorem passF {X : Cx} : Passes (L2.CX X.prog X.w) X (fun _ _ _ => False) := fun _ _ _ _ _ _ _ h => by
  obtain ⟨_, _, _, _, _, _, _, _, _, _, _, _, no⟩ := h
  exact no.elim
/-- raise x(e) -/
def sRaise1 (x f : Str) (fe : FE) : FS := fun s h => RS.ofR s (fe s h) fun d h1 => .er ⟨x, some (f, d)⟩ s h1
@[simp] theorem x_sRaise1 {x f : Str} {fe : FE} {s : Ss} {h : Hs} : sRaise1 x f fe s h = RS.ofR s (fe s h) fun d h1 => .er ⟨x, some (f, d)⟩ s h1 := (rfl)
section
variable {X : Cx} {W : WX} {pin : List Pn} {pos : Pos} {K : PySem.W.Frag} {G : GG} {ms : List Addr}
theorem vs_raise1 {x f : Str} {p pos' : Pos} {C : Addr} {e : Expr} {fe : FE} (c : Xf X.prog X.w X.K X.mg X.base x f C) (hr : Room 2 X.A) (hx : Passes (L2.CX X.prog X.w) X (fun _ _ _ => False)) (hg : Gl X x) (hc : X.calm = true) (tk : Takes X W) (he : VE X W pin e fe) (hdb : (x == ("__debug__" : Str)) = false := by decide)
    (hs : starEach (e :: []) X.env = (false, eval e X.env) :: starEach [] X.env := by rfl) (hpl : (backTo pos' (starEach [] X.env)).any (·.1) = false := by rfl) : VS X W pin (.Raise (some (.Call (.Name x p) [e] [] pos')) none pos) (sRaise1 x f fe) := by
  obtain ⟨fI, fd, iC, tI, hb, F1⟩ := c.ex
  refine ps_imp (ps_raise hc tk (pmk_oex c.T iC tI F1 hr hb .nil hx hg c.g (pa_cons he pa_nil hs) hdb hs hpl)) fun D σ H ⟨G, ms, s, h, hh, sl, q⟩ => ?_
  have ec : ∀ d, clsV X.mg ⟨x, some (f, d)⟩ = .ref C := fun d => by unfold clsV; rw [c.g]; rfl
  refine ⟨G, ms, s, h, hh, sl, PostS.ofR sl q fun d h1 v H1 G1 ms1 e1 p1 hh1 i1 q1 => ?_⟩
  refine ⟨by simp, fun a ha => ⟨a, v, rfl, upd_same, fun dx hdx ne => ⟨rfl, dx, [(f, v)], upd_same, ?_, ?_, ?_⟩⟩⟩
  · rw [upd_ne ne, upd_same]
  · rw [upd_ne ne] at hdx; exact hdx
  · rw [upd_ne ne] at hdx
    have eh : upd (del (upd (upd (upd H1 a (exo a C none)) dx (exd dx [(f, v)])) a (exo a C (some dx))) a) dx (.xd [(f, v)]) = upd H1 dx (.xd [(f, v)]) := by
      funext b
      by_cases hb : b = dx
      · rw [hb, upd_same, upd_same]
      · rw [upd_ne hb, upd_ne hb]
        by_cases hba : b = a
        · rw [hba, del_same, ha]
        · rw [del_ne hba, upd_ne hba, upd_ne hb, upd_ne hba]
    rw [eh]
    have := q1 σ (upd H1 dx (.xd [(f, v)])) (gupd G1 dx (.xd [(f, v)])) ms1 (some dx) (gle_upd (hh1.gnone hdx)) (pre_refl _) (hh1.still hdx trivial) ((sl.mono e1 p1).mono (gle_upd (hh1.gnone hdx)) (pre_refl _)) ⟨dx, v, rfl, upd_same, Is.mono (gle_upd (hh1.gnone hdx)) (pre_refl _) _ _ i1⟩
    rw [ec] at this
    exact this
theorem notPin_two {i j : Nat} {v : V} {dd : Addr} {f : Str} {e : D} (h : j ≠ i) : NotPin [.s j v, .g dd f e] i := fun p hp => by
  rcases List.mem_cons.mp hp with rfl | hp
  · exact h
  · obtain rfl : p = .g dd f e := by simpa using hp
    trivial
def OkX (names : List Str) (flds : List (Str × Str)) (y : Xn) : Prop := match y.val with
  | none => y.name ∈ names
  | some (f, _) => (y.name, f) ∈ flds
open Classical in
noncomputable def sTryX (c : Str) (i : Nat) (names : List Str) (flds : List (Str × Str)) (fb : FS) (fs : Xn → FS) : FS := fun s h => match fb s h with
  | .er y s' h' => if OkX names flds y ∧ i < s'.length then (if subX y.name c = true then unset i (fs y (s'.set i none) h') else .er y s' h') else .bad
  | r => r
theorem vs_tryX (i : Nat) (names : List Str) (flds : List (Str × Str)) {x n : Str} {body suite : List Stmt} {b0 : Stmt} {np pos' : Pos} {fb : FS} {fs : Xn → FS} {C : Addr} (hs : X.stack = X.env :: X.outer) (hf : X.env.frame = some X.env.locals) (hN : X.N.Nodup) (hg : Gl X x) (hm : X.mg x = some (.ref C)) (tk : Takes X W)
    (hex : ∀ y : Xn, OkX names flds y → PySem.W.exmOne X.K (clsV X.mg y) (.ref C) = some (subX y.name x))
    (hb : ∀ (W : WX) (pn : List (Addr × Obj)) (xe : Value → Shared → Prop), Takes (X.tr pn xe) W → PassesOwn (model X.prog X.w) X.A X.env xe → VSs (X.tr pn xe) W pin body fb)
    (hsu : ∀ (a : Addr) (oe : Obj) (y : Str) (pn : List (Addr × Obj)), y ∈ names → Zc (clsV X.mg ⟨y, none⟩) none oe → (∃ vs, oe.data = .fields vs) → VSs (X.suite a ((a, oe) :: pn)) W0 (.s i (.ref a) :: pin) (b0 :: suite) (fs ⟨y, none⟩))
    (hsf : ∀ (a dd : Addr) (oe : Obj) (y f : Str) (d : D) (pn : List (Addr × Obj)), (y, f) ∈ flds → Zc (clsV X.mg ⟨y, none⟩) (some dd) oe → (∃ vs, oe.data = .fields vs) → VSs (X.suite a ((a, oe) :: pn)) W0 (.s i (.ref a) :: .g dd f d :: pin) (b0 :: suite) (fs ⟨y, some (f, d)⟩))
    (hi : X.N[i]? = some n := by rfl) (hln : X.env.kindOf n = some .local := by rfl) (npn : NotPin pin i := by first | exact notPin_nil | decide) (hdb : (x == ("__debug__" : Str)) = false := by decide) :
    VS X W pin (.Try body [.ExceptHandler (some (.Name x np)) (some n) (b0 :: suite) pos'] [] [] pos) (sTryX x i names flds fb fs) := by
  refine ⟨fun pins s σ H D I hq => ?_⟩
  have hlen := I.len
  have hil : i < σ.length := by rw [hlen]; exact lt_of_get hi
  refine (ps_try_as (tb := fun W => rdS X W pin fb) (ts := fun a cls d D σ H => (∃ y, y ∈ names ∧ cls = clsV X.mg ⟨y, none⟩ ∧ d = none ∧ rdS X W0 (.s i (.ref a) :: pin) (fs ⟨y, none⟩) D σ H) ∨
      ∃ y f e dd, (y, f) ∈ flds ∧ cls = clsV X.mg ⟨y, none⟩ ∧ d = some dd ∧ rdS X W0 (.s i (.ref a) :: .g dd f e :: pin) (fs ⟨y, some (f, e)⟩) D σ H) hs hf hN hi hln ⟨hg, hdb, .inl hm⟩ tk hb ?_).run pins s σ H D I ?_
  · intro a oe cls d pn hz hfl
    refine ⟨fun pins s σ H D I hq => ?_⟩
    rcases hq with ⟨y, hy, rfl, rfl, hq⟩ | ⟨y, f, e, dd, hy, rfl, rfl, hq⟩
    · exact (hsu a oe y pn hy hz hfl).run pins s σ H D I hq
    · exact (hsf a dd oe y f e pn hy hz hfl).run pins s σ H D I hq
  · obtain ⟨G, ms, s, h, hh, sl, q⟩ := hq
    refine ⟨G, ms, s, h, hh, sl, ?_⟩
    unfold sTryX at q
    cases e : fb s h with
    | nx s' h' => rw [e] at q; exact q
    | rt d h' => rw [e] at q; exact q
    | bk s' h' => rw [e] at q; exact q
    | ct s' h' => rw [e] at q; exact q
    | bad => rw [e] at q; exact q
    | er y s' h' =>
      rw [e] at q
      dsimp only at q
      split at q
      · rename_i hy
        intro σ' H' G' ms' d e1 p1 hh1 sl1 xi
        refine ⟨_, hex y hy.1, fun hbt a ha => ?_, fun hbf => ?_⟩
        · rw [if_pos hbt] at q
          have hl' : i < σ'.length := by
            rw [← sl1.len]; exact hy.2
          obtain ⟨yn, yv⟩ := y
          cases yv with
          | none =>
            have hd : d = none := xi
            subst hd
            refine .inl ⟨yn, hy.1, rfl, rfl, G', ms', s'.set i none, h', hh1, sl1.setPin npn hl', ?_⟩
            have q' := PostS.mono (σ' := σ'.set i (some (.ref a))) (r := unset i (fs ⟨yn, none⟩ (s'.set i none) h')) q e1 p1
            cases er : fs ⟨yn, none⟩ (s'.set i none) h' with
            | nx s2 h2 => rw [er] at q'; exact fun σ2 H2 G2 ms2 e2 p2 hh2 sl2 => q' _ H2 G2 ms2 e2 p2 hh2 (sl2.unPin npn)
            | bk s2 h2 => rw [er] at q'; exact fun σ2 H2 G2 ms2 e2 p2 hh2 sl2 => q' _ H2 G2 ms2 e2 p2 hh2 (sl2.unPin npn)
            | ct s2 h2 => rw [er] at q'; exact fun σ2 H2 G2 ms2 e2 p2 hh2 sl2 => q' _ H2 G2 ms2 e2 p2 hh2 (sl2.unPin npn)
            | rt d h2 => rw [er] at q'; exact q'
            | er z s2 h2 => rw [er] at q'; exact q'.elim
            | bad => rw [er] at q'; exact q'
          | some fe =>
            obtain ⟨f, fe⟩ := fe
            obtain ⟨dd, v, rfl, k1, k2⟩ := xi
            have sl2 : Sl X.K G' ms' (.s i (.ref a) :: .g dd f fe :: pin) (s'.set i none) (σ'.set i (some (.ref a))) := by
              have z := sl1.setPin (v := .ref a) npn hl'
              refine ⟨z.len, z.get, fun p hp => ?_⟩
              rcases List.mem_cons.mp hp with rfl | hp
              · exact z.pin _ List.mem_cons_self
              · rcases List.mem_cons.mp hp with rfl | hp
                · exact ⟨v, k1, k2⟩
                · exact z.pin _ (List.mem_cons_of_mem _ hp)
            have un : ∀ {G2 ms2 s2 σ2}, Sl X.K G2 ms2 (.s i (.ref a) :: .g dd f fe :: pin) s2 σ2 → Sl X.K G2 ms2 pin (s2.set i none) (σ2.set i none) := fun {G2 ms2 s2 σ2} z =>
              Sl.unPin (v := .ref a) ⟨z.len, z.get, fun p hp => by
                rcases List.mem_cons.mp hp with rfl | hp
                · exact z.pin _ List.mem_cons_self
                · exact z.pin _ (List.mem_cons_of_mem _ (List.mem_cons_of_mem _ hp))⟩ npn
            refine .inr ⟨yn, f, fe, dd, hy.1, rfl, rfl, G', ms', s'.set i none, h', hh1, sl2, ?_⟩
            have q' := PostS.mono (σ' := σ'.set i (some (.ref a))) (r := unset i (fs ⟨yn, some (f, fe)⟩ (s'.set i none) h')) q e1 p1
            cases er : fs ⟨yn, some (f, fe)⟩ (s'.set i none) h' with
            | nx s2 h2 => rw [er] at q'; exact fun σ2 H2 G2 ms2 e2 p2 hh2 sl2 => q' _ H2 G2 ms2 e2 p2 hh2 (un sl2)
            | bk s2 h2 => rw [er] at q'; exact fun σ2 H2 G2 ms2 e2 p2 hh2 sl2 => q' _ H2 G2 ms2 e2 p2 hh2 (un sl2)
            | ct s2 h2 => rw [er] at q'; exact fun σ2 H2 G2 ms2 e2 p2 hh2 sl2 => q' _ H2 G2 ms2 e2 p2 hh2 (un sl2)
            | rt d h2 => rw [er] at q'; exact q'
            | er z s2 h2 => rw [er] at q'; exact q'.elim
            | bad => rw [er] at q'; exact q'
        · rw [if_neg (by rw [hbf]; decide)] at q
          exact q σ' H' G' ms' d e1 p1 hh1 sl1 xi
      · exact q.elim
def rIsEX (K : PySem.W.Frag) (D a dd : Addr) : List V → Hp → VK → Prop := fun xs H Q => ∃ (c : V) (cv : Value) (b : Bool) (fs : List (Str × V)), xs = [.ref a, c] ∧ (∀ u, RelV c u → u = cv) ∧ PySem.W.kitOne K (.ref D) cv = some b ∧ H dd = some (.xd fs) ∧ Q (.bl b) H
theorem call_isEX {a D dd : Addr} {oe : Obj} {pn : List (Addr × Obj)} (C : ExcC X.K D) (hz : Zc (.ref D) (some dd) oe) (hf : ∃ vs, oe.data = .fields vs) : CallR (X.suite a ((a, oe) :: pn)) (.builtin "isinstance") (rIsEX X.K D a dd) := by
  intro pins s σ H xs us Q I r h
  obtain ⟨c, cv, b, fs, rfl, hcv, e, ed, q⟩ := h
  cases r with
  | cons rx rr =>
    cases rr with
    | cons rt rr =>
      cases rr
      cases rx
      have ec := hcv _ rt
      subst ec
      obtain ⟨hget, _⟩ := I.pin (a, oe) (List.mem_append.mpr (.inl List.mem_cons_self))
      obtain ⟨vs, hv⟩ := hf
      have hx : ObjOk X.prog X.w H s.heap dd (.xd fs) := I.hok dd _ ed
      obtain ⟨mA, hns, hr⟩ := hx
      obtain ⟨od, ho, hl⟩ := lookIn_ns hns
      have J : PySem.W.InstAt s.heap a oe D (some od) := ⟨hget, hz.1, by unfold PySem.W.notCls; rw [hv] <;> rfl, by rw [hz.2]; exact ho⟩
      obtain ⟨cd, hc, _⟩ := PySem.W.any_some C.hd
      exact PySem.W.kia_one (PySem.W.kitx_exc (by rw [hc]; rfl) C.hg C.hk C.hs C.ha C.hn C.ht C.hm) I.kIn J e (fun z => nomatch z) fun tk => ⟨.bl b, H, I.kept (t' := tk) fun _ _ z => z, rfl, q⟩
theorem ve_isEX {a Dc dd : Addr} {oe : Obj} {pn : List (Addr × Obj)} (i : Nat) {n x f : Str} {d : D} {cv : Value} {c : V} {b : Bool} {p p1 p2 : Pos} (C : ExcC X.K Dc) (hz : Zc (.ref Dc) (some dd) oe) (hf : ∃ vs, oe.data = .fields vs) (hk : PySem.W.kitOne X.K (.ref Dc) cv = some b) (hcv : ∀ u, RelV c u → u = cv)
    (hx : PE (X.suite a ((a, oe) :: pn)) (.Name x p2) (tC c)) (hp : Pn.s i (V.ref a) ∈ pin) (hq : Pn.g dd f d ∈ pin) (hgi : Gl X "isinstance") (hmi : X.mg "isinstance" = none) (hN : X.N[i]? = some n := by rfl) (hv : Vis X.env.scope n := by first | exact Or.inl rfl | exact Or.inr (Or.inl rfl) | exact Or.inr (Or.inr rfl))
    (hd : (n == ("__debug__" : Str)) = false := by decide) (hcd : (n == ("__classdict__" : Str)) = false := by decide)
    (hs1 : starEach [.Name n p1, .Name x p2] X.env = (false, eval (.Name n p1) X.env) :: starEach [.Name x p2] X.env := by rfl) (hs2 : starEach [.Name x p2] X.env = (false, eval (.Name x p2) X.env) :: starEach [] X.env := by rfl) (hpl : (backTo pos (starEach [.Name x p2] X.env)).any (·.1) = false := by rfl) :
    VE (X.suite a ((a, oe) :: pn)) W pin (.Call (.Name "isinstance" p) [.Name n p1, .Name x p2] [] pos) (eC (.bl b)) := by
  refine pe_imp (pe_callB (call_isEX C hz hf) hgi hmi (by decide +kernel) (pa_cons (pe_var (X := X.suite a ((a, oe) :: pn)) (i := i) hN hv hd hcd) (pa_cons hx pa_nil hs2) hs1) (by decide) (by decide) hs1 hpl) fun σ H Q ⟨G, ms, s, h, hh, sl, q⟩ => ?_
  refine ⟨.ref a, sl.pin _ hp, ?_⟩
  obtain ⟨v, k1, k2⟩ := sl.pin _ hq
  exact ⟨c, cv, b, _, rfl, hcv, hk, hh.sub _ _ k1, Post.fin (b := V.bl b) q hh rfl⟩
/-- the error's field; bad if it has none -/
def eFld (y : Xn) (f : Str) : FE := fun s h => match y.val with
  | some (g, d) => if g = f then .ok d h else .bad
  | none => .bad
@[simp] theorem x_eFld {n f : Str} {d : D} {s : Ss} {h : Hs} : eFld ⟨n, some (f, d)⟩ f s h = .ok d h := by unfold eFld; simp
theorem ve_fldN {e : Expr} {n f : Str} : VE X W pin e (eFld ⟨n, none⟩ f) := ⟨fun pins s σ H Q I ⟨G, ms, s', h, hh, sl, q⟩ => q.elim⟩
theorem ve_fld {a Dc dd : Addr} {oe : Obj} {pn : List (Addr × Obj)} (i : Nat) {n f g y : Str} {d : D} {p1 : Pos} (C : ExcC X.K Dc) (hz : Zc (.ref Dc) (some dd) oe) (hf : ∃ vs, oe.data = .fields vs) (hno : g = f → PySem.W.findIn X.K (.ref Dc) f = some none) (hp : Pn.s i (V.ref a) ∈ pin) (hq : Pn.g dd g d ∈ pin)
    (hN : X.N[i]? = some n := by rfl) (hv : Vis X.env.scope n := by first | exact Or.inl rfl | exact Or.inr (Or.inl rfl) | exact Or.inr (Or.inr rfl))
    (hd : (n == ("__debug__" : Str)) = false := by decide) (hcd : (n == ("__classdict__" : Str)) = false := by decide) (hb : attributeBase (.Name n p1) f X.env (eval (.Name n p1) X.env) = eval (.Name n p1) X.env := by rfl) :
    VE (X.suite a ((a, oe) :: pn)) W pin (.Attribute (.Name n p1) f pos) (eFld ⟨y, some (g, d)⟩ f) := by
  by_cases hgf : g = f
  · subst hgf
    refine pe_imp (pe_xf ⟨C.hg, C.hk, C.hs, C.hd⟩ (hno rfl) hz hf (pe_var (X := X.suite a ((a, oe) :: pn)) (i := i) hN hv hd hcd) hb) fun σ H Q ⟨G, ms, s, h, hh, sl, q⟩ => ?_
    obtain ⟨v, k1, k2⟩ := sl.pin _ hq
    rw [x_eFld] at q
    exact ⟨.ref a, sl.pin _ hp, rfl, rfl, dd, [(g, v)], v, rfl, hh.sub _ _ k1, by simp, q.fin hh k2⟩
  · refine ⟨fun pins s σ H Q I ⟨G, ms, s', h, hh, sl, q⟩ => ?_⟩
    unfold eFld at q
    dsimp only at q
    rw [if_neg hgf] at q
    exact q.elim
end
end WD
namespace SrtO
open PySem PySem.Spec PyProof.Rows L2
variable {prog : Program} {w : World} {A : Around} {E : Value → Shared → Prop} {s : Shared}
theorem sorted_pairsT {l : Addr} {vs : List Value} {k : Value → Int × Int} {Q : Value → Shared → Prop} (hl : s.heap.IsTuple l vs.toArray) (hz : vs.length ≤ sizeLine) (hp : ∀ v ∈ vs, Srt.IsPair s.heap v (k v).1 (k v).2)
    (h : ∀ (h' : Heap) (d : Addr) (out : List Value), Srtd (fun v u => lexB (k v) (k u)) out → Stb (fun v u => lexB (k v) (k u)) out vs → (∀ b o, s.heap.get? b = some o → h'.get? b = some o) → s.heap.objs.size ≤ d → (∃ n, h'.get? d = some (seqObj "list" out.toArray n)) → Q (.ref d) { s with heap := h' }) :
    wpAny (model prog w) A (call (.builtin "sorted") [.ref l]) Q E s := by
  refine wd_sortedT (swo_lex k) hl hz (fun h2 h1 a ha kk => ?_) fun out hs hb => ?_
  · refine pairs_sortableO (s := { s with heap := h1 }) (by omega) (fun v hm => (hp v hm).keeps fun b o e _ => (kk b o e).2) fun o e => ?_
    have e' : some o = some (seqObj "list" vs.toArray 0) := e.symm.trans ha
    cases e'
    intro c
    exact absurd (Value.type.inj c) (by decide)
  · exact h _ _ out hs hb (fun b o e => sortedAll_old e) (Nat.le_succ _) (sortedAll_at s.heap vs out.toArray)
end SrtO
namespace WD
open PySem PySem.Spec PyProof.Rows L2
def sortedTD (m : Bool) : List D → Hs → R D
  | [.tup xs], h => match prsOf xs with
    | some ps => newL m ((sortP ps).map prD) h
    | none => .bad
  | _, _ => .bad
@[simp] theorem x_sortedTD {m : Bool} {ps : List (Int × Int)} {h : Hs} : sortedTD m [.tup (ps.map prD)] h = newL m ((sortP ps).map prD) h := by
  show (match prsOf (ps.map prD) with | some ps => _ | none => _) = _
  rw [prsOf_map]
section
variable {X : Cx} {W : WX} {pin : List Pn} {pos : Pos} {K : PySem.W.Frag} {G : GG} {ms : List Addr}
theorem cr_sortedPT : CallR X (.builtin "sorted") (fun vs H Q => ∃ (a : Addr) (xs : List V) (k : V → Int × Int), vs = [V.ref a] ∧ SqT X.K H a xs ∧ (∀ x ∈ xs, ∃ t, x = .ref t ∧ H t = some (.tup [.int (k x).1, .int (k x).2])) ∧
    ∀ ys p, SrtO.Srtd (ltP k) ys → SrtO.Stb (ltP k) ys xs → H p = none → Q (.ref p) (upd H p (.lst ys))) := by
  intro pins s σ H vs us Q I r h
  obtain ⟨a, xs, k, rfl, hs, hx, q⟩ := h
  obtain ⟨its, rv, hl, hz⟩ := I.tuple hs
  obtain ⟨u, rfl, ru⟩ := vals1 r
  obtain rfl : u = Value.ref a := ru
  obtain ⟨e1, e2⟩ := refs_back rv fun x m => by
    obtain ⟨t, e, _⟩ := hx x m
    exact ⟨t, e⟩
  refine SrtO.sorted_pairsT (k := fun u => k (backV u)) hl (by rw [← rv.length]; exact hz) (fun v hv => ?_) fun h' d out h1 h2 kp hd hn => ?_
  · obtain ⟨t, rfl⟩ := e2 v hv
    have hm : V.ref t ∈ xs := by rw [e1]; exact List.mem_map.mpr ⟨_, hv, rfl⟩
    obtain ⟨t', e, ht⟩ := hx _ hm
    cases e
    obtain ⟨_, its2, r2, o, ho, hc, n, hd⟩ := I.hok _ _ ht
    obtain ⟨u1, u2, rfl, ri, rj⟩ := vals2 r2
    obtain ⟨t1, rfl⟩ := ri
    obtain ⟨t2, rfl⟩ := rj
    exact ⟨t, o, t1, t2, n, rfl, ho, hc, hd⟩
  · have h3 : ∀ u ∈ out, ∃ a, u = Value.ref a := fun u hu => e2 u (h2.perm.mem_iff.mp hu)
    obtain ⟨n, hn⟩ := hn
    have hb : SrtO.Stb (ltP k) (out.map backV) xs := by
      rw [e1]
      exact SrtO.Stb.map (ltP_swo k) backV h2
    refine ⟨.ref d, upd H d (.lst (out.map backV)), I.laid (t' := s.toks) kp hd ⟨?_, out, n, vals_back h3, hn⟩, rfl, q _ d (SrtO.srtd_map h1) hb (I.hok.fresh hd)⟩
    rw [hb.len]
    exact hz
theorem cd_sortedTD (m : Bool) : CallD X (.builtin "sorted") (sortedTD m) := by
  intro pins s σ H xs us Q I r ⟨G, ms, h, ds, hh, i, q⟩
  unfold sortedTD at q
  split at q
  · rename_i ys
    obtain ⟨v, rfl, i1⟩ := isL1 (ds := []) i
    split at q
    · rename_i ps e4
      have hlz := hh.rowz i1 rfl
      obtain ⟨p, vs, rfl, h2, h3⟩ := hh.tuple i1
      rw [prsOf_eq e4] at h3 hlz
      obtain ⟨k1, k2⟩ := h3.prs hh
      refine cr_sortedPT pins s σ H _ us Q I r ⟨p, vs, pkV H, rfl, h2, fun x hx => ?_, fun zs p' sr st hp => ?_⟩
      · obtain ⟨t, e5, e6⟩ := k2 x hx
        exact ⟨t, e5, hh.sub _ _ e6⟩
      · have pm := st.perm
        have em : zs.map (pkV H) = sortP ps := sortP_uniq (by rw [← k1]; exact pm.map _) (List.pairwise_map.mpr (List.Pairwise.imp (fun {a b} hab => hab) sr))
        have i5 : IsL X.K G ms ((zs.map (pkV H)).map prD) zs := IsL.prs_of fun v hv => k2 v (pm.mem_iff.mp hv)
        rw [em] at i5
        refine q.newL hh i5 ?_ hp
        rw [List.length_map, (sortP_perm ps).length_eq]
        simpa using hlz
    · exact q.elim
  · exact q.elim
end
def strOk (i : Int) : Prop := i.natAbs.log2 < 1920
def istr (i : Int) : Str := (toString i : String)
open Classical in
noncomputable def strD : List D → Hs → R D
  | [.int i], h => if strOk i then .ok (.str (istr i)) h else .bad
  | _, _ => .bad
theorem x_str {i : Int} {h : Hs} (hi : strOk i) : strD [.int i] h = .ok (.str (istr i)) h := if_pos hi
def strsOf : List D → Option (List Str)
  | [] => some []
  | .str x :: r => match strsOf r with
    | some xs => some (x :: xs)
    | none => none
  | _ => none
theorem strsOf_eq : ∀ {ds : List D} {xs : List Str}, strsOf ds = some xs → ds = xs.map D.str
  | [], xs, e => by cases e; rfl
  | d :: ds, xs, e => by
    unfold strsOf at e
    split at e
    · rename_i heq; cases heq
    · rename_i x r heq
      cases heq
      split at e
      · rename_i ns' e'
        cases e
        rw [strsOf_eq e']; rfl
      · cases e
    · cases e
@[simp] theorem strsOf_map : ∀ (xs : List Str), strsOf (xs.map D.str) = some xs
  | [] => rfl
  | x :: xs => by
    show strsOf (.str x :: xs.map D.str) = _
    unfold strsOf
    rw [strsOf_map xs]
def joinS (a : Str) (d : D) (h : Hs) : R D := match rowOf h d with
  | some xs => match strsOf xs with
    | some ys => if (ys.map (·.length)).sum + ys.length * a.length ≤ sizeLine then .ok (.str (Txt.join a ys)) h else .bad
    | none => .bad
  | none => .bad
theorem x_join {a : Str} {d : D} {ys : List Str} {h : Hs} (hr : rowOf h d = some (ys.map D.str)) (hz : (ys.map (·.length)).sum + ys.length * a.length ≤ 16777216) : joinS a d h = .ok (.str (Txt.join a ys)) h := by
  unfold joinS
  simp only [hr, strsOf_map]
  exact if_pos hz
/-- a.join(d) -/
def eJoin (fo fe : FE) : FE := fun s h => (fo s h).bind fun o h1 => match o with
  | .str a => (fe s h1).bind fun d h2 => joinS a d h2
  | _ => .bad
@[simp] theorem x_eJoin {fo fe : FE} {s : Ss} {h : Hs} : eJoin fo fe s h = (fo s h).bind fun o h1 => match o with
  | .str a => (fe s h1).bind fun d h2 => joinS a d h2
  | _ => .bad := (rfl)
section
variable {X : Cx} {W : WX} {pin : List Pn} {pos apos : Pos} {K : PySem.W.Frag} {G : GG} {ms : List Addr}
theorem cd_str : CallD X (.type "str") strD := by
  intro pins s σ H xs us Q I r ⟨G, ms, h, ds, hh, i, q⟩
  unfold strD at q
  split at q
  · split at q
    · rename_i hz
      obtain ⟨v, rfl, i1⟩ := isL1 (ds := []) i
      cases i1
      exact call_str_int pins s σ H _ us Q I r ⟨_, rfl, hz, q.fin (b := V.str _) hh rfl⟩
    · exact q.elim
  · exact q.elim
theorem IsL.strs : ∀ {xs : List Str} {vs : List V}, IsL K G ms (xs.map D.str) vs → vs = xs.map V.str
  | [], _, h => h
  | x :: xs, _, h => by
    obtain ⟨v, r, rfl, h2, h3⟩ := h
    rw [IsL.strs h3]; cases h2; rfl
theorem ve_join {o e : Expr} {fo fe : FE} (ho : VE X W pin o fo) (he : VE X W pin e fe) (hs : starEach [e] X.env = [(false, eval e X.env)] := by rfl) (hbase : attributeBase o "join" X.env (eval o X.env) = eval o X.env := by rfl) (hline : (apos.endLine == pos.line) = true := by rfl) :
    VE X W pin (.Call (.Attribute o "join" apos) [e] [] pos) (eJoin fo fe) := by
  refine pe_imp (pe_join ho he hs hbase hline) fun σ H Q ⟨G, ms, s, h, hh, sl, q⟩ => ⟨G, ms, s, h, hh, sl, Post.bind q fun d h1 v H1 G1 ms1 e1 p1 hh1 i1 q1 => ?_⟩
  split at q1
  · rename_i a
    cases i1
    refine ⟨⟨a, rfl⟩, G1, ms1, s, h1, hh1, sl.mono e1 p1, Post.bind q1 fun d2 h2 w H2 G2 ms2 e2 p2 hh2 i2 q2 => ?_⟩
    unfold joinS at q2
    split at q2
    · rename_i xs hr
      split at q2
      · rename_i ys ey
        split at q2
        · rename_i hz
          obtain ⟨p, vs, rfl, k2, k3⟩ := hh2.row i2 hr
          rw [strsOf_eq ey] at k3
          rw [k3.strs] at k2
          exact ⟨a, p, ys, rfl, rfl, k2, hz, q2.fin (b := V.str _) hh2 rfl⟩
        · exact q2.elim
      · exact q2.elim
    · exact q2.elim
  · exact q1.elim
end
theorem call_isPT {Y : Cx} {a D : Addr} {oe : Obj} (hpn : (a, oe) ∈ Y.pn) (C : ExcC Y.K D) (hz : Zc (.ref D) none oe) (hf : ∃ vs, oe.data = .fields vs) : CallR Y (.builtin "isinstance") (rIsET Y.K D a) := by
  intro pins s σ H xs us Q I r ⟨tp, cs, e0, hT, hk, q⟩
  subst e0
  obtain ⟨u1, u2, e1, r1, r2⟩ := vals2 r
  subst e1
  cases (show u2 = Value.ref tp from r2)
  cases (show u1 = Value.ref a from r1)
  have hget := (I.pin (a, oe) (List.mem_append_left _ hpn)).1
  obtain ⟨vs, hv⟩ := hf
  have J : PySem.W.InstAt s.heap a oe D none := by
    obtain ⟨oc, od, oda, osl⟩ := oe
    obtain ⟨h1, h2⟩ := hz
    dsimp only at h1 h2 hv
    subst h1 h2 hv
    exact ⟨hget, rfl, rfl, trivial⟩
  obtain ⟨_, its, rv, o, g1, g2, n, g3⟩ := (show ObjOk Y.prog Y.w H s.heap tp (.tup (cs.map fun p => V.ref p.1)) from I.hok tp _ hT)
  have e3 := ClsV.all (paired_own cs) rv
  subst e3
  obtain ⟨oc, od, dt, sl⟩ := o
  simp only at g2 g3
  subst g2 g3
  exact PySem.W.kia_tup (PySem.W.handS_kitx_exc C.hg C.hk C.hs C.hd C.ha C.hn C.ht C.hm) I.kIn J g1 (kitAny_own cs hk) (fun z => nomatch z) fun tk => ⟨.bl _, H, I.kept (t' := tk) fun _ _ z => z, rfl, q⟩
section
variable {Y : Cx} {W : WX} {pin : List Pn} {pos : Pos}
theorem ve_isPT {a Dc : Addr} {oe : Obj} (i : Nat) {n : Str} {es : List Expr} {tx : Nat} {cs : List (Addr × Bool)} {b : Bool} {p p1 p2 : Pos} (hpn : (a, oe) ∈ Y.pn) (C : ExcC Y.K Dc) (hz : Zc (.ref Dc) none oe) (hf : ∃ vs, oe.data = .fields vs) (hk : ∀ p ∈ cs, PySem.W.kitOne Y.K (.ref Dc) (.ref p.1) = some p.2) (hb : cs.any (·.2) = b) (hlen : cs.length ≤ sizeLine)
    (hx : PA Y es (fun _ H Q => Q (cs.map fun p => V.ref p.1) H)) (hp : Pn.s i (V.ref a) ∈ pin) (hgi : Gl Y "isinstance") (hmi : Y.mg "isinstance" = none) (hN : Y.N[i]? = some n := by rfl) (hv : Vis Y.env.scope n := by first | exact Or.inl rfl | exact Or.inr (Or.inl rfl) | exact Or.inr (Or.inr rfl))
    (hd : (n == ("__debug__" : Str)) = false := by decide) (hcd : (n == ("__classdict__" : Str)) = false := by decide)
    (hs1 : starEach [.Name n p1, .Tuple es tx p2] Y.env = (false, eval (.Name n p1) Y.env) :: starEach [.Tuple es tx p2] Y.env := by rfl) (hs2 : starEach [.Tuple es tx p2] Y.env = (false, eval (.Tuple es tx p2) Y.env) :: starEach [] Y.env := by rfl) (hpl : (backTo pos (starEach [.Tuple es tx p2] Y.env)).any (·.1) = false := by rfl) :
    VE Y W pin (.Call (.Name "isinstance" p) [.Name n p1, .Tuple es tx p2] [] pos) (eC (.bl b)) := by
  refine pe_imp (pe_callB (call_isPT hpn C hz hf) hgi hmi (by decide +kernel) (pa_cons (pe_var (X := Y) (i := i) hN hv hd hcd) (pa_cons (pe_tup hx) pa_nil hs2) hs1) (by decide) (by decide) hs1 hpl) fun σ H Q ⟨G, ms, s, h, hh, sl, q⟩ => ?_
  refine ⟨.ref a, sl.pin _ hp, ?_⟩
  refine ⟨by rw [List.length_map]; exact hlen, fun tp htp => ⟨tp, cs, rfl, upd_same, hk, ?_⟩⟩
  rw [hb]
  have eg : GLe G (gupd G tp (.tup (cs.map fun p => V.ref p.1))) := gle_upd (hh.gnone htp)
  exact Post.fin2 (b := V.bl b) q eg (pre_refl _) (hh.still htp (by show (cs.map fun p => V.ref p.1).length ≤ sizeLine; rw [List.length_map]; exact hlen)) rfl
end
end WD
namespace WD
open PySem PySem.Spec PyProof.Rows L2
theorem unitsH {k : Nat} {A : Around} (r : L2H.RoomH k A) : A.units + 64 < cLine := by have := r.un; omega
structure FnE2 (P : Program) (w : World) (K : PySem.W.Frag) (mg : Str → Option Value) (base : Heap) (k : Nat) (f : Addr) (fd : FuncData) (x x2 : Str) (names : List Str) (g : Str → D → Hs → R D) : Prop where
  goes : ∀ A outer s H p y d v u Q, L2H.RoomH k A → L2H.PinOk outer H s p → ErO mg names y p.2 → Env0 P w K mg base A outer s H → RelV v u → BindsTo s fd ⟨[.ref p.1, u], []⟩ [(x, .ref p.1), (x2, u)] →
    (∃ G ms h, Hh K G ms h H ∧ Is K G ms d v ∧ Post K mg (fun _ _ _ => False) G ms (Is K) (g y d h) Q) → codeAny (model P w) A (.call (.ref f) ⟨[.ref p.1, u], []⟩) (CR (L2.CX P w) outer P w H s Q (fun _ _ _ => False)) s
noncomputable def runE2 (N : Nat) (md : Md) (b : FS) (d : D) (h : Hs) : R D := match b (none :: some d :: List.replicate (N - 2) none) h with
  | .nx _ h' => exitF md h .non h'
  | .rt d h' => exitF md h d h'
  | _ => .bad
section
variable {P : Program} {w : World} {K : PySem.W.Frag} {mg : Str → Option Value} {base : Heap} {f : Addr} {fd : FuncData}
theorem FnE2.mono {j k : Nat} {x x2 : Str} {names : List Str} {g : Str → D → Hs → R D} (F : FnE2 P w K mg base j f fd x x2 names g) (h : j ≤ k) : FnE2 P w K mg base k f fd x x2 names g := ⟨fun A outer s H p y d v u Q r => F.goes A outer s H p y d v u Q (r.mono h)⟩
theorem fnE2_ok (md : Md) {x0 qual x x2 : Str} {st : Stmt} {N : List Str} {k : Nat} {names : List Str} {b : Str → FS} (F : Fun K x0 qual st f fd) (S : FnScope N [x, x2] (defScope st))
    (hb : ∀ cdv A outer s H p y, L2H.RoomH k (A.deeper (envOfC qual (defScope st) s.heap.objs.size f cdv)) → ErO mg names y p.2 →
      VSs (L2H.cxH (L2.CX P w) P w K mg base N qual (defScope st) f cdv A outer s H (fun _ _ _ => False) p) W0 [.s 0 (.ref p.1)] (defBody st) (b y)) :
    FnE2 P w K mg base (k + 1) f fd x x2 names (fun y d h => runE2 N.length md (b y) d h) := by
  obtain ⟨oc, od, kV, doc, pm, an, cdv, ct, osl, rfl, lk, ccd⟩ := F.ex
  refine ⟨fun A outer s H p y d v u Q room pk er env rv0 bnd q => ?_⟩
  have kin : K.In s.heap := env.mod.kin.keeps fun a ob z => (env.bs a ob z).1
  have nol : s.heap.NoLimit := env.mod.nolimit.keeps fun a ob z => (env.bs a ob z).1
  refine codeAny_call_function room.depth (kin _ _ lk) rfl S.co S.gen rfl (PySem.W.codeRec_of kin ccd) (bnd _ _ _ _ (wpAny_newFunctionEnv_cells S.kind (fun z hz => ?_) fun ev hev st1 inC => ?_))
  · have hx : z.1 ∈ [x, x2] := by
      simp only [List.mem_cons, List.not_mem_nil, or_false] at hz ⊢
      rcases hz with rfl | rfl
      · exact Or.inl rfl
      · exact Or.inr rfl
    rcases S.par z.1 hx with t | t
    · exact Or.inl t
    · exact Or.inr ⟨t, PySem.W.cellsFrom_some _ _ _ (Or.inl t)⟩
  subst hev
  refine ⟨nol.keeps inC.toInCall.keep, codeAny_func ?_⟩
  have rd := hb cdv A outer s H p y (room.deeper _) er
  have iv := L2H.inv_startH (CX := L2.CX P w) (N := N) (ps := [x, x2]) (us := [.ref p.1, u]) (vs := [.ref p.1, v]) (E := fun _ _ _ => False) S pk env rfl (.cons rfl (.cons rv0 .nil)) inC
  obtain ⟨G, ms, h, hh, isd, q⟩ := q
  have hN : 2 ≤ N.length := by
    have := congrArg List.length S.pre
    rw [List.length_take] at this
    simp at this
    omega
  have sl : Sl K G ms [Pn.s 0 (V.ref p.1)] (none :: some d :: List.replicate (N.length - 2) none) (L2.start N [V.ref p.1, v]) := by
    refine ⟨by simp [L2.start], fun i e0 e => ?_, fun z hz => ?_⟩
    · match i, e with
      | 0, e => cases e
      | 1, e =>
        cases e
        exact ⟨v, rfl, isd⟩
      | i + 2, e =>
        have := List.mem_of_getElem? (show (List.replicate (N.length - 2) (none : Option D))[i]? = _ from e)
        have := List.eq_of_mem_replicate this
        cases this
    · obtain rfl : z = Pn.s 0 (V.ref p.1) := by simpa using hz
      rfl
  let En : Ends := ⟨fun _ H' => Q .non H', Q, fun _ _ => False, fun _ _ => False⟩
  have go : rdS (L2H.cxH (L2.CX P w) P w K mg base N qual (defScope st) f cdv A outer s H (fun _ _ _ => False) p) W0 [.s 0 (.ref p.1)] (b y) En (L2.start N [V.ref p.1, v]) H := by
    refine ⟨G, ms, _, h, hh, sl, ?_⟩
    unfold runE2 at q
    cases e : b y (none :: some d :: List.replicate (N.length - 2) none) h with
    | nx s' h' =>
      rw [e] at q
      exact fun σ' H' G' ms' e1 p1 hh1 sl1 => exitF_post (d := .non) hh e1 p1 hh1 rfl q
    | rt d h' =>
      rw [e] at q
      exact fun v H' G' ms' e1 p1 hh1 i1 => exitF_post hh e1 p1 hh1 i1 q
    | er z s' h' => rw [e] at q; exact q.elim
    | bk s' h' => rw [e] at q; exact q.elim
    | ct s' h' => rw [e] at q; exact q.elim
    | bad => rw [e] at q; exact q.elim
  refine wpAny_mono (rd.run [] st1 (L2.start N [V.ref p.1, v]) H En iv go) (fun fl s2 ends => ?_) fun _ _ z => z
  match fl, ends with
  | .ret u, ⟨v, σ', H', J, rv, z⟩ => exact ⟨v, H', J.os, J.bare, J.base, J.hok, rv, z⟩
  | .next, ⟨σ', H', J, z⟩ => exact ⟨V.non, H', J.os, J.bare, J.base, J.hok, rfl, z⟩
  | .brk, ⟨_, _, _, z⟩ => exact z.elim
  | .cont, ⟨_, _, _, z⟩ => exact z.elim
end
def eErr2 (r : D → Hs → R D) (j : Nat) : FE := fun s h => match s[j]? with
  | some (some d) => r d h
  | _ => .bad
@[simp] theorem x_eErr2 {r : D → Hs → R D} {j : Nat} {s : Ss} {h : Hs} : eErr2 r j s h = match s[j]? with
  | some (some d) => r d h
  | _ => .bad := (rfl)
section
variable {X : Cx} {W : WX} {pin : List Pn} {pos : Pos}
/-- f(error, name), in the suite -/
theorem ve_callE2 {k : Nat} {f a : Addr} {oe : Obj} {pn : List (Addr × Obj)} {fd : FuncData} {x x2 fx n n2 y : Str} {names : List Str} {g : Str → D → Hs → R D} {p p1 p2 : Pos} (i j : Nat) (F : FnE2 X.prog X.w X.K X.mg X.base k f fd x x2 names g) (hr : Room k X.A) (er : ErO X.mg names y oe) (hg : Gl X fx) (hm : X.mg fx = some (.ref f)) (hkp : PySem.W.keepIn X.K (.ref f) = true) (hb : Binds X.K fd [x, x2] [])
    (hp : Pn.s i (V.ref a) ∈ pin) (hN : X.N[i]? = some n := by rfl) (hN2 : X.N[j]? = some n2 := by rfl) (hv : Vis X.env.scope n := by first | exact Or.inl rfl | exact Or.inr (Or.inl rfl) | exact Or.inr (Or.inr rfl)) (hv2 : Vis X.env.scope n2 := by first | exact Or.inl rfl | exact Or.inr (Or.inl rfl) | exact Or.inr (Or.inr rfl))
    (hd : (n == ("__debug__" : Str)) = false := by decide) (hcd : (n == ("__classdict__" : Str)) = false := by decide) (hd2 : (n2 == ("__debug__" : Str)) = false := by decide) (hcd2 : (n2 == ("__classdict__" : Str)) = false := by decide) (hdb : (fx == ("__debug__" : Str)) = false := by decide)
    (hs1 : starEach [.Name n p1, .Name n2 p2] X.env = (false, eval (.Name n p1) X.env) :: starEach [.Name n2 p2] X.env := by rfl) (hs2 : starEach [.Name n2 p2] X.env = (false, eval (.Name n2 p2) X.env) :: starEach [] X.env := by rfl) (hpl : (backTo pos (starEach [.Name n2 p2] X.env)).any (·.1) = false := by rfl) :
    VE (X.suite a ((a, oe) :: pn)) W0 pin (.Call (.Name fx p) [.Name n p1, .Name n2 p2] [] pos) (eErr2 (g y) j) := by
  refine ⟨fun pins s σ H Q I ⟨G, ms, s', h, hh, sl, q⟩ => wpAny_Call_Name_kw (ld_glob I hg hm ?_ hdb)⟩
  have hex : ∃ d, s'[j]? = some (some d) ∧ Post X.K X.mg (fun c d H => W0 c d σ H) G ms (Is X.K) (g y d h) Q := by
    have q : Post X.K X.mg (fun c d H => W0 c d σ H) G ms (Is X.K) (eErr2 (g y) j s' h) Q := q
    unfold eErr2 at q
    split at q
    · rename_i d e; exact ⟨d, e, q⟩
    · exact q.elim
  obtain ⟨d, ed, q⟩ := hex
  obtain ⟨v2, ev2, is2⟩ := sl.get j d ed
  have ha : PA (X.suite a ((a, oe) :: pn)) [.Name n p1, .Name n2 p2] (tCons _ (tCons _ tNil)) := pa_cons (pe_var (X := X.suite a ((a, oe) :: pn)) (i := i) hN hv hd hcd) (pa_cons (pe_var (X := X.suite a ((a, oe) :: pn)) (i := j) hN2 hv2 hd2 hcd2) pa_nil hs2) hs1
  refine PySem.W.callWith_K (h₀ := X.base) I.ok.mod.kin hkp (thn (ha.run pos pins s σ H (fun vs H1 => vs = [V.ref a, v2] ∧ H1 = H) I ⟨.ref a, sl.pin _ hp, ⟨v2, ev2, rfl, rfl⟩⟩) fun us s1 z => ?_) hs1 hpl
  obtain ⟨vs, H1, J, rr, rfl, rfl⟩ := z
  refine ⟨J.kIn, ?_⟩
  obtain ⟨u1, u2, rfl, r1, r2⟩ := vals2 rr
  cases (show u1 = Value.ref a from r1)
  have bb : BindsTo s1 fd ⟨[.ref a, u2], []⟩ [(x, .ref a), (x2, u2)] := by simpa using hb s1 [.ref a, u2] J.kIn rfl
  have pk := J.pin (a, oe) (List.mem_append_left _ List.mem_cons_self)
  have pin0 : L2H.PinOk X.stack H1 s1 (a, oe) := ⟨pk.1, pk.2.1, fun hm => (List.mem_cons.mp (J.stkSub a hm)).elim pk.2.2.1 pk.2.2.2.1, pk.2.2.2.2⟩
  refine wpAny_call (codeAny_mono (F.goes (X.suite a ((a, oe) :: pn)).A X.stack s1 H1 (a, oe) y d v2 u2 Q ⟨hr.dp, hr.un⟩ pin0 er J.env0 r2 bb ⟨G, ms, h, hh, is2, q⟩) fun r s2 hz => ?_)
  match r, hz with
  | .error e, hz =>
    obtain ⟨_, _, _, _, _, _, _, _, _, _, _, _, no⟩ := (show L2.CX X.prog X.w X.stack H1 s1 (fun _ _ _ => False) e s2 from hz)
    exact no.elim
  | .ok (.ret u), hz => exact J.after hz
end
end WD
namespace WD
open PySem PySem.Spec PyProof.Rows L2
section
open HT
variable {prog : Program} {w : World} {A : Around} {E : Value → Shared → Prop} {s : Shared}
theorem adjust_rev (n : Nat) : Builtin.Slice.sliceAdjust none none (-1) (n : Int) = ((n : Int) - 1, -1) := by
  unfold Builtin.Slice.sliceAdjust
  simp
theorem places_rev (n : Nat) : Builtin.Slice.slicePlaces ((n : Int) - 1) (-1) (-1) = n := by
  unfold Builtin.Slice.slicePlaces
  have h1 : ¬ ((-1 : Int) > 0) := by omega
  simp only [h1, if_false]
  split <;> simp <;> omega
theorem fm_congr {α β : Type} {f g : α → Option β} : ∀ {l : List α}, (∀ x ∈ l, f x = g x) → l.filterMap f = l.filterMap g
  | [], _ => rfl
  | x :: l, h => by rw [List.filterMap_cons, List.filterMap_cons, h x List.mem_cons_self, fm_congr fun y hy => h y (List.mem_cons_of_mem _ hy)]
theorem pick_rev (xs : Array Value) : ((List.range xs.size).filterMap fun (m : Nat) => xs[(((xs.size : Nat) : Int) - 1 + (m : Int) * (-1)).toNat]?).toArray = xs.toList.reverse.toArray := by
  congr 1
  have h1 : ((List.range xs.size).filterMap fun (m : Nat) => xs[(((xs.size : Nat) : Int) - 1 + (m : Int) * (-1)).toNat]?) = (List.range xs.size).filterMap fun (m : Nat) => xs.toList.reverse.toArray[0 + m]? := by
    refine fm_congr fun m hm => ?_
    have hm := List.mem_range.mp hm
    have e : (((xs.size : Nat) : Int) - 1 + (m : Int) * (-1)).toNat = xs.toList.length - 1 - m := by rw [Array.length_toList]; omega
    have e3 : xs.toList.reverse.toArray[m]? = xs.toList[xs.toList.length - 1 - m]? := by
      rw [List.getElem?_toArray]
      exact List.getElem?_reverse (by rw [Array.length_toList]; exact hm)
    rw [e, Nat.zero_add, e3, Array.getElem?_toList]
  rw [h1]
  have h2 := pick_run xs.toList.reverse.toArray 0 xs.size
  rw [List.filterMap_map] at h2
  have e2 : ((fun x => xs.toList.reverse.toArray[x]?) ∘ fun x => 0 + x) = fun m => xs.toList.reverse.toArray[0 + m]? := rfl
  rw [e2] at h2
  rw [h2]
  show (xs.toList.reverse).take xs.size = _
  exact List.take_of_length_le (by simp)
theorem sliceApplied_rev {sl : Addr} {tk : Tok} {n : Nat} {Q : Int × Int × Nat → Shared → Prop} (hs : s.heap.IsSliceOf sl .none .none (.int (-1) tk))
    (h : Q ((n : Int) - 1, -1, n) s) : wpAny (model prog w) A (Builtin.Slice.sliceApplied (.ref sl) (pure (n : Int))) Q E s := by
  obtain ⟨os, hos, hcs, hds⟩ := id hs
  unfold Builtin.Slice.sliceApplied Builtin.Slice.sliceFields
  refine wpAny_bind (wpAny_bind (wpAny_field hos hds (x := .none) rfl (wpAny_bind (wpAny_field hos hds (x := .none) rfl (wpAny_bind (wpAny_field hos hds (x := .int (-1) tk) rfl (wpAny_pure ?_)))))))
  refine wpAny_bind (slicePart_int ?_)
  show wpAny _ _ (if ((-1 : Int) == 0) = true then _ else _) _ _ s
  rw [if_neg (by decide)]
  refine wpAny_bind (slicePart_none (wpAny_bind (slicePart_none (wpAny_bind (wpAny_pure ?_)))))
  show wpAny _ _ (match Builtin.Slice.sliceAdjust none none (-1) (n : Int) with | (lo, hi) => pure (lo, (-1 : Int), Builtin.Slice.slicePlaces lo hi (-1))) _ _ s
  rw [adjust_rev n]
  show wpAny _ _ (pure ((n : Int) - 1, (-1 : Int), Builtin.Slice.slicePlaces ((n : Int) - 1) (-1) (-1))) _ _ s
  rw [places_rev]
  exact wpAny_pure h
theorem getItem_tuple_rev {t sl : Addr} {tk : Tok} {items : Array Value} {Q : Value → Shared → Prop} (ht : IsTup s.heap t items) (hs : s.heap.IsSliceOf sl .none .none (.int (-1) tk))
    (h : Q (.ref s.heap.objs.size) { s with heap := s.heap.push { cls := .type "tuple", data := .seq items.toList.reverse.toArray } })
    (hsz : items.size ≤ sizeLine) : wpAny (model prog w) A (getItem (.ref t) (.ref sl)) Q E s := by
  have htake : sizeOk (.seq items.toList.reverse.toArray) := by
    show items.toList.reverse.toArray.size ≤ sizeLine
    rw [List.size_toArray, List.length_reverse, Array.length_toList]
    exact hsz
  obtain ⟨os, hos, hcs, hds⟩ := id hs
  have hTs : s.TypeIs (.ref sl) "slice" := ⟨os, hos, hcs⟩
  unfold getItem
  try with_reducible refine wpAny_holding ?_
  first | refine wpAny_bind (wpAny_pure ?_) | skip
  refine wpAny_bind (wpAny_sequenceKey ht.typeIs (by decide) ?_)
  refine wpAny_bind (wpAny_callSpecial?_slot (name := Str.ofString "__getitem__") ht.typeIs PyProof.Rows.slot_tuple_getitem
    (wpAny_call_entry PyProof.Rows.slot_tuple_getitem ht.typeIs entry_tuple_getitem ?_ (args_tuple_getitem _ _)))
  show wpAny _ _ (Builtin.Tuple.tupleItemsOf (.ref t) >>= _) _ _ s
  refine wpAny_bind (tupleItemsOf_ ht ?_)
  refine wpAny_bind (wpAny_typeOf hTs ?_)
  rw [if_pos (by decide)]
  refine wpAny_bind (sliceApplied_rev (n := items.size) hs ?_)
  have hno : ¬ ((((items.size : Nat) : Int) - 1 == 0 && (-1 : Int) == 1 && items.size == items.size) = true) := by
    intro q
    rw [Bool.and_eq_true, Bool.and_eq_true] at q
    exact absurd q.1.2 (by decide)
  show wpAny _ _ (if (((items.size : Nat) : Int) - 1 == 0 && (-1 : Int) == 1 && items.size == items.size) = true then _ else _) _ _ s
  rw [if_neg hno, pick_rev]
  first
    | exact wpAny_bind (m := Builtin.Tuple.tupleExact _) (wpAny_newObj_type (wpAny_pure ⟨_, rfl, wpAny_pure h⟩) htake)
    | exact wpAny_bind (m := Builtin.Tuple.tupleExact _) (wpAny_newObj_type (wpAny_bind (wpAny_pure (wpAny_pure ⟨_, rfl, wpAny_pure h⟩))) htake)
    | exact wpAny_bind (wpAny_bind (m := Builtin.Tuple.tupleExact _) (wpAny_newObj_type (wpAny_pure (wpAny_pure ⟨_, rfl, wpAny_pure h⟩)) htake))
    | exact wpAny_bind (wpAny_bind (m := Builtin.Tuple.tupleExact _) (wpAny_newObj_type (wpAny_pure ⟨_, rfl, wpAny_pure h⟩) htake))
end
/-- t[::-1] -/
def tRev (K : PySem.W.Frag) (te ts : TE) : TE := fun σ H Q => te σ H fun x H1 => ts σ H1 fun k H2 => k = .int (-1) ∧ ∃ a xs, x = .ref a ∧ SqT K H2 a xs ∧ ∀ p, H2 p = none → Q (.ref p) (upd H2 p (.tup xs.reverse))
section
variable {X : Cx} {W : WX} {pin : List Pn} {pos p2 : Pos}
theorem vals_app {xs ys : List V} {us vs : List Value} (r : Vals xs us) (r' : Vals ys vs) : Vals (xs ++ ys) (us ++ vs) := by
  induction r with
  | nil => exact r'
  | cons h _ ih => exact .cons h ih
theorem vals_rev {xs : List V} {us : List Value} (r : Vals xs us) : Vals xs.reverse us.reverse := by
  induction r with
  | nil => exact .nil
  | cons h _ ih =>
    rw [List.reverse_cons, List.reverse_cons]
    exact vals_app ih (.cons h .nil)
theorem pe_rev {e st : Expr} {te ts : TE} (he : PE X e te) (hs : PE X st ts) : PE X (.Subscript e (.Slice none none (some st) p2) pos) (tRev X.K te ts) := by
  refine ⟨fun pins s σ H Q I h => ?_⟩
  refine Subscript_ (thn (he.run pins s σ H _ I h) fun v s1 ⟨x, H1, I1, r1, q1⟩ => ?_)
  refine wpAny_Slice ?_
  rw [evalPart_none, evalPart_some]
  refine wpAny_pure (wpAny_pure (thn (hs.run pins s1 σ H1 _ I1 q1) fun vk s3 ⟨k, H3, I3, rk, q3⟩ => ?_))
  obtain ⟨rfl, a, xs, rfl, hx, q⟩ := q3
  obtain ⟨tk, rfl⟩ := rk
  cases r1
  have I4 : Inv X pins σ H3 { s3 with heap := s3.heap.push { cls := .type "slice", data := .fields #[.none, .none, .int (-1) tk] } } := I3.kept (t' := s3.toks) fun b ob q => Heap.get?_push_of_some _ q
  obtain ⟨its, r, ht, hz⟩ := I4.tuple hx
  have hlen : its.toArray.size = xs.length := by rw [List.size_toArray]; exact r.length.symm
  have hg := getItem_tuple_rev (prog := X.prog) (w := X.w) (A := X.A) (E := X.xe) (Q := EP X pins σ Q) (sl := s3.heap.objs.size) (tk := tk) ht (Heap.IsSliceOf.new ..) (by
    refine ⟨.ref (s3.heap.push { cls := .type "slice", data := .fields #[.none, .none, .int (-1) tk] }).objs.size, _, I4.laid (t' := s3.toks) (o := .tup xs.reverse) (fun b ob q => Heap.get?_push_of_some _ q) (Nat.le_refl _) ?_, rfl, q _ (I4.hok.fresh (Nat.le_refl _))⟩
    exact ⟨by rw [List.length_reverse]; exact hz, its.reverse, vals_rev r, IsTup.new _ _⟩) (by rw [hlen]; exact hz)
  show wpAny (model X.prog X.w) X.A (subscriptTail e (.Slice none none (some st) p2) (.ref a) (.ref s3.heap.objs.size)) (EP X pins σ Q) X.xe { s3 with heap := s3.heap.push { cls := .type "slice", data := .fields #[.none, .none, .int (-1) tk] } }
  exact tail_any (ops := [.ref a, .ref s3.heap.objs.size]) ht.typeIs PyProof.Rows.slot_tuple_getitem.lookup hg (by with_unfolding_all rfl)
def eRev (f fs : FE) : FE := fun s h => (f s h).bind fun d h1 => (fs s h1).bind fun k h2 => match d, k with
  | .tup xs, .int i => if i = -1 then .ok (.tup xs.reverse) h2 else .bad
  | _, _ => .bad
theorem isL_app {K : PySem.W.Frag} {G : GG} {ms : List Addr} : ∀ {xs ys : List D} {us vs : List V}, IsL K G ms xs us → IsL K G ms ys vs → IsL K G ms (xs ++ ys) (us ++ vs)
  | [], ys, us, vs, h, h' => by cases (show us = [] from h); exact h'
  | x :: xs, ys, us, vs, h, h' => by
    obtain ⟨v, r, rfl, h1, h2⟩ := h
    exact ⟨v, r ++ vs, rfl, h1, isL_app h2 h'⟩
theorem isL_rev {K : PySem.W.Frag} {G : GG} {ms : List Addr} : ∀ {xs : List D} {us : List V}, IsL K G ms xs us → IsL K G ms xs.reverse us.reverse
  | [], us, h => by cases (show us = [] from h); exact rfl
  | x :: xs, us, h => by
    obtain ⟨v, r, rfl, h1, h2⟩ := h
    rw [List.reverse_cons, List.reverse_cons]
    exact isL_app (isL_rev h2) ⟨v, [], rfl, h1, rfl⟩
theorem ve_rev {e st : Expr} {f fs : FE} (he : VE X W pin e f) (hs : VE X W pin st fs) : VE X W pin (.Subscript e (.Slice none none (some st) p2) pos) (eRev f fs) := by
  refine pe_imp (pe_rev he hs) fun σ H Q ⟨G, ms, s, h, hh, sl, q⟩ => ⟨G, ms, s, h, hh, sl, Post.bind q fun d h1 v H1 G1 ms1 e1 p1 hh1 i1 q1 => ?_⟩
  refine ⟨G1, ms1, s, h1, hh1, sl.mono e1 p1, Post.bind q1 fun k h2 kv H2 G2 ms2 e2 p2 hh2 i2 q2 => ?_⟩
  have i3 := Is.mono e2 p2 _ _ i1
  split at q2
  · rename_i xs i
    by_cases hi : i = -1
    · rw [if_pos hi] at q2
      subst hi
      obtain ⟨p, vs, rfl, k2, k3⟩ := hh2.tuple i3
      exact ⟨i2, p, vs, rfl, k2, fun p hp => q2.newT hh2 (isL_rev k3) (by rw [List.length_reverse]; exact hh2.rowz i3 rfl) hp⟩
    · rw [if_neg hi] at q2; exact q2.elim
  · exact q2.elim
end
theorem x_rev {f fs : FE} {s : Ss} {h h1 h2 : Hs} {xs : List D} (e1 : f s h = .ok (.tup xs) h1) (e2 : fs s h1 = .ok (.int (-1)) h2) : eRev f fs s h = .ok (.tup xs.reverse) h2 := by
  unfold eRev
  rw [e1, R.bind_ok, e2, R.bind_ok]
  exact if_pos rfl
end WD
namespace WD
open PySem PySem.Spec PyProof.Rows L2
open PySem.Sem (wp)
section
variable {prog : Program} {w : World} {A : Around} {E : Value → Shared → Prop} {s : Shared}
theorem zn_item {z TI TO i1 i2 l1 l2 : Addr} {k1 k2 : Nat} {xs ys : Array Value} {x y a b : Value} {Q : Option Value → Shared → Prop} (D : ZipApart z TI TO i1 i2 l1 l2)
    (hz : IsZip s.heap z TI TO .none) (hTI : IsPair s.heap TI (.ref i1) (.ref i2)) (hTO : IsPair s.heap TO a b)
    (h1 : s.heap.IsListIter i1 l1 k1) (h2 : s.heap.IsTupleIter i2 l2 k2) (hl1 : s.heap.IsList l1 xs) (hl2 : s.heap.IsTuple l2 ys) (hx : xs[k1]? = some x) (hy : ys[k2]? = some y)
    (hQ : ∀ h', IsZip h' z TI TO (rawInt s.heap.objs.size) → IsPair h' TO x y → h'.IsListIter i1 l1 (k1 + 1) → h'.IsTupleIter i2 l2 (k2 + 1) → IsPair h' s.heap.objs.size x y →
      (∀ c o, c ≠ z → c ≠ TO → c ≠ i1 → c ≠ i2 → s.heap.get? c = some o → h'.get? c = some o) → Q (some (.ref s.heap.objs.size)) { s with heap := h' }) :
    wpAny (model prog w) A (pyNext (.ref z)) Q E s := by
  have hT : s.TypeIs (.ref z) "zip" := ⟨_, hz, rfl⟩
  unfold pyNext
  refine wpAny_bind (wpAny_attempt (wpAny_callSpecial?_slot (name := Str.ofString "__next__") hT F.slot_zip_next
    (wpAny_call_entry F.slot_zip_next hT F.entry_zip_next ?_ (F.args_zip_next_1 _))))
  show wpAny _ _ (field (.ref z) 2 >>= _) _ _ _
  refine wpAny_bind (wpAny_field hz rfl (x := .bool false) rfl ?_)
  show wpAny _ _ (field (.ref z) 3 >>= _) _ _ _
  refine wpAny_bind (wpAny_field hz rfl (x := .ref TI) rfl (wpAny_bind (wpAny_seqItems hTI rfl ?_)))
  show wpAny _ _ (Builtin.SmallTypes.ownedTupleIsFree (.ref z) >>= _) _ _ _
  refine wpAny_bind ?_
  unfold Builtin.SmallTypes.ownedTupleIsFree
  refine wpAny_bind (wpAny_field hz rfl (x := .none) rfl (wpAny_pure ?_))
  simp only [if_true]
  refine wpAny_bind (wpAny_rule (wpAny_bind (wpAny_field hz rfl (x := .ref TO) rfl (wpAny_bind (wpAny_setField_rec hz (by simp) fun g1 z1 b1 => ?_)))))
  replace z1 : IsZip g1 z TI TO .ellipsis := z1
  refine wpAny_bind ?_
  simp only [List.zipIdx_cons, List.zipIdx_nil, List.forIn_cons, List.forIn_nil]
  refine wpAny_bind (wpAny_bind (wpAny_onRaise ?_))
  show wpAny _ _ (Builtin.SmallTypes.nextOf (.ref i1) >>= _) _ _ _
  refine wpAny_bind (wpAny_nextOf_list_item (h1.extBut b1.extBut D.i1z) (hl1.extBut b1.extBut D.l1z) hx fun g2 t2 b2 => wpAny_pure ?_)
  have o2 : IsPair g2 TO a b := b2.extBut _ _ D.TOi1 (b1.extBut _ _ D.TOz hTO)
  refine wpAny_bind (wpAny_seqItems o2 rfl (wpAny_bind (wpAny_updateSeq_pair o2 fun g3 o3 b3 => ?_)))
  replace o3 : IsPair g3 TO x b := o3
  refine wpAny_bind (wpAny_letGo (wpAny_pure ?_))
  refine wpAny_bind (wpAny_bind (wpAny_onRaise ?_))
  show wpAny _ _ (Builtin.SmallTypes.nextOf (.ref i2) >>= _) _ _ _
  refine wpAny_bind (RZ.nextOf_tuple_item (((h2.extBut b1.extBut D.i2z).extBut b2.extBut D.i12.symm).extBut b3.extBut D.TOi2.symm)
    (((hl2.extBut b1.extBut D.l2z).extBut b2.extBut D.l2i1).extBut b3.extBut D.l2TO) hy fun g4 t4 b4 => wpAny_pure ?_)
  have o4 : IsPair g4 TO x b := b4.extBut _ _ D.TOi2 o3
  refine wpAny_bind (wpAny_seqItems o4 rfl (wpAny_bind (wpAny_updateSeq_pair o4 fun g5 o5 b5 => ?_)))
  replace o5 : IsPair g5 TO x y := o5
  refine wpAny_bind (wpAny_letGo (wpAny_pure (wpAny_pure ?_)))
  refine wpAny_bind (wpAny_seqItems o5 rfl (wpAny_bind (wpAny_newTuple ?_)))
  have hsz : g5.objs.size = s.heap.objs.size := by rw [b5.1, b4.1, b3.1, b2.1, b1.1]
  have z5 : IsZip g5 z TI TO .ellipsis := b5.extBut _ _ D.TOz.symm (b4.extBut _ _ D.i2z.symm (b3.extBut _ _ D.TOz.symm (b2.extBut _ _ D.i1z.symm z1)))
  have t1' : g5.IsListIter i1 l1 (k1 + 1) := ((t2.extBut b3.extBut D.TOi1.symm).extBut b4.extBut D.i12).extBut b5.extBut D.TOi1.symm
  have t2' : g5.IsTupleIter i2 l2 (k2 + 1) := t4.extBut b5.extBut D.TOi2.symm
  have hzl : z < g5.objs.size := Heap.lt_size z5
  show wpAny _ _ (Builtin.SmallTypes.ownedTupleHandOut (.ref z) (.ref g5.objs.size) >>= _) _ _ _
  refine wpAny_bind ?_
  unfold Builtin.SmallTypes.ownedTupleHandOut
  have z6 : IsZip (g5.push { cls := .type "tuple", data := .seq #[x, y] }) z TI TO .ellipsis := Heap.get?_push_of_some _ z5
  refine wpAny_bind (wpAny_setField_rec z6 (by simp) fun g7 z7 b7 => ?_)
  replace z7 : IsZip g7 z TI TO (rawInt g5.objs.size) := z7
  refine wpAny_setField_rec z7 (by simp) fun g8 z8 b8 => ?_
  replace z8 : IsZip g8 z TI TO (rawInt g5.objs.size) := z8
  have up : ∀ c o, c ≠ z → g5.get? c = some o → g8.get? c = some o := fun c o c1 e => b8.extBut _ _ c1 (b7.extBut _ _ c1 (Heap.get?_push_of_some _ e))
  have p8 : IsPair g8 g5.objs.size x y := b8.extBut _ _ (Nat.ne_of_gt hzl) (b7.extBut _ _ (Nat.ne_of_gt hzl) (Heap.get?_push_size _ rfl))
  rw [hsz] at z8 p8
  refine wpAny_pure ⟨_, rfl, wpAny_pure ?_⟩
  show Q (some (.ref g5.objs.size)) _
  rw [hsz]
  exact hQ g8 z8 (up _ _ D.TOz o5) (t1'.at fun o e => up _ o D.i1z e) (t2'.at fun o e => up _ o D.i2z e) p8 fun c o c1 c2 c3 c4 e =>
    up c o c1 (b5.extBut _ _ c2 (b4.extBut _ _ c4 (b3.extBut _ _ c2 (b2.extBut _ _ c3 (b1.extBut _ _ c1 e)))))
theorem zn_end {z TI TO i1 i2 l1 l2 : Addr} {k1 k2 : Nat} {xs ys : Array Value} {a b : Value} {Q : Option Value → Shared → Prop} (hh : A.handled = none) (D : ZipApart z TI TO i1 i2 l1 l2)
    (hz : IsZip s.heap z TI TO .none) (hTI : IsPair s.heap TI (.ref i1) (.ref i2)) (hTO : IsPair s.heap TO a b)
    (h1 : s.heap.IsListIter i1 l1 k1) (h2 : s.heap.IsTupleIter i2 l2 k2) (hl1 : s.heap.IsList l1 xs) (hl2 : s.heap.IsTuple l2 ys) (hend : xs[k1]? = none ∨ ys[k2]? = none)
    (hQ : ∀ h', (∀ c o, c ≠ z → c ≠ TO → c ≠ i1 → c ≠ i2 → s.heap.get? c = some o → h'.get? c = some o) → Q none { s with heap := h' }) : wpAny (model prog w) A (pyNext (.ref z)) Q E s := by
  have hT : s.TypeIs (.ref z) "zip" := ⟨_, hz, rfl⟩
  have stop : ∀ (h' : Heap) (e : Addr) (o : Obj), h'.get? e = some o → o.cls = .type "StopIteration" → (∀ c o, c ≠ z → c ≠ TO → c ≠ i1 → c ≠ i2 → s.heap.get? c = some o → h'.get? c = some o) →
      wpAny (model prog w) A (isInstance (.ref e) (.type "StopIteration") >>= fun b => if b = true then pure none else throw (.ref e)) Q E { s with heap := h' } := fun h' e o ho hc hk =>
    wpAny_bind (wpAny_isInstance (T := "StopIteration") (b := true) ⟨o, ho, hc⟩ isSubtype_stop (wpAny_pure (hQ _ hk)))
  unfold pyNext
  refine wpAny_bind (wpAny_attempt (wpAny_callSpecial?_slot (name := Str.ofString "__next__") hT F.slot_zip_next
    (wpAny_call_entry F.slot_zip_next hT F.entry_zip_next ?_ (F.args_zip_next_1 _))))
  show wpAny _ _ (field (.ref z) 2 >>= _) _ _ _
  refine wpAny_bind (wpAny_field hz rfl (x := .bool false) rfl ?_)
  show wpAny _ _ (field (.ref z) 3 >>= _) _ _ _
  refine wpAny_bind (wpAny_field hz rfl (x := .ref TI) rfl (wpAny_bind (wpAny_seqItems hTI rfl ?_)))
  show wpAny _ _ (Builtin.SmallTypes.ownedTupleIsFree (.ref z) >>= _) _ _ _
  refine wpAny_bind ?_
  unfold Builtin.SmallTypes.ownedTupleIsFree
  refine wpAny_bind (wpAny_field hz rfl (x := .none) rfl (wpAny_pure ?_))
  simp only [if_true]
  refine wpAny_bind (wpAny_rule (wpAny_bind (wpAny_field hz rfl (x := .ref TO) rfl (wpAny_bind (wpAny_setField_rec hz (by simp) fun g1 z1 b1 => ?_)))))
  replace z1 : IsZip g1 z TI TO .ellipsis := z1
  refine wpAny_bind ?_
  simp only [List.zipIdx_cons, List.zipIdx_nil, List.forIn_cons, List.forIn_nil]
  refine wpAny_bind (wpAny_bind (wpAny_onRaise ?_))
  show wpAny _ _ (Builtin.SmallTypes.nextOf (.ref i1) >>= _) _ _ _
  cases hx : xs[k1]? with
  | none =>
    refine wpAny_bind (wpAny_nextOf_list_end hh (h1.extBut b1.extBut D.i1z) (hl1.extBut b1.extBut D.l1z) hx fun g2 e b2 ⟨oe, hoe, hce⟩ => ?_)
    have z2 : IsZip g2 z TI TO .ellipsis := b2 _ _ D.i1z.symm z1
    have hez : e ≠ z := fun x => by subst x; rw [z2] at hoe; cases hoe; simp at hce
    refine wpAny_setField_rec z2 (by simp) fun g3 _ b3 => ?_
    exact stop g3 e oe (b3.extBut _ _ hez hoe) hce fun c o c1 _ c3 _ x => b3.extBut _ _ c1 (b2 _ _ c3 (b1.extBut _ _ c1 x))
  | some x =>
    have hy : ys[k2]? = none := by
      rcases hend with h | h
      · rw [hx] at h; cases h
      · exact h
    refine wpAny_bind (wpAny_nextOf_list_item (h1.extBut b1.extBut D.i1z) (hl1.extBut b1.extBut D.l1z) hx fun g2 t2 b2 => wpAny_pure ?_)
    have o2 : IsPair g2 TO a b := b2.extBut _ _ D.TOi1 (b1.extBut _ _ D.TOz hTO)
    refine wpAny_bind (wpAny_seqItems o2 rfl (wpAny_bind (wpAny_updateSeq_pair o2 fun g3 o3 b3 => ?_)))
    refine wpAny_bind (wpAny_letGo (wpAny_pure ?_))
    refine wpAny_bind (wpAny_bind (wpAny_onRaise ?_))
    show wpAny _ _ (Builtin.SmallTypes.nextOf (.ref i2) >>= _) _ _ _
    refine wpAny_bind (RZ.nextOf_tuple_end hh (((h2.extBut b1.extBut D.i2z).extBut b2.extBut D.i12.symm).extBut b3.extBut D.TOi2.symm)
      (((hl2.extBut b1.extBut D.l2z).extBut b2.extBut D.l2i1).extBut b3.extBut D.l2TO) hy fun g4 e b4 ⟨oe, hoe, hce⟩ => ?_)
    have z4 : IsZip g4 z TI TO .ellipsis := b4 _ _ D.i2z.symm (b3.extBut _ _ D.TOz.symm (b2.extBut _ _ D.i1z.symm z1))
    have hez : e ≠ z := fun x => by subst x; rw [z4] at hoe; cases hoe; simp at hce
    refine wpAny_setField_rec z4 (by simp) fun g5 _ b5 => ?_
    exact stop g5 e oe (b5.extBut _ _ hez hoe) hce fun c o c1 c2 c3 c4 x => b5.extBut _ _ c1 (b4 _ _ c4 (b3.extBut _ _ c2 (b2.extBut _ _ c3 (b1.extBut _ _ c1 x))))
end
/-- the heap behind the making of the zip -/
def znH (h : Heap) (l1 l2 : Addr) : Heap :=
  ((((h.push { cls := .type "list_iterator", data := .fields #[.ref l1, .int 0 0] }).push { cls := .type "tuple_iterator", data := .fields #[.ref l2, .int 0 0] }).push
    { cls := .type "tuple", data := .seq #[.ref h.objs.size, .ref (h.objs.size + 1)] }).push { cls := .type "tuple", data := .seq #[.none, .none] }).push
    { cls := .type "zip", data := .fields #[.none, .bool false, .bool false, .ref (h.objs.size + 2), .ref (h.objs.size + 3)] }
theorem meets_zn (l1 l2 : Addr) (xs ys : Array Value) :
    Meets (Builtin.«zip.__new__» ⟨[.type "zip", .ref l1, .ref l2], []⟩) (fun _ R s => s.heap.IsList l1 xs ∧ s.heap.IsTuple l2 ys ∧
      R (.ok (.ret (.ref (s.heap.objs.size + 4)))) { s with heap := znH s.heap l1 l2 }) :=
  .of_wp fun prog w A R s h => by
    obtain ⟨hp, g, d, tk, os⟩ := s; obtain ⟨hl1, hl2, h⟩ := h
    have hsub := sub_zip
    have hL1 : Heap.IsList (Shared.heap ⟨hp, g, d, tk, os⟩) l1 xs := hl1
    have hL2 : Heap.IsTuple (Shared.heap ⟨hp.push { cls := .type "list_iterator", data := .fields #[.ref l1, .int 0 0] }, g, d, tk, os⟩) l2 ys := Heap.IsTuple.push hl2 _
    wp_walk using wpAny_pyIter_list hL1, wpAny_pyIter_tuple hL2
    simp only [Heap.size_push]
    exact ⟨_, rfl, h⟩
section
variable {prog : Program} {w : World} {A : Around} {E : Value → Shared → Prop} {s : Shared}
theorem call_zn {l1 l2 : Addr} {xs ys : Array Value} {Q : Value → Shared → Prop} (hl1 : s.heap.IsList l1 xs) (hl2 : s.heap.IsTuple l2 ys)
    (h : ∀ h', IsZip h' (s.heap.objs.size + 4) (s.heap.objs.size + 2) (s.heap.objs.size + 3) .none → IsPair h' (s.heap.objs.size + 2) (.ref s.heap.objs.size) (.ref (s.heap.objs.size + 1)) →
      IsPair h' (s.heap.objs.size + 3) .none .none → h'.IsListIter s.heap.objs.size l1 0 → h'.IsTupleIter (s.heap.objs.size + 1) l2 0 →
      (∀ c o, s.heap.get? c = some o → h'.get? c = some o) → Q (.ref (s.heap.objs.size + 4)) { s with heap := h' }) :
    wpAny (model prog w) A (call (.type "zip") [.ref l1, .ref l2]) Q E s := by
  refine callType_new F.called_zip (by decide) (F.typeCall_zip_2 _ _) (F.newCall_zip_2 _ _) (fun obj => F.args_object_init_3 obj _ _) F.entry_zip_new
    (meets_zn l1 l2 xs ys) ⟨hl1, hl2, ?_⟩
  have up : ∀ (o : Obj) (h : Heap) (n : Nat), h.objs.size = n → ∀ (q : o.isFreed = false), (h.push o).get? n = some o := fun o h n e q => by subst e; exact Heap.get?_push_size _ q
  have g5 : (znH s.heap l1 l2).get? (s.heap.objs.size + 4) = some _ := up _ _ _ (by simp only [Heap.size_push]) rfl
  have g4 : (znH s.heap l1 l2).get? (s.heap.objs.size + 3) = some _ := Heap.get?_push_of_some _ (up _ _ _ (by simp only [Heap.size_push]) rfl)
  have g3 : (znH s.heap l1 l2).get? (s.heap.objs.size + 2) = some _ := Heap.get?_push_of_some _ (Heap.get?_push_of_some _ (up _ _ _ (by simp only [Heap.size_push]) rfl))
  have g2 : (znH s.heap l1 l2).get? (s.heap.objs.size + 1) = some _ := Heap.get?_push_of_some _ (Heap.get?_push_of_some _ (Heap.get?_push_of_some _ (up _ _ _ (by simp only [Heap.size_push]) rfl)))
  have g1 : (znH s.heap l1 l2).get? s.heap.objs.size = some _ := Heap.get?_push_of_some _ (Heap.get?_push_of_some _ (Heap.get?_push_of_some _ (Heap.get?_push_of_some _ (Heap.get?_push_size _ rfl))))
  exact ⟨⟨_, g5, rfl⟩, h _ g5 g3 g4 ⟨_, g1, rfl, rfl⟩ ⟨_, g2, rfl, rfl⟩ fun c o x =>
    Heap.get?_push_of_some _ (Heap.get?_push_of_some _ (Heap.get?_push_of_some _ (Heap.get?_push_of_some _ (Heap.get?_push_of_some _ x))))⟩
end
/-- the list at a and the tuple at b -/
def ItzN (K : PySem.W.Frag) (a b : Addr) : It :=
  ⟨fun i H => ∃ (xs ys : List V) (x y : V), SqL K H a xs ∧ SqT K H b ys ∧ xs[i]? = some x ∧ ys[i]? = some y,
    fun i H v H' => ∃ T x y, v = .ref T ∧ H T = none ∧ H' = upd H T (.tup [x, y]) ∧ (∀ xs, SqL K H a xs → xs[i]? = some x) ∧ ∀ ys, SqT K H b ys → ys[i]? = some y,
    fun i H => ∃ xs ys : List V, SqL K H a xs ∧ SqT K H b ys ∧ (xs.length ≤ i ∨ ys.length ≤ i)⟩
theorem turn_zn {P : Program} {w : World} {K : PySem.W.Frag} {elts : List Expr} {kk : Nat} {tpos : Pos} {a b z TI TO i1 i2 : Addr} (D : ZipApart z TI TO i1 i2 a b) :
    Turn P w K (.Tuple elts kk tpos) (ItzN K a b) [z, TI, TO, i1, i2] z (fun i h => IsZip h z TI TO .none ∧ IsPair h TI (.ref i1) (.ref i2) ∧ (∃ x y, IsPair h TO x y) ∧ h.IsListIter i1 a i ∧ h.IsTupleIter i2 b i) where
  mem := by simp
  obj := fun i h ⟨hz, hTI, ⟨x, y, hTO⟩, ⟨o1, e1, _, d1⟩, ⟨o2, e2, _, d2⟩⟩ c hc => by
    have e' : c = z ∨ c = TI ∨ c = TO ∨ c = i1 ∨ c = i2 := by simpa using hc
    rcases e' with rfl | rfl | rfl | rfl | rfl
    · exact ⟨_, hz, fun v q => nomatch q⟩
    · exact ⟨_, hTI, fun v q => nomatch q⟩
    · exact ⟨_, hTO, fun v q => nomatch q⟩
    · exact ⟨o1, e1, fun v q => by rw [d1] at q; cases q⟩
    · exact ⟨o2, e2, fun v q => by rw [d2] at q; cases q⟩
  keep := fun i h h' ⟨hz, hTI, ⟨x, y, hTO⟩, h1, h2⟩ k =>
    ⟨k z (by simp) _ hz, k TI (by simp) _ hTI, ⟨x, y, k TO (by simp) _ hTO⟩, h1.at fun o q => k i1 (by simp) o q, h2.at fun o q => k i2 (by simp) o q⟩
  item := by
    intro X hP hw hK hc i pins s σ H E I hf ⟨hz, hTI, ⟨x0, y0, hTO⟩, h1, h2⟩ ⟨xs, ys, x, y, hqx, hqy, hx, hy⟩
    subst hP hw hK
    obtain ⟨its, rv, p, _⟩ := I.list hqx
    obtain ⟨its2, rv2, p2, _⟩ := I.tuple hqy
    obtain ⟨u, hu, ru⟩ := rv.get hx
    obtain ⟨u2, hu2, ru2⟩ := rv2.get hy
    have hzl : z < s.heap.objs.size := Heap.lt_size hz
    refine zn_item D hz hTI hTO h1 h2 p.isList p2 (x := u) (y := u2) (by simpa using hu) (by simpa using hu2) fun h' z' TO' h1' h2' hT hk => ?_
    refine ⟨_, rfl, wpAny_letOwnedTupleGo_zip (s := { s with heap := h' }) z' fun h'' z'' sb => ?_⟩
    have hT2 : h''.get? s.heap.objs.size = some { cls := .type "tuple", data := .seq #[u, u2] } := (sb.2 _ (Nat.ne_of_gt hzl)).trans hT
    have new : ObjOk X.prog X.w (upd H s.heap.objs.size (.tup [x, y])) h'' s.heap.objs.size (.tup [x, y]) :=
      ⟨by show 2 ≤ sizeLine; decide, [u, u2], .cons ru (.cons ru2 .nil), ⟨_, hT2, rfl, _, rfl⟩⟩
    have I1 : Inv X pins σ (upd H s.heap.objs.size (.tup [x, y])) { s with heap := h'' } :=
      I.turnedNew (t' := s.toks) (ch := [z, TI, TO, i1, i2]) (fun c o hb q => (sb.2 c (fun q' => hb (by simp [q']))).trans (hk c o (fun q' => hb (by simp [q'])) (fun q' => hb (by simp [q'])) (fun q' => hb (by simp [q'])) (fun q' => hb (by simp [q'])) q)) hf (Nat.le_refl _) new
    refine ⟨.ref s.heap.objs.size, _, I1, rfl, ⟨_, x, y, rfl, I.hok.fresh (Nat.le_refl _), rfl, fun l hl => by rw [I.list_inj hl hqx]; exact hx, fun l hl => by rw [I.tuple_inj hl hqy]; exact hy⟩,
      ⟨z'', (sb.2 _ D.TIz).trans (hk _ _ D.TIz D.TITO D.TIi1 D.TIi2 hTI), ⟨u, u2, (sb.2 _ D.TOz).trans TO'⟩, h1'.at fun o q => (sb.2 _ D.i1z).trans q, h2'.at fun o q => (sb.2 _ D.i2z).trans q⟩, fun c hcm => ?_⟩
    have hlt : c < s.heap.objs.size := by
      have e' : c = z ∨ c = TI ∨ c = TO ∨ c = i1 ∨ c = i2 := by simpa using hcm
      obtain ⟨_, e1, _⟩ := h1
      obtain ⟨_, e2, _⟩ := h2
      rcases e' with q | q | q | q | q <;> rw [q]
      · exact hzl
      · exact Heap.lt_size hTI
      · exact Heap.lt_size hTO
      · exact Heap.lt_size e1
      · exact Heap.lt_size e2
    rw [upd_ne (Nat.ne_of_lt hlt)]
    exact (hf c hcm).1
  done := by
    intro X hP hw hK hc i pins s σ H E I hf ⟨hz, hTI, ⟨x0, y0, hTO⟩, h1, h2⟩ ⟨xs, ys, hqx, hqy, hend⟩
    subst hP hw hK
    obtain ⟨its, rv, p, _⟩ := I.list hqx
    obtain ⟨its2, rv2, p2, _⟩ := I.tuple hqy
    have l1 := rv.length
    have l2 := rv2.length
    have he : its.toArray[i]? = none ∨ its2.toArray[i]? = none := by
      rcases hend with q | q
      · exact .inl (by simp; omega)
      · exact .inr (by simp; omega)
    exact zn_end (I.ok.hd hc) D hz hTI hTO h1 h2 p.isList p2 he fun h' hk => ⟨rfl, I.turnedL (t' := s.toks) (ch := [z, TI, TO, i1, i2]) (fun c o hb q =>
      hk c o (fun q' => hb (by simp [q'])) (fun q' => hb (by simp [q'])) (fun q' => hb (by simp [q'])) (fun q' => hb (by simp [q'])) q) hf⟩
  self := fun A i s Q E st h => wpAny_pyIter_zip st.1 h
def iZnA (K : PySem.W.Frag) (ta : TA) : TI := fun σ H R => ta σ H fun vs H1 => ∃ a b xs ys, vs = [.ref a, .ref b] ∧ SqL K H1 a xs ∧ SqT K H1 b ys ∧ R (ItzN K a b) H1
theorem pi_zn {X : Cx} {e e2 : Expr} {ta : TA} {p pos tpos : Pos} {elts : List Expr} {kk : Nat} (hg : Gl X "zip") (hm : X.mg "zip" = none) (ha : PA X [e, e2] ta)
    (hs : starEach [e, e2] X.env = (false, eval e X.env) :: starEach [e2] X.env := by rfl) (hpl : (backTo pos (starEach [e2] X.env)).any (·.1) = false := by rfl) :
    PI X (.Tuple elts kk tpos) (.Call (.Name "zip" p) [e, e2] [] pos) (iZnA X.K ta) := by
  refine ⟨fun pins s σ H R I h => ?_⟩
  refine Call_ (ld_blt I hg hm PyProof.Rows.boot_zip (PyProof.Rows.callWith_type1 (thn (ha.run pos pins s σ H _ I h) fun us s1 ⟨vs, H1, I1, r1, q1⟩ => ?_) hs hpl))
  obtain ⟨a, b, xs, ys, ex, hqx, hqy, q⟩ := q1
  subst ex
  cases r1 with
  | cons r rr =>
    cases rr with
    | cons r' rr =>
      cases rr
      cases r
      cases r'
      obtain ⟨its, rv, p1, _⟩ := I1.list hqx
      obtain ⟨its2, rv2, p2, _⟩ := I1.tuple hqy
      obtain ⟨o1, ho1, _⟩ := id p2
      refine call_zn p1.isList (show s1.heap.IsTuple b its2.toArray from p2) fun h' hz hTI hTO h1 h2 hk => wpAny_pyIter_zip hz ?_
      have I2 : Inv X pins σ H1 { s1 with heap := h' } := I1.kept (t' := s1.toks) hk
      refine ⟨s1.heap.objs.size + 4, [s1.heap.objs.size + 4, s1.heap.objs.size + 2, s1.heap.objs.size + 3, s1.heap.objs.size, s1.heap.objs.size + 1], _, _, H1, rfl, I2, turn_zn (PySem.W.ktu_apart s1.heap.objs.size a b p1.lt (Heap.lt_size ho1)), ⟨hz, hTI, ⟨_, _, hTO⟩, h1, h2⟩, fun c hcm => ?_, q⟩
      have hle : s1.heap.objs.size ≤ c := by
        have e' : c = s1.heap.objs.size + 4 ∨ c = s1.heap.objs.size + 2 ∨ c = s1.heap.objs.size + 3 ∨ c = s1.heap.objs.size ∨ c = s1.heap.objs.size + 1 := by simpa using hcm
        rcases e' with z | z | z | z | z <;> rw [z] <;> first | exact Nat.le_add_right _ _ | exact Nat.le_refl _
      exact I1.fpOk hle (I1.hok.fresh hle)
section
variable {X : Cx} {W : WX} {pin : List Pn} {K : PySem.W.Frag} {G : GG} {ms : List Addr} {pos : Pos}
theorem yields_zn {a b : Addr} {xs ys : List D} {us ws : List V} (q1 : SqL K G.1 a us) (q2 : SqT K G.1 b ws) (i1 : IsL K G ms xs us) (i2 : IsL K G ms ys ws) : Yields K (ItzN K a b) G ms (zpL xs ys) := fun j h G' ms' H hh e p => by
  have q1' : SqL K H a us := hh.sub.seq (e.seq q1)
  have q2' : SqT K H b ws := Same.sqT hh.sub (Same.sqT e q2)
  have j1 := IsL.mono' e p _ _ i1
  have j2 := IsL.mono' e p _ _ i2
  refine ⟨fun d hd => ?_, fun hl => ⟨us, ws, q1', q2', by rw [zpL_length, i1.length, i2.length] at hl; omega⟩⟩
  obtain ⟨x, y, hx, hy, rfl⟩ := zpL_get _ _ _ _ hd
  obtain ⟨v, h1, h2⟩ := j1.get hx
  obtain ⟨u, h3, h4⟩ := j2.get hy
  refine ⟨⟨us, ws, v, u, q1', q2', h1, h3⟩, fun z H' ⟨T, x', y', e1, e2, e3, e4, e5⟩ => ?_⟩
  subst e1 e3
  have t1 := e4 us q1'
  have t2 := e5 ws q2'
  rw [h1] at t1
  rw [h3] at t2
  cases t1
  cases t2
  exact pair_new hh h2 h4 e2
def iZn (f : FA) : FI := fun s h => (f s h).bind fun ds h1 => match ds with
  | [.lst xs, .tup ys] => .ok (.seq (zpL xs ys)) h1
  | _ => .bad
theorem vi_zn {e e2 : Expr} {f : FA} {p tpos : Pos} {elts : List Expr} {kk : Nat} (hg : Gl X "zip") (hm : X.mg "zip" = none) (ha : VA X W pin [e, e2] f)
    (hs : starEach [e, e2] X.env = (false, eval e X.env) :: starEach [e2] X.env := by rfl) (hpl : (backTo pos (starEach [e2] X.env)).any (·.1) = false := by rfl) :
    VI X W pin (.Tuple elts kk tpos) (.Call (.Name "zip" p) [e, e2] [] pos) (iZn f) := by
  refine pi_imp (pi_zn hg hm ha hs hpl) fun σ H R ⟨G, ms, s, h, hh, sl, q⟩ => ⟨G, ms, s, h, hh, sl, Post.bind q fun ds h1 ws H1 G1 ms1 e1 p1 hh1 i1 q1 => ?_⟩
  split at q1
  · obtain ⟨v, w, rfl, j1, j2⟩ := isL2 i1
    obtain ⟨a, us, rfl, k1, k2⟩ := id j1
    obtain ⟨b, vs, rfl, l1, l2⟩ := id j2
    exact ⟨a, b, us, vs, rfl, .of (hh1.sub _ _ k1), .of (hh1.sub _ _ l1), q1.fin hh1 ⟨yields_zn (.of k1) (.of l1) k2 l2, by rw [zpL_length]; have := hh1.rowz j1 rfl; omega⟩⟩
  · exact q1.elim
end
end WD
namespace WD
open PySem PySem.Spec PyProof.Rows L2
section
variable {X : Cx} {pins : List (Addr × Obj)} {σ : L2.St} {H : Hp} {s : Shared}
theorem unsuiteK {a : Addr} {q : Addr × Obj} {pn' : List (Addr × Obj)} (I : Inv (X.suite a (q :: (X.pn ++ pins))) pn' σ H s) (ok : X.Ok) : Inv (X.tr (q :: X.pn) X.xe) pins σ H s :=
  ⟨ok.toTry _ _, I.os, I.bare, I.base, I.loc, I.cell, I.free, I.freeC, fun p hp => I.pin p (List.mem_append_left _ hp), I.hok, I.len⟩
theorem unkeep {q : Addr × Obj} (I : Inv (X.tr (q :: X.pn) X.xe) pins σ H s) : Inv X pins σ H s :=
  ⟨I.ok.ofTry, I.os, I.bare, I.base, I.loc, I.cell, I.free, I.freeC, fun p hp => I.pin p (List.mem_cons_of_mem _ hp), I.hok, I.len⟩
end
def wKp (K : PySem.W.Frag) (c : Value) (i j : Nat) (tk2 : Addr → Value → Option Addr → TS) (Wout : WX) (D : Ends) : WX := fun cls d σ H =>
  ∃ b, PySem.W.exmOne K cls c = some b ∧ (b = true → ∀ a, H a = none → tk2 a cls d D (((σ.set i (some (.ref a))).set j (some (.ref a))).set i none) H) ∧ (b = false → Wout cls d σ H)
def kpP (X : Cx) (pins : List (Addr × Obj)) (tk2 : Addr → Value → Option Addr → TS) (D : Ends) (f : Flow) (s' : Shared) : Prop :=
  match f with
  | .next => ∃ (a : Addr) (oe : Obj) (cls : Value) (d : Option Addr) (σ' : L2.St) (H' : Hp), Zc cls d oe ∧ (∃ vs, oe.data = .fields vs) ∧ Inv (X.tr ((a, oe) :: X.pn) X.xe) pins σ' H' s' ∧ tk2 a cls d D σ' H'
  | .brk => ∃ σ' H', Inv X pins σ' H' s' ∧ D.bk σ' H'
  | .cont => ∃ σ' H', Inv X pins σ' H' s' ∧ D.ct σ' H'
  | .ret u => ∃ v σ' H', Inv X pins σ' H' s' ∧ RelV v u ∧ D.rt v H'
section
variable {X : Cx} {x n v : Str} {c : Value} {i j : Nat} {body : List Stmt} {np pos pos' p1 p2 p3 : Pos} {tb : WX → TS} {tk2 : Addr → Value → Option Addr → TS} {Wout : WX} {st2 : Stmt}
theorem pss_keep (hs : X.stack = X.env :: X.outer) (hf : X.env.frame = some X.env.locals) (hN : X.N.Nodup) (hi : X.N[i]? = some n) (hj : X.N[j]? = some v) (hln : X.env.kindOf n = some .local) (hvl : Loc X.env.scope v) (hvl' : X.env.scope.names.lookup v = some .local) (hvn : Vis X.env.scope n) (hdb1 : (n == ("__debug__" : Str)) = false) (hdb2 : (n == ("__classdict__" : Str)) = false) (hsw : swapsWith (.Name n p2) (some (.Name v p1)) p3.line X.env = pure false) (hc : Names X x c) (tk : Takes X Wout)
    (hb : ∀ (W : WX) (pn : List (Addr × Obj)) (xe : Value → Shared → Prop), Takes (X.tr pn xe) W → PassesOwn (model X.prog X.w) X.A X.env xe → PSs (X.tr pn xe) body (tb W))
    (h2 : ∀ (a : Addr) (oe : Obj) (cls : Value) (d : Option Addr), Zc cls d oe → (∃ vs, oe.data = .fields vs) → PS (X.tr ((a, oe) :: X.pn) X.xe) st2 (tk2 a cls d)) :
    PSs X [.Try body [.ExceptHandler (some (.Name x np)) (some n) [.Assign [.Name v p1] (.Name n p2) p3] pos'] [] [] pos, st2] (fun D σ H => tb (wKp X.K c i j tk2 Wout D) { D with nx := fun _ _ => False } σ H) := by
  refine ⟨fun pins s σ H D I h => ?_⟩
  have ok := I.ok
  have hfr : X.A.frames = some (X.env :: X.outer) := by rw [ok.frames, hs]
  have hloc : Loc X.env.scope n := .inl hln
  refine wpAny_execs_cons (thn (Q := kpP X pins tk2 D) ?_ fun f s1 q => ?_)
  · refine wpAny_Try_except ?_
    refine wpAny_mono ((hb (wKp X.K c i j tk2 Wout D) (X.pn ++ pins) (fun e s₁ => wpAny (model X.prog X.w) X.A (noteFrame e X.env) (fun _ s₂ => wpAny (model X.prog X.w) X.A (setFlight e none) (fun _ s₃ =>
      wpAny (model X.prog X.w) X.A (handleBy e X.env [.ExceptHandler (some (.Name x np)) (some n) [.Assign [.Name v p1] (.Name n p2) p3] pos']) (kpP X pins tk2 D) X.xe s₃) X.xe s₂) X.xe s₁) (fun u s' xx => ?_) PassesOwn.looking).run [] s σ H { D with nx := fun _ _ => False } (I.toTry _) h) (fun f s1 hsp => ?_) (fun e s1 he => he)
    · -- the catch
      obtain ⟨a, B, sI, pins', σ', H', cls, d, rfl, J', nb, up, sky, na, os, ag, b, hb1, hyes, hno⟩ := xx
      have J : Inv X pins σ' H' sI := J'.ofTry ok
      have sky' : Sky B (X.env :: X.outer) a (Zc cls d) X.env.locals s'.heap := by rw [← hs]; exact sky
      show wpAny (model X.prog X.w) X.A (noteFrame (.ref a) X.env) _ _ _
      refine Sky.land Zc.steady hfr hf sky' fun h3 fl3 up3 => ?_
      have J3 : Inv X pins σ' H' { s' with heap := h3 } := J.landed nb fl3.1 (up.trans up3) os ag
      obtain ⟨oe3, vs3, he3, hz3, hd3⟩ := fl3.there
      have notFr : ∀ {h : Heap} {o : Obj} {vs : Array Value}, h.FunFrames B (X.env :: X.outer) → h.get? a = some o → o.data = .fields vs → a ∉ frs (X.env :: X.outer) := fun {h o vs} ff e dd hm => by
        obtain ⟨_, o', e', hnf⟩ := ff.mem hm
        rw [e] at e'; cases e'
        exact hnf _ dd
      have nfr := notFr fl3.2.2.1 he3 hd3
      have nL : a ≠ X.env.locals := fun z => nfr (List.mem_filterMap.mpr ⟨X.env, List.mem_cons_self, by rw [hf, z]⟩)
      have nF : a ∉ X.fs := fun hm => by
        obtain ⟨e, he, q⟩ := List.mem_filterMap.mp hm
        exact nfr (List.mem_filterMap.mpr ⟨e, List.mem_cons_of_mem _ he, q⟩)
      have S3 := J3.suite he3 hd3 na nL nF
      refine wpAny_handleBy_cons (codeAny_handlers_test ?_) (by intro q; cases q)
      have LT : PySem.W.Looks (model X.prog X.w) h3 (typeOf (.ref a)) cls := fun A Q E s k q => wpAny_typeOf_ref (k _ _ he3) (by rw [hz3.1]; exact q)
      have LM := PySem.W.exm_one (M := model X.prog X.w) (J3.kIn) LT hb1
      have test : ∀ {Q : Value → Shared → Prop} {E : Value → Shared → Prop}, Q c { s' with heap := h3 } → wpAny (model X.prog X.w) (X.A.mark (some (.ref a))) (eval (.Name x np) X.env) Q E { s' with heap := h3 } := fun {Q E} q => by
        obtain ⟨hg, hdbg, hm | ⟨hm, hv, hnn⟩⟩ := hc
        · exact ld_glob (X := X.suite a ((a, oe3) :: (X.pn ++ pins))) S3 hg hm q hdbg
        · exact ld_blt (X := X.suite a ((a, oe3) :: (X.pn ++ pins))) S3 hg hm hv q hnn hdbg
      refine test (LM.here ?_)
      cases b with
      | true =>
        refine codeAny_handlers_suite_as ?_
        refine HandSPX.lands_againZ fl3 fun h4 fl4 up4 => ?_
        have J4 : Inv X pins σ' H' { s' with heap := h4 } := J.landed nb fl4.1 ((up.trans up3).trans up4) os ag
        obtain ⟨oe4, vs4, he4, hz4, hd4⟩ := fl4.there
        have S4 := J4.suite he4 hd4 na nL nF
        refine store_ok (X := X.suite a ((a, oe4) :: (X.pn ++ pins))) (v := .ref a) S4 hN hi hloc rfl (fun s5 S5 => ?_) (.inr hln)
        have hil : i < (σ'.set i (some (V.ref a))).length := by rw [List.length_set, J4.len]; exact lt_of_get hi
        have suite : wpAny (model X.prog X.w) (X.suite a ((a, oe4) :: (X.pn ++ pins))).A (execs [.Assign [.Name v p1] (.Name n p2) p3] X.env) (SP (X.suite a ((a, oe4) :: (X.pn ++ pins))) [] ⟨fun σ6 H6 => σ6 = (σ'.set i (some (.ref a))).set j (some (.ref a)) ∧ H6 = H', fun _ _ => False, fun _ _ => False, fun _ _ => False⟩) (fun _ _ => False) s5 :=
          (pss_one (ps_set (X := X.suite a ((a, oe4) :: (X.pn ++ pins))) hN hj hvl (pe_var (X := X.suite a ((a, oe4) :: (X.pn ++ pins))) (i := i) hi hvn hdb1 hdb2) hsw (.inr hvl'))).run [] s5 _ H' _ S5 ⟨.ref a, List.getElem?_set_self (by simpa using hil), rfl, rfl⟩
        refine wpAny_mono suite (fun f s6 hsp => ?_) (fun _ _ z => False.elim z)
        cases f with
        | next =>
          obtain ⟨σ6, H6, S6, e6, e6'⟩ := hsp
          subst e6 e6'
          exact gone_ok (X := X.tr ((a, oe4) :: X.pn) X.xe) (unsuiteK S6 ok) hN hi hln fun s7 J7 => ⟨a, oe4, cls, d, _, _, hz4, ⟨_, hd4⟩, J7, hyes rfl a na⟩
        | brk => obtain ⟨_, _, _, no⟩ := hsp; exact no.elim
        | cont => obtain ⟨_, _, _, no⟩ := hsp; exact no.elim
        | ret u => obtain ⟨_, _, _, _, _, no⟩ := hsp; exact no.elim
      | false =>
        show wpAny _ X.A (handleBy (.ref a) X.env []) _ _ _
        refine wpAny_handleBy_nil ?_
        obtain ⟨k1, k2, k3, oe, vs, T, oT, ts', he, hz, hd, h1, hr⟩ := id fl3
        unfold PySem.passOn
        refine wpAny_bind (wpAny_field he hd h1 ?_)
        rw [if_neg (show ¬ ((Value.ref T == Value.none) = true) from by simp)]
        have fin : wpAny (model X.prog X.w) X.A (setFlight (.ref a) X.env.frame) (fun _ s4 => wpAny (model X.prog X.w) X.A (throw (.ref a) : Sem Flow) (kpP X pins tk2 D) X.xe s4) X.xe { s' with heap := h3 } := by
          rw [hf]
          refine HandSPX.setFlight_upZ fl3 fun h4 hh4 up4 => wpAny_throw (tk _ _ ?_)
          exact ⟨a, B, sI, pins, σ', H', cls, d, rfl, J, nb, (up.trans up3).trans up4, .inr (.inr (by rw [hs]; exact hh4)), na, os, ag, hno rfl⟩
        first
          | exact wpAny_bind (wpAny_pure (wpAny_bind fin))
          | exact wpAny_bind fin
    · cases f with
      | next =>
        obtain ⟨_, _, _, no⟩ := hsp
        exact no.elim
      | brk =>
        obtain ⟨σ', H', J', q⟩ := hsp
        exact ⟨σ', H', J'.ofTry ok, q⟩
      | cont =>
        obtain ⟨σ', H', J', q⟩ := hsp
        exact ⟨σ', H', J'.ofTry ok, q⟩
      | ret u =>
        obtain ⟨v, σ', H', J', r, q⟩ := hsp
        exact ⟨v, σ', H', J'.ofTry ok, r, q⟩
  · cases f with
    | next =>
      obtain ⟨a, oe, cls, d, σ', H', hz, hfl, J, q⟩ := q
      refine wpAny_mono ((pss_one (h2 a oe cls d hz hfl)).run pins s1 σ' H' D J q) (fun f s2 z => ?_) fun _ _ z => z
      cases f with
      | next => obtain ⟨σ2, H2, J2, z⟩ := z; exact ⟨σ2, H2, unkeep J2, z⟩
      | brk => obtain ⟨σ2, H2, J2, z⟩ := z; exact ⟨σ2, H2, unkeep J2, z⟩
      | cont => obtain ⟨σ2, H2, J2, z⟩ := z; exact ⟨σ2, H2, unkeep J2, z⟩
      | ret u => obtain ⟨w, σ2, H2, J2, r, z⟩ := z; exact ⟨w, σ2, H2, unkeep J2, r, z⟩
    | brk => exact q
    | cont => exact q
    | ret u => exact q
end
def sKeep (c kk : Str) (j : Nat) (names : List Str) (fb : FS) : FS := fun s h => match fb s h with
  | .er y s' h' => if y.val.isNone = true ∧ y.name ∈ names ∧ j < s'.length then (if subX y.name c = true then .rt (.bl (subX y.name kk)) h' else .er y s' h') else .bad
  | .nx _ _ => .bad
  | r => r
section
variable {X : Cx} {W : WX} {pin : List Pn} {pos : Pos}
/-- try: body; except c as n: v = n; return isinstance(v, kk) -/
theorem vss_keep (i j : Nat) (names : List Str) {x n v kk : Str} {body : List Stmt} {np pos' p1 p2 p3 q q1 q2 q3 q4 : Pos} {fb : FS} {C : Addr} {cv : Value} {c2 : V} (hs : X.stack = X.env :: X.outer) (hf : X.env.frame = some X.env.locals) (hN : X.N.Nodup) (hg : Gl X x) (hm : X.mg x = some (.ref C)) (tk : Takes X W)
    (hex : ∀ y ∈ names, PySem.W.exmOne X.K (clsV X.mg ⟨y, none⟩) (.ref C) = some (subX y x))
    (hcl : ∀ y ∈ names, ∃ Dc, clsV X.mg ⟨y, none⟩ = .ref Dc ∧ ExcC X.K Dc)
    (hK : ∀ y ∈ names, PySem.W.kitOne X.K (clsV X.mg ⟨y, none⟩) cv = some (subX y kk)) (hcv : ∀ u, RelV c2 u → u = cv)
    (hx2 : ∀ pn, PE (X.tr pn X.xe) (.Name kk q3) (tC c2)) (hgi : Gl X "isinstance") (hmi : X.mg "isinstance" = none)
    (hb : ∀ (W : WX) (pn : List (Addr × Obj)) (xe : Value → Shared → Prop), Takes (X.tr pn xe) W → PassesOwn (model X.prog X.w) X.A X.env xe → VSs (X.tr pn xe) W pin body fb)
    (hi : X.N[i]? = some n := by rfl) (hj : X.N[j]? = some v := by rfl) (hij : j ≠ i := by decide) (hln : X.env.kindOf n = some .local := by rfl) (hvl : Loc X.env.scope v := by exact .inl rfl) (hvl' : X.env.scope.names.lookup v = some .local := by rfl) (hvn : Vis X.env.scope n := by first | exact Or.inl rfl | exact Or.inr (Or.inl rfl) | exact Or.inr (Or.inr rfl)) (hvv : Vis X.env.scope v := by first | exact Or.inl rfl | exact Or.inr (Or.inl rfl) | exact Or.inr (Or.inr rfl))
    (hdb : (x == ("__debug__" : Str)) = false := by decide) (hdb1 : (n == ("__debug__" : Str)) = false := by decide) (hdb2 : (n == ("__classdict__" : Str)) = false := by decide) (hdb3 : (v == ("__debug__" : Str)) = false := by decide) (hdb4 : (v == ("__classdict__" : Str)) = false := by decide)
    (hsw : swapsWith (.Name n p2) (some (.Name v p1)) p3.line X.env = pure false := by rfl)
    (hs1 : starEach [.Name v q2, .Name kk q3] X.env = (false, eval (.Name v q2) X.env) :: starEach [.Name kk q3] X.env := by rfl) (hs2 : starEach [.Name kk q3] X.env = (false, eval (.Name kk q3) X.env) :: starEach [] X.env := by rfl) (hpl : (backTo q4 (starEach [.Name kk q3] X.env)).any (·.1) = false := by rfl) :
    VSs X W pin [.Try body [.ExceptHandler (some (.Name x np)) (some n) [.Assign [.Name v p1] (.Name n p2) p3] pos'] [] [] pos, .Return (some (.Call (.Name "isinstance" q1) [.Name v q2, .Name kk q3] [] q4)) q] (sKeep x kk j names fb) := by
  refine ⟨fun pins s σ H D I hq => ?_⟩
  refine (pss_keep (tb := fun W => rdS X W pin fb) (tk2 := fun a cls d D σ H => ∃ y, y ∈ names ∧ cls = clsV X.mg ⟨y, none⟩ ∧ d = none ∧ σ[j]? = some (some (.ref a)) ∧ D.rt (.bl (subX y kk)) H) hs hf hN hi hj hln hvl hvl' hvn hdb1 hdb2 hsw ⟨hg, hdb, .inl hm⟩ tk hb ?_).run pins s σ H D I ?_
  · intro a oe cls d hz hfl
    refine ⟨fun pins s σ H D I hq => ?_⟩
    obtain ⟨y, hy, rfl, rfl, hσ, hq⟩ := hq
    obtain ⟨Dc, eD, hC⟩ := hcl y hy
    have hk := hK y hy
    rw [eD] at hz hk
    have pe := pe_callB (X := X.tr ((a, oe) :: X.pn) X.xe) (pos := q4) (p := q1) (call_isP (Y := X.tr ((a, oe) :: X.pn) X.xe) List.mem_cons_self hC hz hfl) hgi hmi (by decide +kernel) (pa_cons (pe_var (X := X.tr ((a, oe) :: X.pn) X.xe) (i := j) hj hvv hdb3 hdb4) (pa_cons (hx2 _) pa_nil hs2) hs1) (by decide) (by decide) hs1 hpl
    exact (ps_ret pe).run pins s σ H D I ⟨.ref a, hσ, c2, cv, _, rfl, hcv, hk, hq⟩
  · obtain ⟨G, ms, s, h, hh, sl, q⟩ := hq
    refine ⟨G, ms, s, h, hh, sl, ?_⟩
    unfold sKeep at q
    cases e : fb s h with
    | nx s' h' => rw [e] at q; exact q.elim
    | rt d h' => rw [e] at q; exact q
    | bk s' h' => rw [e] at q; exact q
    | ct s' h' => rw [e] at q; exact q
    | bad => rw [e] at q; exact q
    | er y s' h' =>
      rw [e] at q
      dsimp only at q
      split at q
      · rename_i hy
        obtain ⟨yn, yv⟩ := y
        have hv : yv = none := by
          cases yv with
          | none => rfl
          | some _ => cases hy.1
        subst hv
        intro σ' H' G' ms' d e1 p1 hh1 sl1 xi
        have hd : d = none := xi
        subst hd
        refine ⟨_, hex yn hy.2.1, fun hbt a ha => ?_, fun hbf => ?_⟩
        · rw [if_pos hbt] at q
          have hl' : j < σ'.length := by
            rw [← sl1.len]; exact hy.2.2
          refine ⟨yn, hy.2.1, rfl, rfl, ?_, q _ H' G' ms' e1 p1 hh1 rfl⟩
          rw [List.getElem?_set_ne hij.symm]
          exact List.getElem?_set_self (by simpa using hl')
        · rw [if_neg (by rw [hbf]; decide)] at q
          exact q σ' H' G' ms' none e1 p1 hh1 sl1 rfl
      · exact q.elim
end
end WD
namespace WD
open PySem PySem.Spec PyProof.Rows L2
def loopE (g : Tg) (b : FS) (n : Nat) : Nat → Nat → FS
  | 0, _, _, _ => .bad
  | f + 1, i, s, h => match locAt h n with
    | some xs => match xs[i]? with
      | some d => (match g (.tup [.int (i : Nat), d]) s h with
        | some s' => afterT (b s' h) (loopE g b n f (i + 1))
        | none => .bad)
      | none => .nx s h
    | none => .bad
def locR : R D → Option (Nat × Hs)
  | .ok (.loc n) h1 => some (n, h1)
  | _ => none
theorem locR_some {r : R D} {n : Nat} {h1 : Hs} (e : locR r = some (n, h1)) : r = .ok (.loc n) h1 := by
  cases r with
  | ok d h =>
    cases d with
    | loc m => simp only [locR, Option.some.injEq, Prod.mk.injEq] at e; obtain ⟨rfl, rfl⟩ := e; rfl
    | _ => cases e
  | err x h => cases e
  | bad => cases e
def sForE (f : FE) (g : Tg) (b : FS) : FS := fun s h => match locR (f s h) with
  | some (n, h1) => (match locAt h1 n with
    | some xs => loopE g b n (xs.length + 1) 0 s h1
    | none => .bad)
  | none => sFor (iEnumerate (aCons f aNil)) g b s h
section
variable {X : Cx} {W : WX} {pin : List Pn} {K : PySem.W.Frag} {mg : Str → Option Value} {E : XK} {G G' : GG} {H : Hp} {ms ms' : List Addr} {h : Hs} {pos : Pos} {vs : List Nat}
theorem vs_forE {e : Expr} {p tpos pos' : Pos} {elts : List Expr} {kk : Nat} {body : List Stmt} {fe : FE} {g : Tg} {f : FS} (hp : PassesOwn (model X.prog X.w) X.A X.env X.xe) (hc : X.calm = true)
    (hge : Gl X "enumerate") (hm : X.mg "enumerate" = none) (he : VE X W pin e fe) (hg : VG X pin vs (.Tuple elts kk tpos) g) (hb : VSs X W pin body f)
    (hst : starEach [e] X.env = [(false, eval e X.env)] := by rfl)
    (hs : ∀ x, foldedSetIterable (.Call (.Name "enumerate" p) [e] [] pos') X.env x = pure x := by intro _; rfl) :
    VS X W pin (.For (.Tuple elts kk tpos) (.Call (.Name "enumerate" p) [e] [] pos') body [] pos) (sForE fe g f) := by
  have ha : VA X W pin [e] (aCons fe aNil) := va_cons he va_nil hst
  refine ⟨fun pins s0 σ H D I q0 => ?_⟩
  obtain ⟨G, ms, s, h, hh, sl, q⟩ := q0
  unfold sForE at q
  cases el : locR (fe s h) with
  | none =>
    rw [el] at q
    exact (vs_for hp hc (vi_enumerate hge hm ha hst) hg hb hs).run pins s0 σ H D I ⟨G, ms, s, h, hh, sl, q⟩
  | some nh =>
    obtain ⟨n, h1⟩ := nh
    rw [el] at q
    dsimp only at q
    have ef := locR_some el
    refine (ps_for hp hc (pi_enumA hge hm ha hst) hg hb hs).run pins s0 σ H D I ?_
    refine ⟨G, ms, s, h, hh, sl, ?_⟩
    have ea : aCons fe aNil s h = .ok [.loc n] h1 := by
      unfold aCons
      rw [ef]; rfl
    rw [ea]
    intro ws H1 G1 ms1 e1 p1 hh1 i1
    obtain ⟨v, rfl, j1⟩ := isL1 (ds := []) i1
    obtain ⟨ad, ha', rfl⟩ := id j1
    obtain ⟨us, k2⟩ := hh1.some_at ha'
    refine ⟨ad, rfl, .inl ⟨⟨us, .of k2⟩, ?_⟩⟩
    cases el : locAt h1 n with
    | none => rw [el] at q; exact q.elim
    | some xs =>
      rw [el] at q
      dsimp only at q
      refine ⟨fun i m σ' H' => ∃ G2 ms2 s2 h2, Hh X.K G2 ms2 h2 H' ∧ Sl X.K G2 ms2 pin s2 σ' ∧ GLe G1 G2 ∧ ms1 <+: ms2 ∧ PostS W X.K X.mg pin σ' G2 ms2 (loopE g f n m i s2 h2) D,
        ⟨xs.length + 1, G1, ms1, s, h1, hh1, sl.mono e1 p1, .refl _, pre_refl _, PostS.mono (r := loopE g f n (xs.length + 1) 0 s h1) q e1 p1⟩, ?_⟩
      rintro i m σ2 H2 ⟨G2, ms2, s2, h2, hh2, sl2, e2, p2, q2⟩
      cases m with
      | zero => exact q2.elim
      | succ m =>
        unfold loopE at q2
        cases el2 : locAt h2 n with
        | none => rw [el2] at q2; exact q2.elim
        | some ys =>
          rw [el2] at q2
          dsimp only at q2
          obtain ⟨ad', ws, k1, k2, k3⟩ := hh2.at (locAt_some el2)
          rw [pre_get p2 ha'] at k1
          cases k1
          have hq : SqL X.K H2 ad ws := .of k2
          cases ey : ys[i]? with
          | none =>
            rw [ey] at q2
            refine .inl ⟨⟨ws, hq, ?_⟩, q2 σ2 H2 G2 ms2 (.refl _) (pre_refl _) hh2 sl2⟩
            rw [← k3.length]
            exact List.getElem?_eq_none_iff.mp ey
          | some d =>
            rw [ey] at q2
            dsimp only at q2
            obtain ⟨v, j1, j2⟩ := k3.get ey
            refine .inr ⟨⟨ws, v, hq, j1⟩, fun σ' H' => ∃ G3 ms3 s3 h3, Hh X.K G3 ms3 h3 H' ∧ Sl X.K G3 ms3 pin s3 σ' ∧ GLe G1 G3 ∧ ms1 <+: ms3 ∧ PostS W X.K X.mg pin σ' G3 ms3 (loopE g f n m (i + 1) s3 h3) D, ?_, ?_⟩
            · rintro σ' H' ⟨G3, ms3, s3, h3, k1, k2, k3, k4, k5⟩
              exact ⟨m, by omega, G3, ms3, s3, h3, k1, k2, k3, k4, k5⟩
            · rintro x H' ⟨T, x', z1, z2, z3, z4⟩
              subst z1 z3
              have := z4 ws hq
              rw [j1] at this
              cases this
              obtain ⟨G3, eg, hh3, i3⟩ := pair_new (a := .int (i : Nat)) (b := d) hh2 rfl j2 z2
              refine ⟨G3, ms2, s2, h2, .tup [.int (i : Nat), d], hh3, sl2.mono eg (pre_refl _), i3, ?_⟩
              cases eg2 : g (.tup [.int (i : Nat), d]) s2 h2 with
              | none => rw [eg2] at q2; exact q2
              | some s3 =>
                rw [eg2] at q2
                dsimp only at q2
                intro σ3 _ sl3
                refine ⟨G3, ms2, s3, h2, hh3, sl3, after_post (σ' := σ3) (PostS.mono (r := afterT (f s3 h2) (loopE g f n m (i + 1))) (σ' := σ3) q2 eg (pre_refl _)) ?_⟩
                exact fun s4 h4 σ4 H4 G4 ms4 e4 p4 hh4 sl4 q4 => ⟨G4, ms4, s4, h4, hh4, sl4, (e2.trans eg).trans e4, pre_trans p2 p4, q4⟩
end
theorem loopE_still {g : Tg} {b : FS} {n : Nat} {xs : List D} {h : Hs} (P : Nat → Ss → Prop) (e : locAt h n = some xs)
    (hb : ∀ i x, xs[i]? = some x → ∀ s, P i s → ∃ s1, g (.tup [.int (i : Nat), x]) s h = some s1 ∧ ((∃ s2, b s1 h = .nx s2 h ∧ P (i + 1) s2) ∨ (∃ d h', b s1 h = .rt d h') ∨ ∃ z s2 h', b s1 h = .er z s2 h')) : ∀ (m i : Nat) (s : Ss), xs.length - i < m → P i s → loopE g b n m i s h = loopS g b ((enL 0 xs).drop i) s h
  | 0, _, _, hm, _ => absurd hm (by omega)
  | m + 1, i, s, hm, hp => by
    unfold loopE
    rw [e]
    dsimp only
    by_cases hl : i < xs.length
    · have hl' : i < (enL 0 xs).length := by rw [enL_length]; exact hl
      have hget : (enL 0 xs)[i] = .tup [.int (i : Nat), xs[i]] := by
        have h1 := enL_get xs 0 i
        rw [List.getElem?_eq_getElem hl', List.getElem?_eq_getElem hl] at h1
        have h2 := Option.some.inj h1
        rw [h2, Nat.zero_add]
      rw [List.getElem?_eq_getElem hl, List.drop_eq_getElem_cons hl', hget]
      obtain ⟨s1, h1, h2⟩ := hb i xs[i] (List.getElem?_eq_getElem hl) s hp
      dsimp only
      rw [h1]
      conv => rhs; unfold loopS
      rw [h1]
      rcases h2 with ⟨s2, h2, h3⟩ | ⟨d, h', h2⟩ | ⟨z, s2, h', h2⟩
      · dsimp only
        rw [h2]
        exact loopE_still P e hb m (i + 1) s2 (by omega) h3
      · dsimp only
        rw [h2]
        rfl
      · dsimp only
        rw [h2]
        rfl
    · rw [List.getElem?_eq_none (by omega), List.drop_eq_nil_of_le (by rw [enL_length]; omega)]
      rfl
/-- enumerate of any row, where the turns change nothing -/
theorem for_enR {f : FE} {g : Tg} {b : FS} {s : Ss} {h : Hs} {d : D} {xs : List D} (P : Nat → Ss → Prop) (ef : f s h = .ok d h) (hr : rowOf h d = some xs) (hd : ∀ ys, d ≠ .scr ys) (hp : P 0 s)
    (hb : ∀ i x, xs[i]? = some x → ∀ s, P i s → ∃ s1, g (.tup [.int (i : Nat), x]) s h = some s1 ∧ ((∃ s2, b s1 h = .nx s2 h ∧ P (i + 1) s2) ∨ (∃ d h', b s1 h = .rt d h') ∨ ∃ z s2 h', b s1 h = .er z s2 h')) : sForE f g b s h = loopS g b (enL 0 xs) s h := by
  unfold sForE
  rw [ef]
  have ea : aCons f aNil s h = .ok [d] h := by
    unfold aCons
    rw [ef]; rfl
  cases d with
  | tup ys =>
    cases hr
    show sFor (iEnumerate (aCons f aNil)) g b s h = _
    unfold sFor iEnumerate
    rw [ea]; rfl
  | lst ys =>
    cases hr
    show sFor (iEnumerate (aCons f aNil)) g b s h = _
    unfold sFor iEnumerate
    rw [ea]; rfl
  | scr ys => exact absurd rfl (hd ys)
  | loc n =>
    have e : locAt h n = some xs := hr
    show (match locAt h n with
      | some xs => loopE g b n (xs.length + 1) 0 s h
      | none => RS.bad) = _
    rw [e]
    dsimp only
    rw [loopE_still P e hb _ 0 s (by omega) hp]
    rfl
  | _ => cases hr
end WD
namespace WD
open PySem PySem.Spec PyProof.Rows L2
mutual
inductive Rx (h : Heap) : Value → PyData → Prop
  | none : Rx h .none .none
  | bool (b) : Rx h (.bool b) (.bool b)
  | int (i t) : Rx h (.int i t) (.int i)
  | str (x t) : Rx h (.str x t) (.str x)
  | list {a o vs n xs} : h.get? a = some o → o.cls = .type "list" → o.data = .seq vs n → Rxs h vs.toList xs → Rx h (.ref a) (.list xs)
  | tuple {a o vs n xs} : h.get? a = some o → o.cls = .type "tuple" → o.data = .seq vs n → Rxs h vs.toList xs → Rx h (.ref a) (.tuple xs)
  | dict {a o es n kvs} : h.get? a = some o → o.cls = .type "dict" → o.data = .dict es n → (a == sysModules) = false → Rxs h (es.toList.map (·.key)) (kvs.map (·.1)) →
      Rxs h (es.toList.map (·.val)) (kvs.map (·.2)) → Rx h (.ref a) (.dict kvs)
inductive Rxs (h : Heap) : List Value → List PyData → Prop
  | nil : Rxs h [] []
  | cons {v vs d ds} : Rx h v d → Rxs h vs ds → Rxs h (v :: vs) (d :: ds)
end
mutual
theorem Rx.reads {h : Heap} : ∀ {v : Value} {d : PyData}, Rx h v d → ∃ as, Reads h v d as
  | _, _, .none => ⟨_, .none⟩
  | _, _, .bool b => ⟨_, .bool b⟩
  | _, _, .int i t => ⟨_, .int i t⟩
  | _, _, .str x t => ⟨_, .str x t⟩
  | _, _, .list a b c r => let ⟨_, q⟩ := r.reads; ⟨_, .list a b c q⟩
  | _, _, .tuple a b c r => let ⟨_, q⟩ := r.reads; ⟨_, .tuple a b c q⟩
  | _, _, .dict a b c _ r1 r2 => let ⟨_, q1⟩ := r1.reads; let ⟨_, q2⟩ := r2.reads; ⟨_, .dict a b c q1 q2⟩
theorem Rxs.reads {h : Heap} : ∀ {v : List Value} {d : List PyData}, Rxs h v d → ∃ as, ReadsAll h v d as
  | _, _, .nil => ⟨_, .nil⟩
  | _, _, .cons r1 r2 => let ⟨_, q1⟩ := r1.reads; let ⟨_, q2⟩ := r2.reads; ⟨_, .cons q1 q2⟩
end
section
variable {prog : Program} {w : World} {h₀ : Heap}
/-- a thing is shown, the places under way being at most as deep as it is -/
def Shn (prog : Program) (w : World) (h₀ : Heap) (n : Nat) (v : Value) (t : Str) : Prop := ∃ bs, ReadAtMost h₀ n bs ∧ ReprK prog w bs h₀ n v t
def Shns (prog : Program) (w : World) (h₀ : Heap) (n : Nat) (vs : List Value) (ts : List Str) : Prop := ∃ bs, ReadAtMost h₀ n bs ∧ ReprAllK prog w bs h₀ n vs ts
theorem Shn.flat {v : Value} {t : Str} (n : Nat) (h : ReprIs prog w v t) : Shn prog w h₀ n v t := ⟨[], fun _ q => (nomatch q), .of_is h _ _ _⟩
theorem Shns.cons {n m : Nat} {v : Value} {vs : List Value} {t : Str} {ts : List Str} (a : Shn prog w h₀ n v t) (b : Shns prog w h₀ m vs ts) : Shns prog w h₀ (max n m) (v :: vs) (t :: ts) := by
  obtain ⟨b1, q1, k1⟩ := a
  obtain ⟨b2, q2, k2⟩ := b
  exact ⟨b1 ++ b2, (q1.mono (Nat.le_max_left _ _)).append (q2.mono (Nat.le_max_right _ _)),
    .cons ((k1.more fun _ z => List.mem_append_left _ z).level_le (Nat.le_max_left _ _)) (k2.more_le (fun _ z => List.mem_append_right _ z) (Nat.le_max_right _ _))⟩
theorem Shns.mono {n m : Nat} {vs : List Value} {ts : List Str} (a : Shns prog w h₀ n vs ts) (h : n ≤ m) : Shns prog w h₀ m vs ts := by
  obtain ⟨bs, q, k⟩ := a
  exact ⟨bs, q.mono h, k.more_le (fun _ z => z) h⟩
/-- the entries of a dict, its keys and its values shown -/
theorem Shns.two {n : Nat} {es : List DictEntry} {ks vs : List Str} (a : Shns prog w h₀ n (es.map (·.key)) ks) (b : Shns prog w h₀ n (es.map (·.val)) vs) :
    ∃ bs, ReadAtMost h₀ n bs ∧ ReprEntriesK prog w bs h₀ n es (List.zipWith (fun k v : Str => k ++ ": " ++ v) ks vs) := by
  obtain ⟨b1, q1, k1⟩ := a
  obtain ⟨b2, q2, k2⟩ := b
  exact ⟨b1 ++ b2, q1.append q2, .of_two es ks vs (k1.more_le (fun _ z => List.mem_append_left _ z) (Nat.le_refl _)) (k2.more_le (fun _ z => List.mem_append_right _ z) (Nat.le_refl _))⟩
theorem depth_kv (kvs : List (PyData × PyData)) : PyData.depthAll (kvs.map (·.1)) ≤ PyData.depthKv kvs ∧ PyData.depthAll (kvs.map (·.2)) ≤ PyData.depthKv kvs := ⟨PyData.depthAll_keys_le kvs, PyData.depthAll_vals_le kvs⟩
theorem short_kv {kvs : List (PyData × PyData)} (hz : (dictText (PyData.shownKv kvs)).length ≤ sizeLine) : (∀ t ∈ PyData.shownAll (kvs.map (·.1)), t.length ≤ sizeLine) ∧ ∀ t ∈ PyData.shownAll (kvs.map (·.2)), t.length ≤ sizeLine :=
  ⟨fun t ht => let ⟨_, hp, hl⟩ := PyData.shownKv_key_le kvs t ht; Nat.le_trans hl (Nat.le_trans (dictText_mem_le hp) hz), fun t ht => let ⟨_, hp, hl⟩ := PyData.shownKv_val_le kvs t ht; Nat.le_trans hl (Nat.le_trans (dictText_mem_le hp) hz)⟩
mutual
theorem Rx.shn : ∀ {v : Value} {d : PyData}, Rx h₀ v d → d.showable = true → d.shown.length ≤ sizeLine → Shn prog w h₀ d.depth v d.shown
  | _, _, .none, _, _ => by simp only [PyData.shown]; exact .flat _ ReprIs.none
  | _, _, .bool b, _, _ => by simp only [PyData.shown]; exact .flat _ (ReprIs.bool b)
  | _, _, .int i t, hs, _ => by simp only [PyData.shown]; exact .flat _ (ReprIs.int t (by simpa [PyData.showable] using hs))
  | _, _, .str x t, _, hz => by
    simp only [PyData.shown] at hz ⊢
    exact .flat _ (ReprIs.str x t hz)
  | _, _, .list (a := a) (vs := vs) (xs := xs) h1 h2 h3 h4, hs, hz => by
    obtain ⟨as, q⟩ := h4.reads
    simp only [PyData.shown] at hz
    obtain ⟨bs, hb, hk⟩ := Rxs.shn h4 (by simpa [PyData.showable] using hs) fun t ht => Nat.le_trans (listText_mem_le ht) hz
    have r : Reads h₀ (.ref a) (.list xs) _ := .list h1 h2 h3 q
    refine ⟨a :: bs, ReadAtMost.cons r (by simp only [PyData.depth]; omega) hb, ?_⟩
    simp only [PyData.depth, PyData.shown]
    obtain ⟨l⟩ := vs
    cases l with
    | nil =>
      have h4' : Rxs h₀ [] xs := h4
      cases h4'
      simp only [PyData.shownAll, listText_nil]
      exact .listEmpty h1 h2 h3
    | cons x l => exact .list h1 h2 h3 (not_mem_of_deeper r (by simp only [PyData.depth]; omega) hb) (by simpa using hk.length_eq) (fun i y e => hk.item i y (by simpa using e))
  | _, _, .tuple (a := a) (xs := xs) h1 h2 h3 h4, hs, hz => by
    obtain ⟨as, q⟩ := h4.reads
    simp only [PyData.shown] at hz
    obtain ⟨bs, hb, hk⟩ := Rxs.shn h4 (by simpa [PyData.showable] using hs) fun t ht => Nat.le_trans (tupleText_mem_le ht) hz
    have r : Reads h₀ (.ref a) (.tuple xs) _ := .tuple h1 h2 h3 q
    refine ⟨a :: bs, ReadAtMost.cons r (by simp only [PyData.depth]; omega) hb, ?_⟩
    simp only [PyData.depth, PyData.shown]
    exact .tuple h1 h2 h3 (not_mem_of_deeper r (by simp only [PyData.depth]; omega) hb) hk
  | _, _, .dict (a := a) (kvs := kvs) h1 h2 h3 hy h4 h5, hs, hz => by
    obtain ⟨as, q4⟩ := h4.reads
    obtain ⟨cs, q5⟩ := h5.reads
    simp only [PyData.shown] at hz
    obtain ⟨s1, s2⟩ := PyData.showableKv_split kvs (by simpa [PyData.showable] using hs)
    obtain ⟨z1, z2⟩ := short_kv hz
    obtain ⟨d1, d2⟩ := depth_kv kvs
    obtain ⟨bs, hb, hk⟩ := Shns.two (Shns.mono (Rxs.shn h4 s1 z1) d1) (Shns.mono (Rxs.shn h5 s2 z2) d2)
    have r : Reads h₀ (.ref a) (.dict kvs) _ := .dict h1 h2 h3 q4 q5
    refine ⟨a :: bs, ReadAtMost.cons r (by simp only [PyData.depth]; omega) hb, ?_⟩
    simp only [PyData.depth, PyData.shown, PyData.shownKv_eq]
    exact .dict h1 h2 h3 hy (not_mem_of_deeper r (by simp only [PyData.depth]; omega) hb) hk
theorem Rxs.shn : ∀ {vs : List Value} {ds : List PyData}, Rxs h₀ vs ds → PyData.showableAll ds = true → (∀ t ∈ PyData.shownAll ds, t.length ≤ sizeLine) → Shns prog w h₀ (PyData.depthAll ds) vs (PyData.shownAll ds)
  | _, _, .nil, _, _ => ⟨[], fun _ q => (nomatch q), by simp only [PyData.shownAll]; exact .nil⟩
  | _, _, .cons r rs, hs, hz => by
    simp only [PyData.showableAll, Bool.and_eq_true] at hs
    simp only [PyData.shownAll, List.mem_cons, forall_eq_or_imp] at hz
    simp only [PyData.depthAll, PyData.shownAll]
    exact Shns.cons (Rx.shn r hs.1 hz.1) (Rxs.shn rs hs.2 hz.2)
end

theorem Rx.call {A : Around} {E : Value → Shared → Prop} {s : Shared} {Q : Value → Shared → Prop} {v : Value} {d : PyData} (r : Rx h₀ v d) (hs : d.showable = true) (hz : d.shown.length ≤ sizeLine) (hg : A.guards = some []) (hu : A.units + (d.depth + 1) < cLine)
    (hk0 : ∀ b o, h₀.get? b = some o → s.heap.get? b = some o) (hQ : ∀ h' u tk, (∀ b o, s.heap.get? b = some o → h'.get? b = some o) → Q (.str d.shown u) { s with heap := h', toks := tk }) : wpAny (model prog w) A (call (.builtin "repr") [v]) Q E s := by
  cases r with
  | none => exact PySem.P.repr_of_none (by simpa only [PyData.shown] using hQ s.heap _ _ fun _ _ z => z)
  | bool b => exact PySem.P.repr_of_bool (by simpa only [PyData.shown] using hQ s.heap _ _ fun _ _ z => z)
  | int i t => exact PySem.P.repr_of_int (by simpa [PyData.showable] using hs) (by simpa only [PyData.shown] using hQ s.heap _ _ fun _ _ z => z)
  | str x t => exact PySem.P.repr_of_str (by simpa only [PyData.shown] using hQ s.heap _ _ fun _ _ z => z) (by simpa only [PyData.shown] using hz)
  | list h1 h2 h3 h4 =>
    rename_i a o vs n xs
    obtain ⟨as, q⟩ := h4.reads
    simp only [PyData.shown] at hz hQ
    simp only [PyData.depth] at hu
    obtain ⟨bs, hb, hk⟩ := Rxs.shn (prog := prog) (w := w) h4 (by simpa [PyData.showable] using hs) fun t ht => Nat.le_trans (listText_mem_le ht) hz
    have r : Reads h₀ (.ref a) (.list xs) _ := .list h1 h2 h3 q
    have hna := not_mem_of_deeper r (by simp only [PyData.depth]; omega) hb
    refine call_repr_slot (by omega) ⟨o, hk0 _ _ h1, h2⟩ F.slot_list_repr.toG ?_
    obtain ⟨l⟩ := vs
    cases l with
    | nil =>
      have h4' : Rxs h₀ [] xs := h4
      cases h4'
      simp only [PyData.shownAll, listText_nil] at hQ
      exact call_list_repr_empty ⟨o, hk0 _ _ h1, h2⟩ (hk0 _ _ h1) h3 ⟨_, _, rfl, hQ s.heap _ _ fun _ _ e => e⟩
    | cons x l =>
      exact call_list_reprK h1 h2 h3 hna (by simpa using hk.length_eq) (fun i y e => hk.item i y (by simpa using e)) hg (fun b _ => Clear.nil b) (by show A.units + 1 + _ < cLine; omega) hk0 (fun h' u tk z => ⟨_, _, rfl, hQ h' u tk z⟩) hz
  | tuple h1 h2 h3 h4 =>
    rename_i a o vs n xs
    obtain ⟨as, q⟩ := h4.reads
    simp only [PyData.shown] at hz hQ
    simp only [PyData.depth] at hu
    obtain ⟨bs, hb, hk⟩ := Rxs.shn (prog := prog) (w := w) h4 (by simpa [PyData.showable] using hs) fun t ht => Nat.le_trans (tupleText_mem_le ht) hz
    have r : Reads h₀ (.ref a) (.tuple xs) _ := .tuple h1 h2 h3 q
    have hna := not_mem_of_deeper r (by simp only [PyData.depth]; omega) hb
    exact call_repr_slot (by omega) ⟨o, hk0 _ _ h1, h2⟩ F.slot_tuple_repr
      (call_tuple_reprK h1 h2 h3 hna hk hg (fun b _ => Clear.nil b) (by show A.units + 1 + _ < cLine; omega) hk0 (fun h' u tk z => ⟨_, _, rfl, hQ h' u tk z⟩) hz)
  | dict h1 h2 h3 hy h4 h5 =>
    rename_i a o es n kvs
    obtain ⟨as, q4⟩ := h4.reads
    obtain ⟨cs, q5⟩ := h5.reads
    simp only [PyData.shown, PyData.shownKv_eq] at hQ
    simp only [PyData.shown] at hz
    simp only [PyData.depth] at hu
    obtain ⟨s1, s2⟩ := PyData.showableKv_split kvs (by simpa [PyData.showable] using hs)
    obtain ⟨z1, z2⟩ := short_kv hz
    obtain ⟨d1, d2⟩ := depth_kv kvs
    obtain ⟨bs, hb, hk⟩ := Shns.two (Shns.mono (Rxs.shn (prog := prog) (w := w) h4 s1 z1) d1) (Shns.mono (Rxs.shn h5 s2 z2) d2)
    have r : Reads h₀ (.ref a) (.dict kvs) _ := .dict h1 h2 h3 q4 q5
    have hna := not_mem_of_deeper r (by simp only [PyData.depth]; omega) hb
    exact call_repr_slot (by omega) ⟨o, hk0 _ _ h1, h2⟩ F.slot_dict_repr
      (call_dict_reprK h1 h2 h3 hy hna hk hg (fun b _ => Clear.nil b) (by show A.units + 1 + _ < cLine; omega) hk0 (fun h' u tk z => ⟨_, _, rfl, hQ h' u tk z⟩) (by rw [← PyData.shownKv_eq]; exact hz))
end
def keyP : Key → PyData
  | .inl i => .int i
  | .inr x => .str x
def keyOk : Key → Bool
  | .inl _ => true
  | .inr x => PyData.strOk x
def toR (h : Hs) : Nat → D → Option PyData
  | 0, d => toP h 0 d
  | n + 1, d => match d with
    | .tup xs => (xs.mapM (toR h n)).map PyData.tuple
    | .dic ks xs => if ks.all keyOk = true then (xs.mapM (toR h n)).map fun ps => .dict ((ks.map keyP).zip ps) else none
    | d => match lstOf h d with
      | some xs => (xs.mapM (toR h n)).map PyData.list
      | none => toP h 0 d
theorem mapM_some2 {α β γ : Type} {f : α → Option β} {g : α → Option γ} (k : β → γ) : ∀ {xs : List α} {ys : List β}, (∀ x ∈ xs, ∀ y, f x = some y → g x = some (k y)) → xs.mapM f = some ys → xs.mapM g = some (ys.map k)
  | [], ys, _, e => by
    simp only [List.mapM_nil] at e ⊢
    cases e; rfl
  | x :: xs, ys, h, e => by
    obtain ⟨y, zs, e1, e2, rfl⟩ := mapM_cons_some e
    rw [List.mapM_cons, h x List.mem_cons_self y e1, mapM_some2 k (fun z hz => h z (List.mem_cons_of_mem _ hz)) e2]
    rfl
theorem mapM_len0 {α β : Type} {f : α → Option β} : ∀ {xs : List α} {ys : List β}, xs.mapM f = some ys → xs.length = ys.length
  | [], ys, e => by
    simp only [List.mapM_nil] at e
    cases e; rfl
  | x :: xs, ys, e => by
    obtain ⟨y, zs, e1, e2, rfl⟩ := mapM_cons_some e
    simp [mapM_len0 e2]
theorem toR_of {h : Hs} : ∀ (n : Nat) (d : D) (p : PyData), toP h n d = some p → toR h n d = some p
  | 0, _, _, e => e
  | n + 1, d, p, e => by
    have ih := fun (xs : List D) (ps : List PyData) (q : xs.mapM (toP h n) = some ps) => mapM_some2 id (fun x _ y hy => toR_of n x y hy) q
    have lists : ∀ d, (match lstOf h d with | some xs => (xs.mapM (toP h n)).map PyData.list | none => none) = some p → (match lstOf h d with | some xs => (xs.mapM (toR h n)).map PyData.list | none => toP h 0 d) = some p := fun d e => by
      cases hl : lstOf h d with
      | none => rw [hl] at e; cases e
      | some xs =>
        rw [hl] at e
        dsimp only at e ⊢
        cases q : xs.mapM (toP h n) with
        | none => rw [q] at e; cases e
        | some ps =>
          rw [q] at e
          rw [ih xs ps q, List.map_id]; exact e
    cases d with
    | tup xs =>
      simp only [toP] at e
      simp only [toR]
      cases q : xs.mapM (toP h n) with
      | none => rw [q] at e; cases e
      | some ps =>
        rw [q] at e
        rw [ih xs ps q, List.map_id]; exact e
    | lst xs => exact lists (.lst xs) e
    | scr xs => exact lists (.scr xs) e
    | loc m => exact lists (.loc m) e
    | dic ks xs => cases e
    | non => exact e
    | bl b => exact e
    | int i => exact e
    | str x => exact e
open Classical in
noncomputable def reprR : List D → Hs → R D
  | [d], h => match toR h 60 d with
    | some p => if p.showable = true ∧ p.shown.length ≤ sizeLine ∧ p.depth ≤ 62 then .ok (.str p.shown) h else .bad
    | none => .bad
  | _, _ => .bad
section
variable {X : Cx} {pins : List (Addr × Obj)} {σ : L2.St} {H : Hp} {s : Shared} {G : GG} {ms : List Addr} {h : Hs}
theorem rx_keys {P : Program} {w : World} {h : Heap} : ∀ {es : List DictEntry} {kvs : List (Key × Value)}, Pairs (mixKind P w) es kvs → Rxs h (es.map (·.key)) ((kvs.map (·.1)).map keyP)
  | _, _, .nil => .nil
  | _, _, .cons (e := e) (kv := kv) k _ r => by
    have q : keyIs kv.1 e.key = true := k
    rcases keyIs_shape q with ⟨i, t, e1, e2⟩ | ⟨x, t, e1, e2⟩
    · rw [List.map_cons, List.map_cons, List.map_cons, e1, e2]
      exact .cons (.int i t) (rx_keys r)
    · rw [List.map_cons, List.map_cons, List.map_cons, e1, e2]
      exact .cons (.str x t) (rx_keys r)
theorem pairs_vals {P : Program} {w : World} : ∀ {es : List DictEntry} {kvs : List (Key × Value)}, Pairs (mixKind P w) es kvs → es.map (·.val) = kvs.map (·.2)
  | _, _, .nil => rfl
  | _, _, .cons _ v r => by rw [List.map_cons, List.map_cons, v, pairs_vals r]
theorem kv_split : ∀ {ks : List Key} {vs : List V} {ws : List (Key × Value)}, ks.length = vs.length → KV (ks.zip vs) ws → ws.map (·.1) = ks ∧ Vals vs (ws.map (·.2))
  | [], [], _, _, .nil => ⟨rfl, .nil⟩
  | [], _ :: _, _, h, _ => by cases h
  | _ :: _, [], _, h, _ => by cases h
  | k :: ks, v :: vs, _, h, .cons q r => by
    obtain ⟨a, b⟩ := kv_split (by simpa using h) r
    obtain ⟨q1, q2⟩ := q
    exact ⟨by rw [List.map_cons, a]; exact congrArg (· :: ks) q1.symm, .cons q2 b⟩
theorem rxs_of {hp : Heap} {f : D → Option PyData} (ih : ∀ (d : D) (v : V) (p : PyData) (u : Value), Is X.K G ms d v → f d = some p → RelV v u → Rx hp u p) : ∀ {xs : List D} {vs : List V} {ps : List PyData} {us : List Value}, IsL X.K G ms xs vs → xs.mapM f = some ps → Vals vs us → Rxs hp us ps
  | [], vs, ps, us, i, e, r => by
    cases i
    cases r
    simp only [List.mapM_nil] at e
    cases e
    exact .nil
  | x :: xs, vs, ps, us, i, e, r => by
    obtain ⟨v, vr, rfl, i1, i2⟩ := i
    obtain ⟨y, zs, e1, e2, rfl⟩ := mapM_cons_some e
    cases r with
    | cons r1 r2 => exact .cons (ih x v y _ i1 e1 r1) (rxs_of ih i2 e2 r2)
theorem rx_of (I : Inv X pins σ H s) (hh : Hh X.K G ms h H) : ∀ (n : Nat) (d : D) (v : V) (p : PyData) (u : Value), Is X.K G ms d v → toR h n d = some p → RelV v u → Rx s.heap u p := by
  have flat : ∀ (d : D) (v : V) (p : PyData) (u : Value), Is X.K G ms d v → toP h 0 d = some p → RelV v u → Rx s.heap u p := fun d v p u i e r => by
    cases d <;> simp only [toP] at e
    case non => cases e; cases i; cases r; exact .none
    case bl b => cases e; cases i; cases r; exact .bool b
    case int j => cases e; cases i; obtain ⟨t, rfl⟩ := r; exact .int j t
    case str x =>
      split at e
      · cases e; cases i; obtain ⟨t, rfl⟩ := r; exact .str x t
      · cases e
    all_goals cases e
  intro n
  induction n with
  | zero => exact flat
  | succ n ih =>
    intro d v p u i e r
    have lists : ∀ d, Is X.K G ms d v → (match lstOf h d with | some xs => (xs.mapM (toR h n)).map PyData.list | none => toP h 0 d) = some p → Rx s.heap u p := fun d i e => by
      cases hl : lstOf h d with
      | none => rw [hl] at e; exact flat d v p u i e r
      | some xs =>
        rw [hl] at e
        dsimp only at e
        cases q : xs.mapM (toR h n) with
        | none => rw [q] at e; cases e
        | some ps =>
          rw [q] at e; cases e
          obtain ⟨a, vs, rfl, h2, h3⟩ := hh.list i hl
          cases r
          obtain ⟨its, rv, ⟨o, m, ho, hc, _, hd⟩, _⟩ := I.list h2
          exact .list ho hc hd (rxs_of ih h3 q rv)
    cases d with
    | tup xs =>
      simp only [toR] at e
      cases q : xs.mapM (toR h n) with
      | none => rw [q] at e; cases e
      | some ps =>
        rw [q] at e; cases e
        obtain ⟨a, vs, rfl, h2, h3⟩ := hh.tuple i
        cases r
        obtain ⟨its, rv, ⟨o, ho, hc, m, hd⟩, _⟩ := I.tuple h2
        exact .tuple ho hc hd (rxs_of ih h3 q rv)
    | dic ks xs =>
      simp only [toR] at e
      split at e
      · cases q : xs.mapM (toR h n) with
        | none => rw [q] at e; cases e
        | some ps =>
          rw [q] at e; cases e
          obtain ⟨a, vs, rfl, h1, h2, h3⟩ := i
          cases r
          obtain ⟨_, hy, ws, kv, ⟨o, es, ep, e1, ed, e2, _, pr, _⟩⟩ := I.hok a _ (hh.sub _ _ h1)
          obtain ⟨k1, k2⟩ := kv_split h2 kv
          have hlen : ks.length = ps.length := by
            rw [h2, ← h3.length]
            exact mapM_len0 q
          have z1 : ((ks.map keyP).zip ps).map (·.1) = ks.map keyP := List.map_fst_zip (by simp; omega)
          have z2 : ((ks.map keyP).zip ps).map (·.2) = ps := List.map_snd_zip (by simp; omega)
          refine .dict e1 ed.1 e2 hy ?_ ?_
          · rw [z1, ← k1]; exact rx_keys pr
          · rw [z2, pairs_vals pr]; exact rxs_of ih h3 q k2
      · cases e
    | lst xs => exact lists (.lst xs) i e
    | scr xs => exact lists (.scr xs) i e
    | loc m => exact lists (.loc m) i e
    | non => exact flat _ v p u i e r
    | bl b => exact flat _ v p u i e r
    | int j => exact flat _ v p u i e r
    | str x => exact flat _ v p u i e r
theorem cd_reprR {k : Nat} (hr : RoomG k X.A) : CallD X (.builtin "repr") reprR := by
  intro pins s σ H xs us Q I r ⟨G, ms, h, ds, hh, i, q⟩
  unfold reprR at q
  split at q
  · rename_i d
    split at q
    · rename_i p e
      split at q
      · rename_i hz
        obtain ⟨v, rfl, i1⟩ := isL1 (ds := []) i
        obtain ⟨u, rfl, rv⟩ := vals1 r
        have un := hr.u65
        exact (rx_of I hh 60 d v p u i1 e rv).call hz.1 hz.2.1 hr.gu (by have := hz.2.2; omega) (fun _ _ z => z) fun h' t tk kp => ⟨.str p.shown, H, I.kept kp, ⟨t, rfl⟩, q.fin hh rfl⟩
      · exact q.elim
    · exact q.elim
  · exact q.elim
end
theorem x_reprR {d : D} {h : Hs} {p : PyData} (e : toR h 60 d = some p) (hs : p.showable = true) (hz : p.shown.length ≤ sizeLine) (hd : p.depth ≤ 62) : reprR [d] h = .ok (.str p.shown) h := by
  simp only [reprR, e]
  exact if_pos ⟨hs, hz, hd⟩
theorem reprR_of {d : D} {h : Hs} {x : Str} (e : reprD [d] h = .ok (.str x) h) : reprR [d] h = .ok (.str x) h := by
  cases hp : toP h 60 d with
  | none => simp only [reprD, hp] at e; cases e
  | some p =>
    simp only [reprD, hp] at e
    split at e
    · rename_i hz
      cases e
      have := (toP_ok h 60 d p hp).2
      exact x_reprR (toR_of 60 d p hp) hz.1 hz.2 (by omega)
    · cases e
end WD
namespace WD
open PySem PySem.Spec PyProof.Rows L2
theorem truncOk_app (h t : Hs) : TruncOk h.length h (h ++ t) := fun i o hi e => .inl (by rw [List.getElem?_append_left hi] at e; exact e)
theorem truncOk_refl (h : Hs) : TruncOk h.length h h := fun i o hi e => .inl e
theorem exitT_same {d : D} {h : Hs} (hd : d.und h.length = true) : exitT h d h = .ok d h := by
  unfold exitT; rw [if_pos (truncOk_refl h)]; unfold frz1; rw [if_pos hd]; simp
theorem exitT_app {d : D} {h t : Hs} (hd : d.und h.length = true) : exitT h d (h ++ t) = .ok d h := by
  unfold exitT; rw [if_pos (truncOk_app h t)]; unfold frz1; rw [if_pos hd]; simp
/-- a new list handed back becomes still -/
theorem exitT_frz {h t : Hs} {m : Nat} {xs : List D} (hm : h.length ≤ m) (e : locAt (h ++ t) m = some xs) (hx : undL h.length xs = true) : exitT h (.loc m) (h ++ t) = .ok (.lst xs) h := by
  unfold exitT; rw [if_pos (truncOk_app h t)]; unfold frz1
  rw [if_neg (by simp [D.und]; omega)]
  simp [e, hx]
theorem exitX_app {x : Str} {h t : Hs} : exitX h ⟨x, none⟩ (h ++ t) = .err ⟨x, none⟩ h := by
  unfold exitX; rw [if_pos ⟨truncOk_app h t, fun f d e => (nomatch e)⟩]; simp
@[simp] theorem exitT_bl {b : Bool} {h : Hs} : exitT h (.bl b) h = .ok (.bl b) h := exitT_same rfl
@[simp] theorem exitT_int {i : Int} {h : Hs} : exitT h (.int i) h = .ok (.int i) h := exitT_same rfl
@[simp] theorem exitT_str {i : Str} {h : Hs} : exitT h (.str i) h = .ok (.str i) h := exitT_same rfl
@[simp] theorem exitT_non {h : Hs} : exitT h .non h = .ok .non h := exitT_same rfl
@[simp] theorem exitX_same {x : Str} {h : Hs} : exitX h ⟨x, none⟩ h = .err ⟨x, none⟩ h := by
  unfold exitX; rw [if_pos ⟨truncOk_refl h, fun f d e => (nomatch e)⟩]; simp
mutual
theorem und_mono {n m : Nat} (hm : n ≤ m) : ∀ d : D, d.und n = true → d.und m = true
  | .non, _ => rfl
  | .bl _, _ => rfl
  | .int _, _ => rfl
  | .str _, _ => rfl
  | .tup xs, h => by simpa [D.und] using undL_mono hm xs (by simpa [D.und] using h)
  | .lst xs, h => by simpa [D.und] using undL_mono hm xs (by simpa [D.und] using h)
  | .scr xs, h => by simpa [D.und] using undL_mono hm xs (by simpa [D.und] using h)
  | .dic _ xs, h => by simpa [D.und] using undL_mono hm xs (by simpa [D.und] using h)
  | .loc k, h => by simp [D.und] at h ⊢; omega
theorem undL_mono {n m : Nat} (hm : n ≤ m) : ∀ xs : List D, undL n xs = true → undL m xs = true
  | [], _ => rfl
  | x :: xs, h => by
    simp only [undL, Bool.and_eq_true] at h ⊢
    exact ⟨und_mono hm x h.1, undL_mono hm xs h.2⟩
end
theorem undL_iff {n : Nat} : ∀ {xs : List D}, undL n xs = true ↔ ∀ x ∈ xs, x.und n = true
  | [] => by simp [undL]
  | x :: xs => by simp [undL, undL_iff (xs := xs)]
@[simp] theorem und_int {n : Nat} {i : Int} : (D.int i).und n = true := (rfl)
@[simp] theorem und_bl {n : Nat} {i : Bool} : (D.bl i).und n = true := (rfl)
@[simp] theorem und_str {n : Nat} {i : Str} : (D.str i).und n = true := (rfl)
@[simp] theorem und_non {n : Nat} : D.non.und n = true := (rfl)
@[simp] theorem und_tup {n : Nat} {xs : List D} : (D.tup xs).und n = undL n xs := by simp [D.und]
@[simp] theorem und_lst {n : Nat} {xs : List D} : (D.lst xs).und n = undL n xs := by simp [D.und]
@[simp] theorem und_loc {n k : Nat} : (D.loc k).und n = decide (k < n) := by simp [D.und]
@[simp] theorem undL_nil {n : Nat} : undL n [] = true := (rfl)
@[simp] theorem undL_cons {n : Nat} {x : D} {xs : List D} : undL n (x :: xs) = (x.und n && undL n xs) := (rfl)
@[simp] theorem undL_append {n : Nat} {xs ys : List D} : undL n (xs ++ ys) = (undL n xs && undL n ys) := by
  induction xs with
  | nil => simp
  | cons x xs ih => simp [ih, Bool.and_assoc]
@[simp] theorem undL_ints {n : Nat} (ns : List Int) : undL n (ns.map D.int) = true := undL_iff.mpr (by simp)
section
variable {s : Ss} {h : Hs} {d : D} {f g fa fb fc : FE} {t u : FT} {a b : FS}
@[simp] theorem x_c : eC d s h = .ok d h := (rfl)
@[simp] theorem x_var {i : Nat} : eVar i s h = match s[i]? with | some (some d) => .ok d h | _ => .bad := (rfl)
@[simp] theorem x_anil : aNil s h = .ok [] h := (rfl)
@[simp] theorem x_acons {r : FA} : aCons f r s h = (f s h).bind fun d h1 => (r s h1).bind fun ds h2 => .ok (d :: ds) h2 := (rfl)
@[simp] theorem x_bin {o : D → D → Hs → R D} : eBin o fa fb s h = (fa s h).bind fun a h1 => (fb s h1).bind fun b h2 => calm2 o a b h2 := (rfl)
@[simp] theorem x_calm2 {o : D → D → Hs → R D} {x y : D} : calm2 o x y h = calm1 (o x y h) := by
  unfold calm2 calm1; rfl
@[simp] theorem x_calm1_ok : calm1 (.ok d h) = .ok d h := (rfl)
@[simp] theorem x_calm1_bad : calm1 .bad = .bad := (rfl)
@[simp] theorem x_quiet_ok {α : Type} {x : α} : quiet (.ok x h) = .ok x h := (rfl)
@[simp] theorem x_b {o : List D → Hs → R D} {r : FA} : eB o r s h = (r s h).bind fun ds h1 => calm1 (o ds h1) := (rfl)
@[simp] theorem x_call {n : Nat} {o : List D → Hs → R D} {r : FA} : eCall n o r s h = (r s h).bind fun ds h1 => if ds.length = n then o ds h1 else .bad := (rfl)
@[simp] theorem x_ml {o : D → List D → Hs → R D} {r : FA} : eML o f r s h = (f s h).bind fun d h1 => match lstOf h1 d with
  | some _ => (r s h1).bind fun ds h2 => calm1 (o d ds h2)
  | none => .bad := (rfl)
@[simp] theorem x_tup {r : FA} : eTup r s h = (r s h).bind fun ds h1 => if ds.length ≤ sizeLine then .ok (.tup ds) h1 else .bad := (rfl)
@[simp] theorem x_lst {m : Bool} {r : FA} : eLst m r s h = (r s h).bind fun ds h1 => if ds.length ≤ sizeLine then newL m ds h1 else .bad := (rfl)
@[simp] theorem x_truth_bl {k : Bool} : truth (.ok (.bl k) h) = .ok k h := (rfl)
@[simp] theorem x_truth_bad : truth .bad = .bad := (rfl)
@[simp] theorem x_truth_err {x : Xn} : truth (.err x h) = .err x h := (rfl)
@[simp] theorem x_tv : tV f s h = truth (f s h) := (rfl)
@[simp] theorem x_tnot : tNotF t s h = (t s h).bind fun b h1 => .ok (!b) h1 := (rfl)
@[simp] theorem x_tand : tAndF t u s h = (t s h).bind fun b h1 => if b = true then u s h1 else .ok false h1 := (rfl)
@[simp] theorem x_tor : tOrF t u s h = (t s h).bind fun b h1 => if b = true then .ok true h1 else u s h1 := (rfl)
@[simp] theorem x_tyes : tYesF s h = .ok true h := (rfl)
@[simp] theorem x_and : eAndF fa fb s h = (truth (fa s h)).bind fun k h1 => if k = true then fb s h1 else .ok (.bl false) h1 := (rfl)
@[simp] theorem x_or : eOrF fa fb s h = (truth (fa s h)).bind fun k h1 => if k = true then .ok (.bl true) h1 else fb s h1 := (rfl)
@[simp] theorem x_not : eNotF fa s h = (truth (fa s h)).bind fun k h1 => .ok (.bl (!k)) h1 := (rfl)
@[simp] theorem x_if : eIfF t fa fb s h = (t s h).bind fun k h1 => if k = true then fa s h1 else fb s h1 := (rfl)
@[simp] theorem x_chain {o o' : D → D → Hs → R D} : eChain o o' fa fb fc s h = (fa s h).bind fun x h1 => (fb s h1).bind fun y h2 => (truth (calm2 o x y h2)).bind fun k h3 => if k = true then (fc s h3).bind fun z h4 => calm2 o' y z h4 else .ok (.bl false) h3 := (rfl)
@[simp] theorem x_neg : negD fa s h = (fa s h).bind fun d h1 => match d with
  | .int i => .ok (.int (-i)) h1
  | _ => .bad := (rfl)
@[simp] theorem x_onone : oNone s h = .ok none h := (rfl)
@[simp] theorem x_osome : oSome f s h = (f s h).bind fun d h1 => match d with
  | .int i => .ok (some i) h1
  | _ => .bad := (rfl)
@[simp] theorem x_sl {m : Bool} {p q : FO} : eSl m f p q s h = (f s h).bind fun d h1 => (p s h1).bind fun lo h2 => (q s h2).bind fun hi h3 => slD m d lo hi h3 := (rfl)
@[simp] theorem x_next : sNext s h = .nx s h := (rfl)
@[simp] theorem x_seq : sSeq a b s h = match a s h with
  | .nx s' h' => b s' h'
  | r => r := (rfl)
@[simp] theorem x_sif : sIf t a b s h = match t s h with
  | .ok k h1 => if k = true then a s h1 else b s h1
  | .err x h1 => .er x s h1
  | .bad => .bad := (rfl)
@[simp] theorem x_set {i : Nat} : sSet i f s h = RS.ofR s (f s h) fun d h1 => .nx (s.set i (some d)) h1 := (rfl)
@[simp] theorem x_ret : sRet f s h = RS.ofR s (f s h) fun d h1 => .rt d h1 := (rfl)
@[simp] theorem x_expr : sExpr f s h = RS.ofR s (f s h) fun _ h1 => .nx s h1 := (rfl)
@[simp] theorem x_raise {n : Str} : sRaise n s h = .er ⟨n, none⟩ s h := (rfl)
@[simp] theorem x_break : sBreak s h = .bk s h := (rfl)
@[simp] theorem x_cont : sCont s h = .ct s h := (rfl)
@[simp] theorem x_item {fo fi fe : FE} : sItem fo fi fe s h = RS.ofR s (fe s h) fun v h1 => RS.ofR s (fo s h1) fun o h2 => RS.ofR s (fi s h2) fun i h3 => match setD o i v h3 with
  | some h4 => .nx s h4
  | none => .bad := (rfl)
@[simp] theorem x_aug {i : Nat} {o : D → D → Hs → R D} : sAug i o f s h = match s[i]? with
  | some (some x) => RS.ofR s (f s h) fun y h1 => RS.ofR s (calm2 o x y h1) fun z h2 => .nx (s.set i (some z)) h2
  | _ => .bad := (rfl)
@[simp] theorem x_un {o : Tg} : sUn o f s h = RS.ofR s (f s h) fun d h1 => match o d s h1 with
  | some s' => .nx s' h1
  | none => .bad := (rfl)
@[simp] theorem x_par {i j : Nat} {r : FA} : sPar i j r s h = match r s h with
  | .ok [x, y] h1 => .nx ((s.set i (some x)).set j (some y)) h1
  | .ok _ _ => .bad
  | .err x h1 => .er x s h1
  | .bad => .bad := (rfl)
@[simp] theorem x_gvar {i : Nat} : gVar i d s h = some (s.set i (some d)) := (rfl)
@[simp] theorem x_after_nx {k : Ss → Hs → RS} : afterT (.nx s h) k = k s h := (rfl)
@[simp] theorem x_after_ct {k : Ss → Hs → RS} : afterT (.ct s h) k = k s h := (rfl)
@[simp] theorem x_after_bk {k : Ss → Hs → RS} : afterT (.bk s h) k = .nx s h := (rfl)
@[simp] theorem x_after_rt {k : Ss → Hs → RS} : afterT (.rt d h) k = .rt d h := (rfl)
@[simp] theorem x_after_er {k : Ss → Hs → RS} {x : Xn} : afterT (.er x s h) k = .er x s h := (rfl)
@[simp] theorem x_newF {xs : List D} : newL false xs h = .ok (.lst xs) h := (rfl)
@[simp] theorem x_newT {xs : List D} : newL true xs h = .ok (.loc h.length) (h ++ [.lst xs]) := (rfl)
@[simp] theorem x_add {i j : Int} : addD (.int i) (.int j) h = .ok (.int (i + j)) h := (rfl)
@[simp] theorem x_sub {i j : Int} : subD (.int i) (.int j) h = .ok (.int (i - j)) h := (rfl)
open Classical in
theorem x_mul {i j : Int} : mulD (.int i) (.int j) h = if smallI i ∨ smallI j then .ok (.int (i * j)) h else .bad := (rfl)
open Classical in
theorem x_fdiv {i j : Int} : fdivD (.int i) (.int j) h = if divOk0 j then .ok (.int (i / j)) h else .bad := (rfl)
theorem x_mod {i j : Int} : modD (.int i) (.int j) h = if 0 < j then .ok (.int (i % j)) h else .bad := (rfl)
open Classical in
theorem x_pow {i j : Int} : powD (.int i) (.int j) h = if powOk i j then .ok (.int (i ^ j.toNat)) h else .bad := (rfl)
@[simp] theorem x_cmp {p : Int → Int → Bool} {i j : Int} : cmpI p (.int i) (.int j) h = .ok (.bl (p i j)) h := (rfl)
@[simp] theorem x_ipadd {i j : Int} : ipAddD (.int i) (.int j) h = .ok (.int (i + j)) h := (rfl)
@[simp] theorem x_ipsub {i j : Int} : ipSubD (.int i) (.int j) h = .ok (.int (i - j)) h := (rfl)
@[simp] theorem x_row_tup {xs : List D} : rowOf h (.tup xs) = some xs := (rfl)
@[simp] theorem x_row_lst {xs : List D} : rowOf h (.lst xs) = some xs := (rfl)
@[simp] theorem x_row_scr {xs : List D} : rowOf h (.scr xs) = some xs := (rfl)
@[simp] theorem x_row_loc {n : Nat} : rowOf h (.loc n) = locAt h n := (rfl)
@[simp] theorem x_lo_lst {xs : List D} : lstOf h (.lst xs) = some xs := (rfl)
@[simp] theorem x_lo_loc {n : Nat} : lstOf h (.loc n) = locAt h n := (rfl)
@[simp] theorem x_lx_lst {xs : List D} : lstX h (.lst xs) = some xs := (rfl)
@[simp] theorem x_lx_loc {n : Nat} : lstX h (.loc n) = locAt h n := (rfl)
@[simp] theorem x_len_tup {xs : List D} : lenD [.tup xs] h = .ok (.int xs.length) h := (rfl)
@[simp] theorem x_len_lst {xs : List D} : lenD [.lst xs] h = .ok (.int xs.length) h := (rfl)
theorem x_len {xs : List D} (e : rowOf h d = some xs) : lenD [d] h = .ok (.int xs.length) h := by
  cases d <;> first | (simp [rowOf, lstOf, lstX] at e; done) | (simp only [lenD]; rw [e])
@[simp] theorem x_max2 {i j : Int} : maxD [.int i, .int j] h = .ok (.int (if j > i then j else i)) h := (rfl)
@[simp] theorem x_min2 {i j : Int} : minD [.int i, .int j] h = .ok (.int (if j < i then j else i)) h := (rfl)
@[simp] theorem x_intb {k : Bool} : intD [.bl k] h = .ok (.int (if k = true then 1 else 0)) h := (rfl)
@[simp] theorem x_inti {k : Int} : intD [.int k] h = .ok (.int k) h := (rfl)
theorem x_tuple {xs : List D} (e : rowOf h d = some xs) : tupleD [d] h = .ok (.tup xs) h := by simp only [tupleD]; rw [e]
@[simp] theorem x_tuple_lst {xs : List D} : tupleD [.lst xs] h = .ok (.tup xs) h := (rfl)
@[simp] theorem x_tuple_tup {xs : List D} : tupleD [.tup xs] h = .ok (.tup xs) h := (rfl)
theorem x_list {m : Bool} {xs : List D} (e : rowOf h d = some xs) : listD m [d] h = newL m xs h := by simp only [listD]; rw [e]
@[simp] theorem x_list_tup {m : Bool} {xs : List D} : listD m [.tup xs] h = newL m xs h := (rfl)
@[simp] theorem x_list_scr {m : Bool} {xs : List D} : listD m [.scr xs] h = newL m xs h := (rfl)
@[simp] theorem x_sum_lst {ns : List Int} : sumD [.lst (ns.map D.int)] h = .ok (.int ns.sum) h := by simp [sumD]
@[simp] theorem x_sum_tup {ns : List Int} : sumD [.tup (ns.map D.int)] h = .ok (.int ns.sum) h := by simp [sumD]
@[simp] theorem x_exit_keep {h' : Hs} : exitF .keep h d h' = .ok d h' := (rfl)
@[simp] theorem x_exit_trunc {h' : Hs} : exitF .trunc h d h' = exitT h d h' := (rfl)
end
theorem run_eq {n N : Nat} {md : Md} {b : FS} {ds : List D} {h : Hs} (hn : ds.length = n) : runF n N md b ds h = match b (ds.map some ++ List.replicate (N - n) none) h with
  | .nx _ h' => exitF md h .non h'
  | .rt d h' => exitF md h d h'
  | .er x _ h' => exitX h x h'
  | _ => .bad := by
  unfold runF
  exact if_pos hn
theorem compA_pure {g : Tg} {tt : FT} {te : FE} {s : Ss} {k : List D → Hs → R D} {h : Hs} (p : D → Bool) (f : D → D) : ∀ (ds acc : List D),
    (∀ d ∈ ds, ∃ s2, g d s h = some s2 ∧ tt s2 h = .ok (p d) h ∧ (p d = true → te s2 h = .ok (f d) h)) → compA g tt te s k ds acc h = k (acc ++ (ds.filter p).map f) h
  | [], acc, _ => by simp [compA]
  | d :: ds, acc, hs => by
    obtain ⟨s2, h1, h2, h3⟩ := hs d List.mem_cons_self
    have ih := fun acc => compA_pure (k := k) p f ds acc fun d hd => hs d (List.mem_cons_of_mem _ hd)
    unfold compA stepC
    simp only [h1, h2, x_quiet_ok, R.bind_ok]
    cases hp : p d with
    | true => simp [h3 hp, ih, hp]
    | false => simp [ih, hp]
/-- the items that a walk takes, where nothing changes -/
def itemsOf (h : Hs) : It0 → Option (List D)
  | .seq ds => some ds
  | .rng lo n => if n ≤ sizeLine then some (rgL lo n) else none
  | .loc n => locAt h n
/-- the walk over a row -/
theorem iRow_ok {f : FE} {s : Ss} {h h1 : Hs} {d : D} {xs : List D} (e : f s h = .ok d h1) (hr : rowOf h1 d = some xs) : ∃ it, iRow f s h = .ok it h1 ∧ itemsOf h1 it = some xs := by
  unfold iRow
  rw [e]
  cases d with
  | tup ys => cases hr; exact ⟨_, rfl, rfl⟩
  | lst ys => cases hr; exact ⟨_, rfl, rfl⟩
  | scr ys => cases hr; exact ⟨_, rfl, rfl⟩
  | loc n =>
    have hr : locAt h1 n = some xs := hr
    have hl : n < h1.length := by
      have := locAt_some hr
      exact lt_of_get this
    exact ⟨.loc n, by simp [hl], hr⟩
  | _ => cases hr
theorem loopL_eq {g : Tg} {b : FS} {n : Nat} {xs : List D} (Inv : Nat → Ss → Hs → Prop) (hinv : ∀ i s h, Inv i s h → locAt h n = some xs)
    (hstep : ∀ i d s s' h, Inv i s h → xs[i]? = some d → g d s h = some s' → (∀ s2 h2, b s' h = .nx s2 h2 ∨ b s' h = .ct s2 h2 → Inv (i + 1) s2 h2)) :
    ∀ (m i : Nat) (s : Ss) (h : Hs), xs.length - i < m → Inv i s h → loopL g b n m i s h = loopS g b (xs.drop i) s h
  | 0, _, _, _, hm, _ => absurd hm (by omega)
  | m + 1, i, s, h, hm, hv => by
    unfold loopL
    simp only [hinv i s h hv]
    by_cases hl : i < xs.length
    · rw [List.getElem?_eq_getElem hl, List.drop_eq_getElem_cons hl]
      dsimp only
      conv => rhs; unfold loopS
      cases eg : g xs[i] s h with
      | none => rfl
      | some s' =>
        dsimp only
        have st := hstep i xs[i] s s' h hv (List.getElem?_eq_getElem hl) eg
        cases eb : b s' h with
        | nx s2 h2 => exact loopL_eq Inv hinv hstep m (i + 1) s2 h2 (by omega) (st s2 h2 (.inl eb))
        | ct s2 h2 => exact loopL_eq Inv hinv hstep m (i + 1) s2 h2 (by omega) (st s2 h2 (.inr eb))
        | _ => rfl
    · rw [List.getElem?_eq_none (by omega), List.drop_eq_nil_of_le (by omega)]
      rfl
theorem sFor_rng {fi : FI} {g : Tg} {b : FS} {s : Ss} {h h1 : Hs} {lo : Int} {n : Nat} (e : fi s h = .ok (.rng lo n) h1) : sFor fi g b s h = loopS g b (rgL lo n) s h1 := by unfold sFor; rw [e]
theorem sFor_seq {fi : FI} {g : Tg} {b : FS} {s : Ss} {h h1 : Hs} {ds : List D} (e : fi s h = .ok (.seq ds) h1) : sFor fi g b s h = loopS g b ds s h1 := by unfold sFor; rw [e]
theorem sFor_loc {fi : FI} {g : Tg} {b : FS} {s : Ss} {h h1 : Hs} {n : Nat} {xs : List D} (e : fi s h = .ok (.loc n) h1) (el : locAt h1 n = some xs) : sFor fi g b s h = loopL g b n (xs.length + 1) 0 s h1 := by unfold sFor; rw [e]; simp only [el]
theorem r62_nat {n : Nat} (h : n ≤ 1000000000) : r62 (n : Int) := by
  have h1 : (n : Int) ≤ 1000000000 := by omega
  exact ⟨Int.le_trans (by decide) (Int.natCast_nonneg n), Int.lt_of_le_of_lt h1 (by decide)⟩
theorem iRng1_ok {f : FA} {s : Ss} {h h1 : Hs} {n : Nat} (e : f s h = .ok [.int n] h1) (hn : n ≤ 1000000000) : iRng1 f s h = .ok (.rng 0 n) h1 := by
  have hz := r62_nat hn
  unfold iRng1
  rw [e, R.bind_ok]
  dsimp only
  rw [if_pos hz, Int.toNat_natCast]
theorem iRng1_okI {f : FA} {s : Ss} {h h1 : Hs} {n : Int} (e : f s h = .ok [.int n] h1) (h0 : 0 ≤ n) (hn : n ≤ 1000000000) : iRng1 f s h = .ok (.rng 0 n.toNat) h1 := by
  have : n = (n.toNat : Int) := by omega
  rw [this] at e
  rw [iRng1_ok e (by omega)]
theorem iRng2_ok {f : FA} {s : Ss} {h h1 : Hs} {i j : Int} (e : f s h = .ok [.int i, .int j] h1) (hi : -1000000000 ≤ i ∧ i ≤ 1000000000) (hj : -1000000000 ≤ j ∧ j ≤ 1000000000) : iRng2 f s h = .ok (.rng i (j - i).toNat) h1 := by
  unfold iRng2
  rw [e, R.bind_ok]
  have h1 : r62 i := ⟨Int.le_trans (by decide) hi.1, Int.lt_of_le_of_lt hi.2 (by decide)⟩
  have h2 : r62 j := ⟨Int.le_trans (by decide) hj.1, Int.lt_of_le_of_lt hj.2 (by decide)⟩
  dsimp only
  rw [if_pos ⟨h1, h2⟩]
theorem rgL_ints (lo : Int) (n : Nat) : rgL lo n = ((List.range n).map fun (i : Nat) => lo + (i : Int)).map D.int := by
  unfold rgL; simp
theorem seq_nx {a b : FS} {s s' : Ss} {h h' : Hs} (e : a s h = .nx s' h') : sSeq a b s h = b s' h' := by rw [x_seq, e]
theorem seq_rt {a b : FS} {s : Ss} {h h' : Hs} {d : D} (e : a s h = .rt d h') : sSeq a b s h = .rt d h' := by rw [x_seq, e]
theorem seq_er {a b : FS} {s s' : Ss} {h h' : Hs} {x : Xn} (e : a s h = .er x s' h') : sSeq a b s h = .er x s' h' := by rw [x_seq, e]
theorem loop_nx {g : Tg} {b : FS} {d : D} {ds : List D} {s s1 s2 : Ss} {h h2 : Hs} (eg : g d s h = some s1) (e : b s1 h = .nx s2 h2) : loopS g b (d :: ds) s h = loopS g b ds s2 h2 := by
  conv => lhs; unfold loopS
  rw [eg]; dsimp only; rw [e]; rfl
theorem loop_rt {g : Tg} {b : FS} {d : D} {ds : List D} {s s1 : Ss} {h h2 : Hs} {v : D} (eg : g d s h = some s1) (e : b s1 h = .rt v h2) : loopS g b (d :: ds) s h = .rt v h2 := by
  conv => lhs; unfold loopS
  rw [eg]; dsimp only; rw [e]; rfl
end WD
namespace WD
open PySem PySem.Spec PyProof.Rows L2
@[simp] theorem toP_int {h : Hs} {n : Nat} {i : Int} : toP h n (.int i) = some (.int i) := by cases n <;> rfl
@[simp] theorem toP_bl {h : Hs} {n : Nat} {i : Bool} : toP h n (.bl i) = some (.bool i) := by cases n <;> rfl
@[simp] theorem toP_non {h : Hs} {n : Nat} : toP h n .non = some .none := by cases n <;> rfl
theorem mapM_some {α β : Type} {f : α → Option β} {g : α → β} : ∀ {xs : List α}, (∀ x ∈ xs, f x = some (g x)) → xs.mapM f = some (xs.map g)
  | [], _ => rfl
  | x :: xs, hx => by
    rw [List.mapM_cons, hx x List.mem_cons_self, mapM_some fun y hy => hx y (List.mem_cons_of_mem _ hy)]
    rfl
theorem toP_tup {h : Hs} {n : Nat} {xs : List D} {ps : List PyData} (e : xs.mapM (toP h n) = some ps) : toP h (n + 1) (.tup xs) = some (.tuple ps) := by
  simp only [toP, e]; rfl
theorem toP_lst {h : Hs} {n : Nat} {d : D} {xs : List D} {ps : List PyData} (hd : lstOf h d = some xs) (e : xs.mapM (toP h n) = some ps) : toP h (n + 1) d = some (.list ps) := by
  cases d <;> first | (simp [lstOf, lstX] at hd; done) | (simp only [toP]; rw [hd]; simp only [e]; rfl)
theorem mapM_ints {h : Hs} {n : Nat} (ns : List Int) : (ns.map D.int).mapM (toP h n) = some (ns.map PyData.int) := by
  rw [mapM_some (g := fun d => match d with | .int i => PyData.int i | _ => .none) (by simp)]
  simp
theorem eqv_ints : ∀ ns ms : List Int, PyData.eqvAll (ns.map PyData.int) (ms.map PyData.int) = decide (ns = ms)
  | [], [] => by simp [PyData.eqvAll]
  | [], _ :: _ => by simp [PyData.eqvAll]
  | _ :: _, [] => by simp [PyData.eqvAll]
  | n :: ns, m :: ms => by
    simp only [List.map_cons, PyData.eqvAll, PyData.eqv, eqv_ints ns ms, List.cons.injEq]
    by_cases h1 : n = m <;> by_cases h2 : ns = ms <;> simp [h1, h2]
@[simp] theorem x_eqI {n : Bool} {h : Hs} {i j : Int} : eqD n (.int i) (.int j) h = .ok (.bl (if n = true then !(i == j) else i == j)) h := by
  simp [eqD, PyData.eqv]
theorem x_eqL {n : Bool} {h : Hs} {d e : D} {ns ms : List Int} (hd : lstOf h d = some (ns.map D.int)) (he : lstOf h e = some (ms.map D.int)) : eqD n d e h = .ok (.bl (if n = true then !decide (ns = ms) else decide (ns = ms))) h := by
  unfold eqD
  rw [toP_lst hd (mapM_ints ns), toP_lst he (mapM_ints ms)]
  simp [PyData.eqv, eqv_ints]
theorem x_eqT {n : Bool} {h : Hs} {ns ms : List Int} : eqD n (.tup (ns.map D.int)) (.tup (ms.map D.int)) h = .ok (.bl (if n = true then !decide (ns = ms) else decide (ns = ms))) h := by
  unfold eqD
  rw [toP_tup (mapM_ints ns), toP_tup (mapM_ints ms)]
  simp [PyData.eqv, eqv_ints]
@[simp] theorem locAt_cons0 {xs : List D} {t : Hs} : locAt (.lst xs :: t) 0 = some xs := (rfl)
theorem locAt_app {g : Hs} {n : Nat} {t : Hs} (hn : n < g.length) : locAt (g ++ t) n = locAt g n := by
  unfold locAt; rw [List.getElem?_append_left hn]
@[simp] theorem locAt_end {g : Hs} {xs : List D} {t : Hs} : locAt (g ++ (.lst xs :: t)) g.length = some xs := by
  unfold locAt; simp [O.items]
theorem locAt_lt {g : Hs} {n : Nat} {xs : List D} (e : locAt g n = some xs) : n < g.length := lt_of_get (locAt_some e)
@[simp] theorem set_end {α : Type} {g : List α} {o x : α} {t : List α} : (g ++ (o :: t)).set g.length x = g ++ (x :: t) := by
  rw [List.set_append_right _ _ (Nat.le_refl _)]; simp
theorem set_app {α : Type} {g t : List α} {n : Nat} {x : α} (hn : n < g.length) : (g ++ t).set n x = g.set n x ++ t := List.set_append_left _ _ hn
theorem locAt_set {g : Hs} {n : Nat} {xs : List D} (hn : n < g.length) : locAt (g.set n (.lst xs)) n = some xs := by
  unfold locAt; rw [List.getElem?_set_self hn]; rfl
theorem locAt_set_ne {g : Hs} {n m : Nat} {o : O} (hn : n ≠ m) : locAt (g.set n o) m = locAt g m := by
  unfold locAt; rw [List.getElem?_set_ne hn]
theorem atI_in {α : Type} {xs : List α} {i : Int} (h0 : 0 ≤ i) (h1 : i < xs.length) : atI xs i = some (xs[i.toNat]'(by omega)) := by
  have hl : i.toNat < xs.length := by omega
  have := atI_nat (xs := xs) (j := i.toNat) (v := xs[i.toNat]) (List.getElem?_eq_getElem hl)
  rwa [Int.toNat_of_nonneg h0] at this
theorem ixN_in {n : Nat} {i : Int} (h0 : 0 ≤ i) (h1 : i < n) : ixN n i = some i.toNat := by
  unfold ixN; rw [if_pos h0, if_pos h1]
theorem x_ix_row {h : Hs} {d e : D} {xs : List D} {i : Int} (hr : rowOf h d = some xs) (he : atI xs i = some e) : ixD d (.int i) h = .ok e h := by
  cases d <;> first | (simp [rowOf, lstOf, lstX] at hr; done) | (simp only [ixD]; rw [hr]; simp only [he])
/-- an item of a row of ints, somewhere in bounds -/
theorem x_ix_ints {h : Hs} {d : D} {ns : List Int} {i : Int} (hr : rowOf h d = some (ns.map D.int)) (h0 : 0 ≤ i) (h1 : i < ns.length) : ixD d (.int i) h = .ok (.int (ns[i.toNat]'(by omega))) h := by
  rw [x_ix_row hr (atI_in h0 (by simpa using h1))]
  simp
theorem small_of {i : Int} (h0 : 0 ≤ i) (h1 : i < 2 ^ 64) : smallI i := ⟨by omega, h1⟩
theorem small_nat {n : Nat} (h : n < 2 ^ 64) : smallI (n : Int) := ⟨by omega, by omega⟩
end WD
namespace WD
open PySem PySem.Spec PyProof.Rows L2
section
variable {s : Ss} {h : Hs} {d : D} {f : FE} {b : FS} {g : Tg}
@[simp] theorem x_isi {ns : List String} : eIsi ns f s h = (f s h).bind fun d h1 => .ok (.bl (ns.any fun n => isSub (tyD h1 d) n)) h1 := (rfl)
@[simp] theorem x_fa {vs : List Nat} : sFa vs b s h = fgS vs (b s h) := (rfl)
@[simp] theorem x_fb {vs : List Nat} : sFb vs b s h = b (wipeS s vs) h := (rfl)
@[simp] theorem x_fg_nx {vs : List Nat} : fgS vs (.nx s h) = .nx (wipeS s vs) h := (rfl)
@[simp] theorem x_fg_ct {vs : List Nat} : fgS vs (.ct s h) = .ct (wipeS s vs) h := (rfl)
@[simp] theorem x_fg_bk {vs : List Nat} : fgS vs (.bk s h) = .bk (wipeS s vs) h := (rfl)
@[simp] theorem x_fg_rt {vs : List Nat} : fgS vs (.rt d h) = .rt d h := (rfl)
@[simp] theorem x_fg_er {vs : List Nat} {x : Xn} : fgS vs (.er x s h) = .er x s h := (rfl)
@[simp] theorem x_fg_bad {vs : List Nat} : fgS vs .bad = .bad := (rfl)
@[simp] theorem x_after_bad {k : Ss → Hs → RS} : afterT .bad k = .bad := (rfl)
@[simp] theorem x_wipe_nil : wipeS s [] = s := (rfl)
@[simp] theorem x_wipe_cons {v : Nat} {vs : List Nat} : wipeS s (v :: vs) = (wipeS s vs).set v none := (rfl)
@[simp] theorem x_gun {gs : List Tg} : gUn gs d s h = match rowOf h d with
  | some xs => unp gs xs s h
  | none => none := (rfl)
@[simp] theorem x_unp_nil : unp [] [] s h = some s := (rfl)
@[simp] theorem x_unp_cons {gs : List Tg} {ds : List D} : unp (g :: gs) (d :: ds) s h = match g d s h with
  | some s' => unp gs ds s' h
  | none => none := (rfl)
@[simp] theorem x_run {n N : Nat} {md : Md} {ds : List D} : runF n N md b ds h = if ds.length = n then (match b (ds.map some ++ List.replicate (N - n) none) h with
  | .nx _ h' => exitF md h .non h'
  | .rt d h' => exitF md h d h'
  | .er x _ h' => exitX h x h'
  | _ => .bad) else .bad := (rfl)
theorem x_loop_nil : loopS g b [] s h = .nx s h := (rfl)
theorem x_loop_cons {ds : List D} : loopS g b (d :: ds) s h = match g d s h with
  | some s' => afterT (b s' h) (loopS g b ds)
  | none => .bad := (rfl)
end
@[simp] theorem size_val : sizeLine = 16777216 := (rfl)
theorem small_bd {i : Int} (h0 : -18446744073709551616 < i) (h1 : i < 18446744073709551616) : smallI i := ⟨by omega, by omega⟩
theorem divOk {j : Int} (h0 : 0 < j) (h1 : j < 18446744073709551616) : divOk0 j := by
  refine ⟨h0, ?_⟩
  have h2 : j.natAbs ≠ 0 := by omega
  have h3 : j.natAbs < 2 ^ 64 := by omega
  have := (Nat.log2_lt h2).mpr h3
  omega
@[simp] theorem x_fdv {i j : Int} {h : Hs} (h0 : 0 < j) (h1 : j < 18446744073709551616) : fdivD (.int i) (.int j) h = .ok (.int (i / j)) h := by
  rw [x_fdiv, if_pos (divOk h0 h1)]
@[simp] theorem x_pw {i j : Int} {h : Hs} (h0 : 0 ≤ j) (h1 : j ≤ 1000000) (h2 : -18446744073709551616 < i) (h3 : i < 18446744073709551616) : powD (.int i) (.int j) h = .ok (.int (i ^ j.toNat)) h := by
  rw [x_pow, if_pos ⟨h0, h1, by omega⟩]
@[simp] theorem x_md {i j : Int} {h : Hs} (h0 : 0 < j) : modD (.int i) (.int j) h = .ok (.int (i % j)) h := by
  rw [x_mod, if_pos h0]
@[simp] theorem x_mlL {i j : Int} {h : Hs} (h0 : -18446744073709551616 < i) (h1 : i < 18446744073709551616) : mulD (.int i) (.int j) h = .ok (.int (i * j)) h := by
  rw [x_mul, if_pos (.inl (small_bd h0 h1))]
@[simp] theorem x_mlR {i j : Int} {h : Hs} (h0 : -18446744073709551616 < j) (h1 : j < 18446744073709551616) : mulD (.int i) (.int j) h = .ok (.int (i * j)) h := by
  rw [x_mul, if_pos (.inr (small_bd h0 h1))]
def isW (lo hi : Int) : D → Bool
  | .int i => decide (lo ≤ i) && decide (i ≤ hi)
  | _ => false
@[simp] theorem isW_int {lo hi i : Int} : isW lo hi (.int i) = (decide (lo ≤ i) && decide (i ≤ hi)) := (rfl)
def D.isI : D → Bool
  | .int _ => true
  | .bl _ => true
  | _ => false
def D.isB : D → Bool
  | .bl _ => true
  | _ => false
def D.isT : D → Bool
  | .tup _ => true
  | _ => false
def D.isS : D → Bool
  | .str _ => true
  | _ => false
@[simp] theorem isSub_int {h : Hs} {d : D} : isSub (tyD h d) "int" = d.isI := by
  cases d with
  | loc n =>
    simp only [tyD]
    cases h[n]? with
    | none => simp [tyO, isSub, D.isI]
    | some o => cases o with
      | lst xs => simp [tyO, isSub, D.isI]
  | _ => simp [tyD, isSub, D.isI]
@[simp] theorem isSub_bool {h : Hs} {d : D} : isSub (tyD h d) "bool" = d.isB := by
  cases d with
  | loc n =>
    simp only [tyD]
    cases h[n]? with
    | none => simp [tyO, isSub, D.isB]
    | some o => cases o with
      | lst xs => simp [tyO, isSub, D.isB]
  | _ => simp [tyD, isSub, D.isB]
@[simp] theorem isSub_tuple {h : Hs} {d : D} : isSub (tyD h d) "tuple" = d.isT := by
  cases d with
  | loc n =>
    simp only [tyD]
    cases h[n]? with
    | none => simp [tyO, isSub, D.isT]
    | some o => cases o with
      | lst xs => simp [tyO, isSub, D.isT]
  | _ => simp [tyD, isSub, D.isT]
@[simp] theorem isSub_str {h : Hs} {d : D} : isSub (tyD h d) "str" = d.isS := by
  cases d with
  | loc n =>
    simp only [tyD]
    cases h[n]? with
    | none => simp [tyO, isSub, D.isS]
    | some o => cases o with
      | lst xs => simp [tyO, isSub, D.isS]
  | _ => simp [tyD, isSub, D.isS]
@[simp] theorem isSub_list {h : Hs} {d : D} : isSub (tyD h d) "list" = (lstOf h d).isSome := by
  cases d with
  | loc n =>
    simp only [tyD, lstOf, lstX, locAt]
    cases h[n]? with
    | none => simp [tyO, isSub]
    | some o => cases o with
      | lst xs => simp [tyO, isSub, O.items]
  | _ => simp [tyD, isSub, lstOf, lstX]
@[simp] theorem isRow_or {h : Hs} {d : D} : ((lstOf h d).isSome || d.isT) = (rowOf h d).isSome := by
  cases d with
  | tup xs => simp [rowOf, D.isT]
  | _ => simp [rowOf, D.isT]
@[simp] theorem isI_int {i : Int} : (D.int i).isI = true := (rfl)
@[simp] theorem isB_int {i : Int} : (D.int i).isB = false := (rfl)
@[simp] theorem isI_bl {i : Bool} : (D.bl i).isI = true := (rfl)
@[simp] theorem isB_bl {i : Bool} : (D.bl i).isB = true := (rfl)
@[simp] theorem isT_tup {i : List D} : (D.tup i).isT = true := (rfl)
@[simp] theorem isT_int {i : Int} : (D.int i).isT = false := (rfl)
@[simp] theorem isT_non : D.non.isT = false := (rfl)
@[simp] theorem isI_non : D.non.isI = false := (rfl)
@[simp] theorem isI_tup {i : List D} : (D.tup i).isI = false := (rfl)
@[simp] theorem isT_bl {i : Bool} : (D.bl i).isT = false := (rfl)
@[simp] theorem isT_loc {i : Nat} : (D.loc i).isT = false := (rfl)
@[simp] theorem x_row_int {h : Hs} {i : Int} : rowOf h (.int i) = none := (rfl)
@[simp] theorem x_row_non {h : Hs} : rowOf h .non = none := (rfl)
@[simp] theorem x_row_bl {h : Hs} {i : Bool} : rowOf h (.bl i) = none := (rfl)
@[simp] theorem x_lo_tup {h : Hs} {i : List D} : lstOf h (.tup i) = none := (rfl)
@[simp] theorem x_lo_int {h : Hs} {i : Int} : lstOf h (.int i) = none := (rfl)
def Itr (fi : FI) (s : Ss) (h h1 : Hs) (xs : List D) : Prop := ∃ it, fi s h = .ok it h1 ∧ itemsOf h1 it = some xs
theorem Itr.row {f : FE} {s : Ss} {h h1 : Hs} {d : D} {xs : List D} (e : f s h = .ok d h1) (hr : rowOf h1 d = some xs) : Itr (iRow f) s h h1 xs := iRow_ok e hr
theorem Itr.tup {f : FE} {s : Ss} {h h1 : Hs} {xs : List D} (e : f s h = .ok (.tup xs) h1) : Itr (iRow f) s h h1 xs := ⟨.seq xs, by unfold iRow; rw [e]; rfl, rfl⟩
theorem Itr.lst {f : FE} {s : Ss} {h h1 : Hs} {xs : List D} (e : f s h = .ok (.lst xs) h1) : Itr (iRow f) s h h1 xs := ⟨.seq xs, by unfold iRow; rw [e]; rfl, rfl⟩
theorem Itr.enT {f : FA} {s : Ss} {h h1 : Hs} {xs : List D} (e : f s h = .ok [.tup xs] h1) : Itr (iEnumerate f) s h h1 (enL 0 xs) := ⟨.seq _, by unfold iEnumerate; rw [e]; rfl, rfl⟩
theorem Itr.enLs {f : FA} {s : Ss} {h h1 : Hs} {xs : List D} (e : f s h = .ok [.lst xs] h1) : Itr (iEnumerate f) s h h1 (enL 0 xs) := ⟨.seq _, by unfold iEnumerate; rw [e]; rfl, rfl⟩
theorem Itr.zpL {f : FA} {s : Ss} {h h1 : Hs} {xs ys : List D} (e : f s h = .ok [.lst xs, .lst ys] h1) : Itr (iZip f) s h h1 (zpL xs ys) := ⟨.seq _, by unfold iZip; rw [e]; rfl, rfl⟩
def rgI (lo : Int) (n : Nat) : List Int := (List.range n).map fun (i : Nat) => lo + (i : Int)
theorem Itr.rng {f : FA} {s : Ss} {h h1 : Hs} {n : Int} (e : f s h = .ok [.int n] h1) (h1 : n ≤ 16777216) (h0 : -1000000000 ≤ n) : Itr (iRng1 f) s h ‹_› ((rgI 0 n.toNat).map D.int) := by
  refine ⟨.rng 0 n.toNat, ?_, ?_⟩
  · unfold iRng1
    rw [e, R.bind_ok]
    exact if_pos ⟨Int.le_trans (by decide) h0, Int.lt_of_le_of_lt h1 (by decide)⟩
  · show (if n.toNat ≤ sizeLine then some (rgL 0 n.toNat) else none) = _
    rw [if_pos (by rw [size_val]; omega), rgL_ints]; rfl
theorem Itr.rng2 {f : FA} {s : Ss} {h h1 : Hs} {m n : Int} (e : f s h = .ok [.int m, .int n] h1) (h2 : n ≤ 16000000) (h0 : -1000000000 ≤ n) (h3 : -500000 ≤ m) (h4 : m ≤ 1000000000) : Itr (iRng2 f) s h h1 ((rgI m (n - m).toNat).map D.int) := by
  refine ⟨.rng m (n - m).toNat, iRng2_ok e (by omega) (by omega), ?_⟩
  show (if (n - m).toNat ≤ sizeLine then some (rgL m (n - m).toNat) else none) = _
  rw [if_pos (by rw [size_val]; omega), rgL_ints]; rfl
theorem comp_ty {α : Type} {em : α → D} {m : Bool} {vs : List Nat} {fi : FI} {g : Tg} {tt : FT} {te : FE} {s : Ss} {h h1 : Hs} {xs : List α} (p : α → Bool) (F : α → D) (hi : Itr fi s h h1 (xs.map em))
    (hs : ∀ x ∈ xs, ∃ s2, g (em x) (wipeS s vs) h1 = some s2 ∧ tt s2 h1 = .ok (p x) h1 ∧ (p x = true → te s2 h1 = .ok (F x) h1)) : eComp m vs fi g tt te s h = newL m ((xs.filter p).map F) h1 := by
  obtain ⟨it, e1, e2⟩ := hi
  unfold eComp
  rw [e1, R.bind_ok]
  have main : ∀ (ys : List α) (acc : List D), (∀ y ∈ ys, y ∈ xs) → compA g tt te (wipeS s vs) (newL m) (ys.map em) acc h1 = newL m (acc ++ (ys.filter p).map F) h1 := by
    intro ys
    induction ys with
    | nil => intro acc _; simp [compA]
    | cons y ys ih =>
      intro acc hy
      obtain ⟨s2, k1, k2, k3⟩ := hs y (hy y List.mem_cons_self)
      have ih := fun acc => ih acc fun z hz => hy z (List.mem_cons_of_mem _ hz)
      rw [List.map_cons]
      unfold compA stepC
      simp only [k1, k2, x_quiet_ok, R.bind_ok]
      cases hp : p y with
      | true => simp [k3 hp, ih, hp]
      | false => simp [ih, hp]
  have loc : ∀ n, locAt h1 n = some (xs.map em) → ∀ (k i : Nat) (acc : List D), xs.length - i < k → acc.length ≤ i → i ≤ xs.length → compL g tt te (wipeS s vs) n (newL m) k i acc h1 = newL m (acc ++ ((xs.drop i).filter p).map F) h1 := by
    intro n e k
    induction k with
    | zero => intro i acc hm; omega
    | succ k ih =>
      intro i acc hm ha hi
      unfold compL
      rw [e]
      dsimp only
      by_cases hl : i < xs.length
      · have hl2 : (xs.map em)[i]? = some (em xs[i]) := by simp [List.getElem?_eq_getElem hl]
        rw [hl2, List.drop_eq_getElem_cons hl]
        obtain ⟨s2, k1, k2, k3⟩ := hs xs[i] (List.getElem_mem hl)
        dsimp only
        unfold stepC
        simp only [k1, k2, x_quiet_ok, R.bind_ok]
        cases hp : p xs[i] with
        | true =>
          simp only [if_true, k3 hp, x_quiet_ok, R.bind_ok]
          rw [ih (i + 1) _ (by omega) (by simp; omega) hl, List.filter_cons_of_pos hp, List.map_cons]
          simp only [List.append_assoc, List.singleton_append]
        | false =>
          simp only [Bool.false_eq_true, if_false]
          rw [ih (i + 1) _ (by omega) (by omega) hl, List.filter_cons_of_neg (by rw [hp]; decide)]
      · rw [List.getElem?_eq_none (by simp; omega), List.drop_eq_nil_of_le (by omega)]
        simp
  cases it with
  | seq ds =>
    simp only [itemsOf] at e2
    cases e2
    have := main xs [] fun _ h => h
    simpa using this
  | rng lo n =>
    simp only [itemsOf] at e2
    split at e2
    · rename_i hz
      have e3 : rgL lo n = xs.map em := by injection e2
      dsimp only
      rw [if_pos hz, e3]
      have := main xs [] fun _ h => h
      simpa using this
    · cases e2
  | loc n =>
    have el : locAt h1 n = some (xs.map em) := e2
    have := loc n el ((xs.map em).length + 1) 0 [] (by simp) (Nat.le_refl _) (Nat.zero_le _)
    dsimp only
    rw [el]
    simpa using this
@[simp] theorem filt_true {α : Type} (xs : List α) : xs.filter (fun _ => true) = xs := List.filter_eq_self.mpr (by simp)
theorem comp_map {α : Type} {em : α → D} {m : Bool} {vs : List Nat} {fi : FI} {g : Tg} {te : FE} {s : Ss} {h h1 : Hs} {xs : List α} (F : α → D) (hi : Itr fi s h h1 (xs.map em))
    (hs : ∀ x ∈ xs, ∃ s2, g (em x) (wipeS s vs) h1 = some s2 ∧ te s2 h1 = .ok (F x) h1) : eComp m vs fi g tYesF te s h = newL m (xs.map F) h1 := by
  rw [comp_ty (fun _ => true) F hi fun x hx => ?_, filt_true]
  obtain ⟨s2, k1, k2⟩ := hs x hx
  exact ⟨s2, k1, rfl, fun _ => k2⟩
/-- a walk over what does not change -/
theorem for_itr {fi : FI} {g : Tg} {b : FS} {s : Ss} {h h1 : Hs} {xs : List D} (hi : Itr fi s h h1 xs) (hl : ∀ n, fi s h ≠ .ok (.loc n) h1) : sFor fi g b s h = loopS g b xs s h1 := by
  obtain ⟨it, e1, e2⟩ := hi
  cases it with
  | seq ds => cases e2; exact sFor_seq e1
  | rng lo n =>
    simp only [itemsOf] at e2
    split at e2
    · cases e2; exact sFor_rng e1
    · cases e2
  | loc n => exact absurd e1 (hl n)
theorem for_tup {f : FE} {g : Tg} {b : FS} {s : Ss} {h h1 : Hs} {xs : List D} (e : f s h = .ok (.tup xs) h1) : sFor (iRow f) g b s h = loopS g b xs s h1 := sFor_seq (by unfold iRow; rw [e]; rfl)
theorem for_lst {f : FE} {g : Tg} {b : FS} {s : Ss} {h h1 : Hs} {xs : List D} (e : f s h = .ok (.lst xs) h1) : sFor (iRow f) g b s h = loopS g b xs s h1 := sFor_seq (by unfold iRow; rw [e]; rfl)
theorem for_rng {f : FA} {g : Tg} {b : FS} {s : Ss} {h h1 : Hs} {n : Int} (e : f s h = .ok [.int n] h1) (h2 : n ≤ 1000000000) (h0 : -1000000000 ≤ n) : sFor (iRng1 f) g b s h = loopS g b ((rgI 0 n.toNat).map D.int) s h1 := by
  have : iRng1 f s h = .ok (.rng 0 n.toNat) h1 := by
    unfold iRng1
    rw [e, R.bind_ok]
    exact if_pos ⟨Int.le_trans (by decide) h0, Int.lt_of_le_of_lt h2 (by decide)⟩
  rw [sFor_rng this, rgL_ints]; rfl
theorem for_rngN {f : FA} {g : Tg} {b : FS} {s : Ss} {h h1 : Hs} {n : Nat} (e : f s h = .ok [.int n] h1) (h2 : n ≤ 1000000000) : sFor (iRng1 f) g b s h = loopS g b ((List.range n).map fun (k : Nat) => .int k) s h1 := by
  rw [for_rng e (by omega) (by omega)]
  simp [rgI, Function.comp_def]
theorem Itr.rngN {f : FA} {s : Ss} {h h1 : Hs} {n : Nat} (e : f s h = .ok [.int n] h1) (h2 : n ≤ 16777216) : Itr (iRng1 f) s h h1 ((List.range n).map fun (k : Nat) => .int k) := by
  have := Itr.rng (n := n) e (by omega) (by omega)
  simpa [rgI, Function.comp_def] using this
theorem for_rng2 {f : FA} {g : Tg} {b : FS} {s : Ss} {h h1 : Hs} {m n : Int} (e : f s h = .ok [.int m, .int n] h1) (h2 : n ≤ 1000000000) (h0 : -1000000000 ≤ n) (h3 : -1000000000 ≤ m) (h4 : m ≤ 1000000000) : sFor (iRng2 f) g b s h = loopS g b ((rgI m (n - m).toNat).map D.int) s h1 := by
  rw [sFor_rng (iRng2_ok e (by omega) (by omega)), rgL_ints]; rfl
theorem for_enT {f : FA} {g : Tg} {b : FS} {s : Ss} {h h1 : Hs} {xs : List D} (e : f s h = .ok [.tup xs] h1) : sFor (iEnumerate f) g b s h = loopS g b (enL 0 xs) s h1 := sFor_seq (by unfold iEnumerate; rw [e]; rfl)
theorem for_enL {f : FA} {g : Tg} {b : FS} {s : Ss} {h h1 : Hs} {xs : List D} (e : f s h = .ok [.lst xs] h1) : sFor (iEnumerate f) g b s h = loopS g b (enL 0 xs) s h1 := sFor_seq (by unfold iEnumerate; rw [e]; rfl)
theorem for_zpL {f : FA} {g : Tg} {b : FS} {s : Ss} {h h1 : Hs} {xs ys : List D} (e : f s h = .ok [.lst xs, .lst ys] h1) : sFor (iZip f) g b s h = loopS g b (zpL xs ys) s h1 := sFor_seq (by unfold iZip; rw [e]; rfl)
theorem for_zpT {f : FA} {g : Tg} {b : FS} {s : Ss} {h h1 : Hs} {xs ys : List D} (e : f s h = .ok [.tup xs, .tup ys] h1) : sFor (iZip f) g b s h = loopS g b (zpL xs ys) s h1 := sFor_seq (by unfold iZip; rw [e]; rfl)
def cutG {α : Type} (xs : List α) (lo hi : Option Int) : List α := (xs.drop (HT.sIx xs.length 0 lo)).take (HT.sIx xs.length xs.length hi - HT.sIx xs.length 0 lo)
theorem cutD_eq (xs : List D) (lo hi : Option Int) : cutD xs lo hi = cutG xs lo hi := rfl
theorem cutG_map {α β : Type} (f : α → β) (xs : List α) (lo hi : Option Int) : cutG (xs.map f) lo hi = (cutG xs lo hi).map f := by
  unfold cutG
  simp [List.map_take, List.map_drop]
theorem sIx_pos {n d : Nat} {v : Int} (h : 0 ≤ v) : HT.sIx n d (some v) = min v.toNat n := by
  unfold HT.sIx
  exact if_neg (by omega)
theorem cut_lo {α : Type} {xs : List α} {v : Int} (h : 0 ≤ v) : cutG xs (some v) none = xs.drop v.toNat := by
  unfold cutG
  rw [sIx_pos h, HT.sIx_none]
  by_cases hv : v.toNat ≤ xs.length
  · rw [Nat.min_eq_left hv, List.take_of_length_le (by simp)]
  · rw [List.drop_eq_nil_of_le (by omega), List.drop_eq_nil_of_le (by omega)]; simp
theorem cut_hi {α : Type} {xs : List α} {v : Int} (h : 0 ≤ v) : cutG xs none (some v) = xs.take v.toNat := by
  unfold cutG
  rw [sIx_pos h, HT.sIx_none, List.drop_zero, Nat.sub_zero]
  by_cases hv : v.toNat ≤ xs.length
  · rw [Nat.min_eq_left hv]
  · rw [Nat.min_eq_right (by omega), List.take_of_length_le (Nat.le_refl _), List.take_of_length_le (by omega)]
theorem cut_lohi {α : Type} {xs : List α} {u v : Int} (h : 0 ≤ u) (h2 : 0 ≤ v) : cutG xs (some u) (some v) = (xs.drop u.toNat).take (v.toNat - u.toNat) := by
  unfold cutG
  rw [sIx_pos h, sIx_pos h2]
  by_cases hu : u.toNat ≤ xs.length
  · rw [Nat.min_eq_left hu]
    by_cases hv : v.toNat ≤ xs.length
    · rw [Nat.min_eq_left hv]
    · rw [Nat.min_eq_right (by omega), List.take_of_length_le (by simp), List.take_of_length_le (by simp; omega)]
  · rw [List.drop_eq_nil_of_le (by omega), List.drop_eq_nil_of_le (by omega)]; simp
@[simp] theorem cut_lo0 {α : Type} {xs : List α} : cutG xs (some 0) none = xs := by simp [cut_lo]
@[simp] theorem cut_none {α : Type} {xs : List α} : cutG xs none none = xs := by simp [cutG, HT.sIx_none]
@[simp] theorem cut_lo1 {α : Type} {xs : List α} : cutG xs (some 1) none = xs.drop 1 := cut_lo (by decide)
@[simp] theorem cut_hi1 {α : Type} {xs : List α} : cutG xs none (some 1) = xs.take 1 := cut_hi (by decide)
@[simp] theorem sl_tup {m : Bool} {xs : List D} {lo hi : Option Int} {h : Hs} : slD m (.tup xs) lo hi h = .ok (.tup (cutG xs lo hi)) h := (rfl)
@[simp] theorem sl_lst {m : Bool} {xs : List D} {lo hi : Option Int} {h : Hs} : slD m (.lst xs) lo hi h = newL m (cutG xs lo hi) h := (rfl)
theorem sl_loc {m : Bool} {n : Nat} {xs : List D} {lo hi : Option Int} {h : Hs} (e : locAt h n = some xs) : slD m (.loc n) lo hi h = newL m (cutG xs lo hi) h := by
  show (match lstOf h (.loc n) with | some xs => newL m (cutD xs lo hi) h | none => .bad) = _
  rw [show lstOf h (.loc n) = some xs from e]; rfl
@[simp] theorem add_lst {xs ys : List D} {h : Hs} (hz : xs.length + ys.length ≤ 16777216) : addD (.lst xs) (.lst ys) h = .ok (.lst (xs ++ ys)) h := by
  simp [addD, lstX, hz]
@[simp] theorem add_tup {xs ys : List D} {h : Hs} (hz : xs.length + ys.length ≤ 16777216) : addD (.tup xs) (.tup ys) h = .ok (.tup (xs ++ ys)) h := by
  simp [addD, hz]
theorem add_row {x y : D} {xs ys : List D} {h : Hs} (hx : lstX h x = some xs) (hy : lstX h y = some ys) (hz : xs.length + ys.length ≤ 16777216) : addD x y h = .ok (.lst (xs ++ ys)) h := by
  have hz' : xs.length + ys.length ≤ sizeLine := hz
  cases x <;> first | (cases hx; done) | (cases y <;> first | (cases hy; done) | (simp only [addD, hx, hy, if_pos hz']))
@[simp] theorem max_row {ns : List Int} {d : D} {h : Hs} (hr : rowOf h d = some (ns.map D.int)) (h0 : 0 < ns.length) : maxD [d] h = .ok (.int (maxL ns)) h := by
  cases d <;> first | (cases hr; done) | (simp only [maxD]; rw [hr]; simp [h0])
@[simp] theorem min_row {ns : List Int} {d : D} {h : Hs} (hr : rowOf h d = some (ns.map D.int)) (h0 : 0 < ns.length) : minD [d] h = .ok (.int (minL ns)) h := by
  cases d <;> first | (cases hr; done) | (simp only [minD]; rw [hr]; simp [h0])
theorem rgC_ok {i j c : Int} (h0 : 0 ≤ i) (h1 : i ≤ 1000000) (h2 : 0 ≤ j) (h3 : j ≤ 1000000) (h4 : 1 ≤ c) (h5 : c ≤ 1000000) : RgC i j c (Builtin.Range.rangeSize i j c).toNat ∧ (Builtin.Range.rangeSize i j c).toNat ≤ sizeLine := by
  have hs : Builtin.Range.rangeSize i j c = if i < j then (j - i - 1) / c + 1 else 0 := by
    unfold Builtin.Range.rangeSize
    rw [if_pos (show c > 0 by omega)]
  have hb : i < j → 0 ≤ (j - i - 1) / c ∧ (j - i - 1) / c ≤ 1000000 := fun hij => by
    refine ⟨Int.ediv_nonneg (by omega) (by omega), ?_⟩
    have := Int.ediv_le_self (a := j - i - 1) c (by omega)
    omega
  have hr : 0 ≤ Builtin.Range.rangeSize i j c ∧ Builtin.Range.rangeSize i j c ≤ 1000001 := by
    rw [hs]
    split
    · rename_i hij
      have := hb hij
      omega
    · omega
  refine ⟨⟨by omega, by omega, ?_, by omega⟩, by rw [size_val]; omega⟩
  unfold Builtin.Range.small
  generalize Builtin.Range.rangeSize i j c = n at hr
  simp only [Builtin.Range.rangeFitsLong, Bool.and_eq_true, Bool.or_eq_true, decide_eq_true_eq, beq_iff_eq, show c > 0 by omega, if_true]
  omega
def rgS (i c : Int) (n : Nat) : List Int := (List.range n).map fun (k : Nat) => i + (k : Nat) * c
theorem for_rngC {f : FA} {g : Tg} {b : FS} {s : Ss} {h h' : Hs} {i j c : Int} (e : f s h = .ok [.int i, .int j, .int c] h') (h0 : 0 ≤ i) (h1 : i ≤ 1000000) (h2 : 0 ≤ j) (h3 : j ≤ 1000000) (h4 : 1 ≤ c) (h5 : c ≤ 1000000) :
    ∃ ks : List Int, (∀ k ∈ ks, i ≤ k ∧ k < j) ∧ ks.Pairwise (· < ·) ∧ ks.length ≤ 1000001 ∧ sFor (iRngC f) g b s h = loopS g b (ks.map D.int) s h' := by
  have hs : Builtin.Range.rangeSize i j c = if i < j then (j - i - 1) / c + 1 else 0 := by
    unfold Builtin.Range.rangeSize
    rw [if_pos (show c > 0 by omega)]
  have hok := rgC_ok h0 h1 h2 h3 h4 h5
  refine ⟨rgS i c (Builtin.Range.rangeSize i j c).toNat, fun k hk => ?_, ?_, ?_, ?_⟩
  · unfold rgS at hk
    simp only [List.mem_map, List.mem_range] at hk
    obtain ⟨m, hm, rfl⟩ := hk
    rw [hs] at hm
    split at hm
    · rename_i hij
      have hq := Int.ediv_nonneg (a := j - i - 1) (b := c) (by omega) (by omega)
      have hm' : (m : Int) ≤ (j - i - 1) / c := by omega
      have h6 : (m : Int) * c ≤ (j - i - 1) / c * c := Int.mul_le_mul_of_nonneg_right hm' (by omega)
      have h7 : (j - i - 1) / c * c ≤ j - i - 1 := Int.ediv_mul_le _ (by omega)
      have h8 : 0 ≤ (m : Int) * c := Int.mul_nonneg (by omega) (by omega)
      omega
    · omega
  · unfold rgS
    rw [List.pairwise_map]
    refine List.Pairwise.imp (fun {a b} hab => ?_) List.pairwise_lt_range
    have : (a : Int) * c < (b : Int) * c := Int.mul_lt_mul_of_pos_right (by omega) (by omega)
    omega
  · have : (Builtin.Range.rangeSize i j c).toNat ≤ 1000001 := by
      rw [hs]
      split
      · have := Int.ediv_le_self (a := j - i - 1) c (by omega)
        omega
      · omega
    simpa [rgS] using this
  · have ei : iRngC f s h = .ok (.seq (rgC i c (Builtin.Range.rangeSize i j c).toNat)) h' := by
      unfold iRngC
      rw [e, R.bind_ok]
      exact if_pos hok
    rw [sFor_seq ei]
    unfold rgC rgS
    rw [List.map_map]
    rfl
end WD
namespace WD
open PySem PySem.Spec PyProof.Rows L2
theorem set_same {g : Hs} {r : Nat} {xs : List D} (h : locAt g r = some xs) : g.set r (.lst xs) = g := by
  have h1 := locAt_some h
  have hl := lt_of_get h1
  apply List.ext_getElem?
  intro j
  by_cases hj : r = j
  · subst hj; rw [List.getElem?_set_self hl, h1]
  · rw [List.getElem?_set_ne hj]
theorem app_at {h : Hs} {n : Nat} {xs : List D} {d : D} (e : locAt h n = some xs) (hz : xs.length < 16777216) : appendD (.loc n) [d] h = .ok .non (h.set n (.lst (xs ++ [d]))) := by
  have hz' : xs.length < sizeLine := by simpa using hz
  simp only [appendD, e, if_pos hz']
theorem app_last {g : Hs} {xs : List D} {d : D} (hz : xs.length < 16777216) : appendD (.loc g.length) [d] (g ++ [.lst xs]) = .ok .non (g ++ [.lst (xs ++ [d])]) := by
  rw [app_at locAt_end hz, set_end]
theorem split_last {α : Type} {l : List α} (h : 0 < l.length) : ∃ ds d, l = ds ++ [d] :=
  ⟨l.dropLast, l.getLast (by intro e; subst e; simp at h), (List.dropLast_concat_getLast _).symm⟩
theorem pop_head {ds : List Int} {d : Int} {t : Hs} : popD (.loc 0) [] (.lst ((ds ++ [d]).map D.int) :: t) = .ok (.int d) (.lst (ds.map D.int) :: t) := by
  simp [popD]
@[simp] theorem pop_head' {ds : List Int} {d : Int} {t : Hs} : popD (.loc 0) [] (.lst (ds.map D.int ++ [D.int d]) :: t) = .ok (.int d) (.lst (ds.map D.int) :: t) := by
  have := pop_head (ds := ds) (d := d) (t := t)
  rwa [List.map_append] at this
@[simp] theorem lstOf_head {xs : List D} {t : Hs} : lstOf (.lst xs :: t) (.loc 0) = some xs := (rfl)
theorem locAt_cons_end {o : O} {r : Hs} {xs : List D} {t : Hs} : locAt (o :: (r ++ (.lst xs :: t))) (r.length + 1) = some xs := by
  have := locAt_end (g := o :: r) (xs := xs) (t := t)
  simpa using this
theorem trunc_head {o o' : O} {r t : Hs} (ho : o'.und (r.length + 1) = true) : TruncOk (o :: r).length (o :: r) (o' :: (r ++ t)) := fun i u hi e => by
  cases i with
  | zero => cases e; exact .inr ho
  | succ i =>
    simp only [List.length_cons] at hi
    rw [List.getElem?_cons_succ, List.getElem?_append_left (by omega)] at e
    exact .inl (by rw [List.getElem?_cons_succ]; exact e)
theorem exitT_head {o o' : O} {r t : Hs} {d : D} (ho : o'.und (r.length + 1) = true) (hd : d.und (r.length + 1) = true) : exitT (o :: r) d (o' :: (r ++ t)) = .ok d (o' :: r) := by
  unfold exitT
  rw [if_pos (trunc_head ho)]
  unfold frz1
  rw [if_pos (by simpa using hd)]
  simp
theorem exitT_head0 {o o' : O} {r : Hs} {d : D} (ho : o'.und (r.length + 1) = true) (hd : d.und (r.length + 1) = true) : exitT (o :: r) d (o' :: r) = .ok d (o' :: r) := by
  have := exitT_head (o := o) (t := []) ho hd
  simpa using this
theorem exitT_headF {o o' : O} {r t : Hs} {xs : List D} (ho : o'.und (r.length + 1) = true) (hx : undL (r.length + 1) xs = true) : exitT (o :: r) (.loc (r.length + 1)) (o' :: (r ++ (.lst xs :: t))) = .ok (.lst xs) (o' :: r) := by
  unfold exitT
  rw [if_pos (trunc_head ho)]
  unfold frz1
  rw [if_neg (by simp [D.und])]
  have e : locAt (o' :: (r ++ (.lst xs :: t))) (r.length + 1) = some xs := locAt_cons_end
  simp [e, hx]
theorem set_cons_end {o x y : O} {r t : Hs} : (o :: (r ++ (x :: t))).set (r.length + 1) y = o :: (r ++ (y :: t)) := by
  have := set_end (g := o :: r) (o := x) (x := y) (t := t)
  simpa using this
@[simp] theorem und_O_ints {n : Nat} {ds : List Int} : (O.lst (ds.map D.int)).und n = true := by simp [O.und]
theorem undL_map {α : Type} {f : α → D} {n : Nat} {xs : List α} (h : ∀ x ∈ xs, (f x).und n = true) : undL n (xs.map f) = true := undL_iff.mpr (by
  intro d hd
  obtain ⟨x, hx, rfl⟩ := List.mem_map.mp hd
  exact h x hx)
theorem ix_mem {h : Hs} {d : D} {xs : List D} {i : Int} (hr : rowOf h d = some xs) (h0 : 0 ≤ i) (h1 : i < xs.length) : ixD d (.int i) h = .ok (xs[i.toNat]'(by omega)) h := x_ix_row hr (atI_in h0 h1)
theorem ix_any {h : Hs} {d : D} {xs : List D} {i : Int} (hr : rowOf h d = some xs) (h0 : 0 ≤ i) (h1 : i < xs.length) : ∃ e ∈ xs, ixD d (.int i) h = .ok e h := by
  have hl : i.toNat < xs.length := by omega
  exact ⟨xs[i.toNat], List.getElem_mem hl, x_ix_row hr (atI_in h0 h1)⟩
theorem ix_ints {h : Hs} {d : D} {ns : List Int} {i : Int} (hr : rowOf h d = some (ns.map D.int)) (h0 : 0 ≤ i) (h1 : i < ns.length) : ixD d (.int i) h = .ok (.int (ns.getD i.toNat 0)) h := by
  rw [ix_mem hr h0 (by simpa using h1)]
  simp [List.getD, List.getElem?_eq_getElem (show i.toNat < ns.length by omega)]
theorem set_ints {h : Hs} {n : Nat} {ns : List Int} {i v : Int} (e : locAt h n = some (ns.map D.int)) (h0 : 0 ≤ i) (h1 : i < ns.length) : setD (.loc n) (.int i) (.int v) h = some (h.set n (.lst ((ns.set i.toNat v).map D.int))) := by
  simp only [setD, e, List.length_map, ixN_in h0 h1, List.map_set]
@[simp] theorem at2a {g : Hs} {xs ys : List D} : locAt (g ++ [.lst xs, .lst ys]) g.length = some xs := locAt_end
@[simp] theorem at2b {g : Hs} {xs ys : List D} : locAt (g ++ [.lst xs, .lst ys]) (g.length + 1) = some ys := by
  have := locAt_end (g := g ++ [.lst xs]) (xs := ys) (t := [])
  simpa using this
@[simp] theorem set2a {g : Hs} {x y z : O} : (g ++ [x, y]).set g.length z = g ++ [z, y] := set_end
@[simp] theorem set2b {g : Hs} {x y z : O} : (g ++ [x, y]).set (g.length + 1) z = g ++ [x, z] := by
  have := set_end (g := g ++ [x]) (o := y) (x := z) (t := [])
  simpa using this
/-- told apart by == just where they are unlike -/
class EqE {α : Type} (f : α → D) : Prop where
  ex : ∃ (py : α → PyData) (n : Nat), n ≤ 50 ∧ (∀ h m a, n ≤ m → toP h m (f a) = some (py a)) ∧ ∀ a b, PyData.eqv (py a) (py b) = true ↔ a = b
instance : EqE D.int := ⟨PyData.int, 0, by omega, fun h m a _ => toP_int, fun a b => by simp [PyData.eqv]⟩
instance : EqE D.bl := ⟨PyData.bool, 0, by omega, fun h m a _ => toP_bl, fun a b => by cases a <;> cases b <;> simp [PyData.eqv]⟩
theorem eqvAll_iff {α : Type} {py : α → PyData} (hq : ∀ a b, PyData.eqv (py a) (py b) = true ↔ a = b) : ∀ xs ys : List α, PyData.eqvAll (xs.map py) (ys.map py) = true ↔ xs = ys
  | [], [] => by simp [PyData.eqvAll]
  | [], _ :: _ => by simp [PyData.eqvAll]
  | _ :: _, [] => by simp [PyData.eqvAll]
  | x :: xs, y :: ys => by simp [PyData.eqvAll, hq, eqvAll_iff hq xs ys]
class EqS {α : Type} (f : α → D) (k : Nat) : Prop where
  ex : ∃ (py : α → PyData), (∀ h m a, k ≤ m → toP h m (f a) = some (py a)) ∧ ∀ a b, PyData.eqv (py a) (py b) = true ↔ a = b
instance : EqS D.int 0 := ⟨PyData.int, fun h m a _ => toP_int, fun a b => by simp [PyData.eqv]⟩
instance : EqS D.bl 0 := ⟨PyData.bool, fun h m a _ => toP_bl, fun a b => by cases a <;> cases b <;> simp [PyData.eqv]⟩
theorem mapM_map {α : Type} {f : α → D} {py : α → PyData} {h : Hs} {m : Nat} (e : ∀ a, toP h m (f a) = some (py a)) : ∀ xs : List α, (xs.map f).mapM (toP h m) = some (xs.map py)
  | [] => rfl
  | x :: xs => by rw [List.map_cons, List.mapM_cons, e x, mapM_map e xs]; rfl
instance {α : Type} {f : α → D} {k : Nat} [E : EqS f k] : EqS (fun xs : List α => D.tup (xs.map f)) (k + 1) := by
  obtain ⟨py, h1, h2⟩ := E.ex
  refine ⟨fun xs => .tuple (xs.map py), fun h m xs hm => ?_, fun xs ys => by rw [PyData.eqv]; exact eqvAll_iff h2 xs ys⟩
  obtain ⟨m', rfl⟩ : ∃ m', m = m' + 1 := ⟨m - 1, by omega⟩
  exact toP_tup (mapM_map (fun a => h1 h m' a (by omega)) xs)
instance {α : Type} {f : α → D} {k : Nat} [E : EqS f k] : EqS (fun xs : List α => D.lst (xs.map f)) (k + 1) := by
  obtain ⟨py, h1, h2⟩ := E.ex
  refine ⟨fun xs => .list (xs.map py), fun h m xs hm => ?_, fun xs ys => by rw [PyData.eqv]; exact eqvAll_iff h2 xs ys⟩
  obtain ⟨m', rfl⟩ : ∃ m', m = m' + 1 := ⟨m - 1, by omega⟩
  exact toP_lst rfl (mapM_map (fun a => h1 h m' a (by omega)) xs)
theorem eq_of {α : Type} (f : α → D) {k : Nat} [E : EqS f k] (hk : k ≤ 64) {n : Bool} {a b : α} {h : Hs} [dd : Decidable (a = b)] : eqD n (f a) (f b) h = .ok (.bl (if n = true then !decide (a = b) else decide (a = b))) h := by
  obtain ⟨py, h1, h2⟩ := E.ex
  unfold eqD
  rw [h1 h 64 a hk, h1 h 64 b hk]
  have : PyData.eqv (py a) (py b) = decide (a = b) := by
    rw [Bool.eq_iff_iff, h2, decide_eq_true_iff]
  simp only [this]
/-- tuples of ints; of days -/
def iT (ns : List Int) : D := .tup (ns.map D.int)
def dT (r : List (List Int)) : D := .tup (r.map iT)
instance : EqS iT 1 := inferInstanceAs (EqS (fun xs : List Int => D.tup (xs.map D.int)) 1)
instance : EqS dT 2 := inferInstanceAs (EqS (fun xs : List (List Int) => D.tup (xs.map iT)) 2)
@[simp] theorem eq_iT {n : Bool} {a b : List Int} {h : Hs} : eqD n (iT a) (iT b) h = .ok (.bl (if n = true then !decide (a = b) else decide (a = b))) h := eq_of iT (k := 1) (by omega)
@[simp] theorem eq_dT {n : Bool} {a b : List (List Int)} {h : Hs} : eqD n (dT a) (dT b) h = .ok (.bl (if n = true then !decide (a = b) else decide (a = b))) h := eq_of dT (k := 2) (by omega)
@[simp] theorem eq_bl {n : Bool} {a b : Bool} {h : Hs} : eqD n (.bl a) (.bl b) h = .ok (.bl (if n = true then !decide (a = b) else decide (a = b))) h := eq_of D.bl (k := 0) (by omega)
@[simp] theorem row_iT {ns : List Int} {h : Hs} : rowOf h (iT ns) = some (ns.map D.int) := (rfl)
@[simp] theorem row_dT {r : List (List Int)} {h : Hs} : rowOf h (dT r) = some (r.map iT) := (rfl)
@[simp] theorem und_iT {ns : List Int} {n : Nat} : (iT ns).und n = true := by simp [iT]
@[simp] theorem und_dT {ns : List (List Int)} {n : Nat} : (dT ns).und n = true := by
  show (D.tup (ns.map iT)).und n = true
  rw [und_tup]
  exact undL_map fun _ _ => und_iT
@[simp] theorem len_iT {ns : List Int} {h : Hs} : lenD [iT ns] h = .ok (.int ns.length) h := by simp [iT]
@[simp] theorem len_dT {ns : List (List Int)} {h : Hs} : lenD [dT ns] h = .ok (.int ns.length) h := by simp [dT]
@[simp] theorem sl_iT {m : Bool} {xs : List Int} {lo hi : Option Int} {h : Hs} : slD m (iT xs) lo hi h = .ok (iT (cutG xs lo hi)) h := by
  simp [iT, cutG_map]
@[simp] theorem sl_dT {m : Bool} {xs : List (List Int)} {lo hi : Option Int} {h : Hs} : slD m (dT xs) lo hi h = .ok (dT (cutG xs lo hi)) h := by
  simp [dT, cutG_map]
@[simp] theorem add_iT {xs ys : List Int} {h : Hs} (hz : xs.length + ys.length ≤ 16777216) : addD (iT xs) (iT ys) h = .ok (iT (xs ++ ys)) h := by
  simp [iT, hz]
@[simp] theorem add_dT {xs ys : List (List Int)} {h : Hs} (hz : xs.length + ys.length ≤ 16777216) : addD (dT xs) (dT ys) h = .ok (dT (xs ++ ys)) h := by
  simp [dT, hz]
theorem ix_dT {r : List (List Int)} {i : Int} {h : Hs} (h0 : 0 ≤ i) (h1 : i < r.length) : ixD (dT r) (.int i) h = .ok (iT (r.getD i.toNat [])) h := by
  rw [ix_mem row_dT h0 (by simpa using h1)]
  simp [List.getD, List.getElem?_eq_getElem (show i.toNat < r.length by omega)]
theorem ix_iT {r : List Int} {i : Int} {h : Hs} (h0 : 0 ≤ i) (h1 : i < r.length) : ixD (iT r) (.int i) h = .ok (.int (r.getD i.toNat 0)) h := by
  rw [ix_mem row_iT h0 (by simpa using h1)]
  simp [List.getD, List.getElem?_eq_getElem (show i.toNat < r.length by omega)]
@[simp] theorem isT_iT {ns : List Int} : (iT ns).isT = true := (rfl)
@[simp] theorem isT_dT {ns : List (List Int)} : (dT ns).isT = true := (rfl)
@[simp] theorem lo_iT {ns : List Int} {h : Hs} : lstOf h (iT ns) = none := (rfl)
@[simp] theorem lo_dT {ns : List (List Int)} {h : Hs} : lstOf h (dT ns) = none := (rfl)
/-- still lists of ints; of days -/
def iL (ns : List Int) : D := .lst (ns.map D.int)
def dL (r : List (List Int)) : D := .lst (r.map iT)
theorem lst_ints {ns : List Int} : D.lst (ns.map D.int) = iL ns := rfl
theorem lst_days {ns : List (List Int)} : D.lst (ns.map iT) = dL ns := rfl
@[simp] theorem row_iL {ns : List Int} {h : Hs} : rowOf h (iL ns) = some (ns.map D.int) := (rfl)
@[simp] theorem row_dL {r : List (List Int)} {h : Hs} : rowOf h (dL r) = some (r.map iT) := (rfl)
@[simp] theorem lo_iL {ns : List Int} {h : Hs} : lstOf h (iL ns) = some (ns.map D.int) := (rfl)
@[simp] theorem lo_dL {ns : List (List Int)} {h : Hs} : lstOf h (dL ns) = some (ns.map iT) := (rfl)
@[simp] theorem tuple_iL {ns : List Int} {h : Hs} : tupleD [iL ns] h = .ok (iT ns) h := (rfl)
@[simp] theorem tuple_dL {ns : List (List Int)} {h : Hs} : tupleD [dL ns] h = .ok (dT ns) h := (rfl)
@[simp] theorem tuple_iT {ns : List Int} {h : Hs} : tupleD [iT ns] h = .ok (iT ns) h := (rfl)
@[simp] theorem tuple_dT {ns : List (List Int)} {h : Hs} : tupleD [dT ns] h = .ok (dT ns) h := (rfl)
@[simp] theorem len_iL {ns : List Int} {h : Hs} : lenD [iL ns] h = .ok (.int ns.length) h := by simp [iL]
@[simp] theorem len_dL {ns : List (List Int)} {h : Hs} : lenD [dL ns] h = .ok (.int ns.length) h := by simp [dL]
@[simp] theorem sum_iL {ns : List Int} {h : Hs} : sumD [iL ns] h = .ok (.int ns.sum) h := by simp [iL]
@[simp] theorem und_iL {ns : List Int} {n : Nat} : (iL ns).und n = true := by simp [iL]
@[simp] theorem und_dL {ns : List (List Int)} {n : Nat} : (dL ns).und n = true := by
  show (D.lst (ns.map iT)).und n = true
  rw [und_lst]
  exact undL_map fun _ _ => und_iT
@[simp] theorem isT_iL {ns : List Int} : (iL ns).isT = false := (rfl)
@[simp] theorem isT_dL {ns : List (List Int)} : (dL ns).isT = false := (rfl)
@[simp] theorem sl_iL {xs : List Int} {lo hi : Option Int} {h : Hs} : slD false (iL xs) lo hi h = .ok (iL (cutG xs lo hi)) h := by
  simp [iL, cutG_map]
@[simp] theorem sl_dL {xs : List (List Int)} {lo hi : Option Int} {h : Hs} : slD false (dL xs) lo hi h = .ok (dL (cutG xs lo hi)) h := by
  simp [dL, cutG_map]
@[simp] theorem add_iL {xs ys : List Int} {h : Hs} (hz : xs.length + ys.length ≤ 16777216) : addD (iL xs) (iL ys) h = .ok (iL (xs ++ ys)) h := by
  simp [iL, hz]
@[simp] theorem add_dL {xs ys : List (List Int)} {h : Hs} (hz : xs.length + ys.length ≤ 16777216) : addD (dL xs) (dL ys) h = .ok (dL (xs ++ ys)) h := by
  simp [dL, hz]
instance : EqS iL 1 := inferInstanceAs (EqS (fun xs : List Int => D.lst (xs.map D.int)) 1)
instance : EqS dL 2 := inferInstanceAs (EqS (fun xs : List (List Int) => D.lst (xs.map iT)) 2)
@[simp] theorem eq_iL {n : Bool} {a b : List Int} {h : Hs} : eqD n (iL a) (iL b) h = .ok (.bl (if n = true then !decide (a = b) else decide (a = b))) h := eq_of iL (k := 1) (by omega)
@[simp] theorem eq_dL {n : Bool} {a b : List (List Int)} {h : Hs} : eqD n (dL a) (dL b) h = .ok (.bl (if n = true then !decide (a = b) else decide (a = b))) h := eq_of dL (k := 2) (by omega)
@[simp] theorem eq_iLn {n : Bool} {a : List Int} {h : Hs} : eqD n (iL a) (.lst []) h = .ok (.bl (if n = true then !decide (a = []) else decide (a = []))) h := eq_of iL (k := 1) (b := []) (by omega)
@[simp] theorem eq_dLn {n : Bool} {a : List (List Int)} {h : Hs} : eqD n (dL a) (.lst []) h = .ok (.bl (if n = true then !decide (a = []) else decide (a = []))) h := eq_of dL (k := 2) (b := []) (by omega)
theorem tup_ints {ns : List Int} : D.tup (ns.map D.int) = iT ns := rfl
theorem tup_days {ns : List (List Int)} : D.tup (ns.map iT) = dT ns := rfl
/-- == with an empty list -/
theorem toP_cons {h : Hs} {n : Nat} {y : D} {ys : List D} {p : PyData} (e : toP h (n + 1) (.lst (y :: ys)) = some p) : ∃ q qs, p = .list (q :: qs) := by
  have e' : ((y :: ys).mapM (toP h n)).map PyData.list = some p := e
  cases em : (y :: ys).mapM (toP h n) with
  | none => rw [em] at e'; cases e'
  | some r =>
    rw [em] at e'
    obtain ⟨a, b, _, _, rfl⟩ := mapM_cons_some em
    cases e'
    exact ⟨a, b, rfl⟩
@[simp] theorem x_eqNil {h : Hs} {ys : List D} : eqD false (.lst ys) (.lst []) h = .ok (.bl ys.isEmpty) h := by
  unfold eqD
  have e0 : toP h 64 (.lst []) = some (.list []) := toP_lst (d := .lst []) (xs := []) rfl rfl
  cases ys with
  | nil => rw [e0]; rfl
  | cons y ys =>
    cases e : toP h 64 (.lst (y :: ys)) with
    | none =>
      rw [e0]
      simp only [x_lx_lst]
      rw [if_pos (by simp)]
      rfl
    | some p =>
      rw [e0]
      obtain ⟨q, qs, rfl⟩ := toP_cons e
      simp [PyData.eqv, PyData.eqvAll]
@[simp] theorem x_neNil {h : Hs} {ys : List D} : eqD true (.lst ys) (.lst []) h = .ok (.bl (!ys.isEmpty)) h := by
  unfold eqD
  have e0 : toP h 64 (.lst []) = some (.list []) := toP_lst (d := .lst []) (xs := []) rfl rfl
  cases ys with
  | nil => rw [e0]; rfl
  | cons y ys =>
    cases e : toP h 64 (.lst (y :: ys)) with
    | none =>
      rw [e0]
      simp only [x_lx_lst]
      rw [if_pos (by simp)]
      rfl
    | some p =>
      rw [e0]
      obtain ⟨q, qs, rfl⟩ := toP_cons e
      simp [PyData.eqv, PyData.eqvAll]
theorem any_intsD {i : Int} : ∀ ns : List Int, ((ns.map D.int).any fun y => eqF y (.int i)) = ns.contains i
  | [] => rfl
  | n :: ns => by
    rw [List.map_cons, List.any_cons, any_intsD ns]
    show ((n == i) || ns.contains i) = _
    rw [List.contains_cons, Bool.beq_comm (a := n)]
theorem flat_ints (ns : List Int) : (ns.map D.int).all flatD = true := by
  simp [flatD]
@[simp] theorem in_ints {n : Bool} {i : Int} {d : D} {ns : List Int} {h : Hs} (hr : rowOf h d = some (ns.map D.int)) : inD n (.int i) d h = .ok (.bl (if n = true then !ns.contains i else ns.contains i)) h := by
  unfold inD
  rw [hr]
  dsimp only
  rw [if_pos ⟨rfl, flat_ints ns⟩, any_intsD]
@[simp] theorem in_iT {n : Bool} {i : Int} {ns : List Int} {h : Hs} : inD n (.int i) (iT ns) h = .ok (.bl (if n = true then !ns.contains i else ns.contains i)) h := in_ints rfl
theorem loopL_still {g : Tg} {b : FS} {n : Nat} {xs : List D} {h : Hs} (P : Ss → Prop) (e : locAt h n = some xs)
    (hb : ∀ x ∈ xs, ∀ s, P s → ∃ s1, g x s h = some s1 ∧ ((∃ s2, b s1 h = .nx s2 h ∧ P s2) ∨ ∃ d h', b s1 h = .rt d h')) : ∀ (m i : Nat) (s : Ss), xs.length - i < m → P s → loopL g b n m i s h = loopS g b (xs.drop i) s h
  | 0, _, _, hm, _ => absurd hm (by omega)
  | m + 1, i, s, hm, hp => by
    unfold loopL
    rw [e]
    dsimp only
    by_cases hl : i < xs.length
    · rw [List.getElem?_eq_getElem hl, List.drop_eq_getElem_cons hl]
      obtain ⟨s1, h1, h2⟩ := hb xs[i] (List.getElem_mem hl) s hp
      dsimp only
      rw [h1]
      rcases h2 with ⟨s2, h2, h3⟩ | ⟨d, h', h2⟩
      · rw [loop_nx h1 h2]
        dsimp only
        rw [h2]
        exact loopL_still P e hb m (i + 1) s2 (by omega) h3
      · rw [loop_rt h1 h2]
        dsimp only
        rw [h2]
        rfl
    · rw [List.getElem?_eq_none (by omega), List.drop_eq_nil_of_le (by omega)]
      rfl
theorem sFor_row {f : FE} {g : Tg} {b : FS} {s : Ss} {h : Hs} {d : D} {xs : List D} (P : Ss → Prop) (ef : f s h = .ok d h) (hr : rowOf h d = some xs) (hp : P s)
    (hb : ∀ x ∈ xs, ∀ s, P s → ∃ s1, g x s h = some s1 ∧ ((∃ s2, b s1 h = .nx s2 h ∧ P s2) ∨ ∃ d h', b s1 h = .rt d h')) : sFor (iRow f) g b s h = loopS g b xs s h := by
  cases d with
  | tup ys => cases hr; exact sFor_seq (by unfold iRow; rw [ef]; rfl)
  | lst ys => cases hr; exact sFor_seq (by unfold iRow; rw [ef]; rfl)
  | scr ys => cases hr; exact sFor_seq (by unfold iRow; rw [ef]; rfl)
  | loc n =>
    have e : locAt h n = some xs := hr
    have ei : iRow f s h = .ok (.loc n) h := by
      unfold iRow
      rw [ef]
      exact if_pos (locAt_lt e)
    rw [sFor_loc ei e, loopL_still P e hb _ 0 s (by omega) hp]
    rfl
  | _ => cases hr
inductive Q where
  | non | bl (b : Bool) | int (i : Int) | str (x : Str) | row (xs : List Q) | dic
def vq (h : Hs) : Nat → D → Option Q
  | _, .non => some .non
  | _, .bl b => some (.bl b)
  | _, .int i => some (.int i)
  | _, .str x => some (.str x)
  | _, .dic _ _ => some .dic
  | 0, _ => none
  | n + 1, d => (rowOf h d).bind fun xs => (xs.mapM (vq h n)).map Q.row
@[simp] theorem vq_int {h : Hs} {n : Nat} {i : Int} : vq h n (.int i) = some (.int i) := by cases n <;> rfl
@[simp] theorem vq_non {h : Hs} {n : Nat} : vq h n .non = some .non := by cases n <;> rfl
@[simp] theorem vq_bl {h : Hs} {n : Nat} {i : Bool} : vq h n (.bl i) = some (.bl i) := by cases n <;> rfl
@[simp] theorem vq_str {h : Hs} {n : Nat} {i : Str} : vq h n (.str i) = some (.str i) := by cases n <;> rfl
@[simp] theorem vq_dic {h : Hs} {n : Nat} {k : List Key} {i : List D} : vq h n (.dic k i) = some .dic := by cases n <;> rfl
theorem vq_row {h : Hs} {n : Nat} {d : D} {xs : List D} (hr : rowOf h d = some xs) : vq h (n + 1) d = (xs.mapM (vq h n)).map Q.row := by
  cases d <;> first | (cases hr; done) | (simp only [vq]; rw [hr]; rfl)
/-- what a view tells of a thing -/
theorem vq_inv {h : Hs} {n : Nat} {d : D} {q : Q} (e : vq h n d = some q) : (rowOf h d = none ∧ (match q with | .non => d = .non | .bl b => d = .bl b | .int i => d = .int i | .str x => d = .str x | .dic => ∃ k xs, d = .dic k xs | .row _ => False)) ∨
    ∃ m xs qs, n = m + 1 ∧ rowOf h d = some xs ∧ xs.mapM (vq h m) = some qs ∧ q = .row qs := by
  cases d with
  | non => rw [vq_non] at e; cases e; exact .inl ⟨rfl, rfl⟩
  | bl b => rw [vq_bl] at e; cases e; exact .inl ⟨rfl, rfl⟩
  | int i => rw [vq_int] at e; cases e; exact .inl ⟨rfl, rfl⟩
  | str x => rw [vq_str] at e; cases e; exact .inl ⟨rfl, rfl⟩
  | dic k xs => rw [vq_dic] at e; cases e; exact .inl ⟨rfl, k, xs, rfl⟩
  | _ =>
    cases n with
    | zero => cases e
    | succ m =>
      simp only [vq] at e
      cases hr : rowOf h _ with
      | none => rw [hr] at e; cases e
      | some xs =>
        rw [hr] at e
        simp only [Option.bind_some] at e
        cases em : xs.mapM (vq h m) with
        | none => rw [em] at e; cases e
        | some qs => rw [em] at e; cases e; exact .inr ⟨m, xs, qs, rfl, rfl, em, rfl⟩
mutual
def qD : Q → D
  | .non => .non
  | .bl b => .bl b
  | .int i => .int i
  | .str x => .str x
  | .row xs => .tup (qDL xs)
  | .dic => .non
def qDL : List Q → List D
  | [] => []
  | x :: xs => qD x :: qDL xs
end
mutual
def Q.nd : Q → Bool
  | .row xs => ndL xs
  | .dic => false
  | .str x => PyData.strOk x
  | _ => true
def ndL : List Q → Bool
  | [] => true
  | x :: xs => x.nd && ndL xs
end
mutual
theorem und_qD (n : Nat) : ∀ q : Q, (qD q).und n = true
  | .non => rfl
  | .bl _ => rfl
  | .int _ => rfl
  | .str _ => rfl
  | .dic => rfl
  | .row xs => by simp only [qD, und_tup]; exact und_qDL n xs
theorem und_qDL (n : Nat) : ∀ qs : List Q, undL n (qDL qs) = true
  | [] => rfl
  | x :: xs => by simp only [qDL, undL_cons, und_qD n x, und_qDL n xs, Bool.and_self]
end
theorem mapM_imp {α β : Type} {f g : α → Option β} : ∀ {xs : List α} {ys : List β}, (∀ x y, f x = some y → g x = some y) → xs.mapM f = some ys → xs.mapM g = some ys
  | [], ys, _, e => e
  | x :: xs, ys, hf, e => by
    obtain ⟨y, ys', h1, h2, rfl⟩ := mapM_cons_some e
    rw [List.mapM_cons, hf x y h1, mapM_imp hf h2]; rfl
theorem mapM_len {α β : Type} {f : α → Option β} : ∀ {xs : List α} {ys : List β}, xs.mapM f = some ys → xs.length = ys.length
  | [], ys, e => by cases e; rfl
  | x :: xs, ys, e => by
    obtain ⟨y, ys', h1, h2, rfl⟩ := mapM_cons_some e
    simp [mapM_len h2]
theorem mapM_mem {α β : Type} {f : α → Option β} : ∀ {xs : List α} {ys : List β}, xs.mapM f = some ys → ∀ x ∈ xs, ∃ y ∈ ys, f x = some y
  | [], ys, e, x, hx => nomatch hx
  | x :: xs, ys, e, z, hz => by
    obtain ⟨y, ys', h1, h2, rfl⟩ := mapM_cons_some e
    rcases List.mem_cons.mp hz with rfl | hz
    · exact ⟨y, List.mem_cons_self, h1⟩
    · obtain ⟨w, hw, e'⟩ := mapM_mem h2 z hz
      exact ⟨w, List.mem_cons_of_mem _ hw, e'⟩
/-- views last while the places do -/
theorem vq_le {h h' : Hs} (hl : ∀ n xs, locAt h n = some xs → locAt h' n = some xs) : ∀ (n m : Nat) (d : D) (q : Q), n ≤ m → vq h n d = some q → vq h' m d = some q := by
  have hrow : ∀ d xs, rowOf h d = some xs → rowOf h' d = some xs := fun d xs e => by
    cases d <;> first | exact e | exact hl _ _ e
  intro n
  induction n with
  | zero =>
    intro m d q _ e
    cases d with
    | tup _ => cases e
    | lst _ => cases e
    | scr _ => cases e
    | loc _ => cases e
    | _ => simp at e ⊢; exact e
  | succ n ih =>
    intro m d q hm e
    obtain ⟨m, rfl⟩ : ∃ m', m = m' + 1 := ⟨m - 1, by omega⟩
    rcases vq_inv e with ⟨h1, h2⟩ | ⟨k, xs, qs, e1, e2, e3, rfl⟩
    · cases q with
      | non => cases h2; simp
      | bl b => cases h2; simp
      | int b => cases h2; simp
      | str b => cases h2; simp
      | dic => obtain ⟨k, xs, rfl⟩ := h2; simp
      | row _ => exact h2.elim
    · obtain rfl : n = k := by omega
      rw [vq_row (hrow _ _ e2), mapM_imp (fun x y hx => ih m x y (by omega) hx) e3]; rfl
theorem vq_app {h t : Hs} {n m : Nat} {d : D} {q : Q} (hm : n ≤ m) (e : vq h n d = some q) : vq (h ++ t) m d = some q := vq_le (fun k xs ek => by rw [locAt_app (locAt_lt ek)]; exact ek) n m d q hm e
def accE (f : D → Hs → D × Hs) : List D → Hs → List D × Hs
  | [], t => ([], t)
  | x :: xs, t => ((f x t).1 :: (accE f xs (t ++ (f x t).2)).1, (accE f xs (t ++ (f x t).2)).2)
theorem comp_eff {m : Bool} {vs : List Nat} {fi : FI} {g : Tg} {te : FE} {s : Ss} {h : Hs} {xs : List D} (f : D → Hs → D × Hs) (hi : Itr fi s h h xs)
    (hs : ∀ x ∈ xs, ∀ t, ∃ s2, g x (wipeS s vs) (h ++ t) = some s2 ∧ te s2 (h ++ t) = .ok (f x t).1 (h ++ t ++ (f x t).2)) : eComp m vs fi g tYesF te s h = newL m (accE f xs []).1 (h ++ (accE f xs []).2) := by
  obtain ⟨it, e1, e2⟩ := hi
  unfold eComp
  rw [e1, R.bind_ok]
  have main : ∀ (ys acc : List D) (t : Hs), (∀ y ∈ ys, y ∈ xs) → compA g tYesF te (wipeS s vs) (newL m) ys acc (h ++ t) = newL m (acc ++ (accE f ys t).1) (h ++ (accE f ys t).2) := by
    intro ys
    induction ys with
    | nil => intro acc t _; simp [compA, accE]
    | cons y ys ih =>
      intro acc t hy
      obtain ⟨s2, k1, k2⟩ := hs y (hy y List.mem_cons_self) t
      have ih := fun acc t => ih acc t fun z hz => hy z (List.mem_cons_of_mem _ hz)
      unfold compA stepC
      simp only [k1, k2, x_tyes, x_quiet_ok, R.bind_ok, if_true]
      rw [List.append_assoc h, ih]
      simp [accE]
  have loc : ∀ n, locAt h n = some xs → ∀ (k i : Nat) (acc : List D) (t : Hs), xs.length - i < k → acc.length ≤ i → i ≤ xs.length → compL g tYesF te (wipeS s vs) n (newL m) k i acc (h ++ t) = newL m (acc ++ (accE f (xs.drop i) t).1) (h ++ (accE f (xs.drop i) t).2) := by
    intro n e k
    have e' : ∀ t, locAt (h ++ t) n = some xs := fun t => by rw [locAt_app (locAt_lt e)]; exact e
    induction k with
    | zero => intro i acc t hm; omega
    | succ k ih =>
      intro i acc t hm ha hi
      unfold compL
      rw [e']
      dsimp only
      by_cases hl : i < xs.length
      · rw [List.getElem?_eq_getElem hl, List.drop_eq_getElem_cons hl]
        obtain ⟨s2, k1, k2⟩ := hs xs[i] (List.getElem_mem hl) t
        dsimp only
        unfold stepC
        simp only [k1, k2, x_tyes, x_quiet_ok, R.bind_ok, if_true]
        rw [List.append_assoc h, ih (i + 1) _ _ (by omega) (by simp; omega) hl]
        simp [accE]
      · rw [List.getElem?_eq_none (by omega), List.drop_eq_nil_of_le (by omega)]
        simp [accE]
  cases it with
  | seq ds =>
    simp only [itemsOf] at e2
    cases e2
    have := main xs [] [] fun _ h => h
    simpa using this
  | rng lo n =>
    simp only [itemsOf] at e2
    split at e2
    · rename_i hz
      have e3 : rgL lo n = xs := by injection e2
      dsimp only
      rw [if_pos hz, e3]
      have := main xs [] [] fun _ h => h
      simpa using this
    · cases e2
  | loc n =>
    have el : locAt h n = some xs := e2
    have := loc n el (xs.length + 1) 0 [] [] (by omega) (Nat.le_refl _) (Nat.zero_le _)
    dsimp only
    rw [el]
    simpa using this
theorem enL_map {α : Type} {em : α → D} : ∀ (xs : List α) (k : Nat), enL k (xs.map em) = (xs.zipIdx k).map fun x => .tup [.int (x.2 : Nat), em x.1]
  | [], _ => rfl
  | x :: xs, k => by simp [enL, enL_map xs, List.zipIdx_cons]
theorem zpL_map {α β : Type} {em : α → D} {en : β → D} : ∀ (xs : List α) (ys : List β), zpL (xs.map em) (ys.map en) = (xs.zip ys).map fun x => .tup [em x.1, en x.2]
  | [], ys => by simp [zpL]
  | x :: xs, [] => by simp [zpL]
  | x :: xs, y :: ys => by simp [zpL, zpL_map xs ys]
def dayQ (d : List Int) : Q := .row (d.map Q.int)
def ringQ (r : List (List Int)) : Q := .row (r.map dayQ)
theorem mapM_ints_vq {h : Hs} {n : Nat} : ∀ {xs : List D} {ns : List Int}, xs.mapM (vq h n) = some (ns.map Q.int) → xs = ns.map D.int
  | [], [], _ => rfl
  | [], _ :: _, e => by cases e
  | x :: xs, ns, e => by
    obtain ⟨y, ys, h1, h2, h3⟩ := mapM_cons_some e
    cases ns with
    | nil => cases h3
    | cons n ns =>
      simp only [List.map_cons, List.cons.injEq] at h3
      obtain ⟨rfl, rfl⟩ := h3
      rw [mapM_ints_vq h2]
      rcases vq_inv h1 with ⟨_, h4⟩ | ⟨_, _, _, _, _, _, h4⟩
      · cases h4; rfl
      · cases h4
theorem dayQ_inv {h : Hs} {n : Nat} {x : D} {d : List Int} (e : vq h n x = some (dayQ d)) : ∃ m, n = m + 1 ∧ rowOf h x = some (d.map D.int) := by
  rcases vq_inv e with ⟨_, h4⟩ | ⟨m, xs, qs, h1, h2, h3, h4⟩
  · exact h4.elim
  · simp only [dayQ, Q.row.injEq] at h4
    subst h4
    exact ⟨m, h1, by rw [h2, mapM_ints_vq h3]⟩
theorem ringQ_inv {h : Hs} {n : Nat} {x : D} {r : List (List Int)} (e : vq h n x = some (ringQ r)) : ∃ m xs, n = m + 1 ∧ rowOf h x = some xs ∧ xs.mapM (vq h m) = some (r.map dayQ) := by
  rcases vq_inv e with ⟨_, h4⟩ | ⟨m, xs, qs, h1, h2, h3, h4⟩
  · exact h4.elim
  · simp only [ringQ, Q.row.injEq] at h4
    subst h4
    exact ⟨m, xs, h1, h2, h3⟩
@[simp] theorem vq_iT {h : Hs} {n : Nat} {d : List Int} : vq h (n + 1) (iT d) = some (dayQ d) := by
  rw [vq_row row_iT]
  have : ∀ d : List Int, (d.map D.int).mapM (vq h n) = some (d.map Q.int) := fun d => by
    induction d with
    | nil => rfl
    | cons a d ih => rw [List.map_cons, List.mapM_cons, vq_int, ih]; rfl
  rw [this]; rfl
@[simp] theorem vq_dT {h : Hs} {n : Nat} {r : List (List Int)} : vq h (n + 2) (dT r) = some (ringQ r) := by
  rw [vq_row row_dT]
  have : ∀ r : List (List Int), (r.map iT).mapM (vq h (n + 1)) = some (r.map dayQ) := fun r => by
    induction r with
    | nil => rfl
    | cons a d ih => rw [List.map_cons, List.mapM_cons, vq_iT, ih]; rfl
  rw [this]; rfl
theorem qD_day (d : List Int) : qD (dayQ d) = iT d := by
  simp only [dayQ, qD, iT]
  congr 1
  induction d with
  | nil => rfl
  | cons a d ih => simp [qDL, qD, ih]
theorem qD_ring (r : List (List Int)) : qD (ringQ r) = dT r := by
  simp only [ringQ, qD, dT]
  congr 1
  induction r with
  | nil => rfl
  | cons a d ih => simp [qDL, qD_day, ih]
theorem nd_day (d : List Int) : (dayQ d).nd = true := by
  simp only [dayQ, Q.nd]
  induction d with
  | nil => rfl
  | cons a d ih => simp [ndL, Q.nd, ih]
theorem nd_ring (r : List (List Int)) : (ringQ r).nd = true := by
  simp only [ringQ, Q.nd]
  induction r with
  | nil => rfl
  | cons a d ih => simp [ndL, nd_day, ih]
theorem ndL_mem : ∀ {qs : List Q} {q : Q}, ndL qs = true → q ∈ qs → q.nd = true
  | [], _, _, hq => nomatch hq
  | x :: xs, q, h, hq => by
    simp only [ndL, Bool.and_eq_true] at h
    rcases List.mem_cons.mp hq with rfl | hq
    · exact h.1
    · exact ndL_mem h.2 hq
theorem mapM_qD {h : Hs} {n : Nat} : ∀ {xs : List D} {qs : List Q}, xs.mapM (vq h n) = some qs → xs.map (fun x => qD ((vq h n x).getD .non)) = qDL qs
  | [], qs, e => by cases e; rfl
  | x :: xs, qs, e => by
    obtain ⟨y, ys, h1, h2, rfl⟩ := mapM_cons_some e
    simp [qDL, h1, mapM_qD h2]
theorem comp_inv {m : Bool} {vs : List Nat} {fi : FI} {g : Tg} {tt : FT} {te : FE} {s : Ss} {h h1 : Hs} {xs : List D} (I : List D → List D → Hs → Prop) (hi : Itr fi s h h1 xs) (hl : ∀ n, fi s h ≠ .ok (.loc n) h1) (h0 : I [] xs h1)
    (hs : ∀ acc x rest h, I acc (x :: rest) h → ∃ s2, g x (wipeS s vs) h = some s2 ∧ ((tt s2 h = .ok false h ∧ I acc rest h) ∨ (tt s2 h = .ok true h ∧ ∃ y h', te s2 h = .ok y h' ∧ I (acc ++ [y]) rest h'))) :
    ∃ acc h', I acc [] h' ∧ eComp m vs fi g tt te s h = newL m acc h' := by
  obtain ⟨it, e1, e2⟩ := hi
  have main : ∀ (ys acc : List D) (h : Hs), I acc ys h → ∃ acc' h', I acc' [] h' ∧ compA g tt te (wipeS s vs) (newL m) ys acc h = newL m acc' h' := by
    intro ys
    induction ys with
    | nil => intro acc h hI; exact ⟨acc, h, hI, rfl⟩
    | cons y ys ih =>
      intro acc h hI
      obtain ⟨s2, k1, k2⟩ := hs acc y ys h hI
      rcases k2 with ⟨k2, k3⟩ | ⟨k2, z, h', k3, k4⟩
      · obtain ⟨acc', h', a1, a2⟩ := ih acc h k3
        refine ⟨acc', h', a1, ?_⟩
        rw [← a2]
        conv => lhs; unfold compA stepC
        simp only [k1, k2, x_quiet_ok, R.bind_ok, Bool.false_eq_true, if_false]
      · obtain ⟨acc', h'', a1, a2⟩ := ih (acc ++ [z]) h' k4
        refine ⟨acc', h'', a1, ?_⟩
        rw [← a2]
        conv => lhs; unfold compA stepC
        simp only [k1, k2, k3, x_quiet_ok, R.bind_ok, if_true]
  obtain ⟨acc', h', a1, a2⟩ := main xs [] h1 h0
  refine ⟨acc', h', a1, ?_⟩
  unfold eComp
  rw [e1, R.bind_ok]
  cases it with
  | seq ds => cases e2; exact a2
  | rng lo n =>
    simp only [itemsOf] at e2
    split at e2
    · rename_i hz
      have e3 : rgL lo n = xs := by injection e2
      dsimp only
      rw [if_pos hz, e3]
      exact a2
    · cases e2
  | loc n => exact absurd e1 (hl n)
theorem rng_noloc {f : FA} {s : Ss} {h h1 : Hs} {n : Nat} : iRng1 f s h ≠ .ok (.loc n) h1 := by
  unfold iRng1
  cases f s h with
  | ok ds h2 =>
    rw [R.bind_ok]
    split
    · split <;> simp
    · simp
  | err x h2 => simp
  | bad => simp
theorem while_steps {t : FT} {b : FS} (st : Nat → Ss) (h : Hs) (n : Nat) (ht : ∀ k, k < n → t (st k) h = .ok true h ∧ b (st k) h = .nx (st (k + 1)) h) (hn : t (st n) h = .ok false h) : sWhile t b (st 0) h = .nx (st n) h := by
  have : ∀ j k, k + j = n → whileF t b (j + 1) (st k) h = .nx (st n) h := by
    intro j
    induction j with
    | zero =>
      intro k hk
      obtain rfl : k = n := by omega
      unfold whileF
      rw [hn]; rfl
    | succ j ih =>
      intro k hk
      obtain ⟨h1, h2⟩ := ht k (by omega)
      unfold whileF
      rw [h1]
      dsimp only
      rw [if_pos rfl, h2]
      exact ih (k + 1) (by omega)
  exact sWhile_eq (this n 0 (by omega)) (by simp)
theorem tup0 : D.tup [] = iT [] := (rfl)
theorem tup1 {a : Int} : D.tup [.int a] = iT [a] := (rfl)
theorem tup2 {a b : Int} : D.tup [.int a, .int b] = iT [a, b] := (rfl)
theorem mul_lst {xs : List D} {k : Int} {h : Hs} (h0 : -1000000 ≤ k) (h1 : xs.length * k.toNat ≤ 16777216) (h2 : k ≤ 1000000000) : mulD (.lst xs) (.int k) h = .ok (.lst (List.replicate k.toNat xs).flatten) h := by
  have : repOk k xs.length := ⟨by omega, by omega, h1⟩
  unfold mulD
  exact if_pos this
theorem mul_tup {xs : List D} {k : Int} {h : Hs} (h0 : -1000000 ≤ k) (h1 : xs.length * k.toNat ≤ 16777216) (h2 : k ≤ 1000000000) : mulD (.tup xs) (.int k) h = .ok (.tup (List.replicate k.toNat xs).flatten) h := by
  have : repOk k xs.length := ⟨by omega, by omega, h1⟩
  unfold mulD
  exact if_pos this
theorem map_rep {α β : Type} (f : α → β) (xs : List α) : ∀ k : Nat, (List.replicate k (xs.map f)).flatten = ((List.replicate k xs).flatten).map f
  | 0 => rfl
  | k + 1 => by rw [List.replicate_succ, List.replicate_succ, List.flatten_cons, List.flatten_cons, List.map_append, map_rep f xs k]
theorem mul_iT {xs : List Int} {k : Int} {h : Hs} (h0 : -1000000 ≤ k) (h1 : xs.length * k.toNat ≤ 16777216) (h2 : k ≤ 1000000000) : mulD (iT xs) (.int k) h = .ok (iT (List.replicate k.toNat xs).flatten) h := by
  unfold iT
  rw [mul_tup h0 (by simpa using h1) h2, map_rep]
theorem mul_dT {xs : List (List Int)} {k : Int} {h : Hs} (h0 : -1000000 ≤ k) (h1 : xs.length * k.toNat ≤ 16777216) (h2 : k ≤ 1000000000) : mulD (dT xs) (.int k) h = .ok (dT (List.replicate k.toNat xs).flatten) h := by
  unfold dT
  rw [mul_tup h0 (by simpa using h1) h2, map_rep]
structure LiveAt (h : Hs) (b : Nat) (r : List (List Int)) : Prop where
  day : ∀ j (hj : j < r.length), locAt h (b + j) = some ((r[j]).map D.int)
  all : locAt h (b + r.length) = some ((List.range r.length).map fun i => .loc (b + i))
theorem LiveAt.app {h t : Hs} {b : Nat} {r : List (List Int)} (x : LiveAt h b r) : LiveAt (h ++ t) b r :=
  ⟨fun j hj => by rw [locAt_app (locAt_lt (x.day j hj))]; exact x.day j hj, by rw [locAt_app (locAt_lt x.all)]; exact x.all⟩
theorem locAt_head {o o' : O} {h : Hs} {n : Nat} (hn : 1 ≤ n) : locAt (o' :: h) n = locAt (o :: h) n := by
  obtain ⟨n, rfl⟩ : ∃ m, n = m + 1 := ⟨n - 1, by omega⟩
  rfl
theorem LiveAt.head {o o' : O} {h : Hs} {b : Nat} {r : List (List Int)} (x : LiveAt (o :: h) b r) (hb : 1 ≤ b) : LiveAt (o' :: h) b r :=
  ⟨fun j hj => by rw [locAt_head (o := o) (by omega)]; exact x.day j hj, by rw [locAt_head (o := o) (by omega)]; exact x.all⟩
theorem LiveAt.vqs {h : Hs} {b n : Nat} {r : List (List Int)} (x : LiveAt h b r) : vq h (n + 2) (.loc (b + r.length)) = some (ringQ r) := by
  rw [vq_row (xs := (List.range r.length).map fun i => .loc (b + i)) (show rowOf h (.loc (b + r.length)) = _ from x.all)]
  have e : ((List.range r.length).map fun i => D.loc (b + i)).mapM (vq h (n + 1)) = some (r.map dayQ) := by
    have key : ∀ (k : Nat), k ≤ r.length → ((List.range' (r.length - k) k).map fun i => D.loc (b + i)).mapM (vq h (n + 1)) = some ((r.drop (r.length - k)).map dayQ) := by
      intro k
      induction k with
      | zero => intro _; simp
      | succ k ih =>
        intro hk
        have hj : r.length - (k + 1) < r.length := by omega
        rw [List.range'_succ, List.map_cons, List.mapM_cons, List.drop_eq_getElem_cons hj, show r.length - (k + 1) + 1 = r.length - k by omega, ih (by omega)]
        rw [vq_row (d := .loc (b + (r.length - (k + 1)))) (xs := (r[r.length - (k + 1)]).map D.int) (show rowOf h (.loc (b + (r.length - (k + 1)))) = _ from x.day _ hj)]
        have := vq_iT (h := h) (n := n) (d := r[r.length - (k + 1)])
        rw [vq_row row_iT] at this
        rw [this]
        rfl
    have := key r.length (Nat.le_refl _)
    rw [Nat.sub_self, ← List.range_eq_range', List.drop_zero] at this
    exact this
  rw [e]; rfl
theorem LiveAt.toPs {h : Hs} {b : Nat} {r : List (List Int)} (x : LiveAt h b r) : toP h 64 (.loc (b + r.length)) = some (.list (r.map fun d => .list (d.map .int))) := by
  refine toP_lst (xs := (List.range r.length).map fun i => .loc (b + i)) x.all ?_
  have key : ∀ (k : Nat), k ≤ r.length → ((List.range' (r.length - k) k).map fun i => D.loc (b + i)).mapM (toP h 63) = some ((r.drop (r.length - k)).map fun d => PyData.list (d.map .int)) := by
    intro k
    induction k with
    | zero => intro _; simp
    | succ k ih =>
      intro hk
      have hj : r.length - (k + 1) < r.length := by omega
      rw [List.range'_succ, List.map_cons, List.mapM_cons, List.drop_eq_getElem_cons hj, show r.length - (k + 1) + 1 = r.length - k by omega, ih (by omega)]
      have e1 : toP h 63 (.loc (b + (r.length - (k + 1)))) = some (.list ((r[r.length - (k + 1)]).map .int)) := toP_lst (xs := (r[r.length - (k + 1)]).map D.int) (x.day _ hj) (mapM_ints _)
      rw [e1]
      rfl
  have := key r.length (Nat.le_refl _)
  rw [Nat.sub_self, ← List.range_eq_range', List.drop_zero] at this
  exact this
theorem eqvAll_refl {α : Type} {py : α → PyData} (hq : ∀ a, PyData.eqv (py a) (py a) = true) : ∀ xs : List α, PyData.eqvAll (xs.map py) (xs.map py) = true
  | [] => by simp [PyData.eqvAll]
  | x :: xs => by simp [PyData.eqvAll, hq, eqvAll_refl hq xs]
theorem LiveAt.eqs {h : Hs} {b c : Nat} {r : List (List Int)} (x : LiveAt h b r) (y : LiveAt h c r) {n : Bool} : eqD n (.loc (b + r.length)) (.loc (c + r.length)) h = .ok (.bl (!n)) h := by
  unfold eqD
  rw [x.toPs, y.toPs]
  have : PyData.eqv (.list (r.map fun d => .list (d.map .int))) (.list (r.map fun d => .list (d.map .int))) = true := by
    rw [PyData.eqv]
    refine eqvAll_refl (fun a => ?_) r
    rw [PyData.eqv]
    exact eqvAll_refl (fun a => by simp [PyData.eqv]) a
  simp only [this]
  cases n <;> rfl
theorem eq_lists {α : Type} (f : α → D) {k : Nat} [E : EqS f k] (hk : k ≤ 63) {n : Bool} {d e : D} {as bs : List α} {h : Hs} [dd : Decidable (as = bs)] (h1 : lstOf h d = some (as.map f)) (h2 : lstOf h e = some (bs.map f)) : eqD n d e h = .ok (.bl (if n = true then !decide (as = bs) else decide (as = bs))) h := by
  obtain ⟨py, k1, k2⟩ := E.ex
  unfold eqD
  rw [toP_lst (n := 63) h1 (mapM_map (fun a => k1 h 63 a hk) as), toP_lst (n := 63) h2 (mapM_map (fun a => k1 h 63 a hk) bs)]
  have : PyData.eqv (.list (as.map py)) (.list (bs.map py)) = decide (as = bs) := by
    rw [Bool.eq_iff_iff, PyData.eqv, decide_eq_true_iff]
    exact eqvAll_iff k2 as bs
  simp only [this]
theorem maxL_le {ns : List Int} : ∀ m ∈ ns, m ≤ maxL ns := by
  intro m hm
  cases ns with
  | nil => cases hm
  | cons n ns =>
    obtain ⟨h1, h2, _⟩ := foldl_max ns n
    rcases List.mem_cons.mp hm with rfl | hm
    · exact h1
    · exact h2 m hm
theorem maxL_mem {ns : List Int} (h : ns ≠ []) : maxL ns ∈ ns := by
  cases ns with
  | nil => exact absurd rfl h
  | cons n ns =>
    obtain ⟨_, _, h3⟩ := foldl_max ns n
    rcases h3 with h3 | h3
    · exact List.mem_cons.mpr (.inl h3)
    · exact List.mem_cons_of_mem _ h3
theorem maxL_eq {ns ms : List Int} (h : ns ≠ []) (h' : ms ≠ []) (e : ∀ x, x ∈ ns ↔ x ∈ ms) : maxL ns = maxL ms := by
  have h1 := maxL_le (ns := ms) _ ((e _).mp (maxL_mem h))
  have h2 := maxL_le (ns := ns) _ ((e _).mpr (maxL_mem h'))
  omega
/-- a walk over a live list that stays as it is while other things change -/
theorem for_live {f : FE} {g : Tg} {b : FS} {s : Ss} {h h1 : Hs} {n : Nat} {xs : List D} (e : f s h = .ok (.loc n) h1) (el : locAt h1 n = some xs) (Inv : Ss → Hs → Prop) (hinv : ∀ s h, Inv s h → locAt h n = some xs) (h0 : Inv s h1)
    (hstep : ∀ d ∈ xs, ∀ s s' h, Inv s h → g d s h = some s' → ∀ s2 h2, b s' h = .nx s2 h2 ∨ b s' h = .ct s2 h2 → Inv s2 h2) : sFor (iRow f) g b s h = loopS g b xs s h1 := by
  have ei : iRow f s h = .ok (.loc n) h1 := by
    unfold iRow
    rw [e]
    exact if_pos (locAt_lt el)
  rw [sFor_loc ei el, loopL_eq (fun _ => Inv) (fun _ => hinv) (fun i d s s' h hi hx hg s2 h2 => hstep d (List.mem_of_getElem? hx) s s' h hi hg s2 h2) _ 0 s h1 (by omega) h0]
  rfl
/-- the days of a live ring changed one behind another -/
theorem spoil_live {f : FE} {g : Tg} {k : FS} {s : Ss} {h : Hs} {b : Nat} {r : List (List Int)} (L : LiveAt h b r) (hf : f s h = .ok (.loc (b + r.length)) h)
    (hk : ∀ (j : Nat) (hj : j < r.length) (h : Hs), locAt h (b + j) = some ((r[j]).map D.int) → ∃ s1 ys, g (.loc (b + j)) s h = some s1 ∧ k s1 h = .nx s (h.set (b + j) (.lst ys))) :
    ∃ h', h'.length = h.length ∧ (∀ n, n < b ∨ b + r.length ≤ n → h'[n]? = h[n]?) ∧ sFor (iRow f) g k s h = .nx s h' := by
  have ei : iRow f s h = .ok (.loc (b + r.length)) h := by
    unfold iRow
    rw [hf]
    exact if_pos (locAt_lt L.all)
  have main : ∀ (m i : Nat) (h : Hs), i + m = r.length → locAt h (b + r.length) = some ((List.range r.length).map fun i => .loc (b + i)) → (∀ j (hj : j < r.length), i ≤ j → locAt h (b + j) = some ((r[j]).map D.int)) →
      ∃ h', h'.length = h.length ∧ (∀ n, n < b ∨ b + r.length ≤ n → h'[n]? = h[n]?) ∧ loopL g k (b + r.length) (m + 1) i s h = .nx s h' := by
    intro m
    induction m with
    | zero =>
      intro i h hi ha _
      refine ⟨h, rfl, fun _ _ => rfl, ?_⟩
      unfold loopL
      rw [ha]
      dsimp only
      rw [List.getElem?_eq_none (by simp; omega)]
    | succ m ih =>
      intro i h hi ha hd
      have hil : i < r.length := by omega
      obtain ⟨s1, ys, k1, k2⟩ := hk i hil h (hd i hil (Nat.le_refl _))
      obtain ⟨h', a1, a2, a3⟩ := ih (i + 1) (h.set (b + i) (.lst ys)) (by omega) (by rw [locAt_set_ne (by omega)]; exact ha) (fun j hj hij => by rw [locAt_set_ne (by omega)]; exact hd j hj (by omega))
      refine ⟨h', by simpa using a1, fun n hn => ?_, ?_⟩
      · rw [a2 n hn, List.getElem?_set_ne (by omega)]
      · unfold loopL
        rw [ha]
        dsimp only
        have e : ((List.range r.length).map fun i => D.loc (b + i))[i]? = some (.loc (b + i)) := by simp [hil]
        rw [e]
        dsimp only
        rw [k1]
        dsimp only
        rw [k2]
        exact a3
  obtain ⟨h', a1, a2, a3⟩ := main r.length 0 h (by omega) L.all (fun j hj _ => L.day j hj)
  refine ⟨h', a1, a2, ?_⟩
  rw [sFor_loc ei L.all]
  simpa using a3
theorem seq_as {a b c : FS} {s : Ss} {h : Hs} : sSeq a (sSeq b c) s h = sSeq (sSeq a b) c s h := by
  unfold sSeq
  cases a s h <;> rfl
theorem seq_nx2 {a b c : FS} {s s' : Ss} {h h' : Hs} (e : sSeq a b s h = .nx s' h') : sSeq a (sSeq b c) s h = c s' h' := by
  rw [seq_as]; exact seq_nx e
theorem seq_nx3 {a b c d : FS} {s s' : Ss} {h h' : Hs} (e : sSeq a (sSeq b c) s h = .nx s' h') : sSeq a (sSeq b (sSeq c d)) s h = d s' h' := by
  have : sSeq a (sSeq b (sSeq c d)) s h = sSeq (sSeq a (sSeq b c)) d s h := by
    unfold sSeq
    cases a s h with
    | nx s1 h1 => dsimp only; cases b s1 h1 <;> rfl
    | _ => rfl
  rw [this]; exact seq_nx e
mutual
def qL : Q → PyData
  | .non => .none
  | .bl b => .bool b
  | .int i => .int i
  | .str x => .str x
  | .row xs => .list (qLL xs)
  | .dic => .none
def qLL : List Q → List PyData
  | [] => []
  | x :: xs => qL x :: qLL xs
end
mutual
theorem eqv_qL : ∀ q : Q, PyData.eqv (qL q) (qL q) = true
  | .non => by simp [qL, PyData.eqv]
  | .bl b => by simp [qL, PyData.eqv]
  | .int i => by simp [qL, PyData.eqv]
  | .str x => by simp [qL, PyData.eqv]
  | .dic => by simp [qL, PyData.eqv]
  | .row xs => by rw [qL, PyData.eqv]; exact eqv_qLL xs
theorem eqv_qLL : ∀ qs : List Q, PyData.eqvAll (qLL qs) (qLL qs) = true
  | [] => by simp [qLL, PyData.eqvAll]
  | x :: xs => by rw [qLL, PyData.eqvAll, eqv_qL x, eqv_qLL xs]; rfl
end
theorem toP_row {h : Hs} {n : Nat} {d : D} {xs : List D} {ps : List PyData} (hd : lstOf h d = some xs) (e : xs.mapM (toP h n) = some ps) : toP h (n + 1) d = some (.list ps) := toP_lst hd e
theorem toP_mono {h : Hs} : ∀ (n m : Nat) (d : D) (p : PyData), n ≤ m → toP h n d = some p → toP h m d = some p := by
  intro n
  induction n with
  | zero =>
    intro m d p _ e
    cases d with
    | non => rw [toP_non] at e ⊢; exact e
    | bl b => rw [toP_bl] at e ⊢; exact e
    | int i => rw [toP_int] at e ⊢; exact e
    | str x => cases m <;> exact e
    | _ => cases e
  | succ n ih =>
    intro m d p hm e
    obtain ⟨m, rfl⟩ : ∃ k, m = k + 1 := ⟨m - 1, by omega⟩
    have lists : ∀ d, lstOf h d ≠ none → (match lstOf h d with | some xs => (xs.mapM (toP h n)).map PyData.list | none => none) = some p → toP h (m + 1) d = some p := fun d hd e => by
      cases hl : lstOf h d with
      | none => exact absurd hl hd
      | some xs =>
        rw [hl] at e
        dsimp only at e
        cases q : xs.mapM (toP h n) with
        | none => rw [q] at e; cases e
        | some ps =>
          rw [q] at e; cases e
          exact toP_lst hl (mapM_imp (fun x y hx => ih m x y (by omega) hx) q)
    have nn : ∀ d, (match lstOf h d with | some xs => (xs.mapM (toP h n)).map PyData.list | none => none) = some p → lstOf h d ≠ none := fun d e hn => by rw [hn] at e; cases e
    cases d with
    | non => exact e
    | bl b => exact e
    | int i => exact e
    | str x => exact e
    | tup xs =>
      simp only [toP] at e
      cases q : xs.mapM (toP h n) with
      | none => rw [q] at e; cases e
      | some ps =>
        rw [q] at e; cases e
        exact toP_tup (mapM_imp (fun x y hx => ih m x y (by omega) hx) q)
    | lst xs => exact lists _ (nn _ e) e
    | scr xs => exact lists _ (nn _ e) e
    | dic ks xs => exact lists _ (nn _ e) e
    | loc k => exact lists _ (nn _ e) e
/-- a copy as lists: it hangs on the places from b on alone -/
def LCopy (b : Nat) (H : Hs) (n : Nat) (d : D) (q : Q) : Prop := ∀ h' : Hs, (∀ k, b ≤ k → k < H.length → h'[k]? = H[k]?) → toP h' n d = some (qL q) ∧ vq h' n d = some q
theorem LCopy.app {b : Nat} {h t : Hs} {n : Nat} {d : D} {q : Q} (x : LCopy b h n d q) : LCopy b (h ++ t) n d q := fun h' e => x h' fun k h1 h2 => by
  rw [e k h1 (by rw [List.length_append]; omega), List.getElem?_append_left h2]
theorem LCopy.head {b : Nat} {o o' : O} {h : Hs} {n : Nat} {d : D} {q : Q} (x : LCopy b (o :: h) n d q) (hb : 1 ≤ b) : LCopy b (o' :: h) n d q := fun h' e => x h' fun k h1 h2 => by
  rw [e k h1 h2]
  obtain ⟨k, rfl⟩ : ∃ j, k = j + 1 := ⟨k - 1, by omega⟩
  rfl
theorem LCopy.from {b b' : Nat} {h : Hs} {n : Nat} {d : D} {q : Q} (x : LCopy b h n d q) (hb : b' ≤ b) : LCopy b' h n d q := fun h' e => x h' fun k h1 h2 => e k (by omega) h2
theorem LCopy.vqs {b : Nat} {h : Hs} {n m : Nat} {d : D} {q : Q} (x : LCopy b h n d q) (hm : n ≤ m) : vq h m d = some q :=
  vq_le (fun _ _ e => e) n m d q hm (x h fun _ _ _ => rfl).2
theorem LCopy.eqs {b c : Nat} {h : Hs} {n m : Nat} {d e : D} {q : Q} (x : LCopy b h n d q) (y : LCopy c h m e q) (hn : n ≤ 64) (hm : m ≤ 64) {v : Bool} : eqD v d e h = .ok (.bl (!v)) h := by
  have h1 := toP_mono n 64 d _ hn (x h fun _ _ _ => rfl).1
  have h2 := toP_mono m 64 e _ hm (y h fun _ _ _ => rfl).1
  unfold eqD
  rw [h1, h2]
  simp only [eqv_qL]
  cases v <;> rfl
theorem x_tupL {h : Hs} {n : Nat} {xs : List D} (e : locAt h n = some xs) : tupleD [.loc n] h = .ok (.tup xs) h := x_tuple (d := .loc n) e
@[simp] theorem list_iT {m : Bool} {ns : List Int} {h : Hs} : listD m [iT ns] h = newL m (ns.map D.int) h := (rfl)
@[simp] theorem list_dT {m : Bool} {ns : List (List Int)} {h : Hs} : listD m [dT ns] h = newL m (ns.map iT) h := (rfl)
theorem vq_tup2 {h : Hs} {n : Nat} {x y : D} {a b : Q} (hx : vq h n x = some a) (hy : vq h n y = some b) : vq h (n + 1) (.tup [x, y]) = some (.row [a, b]) := by
  rw [vq_row (xs := [x, y]) rfl, List.mapM_cons, hx, List.mapM_cons, hy]; rfl
@[simp] theorem vq_iL {h : Hs} {n : Nat} {d : List Int} : vq h (n + 1) (iL d) = some (dayQ d) := by
  have := vq_iT (h := h) (n := n) (d := d)
  rw [vq_row row_iT] at this
  rw [vq_row row_iL]; exact this
theorem sWhile_true {t : FT} {b : FS} {s s' : Ss} {h h1 h' : Hs} (ht : t s h = .ok true h1) (hb : b s h1 = .nx s' h') : sWhile t b s h = sWhile t b s' h' := by
  have step : ∀ n, whileF t b (n + 1) s h = whileF t b n s' h' := fun n => by
    conv => lhs; unfold whileF
    rw [ht]
    dsimp only
    rw [if_pos rfl, hb]
    rfl
  by_cases e : sWhile t b s' h' = .bad
  · have all : ∀ n, whileF t b n s h = .bad := fun n => by
      cases n with
      | zero => rfl
      | succ n =>
        rw [step]
        by_cases q : whileF t b n s' h' = .bad
        · exact q
        · have := sWhile_eq (n := n) rfl q
          rw [e] at this
          exact absurd this.symm q
    rw [e]
    unfold sWhile
    rw [dif_neg]
    rintro ⟨n, hn⟩
    exact hn (all n)
  · rcases sWhile_run (t := t) (b := b) (s := s') (h := h') with q | ⟨n, q⟩
    · exact absurd q e
    · exact sWhile_eq (n := n + 1) ((step n).trans q) e
theorem sWhile_rt {t : FT} {b : FS} {s : Ss} {h h1 h' : Hs} {d : D} (ht : t s h = .ok true h1) (hb : b s h1 = .rt d h') : sWhile t b s h = .rt d h' := by
  refine sWhile_eq (n := 1) ?_ (by simp)
  unfold whileF
  rw [ht]
  dsimp only
  rw [if_pos rfl, hb]
  rfl
theorem sWhile_false {t : FT} {b : FS} {s : Ss} {h h1 : Hs} (ht : t s h = .ok false h1) : sWhile t b s h = .nx s h1 := by
  refine sWhile_eq (n := 1) ?_ (by simp)
  unfold whileF
  rw [ht]
  rfl
theorem ext_last {g : Hs} {xs ys : List D} {d : D} (e : lstX (g ++ [.lst xs]) d = some ys) (hz : xs.length + ys.length ≤ 16777216) : extendD (.loc g.length) [d] (g ++ [.lst xs]) = .ok .non (g ++ [.lst (xs ++ ys)]) := by
  have hz' : xs.length + ys.length ≤ sizeLine := hz
  have e1 : locAt (g ++ [.lst xs]) g.length = some xs := locAt_end
  simp only [extendD, e1, e, if_pos hz', set_end]
theorem while_to {t : FT} {b : FS} (st : Nat → Ss) (hp : Nat → Hs) : ∀ n : Nat, (∀ k, k < n → t (st k) (hp k) = .ok true (hp k) ∧ b (st k) (hp k) = .nx (st (k + 1)) (hp (k + 1))) → sWhile t b (st 0) (hp 0) = sWhile t b (st n) (hp n)
  | 0, _ => rfl
  | n + 1, h => by
    rw [while_to st hp n fun k hk => h k (by omega)]
    obtain ⟨h1, h2⟩ := h n (by omega)
    exact sWhile_true h1 h2
theorem maxL_gt {ns : List Int} {c : Int} (h : ns ≠ []) : c < maxL ns ↔ ∃ x ∈ ns, c < x :=
  ⟨fun hc => ⟨_, maxL_mem h, hc⟩, fun ⟨x, hx, hc⟩ => Int.lt_of_lt_of_le hc (maxL_le x hx)⟩
end WD
namespace WD
open PySem PySem.Spec PyProof.Rows L2
section
variable {h : Hs} {d : D}
open Classical in
theorem x_shl {i j : Int} : shlD (.int i) (.int j) h = if powOk i j then .ok (.int (i * 2 ^ j.toNat)) h else .bad := (rfl)
@[simp] theorem x_sl1 {i j : Int} (h0 : 0 ≤ j) (h1 : j ≤ 1000000) (h2 : -18446744073709551616 < i) (h3 : i < 18446744073709551616) : shlD (.int i) (.int j) h = .ok (.int (i * 2 ^ j.toNat)) h := by
  rw [x_shl, if_pos ⟨h0, h1, by omega⟩]
@[simp] theorem x_shr {i j : Int} (h0 : 0 ≤ j) : shrD (.int i) (.int j) h = .ok (.int (i / 2 ^ j.toNat)) h := if_pos h0
@[simp] theorem x_abs {i : Int} : absD [.int i] h = .ok (.int (if i < 0 then -i else i)) h := (rfl)
theorem x_sorted_ints {m : Bool} {ns : List Int} (hr : rowOf h d = some (ns.map D.int)) : sortedD m [d] h = newL m ((sortI ns).map D.int) h := by
  simp only [sortedD, hr, intsOf_map]
theorem x_sorted_prs {m : Bool} {p : Int × Int} {ps : List (Int × Int)} (hr : lstOf h d = some ((p :: ps).map prD)) : sortedD m [d] h = newL m ((sortP (p :: ps)).map prD) h := by
  have hr2 : rowOf h d = some ((p :: ps).map prD) := by
    cases d <;> first | (cases hr; done) | exact hr
  have hi : intsOf ((p :: ps).map prD) = none := rfl
  simp only [sortedD, hr, hr2, hi, prsOf_map]
theorem x_sorted_prs0 {m : Bool} {ps : List (Int × Int)} (hr : lstOf h d = some (ps.map prD)) : sortedD m [d] h = newL m ((sortP ps).map prD) h := by
  cases ps with
  | cons p ps => exact x_sorted_prs hr
  | nil =>
    have hr2 : rowOf h d = some (([] : List Int).map D.int) := by
      cases d <;> first | (cases hr; done) | exact hr
    rw [x_sorted_ints hr2]; rfl
theorem x_index {α : Type} (f : α → D) {k : Nat} [E : EqS f k] [BEq α] [LawfulBEq α] (hk : k ≤ 63) {as : List α} {a : α} (hl : lstOf h d = some (as.map f)) (ha : a ∈ as) : indexD d [f a] h = .ok (.int (as.idxOf a : Nat)) h := by
  obtain ⟨py, k1, k2⟩ := E.ex
  have e1 := toP_lst (n := 63) hl (mapM_map (fun a => k1 h 63 a hk) as)
  have e2 := k1 h 64 a (by omega)
  have e3 : (as.map py).findIdx? (fun z => PyData.eqv z (py a)) = some (as.idxOf a) := by
    rw [List.findIdx?_map]
    have : ((fun z => PyData.eqv z (py a)) ∘ py) = fun b => b == a := by
      funext b
      show PyData.eqv (py b) (py a) = (b == a)
      rw [Bool.eq_iff_iff, k2, beq_iff_eq]
    rw [this, List.findIdx?_eq_some_iff_getElem]
    have hlt := List.idxOf_lt_length_of_mem ha
    refine ⟨hlt, ?_, fun j hj => ?_⟩
    · simp [List.getElem_idxOf]
    · have := List.not_of_lt_findIdx (p := fun b => b == a) (xs := as) (show j < as.findIdx _ from hj)
      simpa using this
  unfold indexD
  simp only [e1, e2, e3]
theorem x_inX {α : Type} (f : α → D) {k : Nat} [E : EqS f k] [BEq α] [LawfulBEq α] (hk : k ≤ 63) {n : Bool} {as : List α} {a : α} (hl : rowOf h d = some (as.map f)) (hd : ∀ xs, d ≠ .scr xs) : inX n (f a) d h = .ok (.bl (if n = true then !as.contains a else as.contains a)) h := by
  obtain ⟨py, k1, k2⟩ := E.ex
  have e2 := k1 h 64 a (by omega)
  have e3 : ((as.map py).any fun z => PyData.eqv z (py a)) = as.contains a := by
    rw [Bool.eq_iff_iff]
    simp only [List.any_map, List.any_eq_true, Function.comp, k2, List.contains_iff_mem]
    exact ⟨fun ⟨x, h1, h2⟩ => h2 ▸ h1, fun h1 => ⟨a, h1, rfl⟩⟩
  have lists : lstOf h d = some (as.map f) → inX n (f a) d h = .ok (.bl (if n = true then !as.contains a else as.contains a)) h := fun hl => by
    have e1 := toP_lst (n := 63) hl (mapM_map (fun a => k1 h 63 a hk) as)
    unfold inX
    simp only [e1, e2, e3]
  cases d with
  | tup xs =>
    cases hl
    have e1 := toP_tup (h := h) (n := 63) (mapM_map (fun a => k1 h 63 a hk) as)
    unfold inX
    simp only [e1, e2, e3]
  | scr xs => exact absurd rfl (hd xs)
  | lst xs => exact lists hl
  | loc m => exact lists hl
  | _ => cases hl
theorem x_mulLv {xs : List D} {k : Int} (h0 : -1000000 ≤ k) (h1 : xs.length * k.toNat ≤ 16777216) (h2 : k ≤ 1000000000) : mulLv (.lst xs) (.int k) h = .ok (.loc h.length) (h ++ [.lst (List.replicate k.toNat xs).flatten]) := by
  have : repOk k xs.length := ⟨by omega, by omega, h1⟩
  unfold mulLv
  exact if_pos this
theorem x_addLv {x y : D} {xs ys : List D} (hx : lstX h x = some xs) (hy : lstX h y = some ys) (hz : xs.length + ys.length ≤ 16777216) : addLv x y h = .ok (.loc h.length) (h ++ [.lst (xs ++ ys)]) := by
  unfold addLv
  rw [hx, hy]
  exact if_pos hz
theorem x_lenSet {ns : List Int} (hr : rowOf h d = some (ns.map D.int)) (hz : ns.length ≤ 1000) : lenSetD [d] h = .ok (.int (sortU ns).length) h := by
  simp only [lenSetD, hr, intsOf_map, if_pos hz]
theorem x_sortSet {ns : List Int} (hz : ns.length < 64) : sortSetD [iT ns] h = .ok (iL (sortU ns)) h := by
  show sortSetD [.tup (ns.map D.int)] h = _
  simp only [sortSetD, intsOf_map, if_pos hz]; rfl
end
end WD
namespace WD
open PySem PySem.Spec PyProof.Rows L2
@[simp] noncomputable def t_is_whole_0 : FS := (sRet (eAndF (eIsi ["int"] (eVar 0)) (eAndF (eNotF (eIsi ["bool"] (eVar 0))) (eChain leD leD (eVar 1) (eVar 0) (eVar 2)))))
noncomputable def b_is_whole : FS :=
  t_is_whole_0
noncomputable def F_is_whole : List D → Hs → R D := runF 3 3 .trunc b_is_whole
@[simp] noncomputable def t_is_row_0 : FS := (sRet (eIsi ["list", "tuple"] (eVar 0)))
noncomputable def b_is_row : FS :=
  t_is_row_0
noncomputable def F_is_row : List D → Hs → R D := runF 1 1 .trunc b_is_row
@[simp] noncomputable def t_is_rising_0a_0 : FS := (sRet (eC (.bl false)))
@[simp] noncomputable def t_is_rising_0 : FS := (sIf (tNotF (tV (eCall 1 F_is_row (aCons (eVar 0) aNil)))) t_is_rising_0a_0 sNext)
@[simp] noncomputable def t_is_rising_1 : FS := (sSet 3 (eBin subD (eVar 1) (eC (.int 1))))
@[simp] noncomputable def t_is_rising_2_0a_0 : FS := (sRet (eC (.bl false)))
@[simp] noncomputable def t_is_rising_2_0 : FS := (sIf (tNotF (tV (eCall 3 F_is_whole (aCons (eVar 4) (aCons (eBin addD (eVar 3) (eC (.int 1))) (aCons (eVar 2) aNil)))))) t_is_rising_2_0a_0 sNext)
@[simp] noncomputable def t_is_rising_2_1 : FS := (sSet 3 (eVar 4))
noncomputable def k_is_rising_2 : FS := (sFa [4] (sSeq t_is_rising_2_0 t_is_rising_2_1))
@[simp] theorem k_is_rising_2_ap (s : Ss) (h : Hs) : k_is_rising_2 s h = (sFa [4] (sSeq t_is_rising_2_0 t_is_rising_2_1)) s h := (rfl)
@[simp] noncomputable def t_is_rising_2 : FS := (sFa [3, 4] (sFb [4] (sFor (iRow (eVar 0)) (gVar 4) k_is_rising_2)))
@[simp] noncomputable def t_is_rising_3 : FS := (sRet (eC (.bl true)))
noncomputable def b_is_rising : FS :=
  (sSeq t_is_rising_0 (sSeq t_is_rising_1 (sSeq t_is_rising_2 t_is_rising_3)))
noncomputable def F_is_rising : List D → Hs → R D := runF 3 5 .trunc b_is_rising
noncomputable def b_told_rows (self : List D → Hs → R D) : FS :=
  (sSeq (sIf (tV (eCall 1 F_is_row (aCons (eVar 0) aNil))) (sRet (eB tupleD (aCons (eComp false [1] (iRow (eVar 0)) (gVar 1) tYesF (eCall 1 self (aCons (eVar 1) aNil))) aNil))) sNext) (sRet (eVar 0)))
noncomputable def F_told_rows : Nat → List D → Hs → R D
  | 0 => fun _ _ => .bad
  | n + 1 => runF 1 2 .trunc (b_told_rows (F_told_rows n))
@[simp] noncomputable def t_is_numbers_0a_0 : FS := (sRet (eC (.bl false)))
@[simp] noncomputable def t_is_numbers_0 : FS := (sIf (tOrF (tNotF (tV (eCall 1 F_is_row (aCons (eVar 0) aNil)))) (tV (eBin gtD (eB lenD (aCons (eVar 0) aNil)) (eC (.int 8))))) t_is_numbers_0a_0 sNext)
@[simp] noncomputable def t_is_numbers_1 : FS := (sRet (eBin (eqD false) (eComp false [1] (iRow (eVar 0)) (gVar 1) (tNotF (tV (eCall 3 F_is_whole (aCons (eVar 1) (aCons (eC (.int 1)) (aCons (eC (.int 40)) aNil)))))) (eVar 1)) (eLst false aNil)))
noncomputable def b_is_numbers : FS :=
  (sSeq t_is_numbers_0 t_is_numbers_1)
noncomputable def F_is_numbers : List D → Hs → R D := runF 1 2 .trunc b_is_numbers
@[simp] noncomputable def t_is_off_0a_0 : FS := (sRet (eC (.bl false)))
@[simp] noncomputable def t_is_off_0 : FS := (sIf (tOrF (tNotF (tV (eCall 1 F_is_row (aCons (eVar 0) aNil)))) (tOrF (tV (eBin ltD (eB lenD (aCons (eVar 0) aNil)) (eC (.int 1)))) (tV (eBin gtD (eB lenD (aCons (eVar 0) aNil)) (eC (.int 7)))))) t_is_off_0a_0 sNext)
@[simp] noncomputable def t_is_off_1 : FS := (sRet (eBin (eqD false) (eComp false [1] (iRow (eVar 0)) (gVar 1) (tNotF (tV (eCall 3 F_is_whole (aCons (eVar 1) (aCons (eC (.int 0)) (aCons (eC (.int 1)) aNil)))))) (eVar 1)) (eLst false aNil)))
noncomputable def b_is_off : FS :=
  (sSeq t_is_off_0 t_is_off_1)
noncomputable def F_is_off : List D → Hs → R D := runF 1 2 .trunc b_is_off
@[simp] noncomputable def t_is_pair_0 : FS := (sRet (eAndF (eCall 3 F_is_rising (aCons (eVar 0) (aCons (eC (.int 0)) (aCons (eBin subD (eVar 1) (eC (.int 1))) aNil)))) (eBin (eqD false) (eB lenD (aCons (eVar 0) aNil)) (eC (.int 2)))))
noncomputable def b_is_pair : FS :=
  t_is_pair_0
noncomputable def F_is_pair : List D → Hs → R D := runF 2 2 .trunc b_is_pair
@[simp] noncomputable def t_are_pairs_0a_0 : FS := (sRet (eC (.bl false)))
@[simp] noncomputable def t_are_pairs_0 : FS := (sIf (tOrF (tNotF (tV (eCall 1 F_is_row (aCons (eVar 0) aNil)))) (tV (eBin (eqD true) (eComp false [2] (iRow (eVar 0)) (gVar 2) (tNotF (tV (eCall 2 F_is_pair (aCons (eVar 2) (aCons (eVar 1) aNil))))) (eVar 2)) (eLst false aNil)))) t_are_pairs_0a_0 sNext)
@[simp] noncomputable def t_are_pairs_1 : FS := (sSet 3 (eCall 1 (F_told_rows 45) (aCons (eVar 0) aNil)))
@[simp] noncomputable def t_are_pairs_2 : FS := (sRet (eBin (eqD false) (eComp false [4] (iRng2 (aCons (eC (.int 1)) (aCons (eB lenD (aCons (eVar 3) aNil)) aNil))) (gVar 4) (tV (eBin geT (eBin ixD (eVar 3) (eBin subD (eVar 4) (eC (.int 1)))) (eBin ixD (eVar 3) (eVar 4)))) (eVar 4)) (eLst false aNil)))
noncomputable def b_are_pairs : FS :=
  (sSeq t_are_pairs_0 (sSeq t_are_pairs_1 t_are_pairs_2))
noncomputable def F_are_pairs : List D → Hs → R D := runF 2 5 .trunc b_are_pairs
@[simp] noncomputable def t_is_task_0a_0 : FS := (sRet (eC (.bl false)))
@[simp] noncomputable def t_is_task_0 : FS := (sIf (tOrF (tNotF (tV (eCall 1 F_is_row (aCons (eVar 0) aNil)))) (tV (eBin (eqD true) (eB lenD (aCons (eVar 0) aNil)) (eC (.int 5))))) t_is_task_0a_0 sNext)
@[simp] noncomputable def t_is_task_1 : FS := (sUn (gUn [(gVar 1), (gVar 2), (gVar 3), (gVar 4), (gVar 5)]) (eVar 0))
@[simp] noncomputable def t_is_task_2a_0 : FS := (sRet (eC (.bl false)))
@[simp] noncomputable def t_is_task_2 : FS := (sIf (tOrF (tNotF (tV (eCall 1 F_is_numbers (aCons (eVar 1) aNil)))) (tOrF (tNotF (tV (eCall 3 F_is_whole (aCons (eVar 2) (aCons (eC (.int 1)) (aCons (eC (.int 2)) aNil)))))) (tNotF (tV (eCall 1 F_is_off (aCons (eVar 3) aNil)))))) t_is_task_2a_0 sNext)
@[simp] noncomputable def t_is_task_3 : FS := (sRet (eAndF (eCall 3 F_is_rising (aCons (eVar 4) (aCons (eC (.int 0)) (aCons (eBin subD (eB lenD (aCons (eVar 1) aNil)) (eC (.int 1))) aNil)))) (eCall 2 F_are_pairs (aCons (eVar 5) (aCons (eB lenD (aCons (eVar 1) aNil)) aNil)))))
noncomputable def b_is_task : FS :=
  (sSeq t_is_task_0 (sSeq t_is_task_1 (sSeq t_is_task_2 t_is_task_3)))
noncomputable def F_is_task : List D → Hs → R D := runF 1 6 .trunc b_is_task
@[simp] noncomputable def t_asked_task_0a_0 : FS := (sRaise "NoTask")
@[simp] noncomputable def t_asked_task_0 : FS := (sIf (tNotF (tV (eCall 1 F_is_task (aCons (eVar 0) aNil)))) t_asked_task_0a_0 sNext)
@[simp] noncomputable def t_asked_task_1 : FS := (sRet (eCall 1 (F_told_rows 45) (aCons (eVar 0) aNil)))
noncomputable def b_asked_task : FS :=
  (sSeq t_asked_task_0 t_asked_task_1)
noncomputable def F_asked_task : List D → Hs → R D := runF 1 1 .trunc b_asked_task
@[simp] noncomputable def t_in_ties_0 : FS := (sSet 1 (eLst false aNil))
@[simp] noncomputable def t_in_ties_1_0 : FS := (sSet 1 (eBin addD (eVar 1) (eComp false [3] (iRow (eVar 2)) (gVar 3) (tV (eBin (inD true) (eVar 3) (eVar 1))) (eVar 3))))
noncomputable def k_in_ties_1 : FS := (sFa [2] t_in_ties_1_0)
@[simp] theorem k_in_ties_1_ap (s : Ss) (h : Hs) : k_in_ties_1 s h = (sFa [2] t_in_ties_1_0) s h := (rfl)
@[simp] noncomputable def t_in_ties_1 : FS := (sFb [2] (sFor (iRow (eBin ixD (eVar 0) (eC (.int 4)))) (gVar 2) k_in_ties_1))
@[simp] noncomputable def t_in_ties_2 : FS := (sRet (eVar 1))
noncomputable def b_in_ties : FS :=
  (sSeq t_in_ties_0 (sSeq t_in_ties_1 t_in_ties_2))
noncomputable def F_in_ties : List D → Hs → R D := runF 1 4 .trunc b_in_ties
@[simp] noncomputable def t_are_waits_0a_0 : FS := (sRet (eC (.bl false)))
@[simp] noncomputable def t_are_waits_0 : FS := (sIf (tOrF (tNotF (tV (eCall 1 F_is_row (aCons (eVar 1) aNil)))) (tV (eBin (eqD true) (eB lenD (aCons (eVar 1) aNil)) (eB lenD (aCons (eVar 0) aNil))))) t_are_waits_0a_0 sNext)
@[simp] noncomputable def t_are_waits_1 : FS := (sRet (eBin (eqD false) (eComp false [2] (iRng1 (aCons (eB lenD (aCons (eVar 0) aNil)) aNil)) (gVar 2) (tNotF (tV (eCall 3 F_is_whole (aCons (eBin ixD (eVar 1) (eVar 2)) (aCons (eC (.int 1)) (aCons (eBin ixD (eVar 0) (eVar 2)) aNil)))))) (eVar 2)) (eLst false aNil)))
noncomputable def b_are_waits : FS :=
  (sSeq t_are_waits_0 t_are_waits_1)
noncomputable def F_are_waits : List D → Hs → R D := runF 2 3 .trunc b_are_waits
@[simp] noncomputable def t_is_some_of_0a_0 : FS := (sRet (eC (.bl false)))
@[simp] noncomputable def t_is_some_of_0 : FS := (sIf (tOrF (tNotF (tV (eCall 3 F_is_rising (aCons (eVar 1) (aCons (eC (.int 0)) (aCons (eC (.int 7)) aNil)))))) (tV (eBin gtD (eB lenD (aCons (eVar 1) aNil)) (eVar 2)))) t_is_some_of_0a_0 sNext)
@[simp] noncomputable def t_is_some_of_1 : FS := (sRet (eBin (eqD false) (eComp false [3] (iRow (eVar 1)) (gVar 3) (tV (eBin (inD true) (eVar 3) (eVar 0))) (eVar 3)) (eLst false aNil)))
noncomputable def b_is_some_of : FS :=
  (sSeq t_is_some_of_0 t_is_some_of_1)
noncomputable def F_is_some_of : List D → Hs → R D := runF 3 4 .trunc b_is_some_of
@[simp] noncomputable def t_is_stand_of_0a_0 : FS := (sRet (eC (.bl false)))
@[simp] noncomputable def t_is_stand_of_0 : FS := (sIf (tOrF (tNotF (tV (eCall 1 F_is_row (aCons (eVar 1) aNil)))) (tV (eBin (eqD true) (eB lenD (aCons (eVar 1) aNil)) (eC (.int 4))))) t_is_stand_of_0a_0 sNext)
@[simp] noncomputable def t_is_stand_of_1 : FS := (sUn (gUn [(gVar 2), (gVar 3), (gVar 4), (gVar 5)]) (eVar 1))
@[simp] noncomputable def t_is_stand_of_2a_0 : FS := (sRet (eC (.bl false)))
@[simp] noncomputable def t_is_stand_of_2 : FS := (sIf (tOrF (tNotF (tV (eCall 3 F_is_whole (aCons (eVar 2) (aCons (eC (.int 0)) (aCons (eBin subD (eB lenD (aCons (eBin ixD (eVar 0) (eC (.int 2))) aNil)) (eC (.int 1))) aNil)))))) (tNotF (tV (eCall 2 F_are_waits (aCons (eBin ixD (eVar 0) (eC (.int 0))) (aCons (eVar 3) aNil)))))) t_is_stand_of_2a_0 sNext)
@[simp] noncomputable def t_is_stand_of_3 : FS := (sSet 6 (eCall 1 F_in_ties (aCons (eVar 0) aNil)))
@[simp] noncomputable def t_is_stand_of_4a_0 : FS := (sRet (eC (.bl false)))
@[simp] noncomputable def t_is_stand_of_4 : FS := (sIf (tOrF (tNotF (tV (eCall 3 F_is_some_of (aCons (eBin ixD (eVar 0) (eC (.int 3))) (aCons (eVar 4) (aCons (eBin ixD (eVar 0) (eC (.int 1))) aNil)))))) (tNotF (tV (eCall 3 F_is_some_of (aCons (eVar 6) (aCons (eVar 5) (aCons (eBin ixD (eVar 0) (eC (.int 1))) aNil))))))) t_is_stand_of_4a_0 sNext)
@[simp] noncomputable def t_is_stand_of_5a_0 : FS := (sRet (eC (.bl false)))
@[simp] noncomputable def t_is_stand_of_5 : FS := (sIf (tV (eBin gtD (eBin addD (eB lenD (aCons (eVar 4) aNil)) (eB lenD (aCons (eComp false [7] (iRow (eVar 5)) (gVar 7) (tV (eBin (inD true) (eVar 7) (eVar 4))) (eVar 7)) aNil))) (eBin ixD (eVar 0) (eC (.int 1))))) t_is_stand_of_5a_0 sNext)
@[simp] noncomputable def t_is_stand_of_6 : FS := (sRet (eBin (eqD false) (eComp false [7] (iRow (eVar 4)) (gVar 7) (tAndF (tV (eBin (inD false) (eVar 7) (eVar 6))) (tV (eBin (inD true) (eVar 7) (eVar 5)))) (eVar 7)) (eLst false aNil)))
noncomputable def b_is_stand_of : FS :=
  (sSeq t_is_stand_of_0 (sSeq t_is_stand_of_1 (sSeq t_is_stand_of_2 (sSeq t_is_stand_of_3 (sSeq t_is_stand_of_4 (sSeq t_is_stand_of_5 t_is_stand_of_6))))))
noncomputable def F_is_stand_of : List D → Hs → R D := runF 2 8 .trunc b_is_stand_of
@[simp] noncomputable def t_is_stand_0 : FS := (sRet (eCall 2 F_is_stand_of (aCons (eCall 1 F_asked_task (aCons (eVar 0) aNil)) (aCons (eVar 1) aNil))))
noncomputable def b_is_stand : FS :=
  t_is_stand_0
noncomputable def F_is_stand : List D → Hs → R D := runF 2 2 .trunc b_is_stand
@[simp] noncomputable def t_first_of_0 : FS := (sRet (eTup (aCons (eC (.int 0)) (aCons (eBin ixD (eVar 0) (eC (.int 0))) (aCons (eTup aNil) (aCons (eTup aNil) aNil))))))
noncomputable def b_first_of : FS :=
  t_first_of_0
noncomputable def F_first_of : List D → Hs → R D := runF 1 1 .trunc b_first_of
@[simp] noncomputable def t_first_stand_0 : FS := (sRet (eCall 1 F_first_of (aCons (eCall 1 F_asked_task (aCons (eVar 0) aNil)) aNil)))
noncomputable def b_first_stand : FS :=
  t_first_stand_0
noncomputable def F_first_stand : List D → Hs → R D := runF 1 1 .trunc b_first_stand
@[simp] noncomputable def t__law_cell_0a_0 : FS := (sRet (eBin ixD (eVar 0) (eVar 1)))
@[simp] noncomputable def t__law_cell_0 : FS := (sIf (tV (eBin ltD (eVar 1) (eB lenD (aCons (eVar 0) aNil)))) t__law_cell_0a_0 sNext)
@[simp] noncomputable def t__law_cell_1 : FS := (sSet 2 (eBin addD (eC (.int 80021)) (eBin mulD (eBin mulD (eC (.int 941)) (eVar 1)) (eVar 1))))
@[simp] noncomputable def t__law_cell_2a_0 : FS := (sSet 2 (eBin addD (eVar 2) (eBin mulD (eBin modD (eBin ixD (eVar 0) (eC (.int 0))) (eC (.int 99991))) (eBin addD (eBin mulD (eC (.int 2)) (eVar 1)) (eC (.int 5))))))
@[simp] noncomputable def t__law_cell_2 : FS := (sIf (tV (eBin gtD (eB lenD (aCons (eVar 0) aNil)) (eC (.int 0)))) t__law_cell_2a_0 sNext)
@[simp] noncomputable def t__law_cell_3 : FS := (sRet (eVar 2))
noncomputable def b__law_cell : FS :=
  (sSeq t__law_cell_0 (sSeq t__law_cell_1 (sSeq t__law_cell_2 t__law_cell_3)))
noncomputable def F__law_cell : List D → Hs → R D := runF 2 3 .trunc b__law_cell
@[simp] noncomputable def t__law_draws_0 : FS := (sSet 3 (eLst true aNil))
@[simp] noncomputable def t__law_draws_1 : FS := (sSet 4 (eB maxD (aCons (eC (.int 0)) (aCons (eCall 2 F__law_cell (aCons (eVar 0) (aCons (eVar 1) aNil))) aNil))))
@[simp] noncomputable def t__law_draws_2a_0_0 : FS := (sExpr (eML appendD (eVar 3) (aCons (eBin modD (eVar 4) (eC (.int 10000))) aNil)))
@[simp] noncomputable def t__law_draws_2a_0_1 : FS := (sSet 4 (eBin fdivD (eVar 4) (eC (.int 10000))))
noncomputable def k__law_draws_2a_0 : FS := (sFa [5] (sSeq t__law_draws_2a_0_0 t__law_draws_2a_0_1))
@[simp] theorem k__law_draws_2a_0_ap (s : Ss) (h : Hs) : k__law_draws_2a_0 s h = (sFa [5] (sSeq t__law_draws_2a_0_0 t__law_draws_2a_0_1)) s h := (rfl)
@[simp] noncomputable def t__law_draws_2a_0 : FS := (sFa [4, 5] (sFb [5] (sFor (iRng1 (aCons (eVar 2) aNil)) (gVar 5) k__law_draws_2a_0)))
@[simp] noncomputable def t__law_draws_2a_1 : FS := (sRet (eVar 3))
@[simp] noncomputable def t__law_draws_2 : FS := (sIf (tV (eBin geD (eVar 4) (eBin powD (eC (.int 10)) (eC (.int 18))))) (sSeq t__law_draws_2a_0 t__law_draws_2a_1) sNext)
@[simp] noncomputable def t__law_draws_3 : FS := (sSet 6 (eBin modD (eBin mulD (eBin modD (eVar 4) (eC (.int 2147483647))) (eC (.int 48271))) (eC (.int 2147483647))))
@[simp] noncomputable def t__law_draws_4_0 : FS := (sSet 6 (eBin modD (eBin addD (eBin addD (eBin addD (eBin mulD (eVar 6) (eC (.int 48271))) (eCall 2 F__law_cell (aCons (eVar 0) (aCons (eBin addD (eBin addD (eVar 1) (eC (.int 1))) (eBin modD (eVar 5) (eC (.int 30)))) aNil)))) (eBin mulD (eVar 5) (eVar 5))) (eC (.int 7))) (eC (.int 2147483629))))
@[simp] noncomputable def t__law_draws_4_1 : FS := (sExpr (eML appendD (eVar 3) (aCons (eBin fdivD (eBin modD (eBin addD (eBin mulD (eVar 6) (eC (.int 39373))) (eBin mulD (eC (.int 11)) (eVar 5))) (eC (.int 2147483647))) (eC (.int 16))) aNil)))
noncomputable def k__law_draws_4 : FS := (sFa [5] (sSeq t__law_draws_4_0 t__law_draws_4_1))
@[simp] theorem k__law_draws_4_ap (s : Ss) (h : Hs) : k__law_draws_4 s h = (sFa [5] (sSeq t__law_draws_4_0 t__law_draws_4_1)) s h := (rfl)
@[simp] noncomputable def t__law_draws_4 : FS := (sFa [5, 6] (sFb [5] (sFor (iRng1 (aCons (eVar 2) aNil)) (gVar 5) k__law_draws_4)))
@[simp] noncomputable def t__law_draws_5 : FS := (sRet (eVar 3))
noncomputable def b__law_draws : FS :=
  (sSeq t__law_draws_0 (sSeq t__law_draws_1 (sSeq t__law_draws_2 (sSeq t__law_draws_3 (sSeq t__law_draws_4 t__law_draws_5)))))
noncomputable def F__law_draws : List D → Hs → R D := runF 3 7 .move b__law_draws
@[simp] noncomputable def t__law_next_0a_0 : FS := (sRet (eML popD (eVar 0) aNil))
@[simp] noncomputable def t__law_next_0 : FS := (sIf (tV (eBin gtD (eB lenD (aCons (eVar 0) aNil)) (eC (.int 0)))) t__law_next_0a_0 sNext)
@[simp] noncomputable def t__law_next_1 : FS := (sRet (eC (.int 0)))
noncomputable def b__law_next : FS :=
  (sSeq t__law_next_0 t__law_next_1)
noncomputable def F__law_next : List D → Hs → R D := runF 1 1 .trunc b__law_next
@[simp] noncomputable def t__law_long_0 : FS := (sSet 2 (eCall 1 F__law_next (aCons (eVar 0) aNil)))
@[simp] noncomputable def t__law_long_1a_0 : FS := (sRet (eTup aNil))
@[simp] noncomputable def t__law_long_1 : FS := (sIf (tV (eBin gtD (eBin modD (eVar 2) (eC (.int 3))) (eC (.int 0)))) t__law_long_1a_0 sNext)
@[simp] noncomputable def t__law_long_2 : FS := (sRet (eB tupleD (aCons (eComp false [3] (iRng1 (aCons (eVar 1) aNil)) (gVar 3) (tV (eBin (eqD false) (eBin modD (eBin fdivD (eBin fdivD (eVar 2) (eC (.int 4))) (eBin shlD (eC (.int 1)) (eVar 3))) (eC (.int 3))) (eC (.int 0)))) (eVar 3)) aNil)))
noncomputable def b__law_long : FS :=
  (sSeq t__law_long_0 (sSeq t__law_long_1 t__law_long_2))
noncomputable def F__law_long : List D → Hs → R D := runF 2 4 .trunc b__law_long
@[simp] noncomputable def t__law_tied_0 : FS := (sSet 2 (eCall 1 F__law_next (aCons (eVar 0) aNil)))
@[simp] noncomputable def t__law_tied_1 : FS := (sSet 3 (eLst true aNil))
@[simp] noncomputable def t__law_tied_2_0_0a_0 : FS := (sExpr (eML appendD (eVar 3) (aCons (eTup (aCons (eVar 5) (aCons (eVar 4) aNil))) aNil)))
@[simp] noncomputable def t__law_tied_2_0_0 : FS := (sIf (tAndF (tV (eBin (eqD false) (eBin modD (eVar 2) (eC (.int 3))) (eC (.int 0)))) (tV (eBin (eqD false) (eBin modD (eBin fdivD (eBin fdivD (eVar 2) (eC (.int 3))) (eBin addD (eBin addD (eC (.int 1)) (eVar 5)) (eBin mulD (eC (.int 8)) (eVar 4)))) (eC (.int 4))) (eC (.int 0))))) t__law_tied_2_0_0a_0 sNext)
noncomputable def k__law_tied_2_0 : FS := (sFa [5] t__law_tied_2_0_0)
@[simp] theorem k__law_tied_2_0_ap (s : Ss) (h : Hs) : k__law_tied_2_0 s h = (sFa [5] t__law_tied_2_0_0) s h := (rfl)
@[simp] noncomputable def t__law_tied_2_0 : FS := (sFb [5] (sFor (iRng1 (aCons (eVar 4) aNil)) (gVar 5) k__law_tied_2_0))
noncomputable def k__law_tied_2 : FS := (sFa [4, 5] t__law_tied_2_0)
@[simp] theorem k__law_tied_2_ap (s : Ss) (h : Hs) : k__law_tied_2 s h = (sFa [4, 5] t__law_tied_2_0) s h := (rfl)
@[simp] noncomputable def t__law_tied_2 : FS := (sFb [4, 5] (sFor (iRng1 (aCons (eVar 1) aNil)) (gVar 4) k__law_tied_2))
@[simp] noncomputable def t__law_tied_3 : FS := (sRet (eB tupleD (aCons (eB (sortedD false) (aCons (eVar 3) aNil)) aNil)))
noncomputable def b__law_tied : FS :=
  (sSeq t__law_tied_0 (sSeq t__law_tied_1 (sSeq t__law_tied_2 t__law_tied_3)))
noncomputable def F__law_tied : List D → Hs → R D := runF 2 6 .trunc b__law_tied
@[simp] noncomputable def t__law_off_0 : FS := (sSet 2 (eCall 1 F__law_next (aCons (eVar 0) aNil)))
@[simp] noncomputable def t__law_off_1 : FS := (sSet 3 (eBin addD (eC (.int 1)) (eBin modD (eBin fdivD (eVar 2) (eC (.int 3))) (eC (.int 7)))))
@[simp] noncomputable def t__law_off_2a_0 : FS := (sRet (eTup (aCons (eC (.int 0)) aNil)))
@[simp] noncomputable def t__law_off_2 : FS := (sIf (tOrF (tV (eBin gtD (eBin modD (eVar 2) (eC (.int 3))) (eC (.int 0)))) (tV (eBin gtD (eVar 3) (eVar 1)))) t__law_off_2a_0 sNext)
@[simp] noncomputable def t__law_off_3 : FS := (sRet (eB tupleD (aCons (eComp false [4] (iRng1 (aCons (eVar 3) aNil)) (gVar 4) tYesF (eB intD (aCons (eBin (eqD false) (eBin modD (eBin fdivD (eBin fdivD (eVar 2) (eC (.int 32))) (eBin shlD (eC (.int 1)) (eVar 4))) (eC (.int 4))) (eC (.int 0))) aNil))) aNil)))
noncomputable def b__law_off : FS :=
  (sSeq t__law_off_0 (sSeq t__law_off_1 (sSeq t__law_off_2 t__law_off_3)))
noncomputable def F__law_off : List D → Hs → R D := runF 2 5 .trunc b__law_off
@[simp] noncomputable def t__law_task_0 : FS := (sSet 2 (eLst true aNil))
@[simp] noncomputable def t__law_task_1 : FS := (sSet 3 (eVar 1))
@[simp] noncomputable def t__law_task_2_0 : FS := (sSet 5 (eCall 1 F__law_next (aCons (eVar 0) aNil)))
@[simp] noncomputable def t__law_task_2_1 : FS := (sSet 6 (eLst false (aCons (eC (.int 2)) (aCons (eC (.int 3)) (aCons (eC (.int 4)) (aCons (eC (.int 6)) (aCons (eBin addD (eC (.int 1)) (eBin modD (eBin fdivD (eVar 5) (eC (.int 16))) (eC (.int 4)))) (aCons (eBin addD (eC (.int 2)) (eBin modD (eBin fdivD (eVar 5) (eC (.int 16))) (eC (.int 5)))) (aCons (eBin addD (eC (.int 3)) (eBin modD (eBin fdivD (eVar 5) (eC (.int 16))) (eC (.int 8)))) (aCons (eC (.int 5)) (aCons (eC (.int 8)) (aCons (eC (.int 12)) aNil))))))))))))
@[simp] noncomputable def t__law_task_2_2 : FS := (sSet 7 (eBin ixD (eBin addD (eVar 6) (eLst false (aCons (eC (.int 7)) (aCons (eC (.int 3)) (aCons (eC (.int 4)) (aCons (eC (.int 2)) (aCons (eC (.int 5)) (aCons (eBin addD (eC (.int 1)) (eBin modD (eBin fdivD (eVar 5) (eC (.int 16))) (eC (.int 40)))) aNil)))))))) (eBin modD (eVar 5) (eC (.int 16)))))
@[simp] noncomputable def t__law_task_2_3a_0 : FS := (sExpr (eML appendD (eVar 2) (aCons (eVar 7) aNil)))
@[simp] noncomputable def t__law_task_2_3a_1 : FS := (sSet 3 (eBin fdivD (eVar 3) (eVar 7)))
@[simp] noncomputable def t__law_task_2_3 : FS := (sIf (tV (eBin leD (eVar 7) (eVar 3))) (sSeq t__law_task_2_3a_0 t__law_task_2_3a_1) sNext)
noncomputable def k__law_task_2 : FS := (sFa [4, 5, 6, 7] (sSeq t__law_task_2_0 (sSeq t__law_task_2_1 (sSeq t__law_task_2_2 t__law_task_2_3))))
@[simp] theorem k__law_task_2_ap (s : Ss) (h : Hs) : k__law_task_2 s h = (sFa [4, 5, 6, 7] (sSeq t__law_task_2_0 (sSeq t__law_task_2_1 (sSeq t__law_task_2_2 t__law_task_2_3)))) s h := (rfl)
@[simp] noncomputable def t__law_task_2 : FS := (sFb [4, 5, 6, 7] (sFor (iRng1 (aCons (eBin modD (eCall 1 F__law_next (aCons (eVar 0) aNil)) (eC (.int 7))) aNil)) (gVar 4) k__law_task_2))
@[simp] noncomputable def t__law_task_3 : FS := (sSet 8 (eBin addD (eC (.int 1)) (eB intD (aCons (eBin (eqD false) (eBin modD (eCall 1 F__law_next (aCons (eVar 0) aNil)) (eC (.int 3))) (eC (.int 0))) aNil))))
@[simp] noncomputable def t__law_task_4 : FS := (sSet 9 (eCall 2 F__law_off (aCons (eVar 0) (aCons (eVar 3) aNil))))
@[simp] noncomputable def t__law_task_5 : FS := (sSet 10 (eCall 2 F__law_long (aCons (eVar 0) (aCons (eB lenD (aCons (eVar 2) aNil)) aNil))))
@[simp] noncomputable def t__law_task_6 : FS := (sSet 11 (eBin addD (eBin addD (eC (.int 1)) (eB lenD (aCons (eVar 10) aNil))) (eBin mulD (eBin subD (eVar 8) (eC (.int 1))) (eBin fdivD (eBin mulD (eB lenD (aCons (eVar 10) aNil)) (eBin subD (eB lenD (aCons (eVar 10) aNil)) (eC (.int 1)))) (eC (.int 2))))))
@[simp] noncomputable def t__law_task_7a_0 : FS := (sSet 10 (eTup aNil))
@[simp] noncomputable def t__law_task_7 : FS := (sIf (tV (eBin gtD (eBin mulD (eVar 11) (eB lenD (aCons (eVar 9) aNil))) (eVar 3))) t__law_task_7a_0 sNext)
@[simp] noncomputable def t__law_task_8 : FS := (sRet (eTup (aCons (eB tupleD (aCons (eVar 2) aNil)) (aCons (eVar 8) (aCons (eVar 9) (aCons (eVar 10) (aCons (eCall 2 F__law_tied (aCons (eVar 0) (aCons (eB lenD (aCons (eVar 2) aNil)) aNil))) aNil)))))))
noncomputable def b__law_task : FS :=
  (sSeq t__law_task_0 (sSeq t__law_task_1 (sSeq t__law_task_2 (sSeq t__law_task_3 (sSeq t__law_task_4 (sSeq t__law_task_5 (sSeq t__law_task_6 (sSeq t__law_task_7 t__law_task_8))))))))
noncomputable def F__law_task : List D → Hs → R D := runF 2 12 .trunc b__law_task
@[simp] noncomputable def t__law_made_up_0 : FS := (sUn (gUn [(gVar 2), (gVar 3), (gVar 4), (gVar 5), (gVar 6)]) (eVar 1))
@[simp] noncomputable def t__law_made_up_1 : FS := (sSet 7 (eBin modD (eCall 1 F__law_next (aCons (eVar 0) aNil)) (eB lenD (aCons (eVar 4) aNil))))
@[simp] noncomputable def t__law_made_up_2 : FS := (sSet 8 (eLst true aNil))
@[simp] noncomputable def t__law_made_up_3_0 : FS := (sSet 10 (eCall 1 F__law_next (aCons (eVar 0) aNil)))
@[simp] noncomputable def t__law_made_up_3_1 : FS := (sExpr (eML appendD (eVar 8) (aCons (eBin ixD (eLst false (aCons (eBin addD (eC (.int 1)) (eBin modD (eBin fdivD (eVar 10) (eC (.int 4))) (eVar 9))) (aCons (eVar 9) (aCons (eC (.int 1)) (aCons (eB maxD (aCons (eC (.int 1)) (aCons (eBin subD (eVar 9) (eC (.int 1))) aNil))) aNil))))) (eBin modD (eVar 10) (eC (.int 4)))) aNil)))
noncomputable def k__law_made_up_3 : FS := (sFa [9, 10] (sSeq t__law_made_up_3_0 t__law_made_up_3_1))
@[simp] theorem k__law_made_up_3_ap (s : Ss) (h : Hs) : k__law_made_up_3 s h = (sFa [9, 10] (sSeq t__law_made_up_3_0 t__law_made_up_3_1)) s h := (rfl)
@[simp] noncomputable def t__law_made_up_3 : FS := (sFb [9, 10] (sFor (iRow (eVar 2)) (gVar 9) k__law_made_up_3))
@[simp] noncomputable def t__law_made_up_4 : FS := (sSet 11 (eB sortSetX (aCons (eB sumLD (aCons (eComp false [12] (iRow (eVar 6)) (gVar 12) tYesF (eB (listD false) (aCons (eVar 12) aNil))) (aCons (eLst false aNil) aNil))) aNil)))
@[simp] noncomputable def t__law_made_up_5 : FS := (sSet 13 (eSl false (eComp false [14] (iRow (eVar 5)) (gVar 14) (tV (eBin (eqD false) (eBin modD (eCall 1 F__law_next (aCons (eVar 0) aNil)) (eC (.int 3))) (eC (.int 0)))) (eVar 14)) oNone (oSome (eVar 3))))
@[simp] noncomputable def t__law_made_up_6 : FS := (sSet 15 (eComp false [14] (iRow (eVar 11)) (gVar 14) (tV (eBin (inD false) (eVar 14) (eVar 13))) (eVar 14)))
@[simp] noncomputable def t__law_made_up_7 : FS := (sSet 16 (eComp false [14] (iRow (eVar 11)) (gVar 14) (tAndF (tV (eBin (inD true) (eVar 14) (eVar 13))) (tV (eBin (eqD false) (eBin modD (eCall 1 F__law_next (aCons (eVar 0) aNil)) (eC (.int 3))) (eC (.int 0))))) (eVar 14)))
@[simp] noncomputable def t__law_made_up_8 : FS := (sSet 15 (eB (sortedD false) (aCons (eBin addD (eVar 15) (eSl false (eVar 16) oNone (oSome (eBin subD (eVar 3) (eB lenD (aCons (eVar 13) aNil)))))) aNil)))
@[simp] noncomputable def t__law_made_up_9 : FS := (sRet (eTup (aCons (eVar 7) (aCons (eB tupleD (aCons (eVar 8) aNil)) (aCons (eB tupleD (aCons (eVar 13) aNil)) (aCons (eB tupleD (aCons (eVar 15) aNil)) aNil))))))
noncomputable def b__law_made_up : FS :=
  (sSeq t__law_made_up_0 (sSeq t__law_made_up_1 (sSeq t__law_made_up_2 (sSeq t__law_made_up_3 (sSeq t__law_made_up_4 (sSeq t__law_made_up_5 (sSeq t__law_made_up_6 (sSeq t__law_made_up_7 (sSeq t__law_made_up_8 t__law_made_up_9)))))))))
noncomputable def F__law_made_up : List D → Hs → R D := runF 2 17 .trunc b__law_made_up
noncomputable def b__law_lists (self : List D → Hs → R D) : FS :=
  (sSeq (sIf (tV (eIsi ["tuple"] (eVar 0))) (sRet (eComp false [1] (iRow (eVar 0)) (gVar 1) tYesF (eCall 1 self (aCons (eVar 1) aNil)))) sNext) (sRet (eVar 0)))
noncomputable def F__law_lists : Nat → List D → Hs → R D
  | 0 => fun _ _ => .bad
  | n + 1 => runF 1 2 .keep (b__law_lists (F__law_lists n))
@[simp] noncomputable def t__law_whole_0 : FS := (sRet (eAndF (eIsi ["int"] (eVar 0)) (eAndF (eNotF (eIsi ["bool"] (eVar 0))) (eChain leD leD (eVar 1) (eVar 0) (eVar 2)))))
noncomputable def b__law_whole : FS :=
  t__law_whole_0
noncomputable def F__law_whole : List D → Hs → R D := runF 3 3 .trunc b__law_whole
@[simp] noncomputable def t__law_some_of_0a_0 : FS := (sRet (eC (.bl false)))
@[simp] noncomputable def t__law_some_of_0 : FS := (sIf (tOrF (tNotF (tV (eIsi ["list", "tuple"] (eVar 1)))) (tV (eBin gtD (eB lenD (aCons (eVar 1) aNil)) (eVar 2)))) t__law_some_of_0a_0 sNext)
@[simp] noncomputable def t__law_some_of_1_0a_0 : FS := (sRet (eC (.bl false)))
@[simp] noncomputable def t__law_some_of_1_0 : FS := (sIf (tOrF (tNotF (tV (eCall 3 F__law_whole (aCons (eBin ixD (eVar 1) (eVar 3)) (aCons (eC (.int 0)) (aCons (eC (.int 7)) aNil)))))) (tOrF (tV (eBin (inD true) (eBin ixD (eVar 1) (eVar 3)) (eVar 0))) (tAndF (tV (eBin gtD (eVar 3) (eC (.int 0)))) (tV (eBin geD (eBin ixD (eVar 1) (eBin subD (eVar 3) (eC (.int 1)))) (eBin ixD (eVar 1) (eVar 3))))))) t__law_some_of_1_0a_0 sNext)
noncomputable def k__law_some_of_1 : FS := (sFa [3] t__law_some_of_1_0)
@[simp] theorem k__law_some_of_1_ap (s : Ss) (h : Hs) : k__law_some_of_1 s h = (sFa [3] t__law_some_of_1_0) s h := (rfl)
@[simp] noncomputable def t__law_some_of_1 : FS := (sFb [3] (sFor (iRng1 (aCons (eB lenD (aCons (eVar 1) aNil)) aNil)) (gVar 3) k__law_some_of_1))
@[simp] noncomputable def t__law_some_of_2 : FS := (sRet (eC (.bl true)))
noncomputable def b__law_some_of : FS :=
  (sSeq t__law_some_of_0 (sSeq t__law_some_of_1 t__law_some_of_2))
noncomputable def F__law_some_of : List D → Hs → R D := runF 3 4 .trunc b__law_some_of
@[simp] noncomputable def t__law_is_stand_0 : FS := (sUn (gUn [(gVar 2), (gVar 3), (gVar 4), (gVar 5), (gVar 6)]) (eVar 0))
@[simp] noncomputable def t__law_is_stand_1a_0 : FS := (sRet (eC (.bl false)))
@[simp] noncomputable def t__law_is_stand_1 : FS := (sIf (tOrF (tNotF (tV (eIsi ["list", "tuple"] (eVar 1)))) (tOrF (tV (eBin (eqD true) (eB lenD (aCons (eVar 1) aNil)) (eC (.int 4)))) (tNotF (tV (eCall 3 F__law_whole (aCons (eBin ixD (eVar 1) (eC (.int 0))) (aCons (eC (.int 0)) (aCons (eBin subD (eB lenD (aCons (eVar 4) aNil)) (eC (.int 1))) aNil)))))))) t__law_is_stand_1a_0 sNext)
@[simp] noncomputable def t__law_is_stand_2 : FS := (sUn (gUn [(gVar 7), (gVar 8), (gVar 9)]) (eTup (aCons (eBin ixD (eVar 1) (eC (.int 1))) (aCons (eBin ixD (eVar 1) (eC (.int 2))) (aCons (eBin ixD (eVar 1) (eC (.int 3))) aNil)))))
@[simp] noncomputable def t__law_is_stand_3a_0 : FS := (sRet (eC (.bl false)))
@[simp] noncomputable def t__law_is_stand_3 : FS := (sIf (tOrF (tNotF (tV (eIsi ["list", "tuple"] (eVar 7)))) (tV (eBin (eqD true) (eB lenD (aCons (eVar 7) aNil)) (eB lenD (aCons (eVar 2) aNil))))) t__law_is_stand_3a_0 sNext)
@[simp] noncomputable def t__law_is_stand_4a_0 : FS := (sRet (eC (.bl false)))
@[simp] noncomputable def t__law_is_stand_4 : FS := (sIf (tV (eBin (eqD true) (eComp false [10] (iRng1 (aCons (eB lenD (aCons (eVar 2) aNil)) aNil)) (gVar 10) (tNotF (tV (eCall 3 F__law_whole (aCons (eBin ixD (eVar 7) (eVar 10)) (aCons (eC (.int 1)) (aCons (eBin ixD (eVar 2) (eVar 10)) aNil)))))) (eVar 10)) (eLst false aNil))) t__law_is_stand_4a_0 sNext)
@[simp] noncomputable def t__law_is_stand_5 : FS := (sSet 11 (eB sumLD (aCons (eComp false [12] (iRow (eVar 6)) (gVar 12) tYesF (eB (listD false) (aCons (eVar 12) aNil))) (aCons (eLst false aNil) aNil))))
@[simp] noncomputable def t__law_is_stand_6a_0 : FS := (sRet (eC (.bl false)))
@[simp] noncomputable def t__law_is_stand_6 : FS := (sIf (tOrF (tNotF (tV (eCall 3 F__law_some_of (aCons (eVar 5) (aCons (eVar 8) (aCons (eVar 3) aNil)))))) (tNotF (tV (eCall 3 F__law_some_of (aCons (eVar 11) (aCons (eVar 9) (aCons (eVar 3) aNil))))))) t__law_is_stand_6a_0 sNext)
@[simp] noncomputable def t__law_is_stand_7a_0 : FS := (sRet (eC (.bl false)))
@[simp] noncomputable def t__law_is_stand_7 : FS := (sIf (tV (eBin gtD (eB lenSetD (aCons (eBin addD (eB (listD false) (aCons (eVar 8) aNil)) (eB (listD false) (aCons (eVar 9) aNil))) aNil)) (eVar 3))) t__law_is_stand_7a_0 sNext)
@[simp] noncomputable def t__law_is_stand_8 : FS := (sRet (eBin (eqD false) (eComp false [10] (iRow (eVar 8)) (gVar 10) (tAndF (tV (eBin (inD false) (eVar 10) (eVar 11))) (tV (eBin (inD true) (eVar 10) (eVar 9)))) (eVar 10)) (eLst false aNil)))
noncomputable def b__law_is_stand : FS :=
  (sSeq t__law_is_stand_0 (sSeq t__law_is_stand_1 (sSeq t__law_is_stand_2 (sSeq t__law_is_stand_3 (sSeq t__law_is_stand_4 (sSeq t__law_is_stand_5 (sSeq t__law_is_stand_6 (sSeq t__law_is_stand_7 t__law_is_stand_8))))))))
noncomputable def F__law_is_stand : List D → Hs → R D := runF 2 13 .trunc b__law_is_stand
@[simp] noncomputable def t__law_wrong_0 : FS := (sSet 1 (eLst false (aCons (negD (eC (.int 1))) (aCons (eC (.int 0)) (aCons (eC (.int 1)) (aCons (eC (.int 2)) (aCons (eC (.bl true)) (aCons (eC (.bl false)) (aCons (eC .non) (aCons (eC (.str "0")) (aCons (eC (.str "")) (aCons (eTup aNil) (aCons (eLst false aNil) (aCons (eTup (aCons (eC (.int 0)) aNil)) (aCons (eTup (aCons (eC (.int 1)) aNil)) (aCons (eTup (aCons (eC (.int 0)) (aCons (eC (.int 1)) aNil))) (aCons (eTup (aCons (eC (.int 1)) (aCons (eC (.int 0)) aNil))) (aCons (eTup (aCons (eC (.int 0)) (aCons (eC (.int 0)) aNil))) (aCons (eTup (aCons (eC (.int 0)) (aCons (eC (.int 1)) (aCons (eC (.int 2)) aNil)))) (aCons (eTup (aCons (eC (.int 2)) aNil)) (aCons (eLst false (aCons (eC (.int 1)) aNil)) aNil)))))))))))))))))))))
@[simp] noncomputable def t__law_wrong_1 : FS := (sSet 1 (eBin addD (eVar 1) (eLst false (aCons (eTup (aCons (eTup (aCons (eC (.int 0)) aNil)) aNil)) (aCons (eC (.dic [] [])) (aCons (eC (.dic [.inl 0] [.int 1])) (aCons (eBin powD (eC (.int 10)) (eC (.int 60))) (aCons (eC (.int 41)) (aCons (eC (.int 7)) (aCons (eC (.int 8)) (aCons (eTup (aCons (eC (.int 7)) aNil)) (aCons (eTup (aCons (eC (.int 8)) aNil)) (aCons (eTup (aCons (negD (eC (.int 1))) aNil)) (aCons (eTup (aCons (eC (.bl true)) aNil)) (aCons (eTup (aCons (eC .non) aNil)) (aCons (eC (.str "a")) (aCons (eTup (aCons (eC (.int 3)) (aCons (eC (.int 4)) aNil))) (aCons (eTup (aCons (eC (.int 1)) (aCons (eC (.int 2)) aNil))) (aCons (eC (.int 3)) aNil)))))))))))))))))))
@[simp] noncomputable def t__law_wrong_2 : FS := (sRet (eBin ixD (eVar 1) (eBin modD (eVar 0) (eB lenD (aCons (eVar 1) aNil)))))
noncomputable def b__law_wrong : FS :=
  (sSeq t__law_wrong_0 (sSeq t__law_wrong_1 t__law_wrong_2))
noncomputable def F__law_wrong : List D → Hs → R D := runF 1 2 .trunc b__law_wrong
@[simp] noncomputable def t__law_bent_0 : FS := (sSet 2 (eBin modD (eVar 1) (eC (.int 8))))
@[simp] noncomputable def t__law_bent_1 : FS := (sSet 3 (eBin fdivD (eVar 1) (eC (.int 8))))
@[simp] noncomputable def t__law_bent_2 : FS := (sSet 4 (eBin modD (eVar 3) (eC (.int 4))))
@[simp] noncomputable def t__law_bent_3a_0 : FS := (sRet (eBin addD (eBin addD (eSl false (eVar 0) oNone (oSome (eVar 4))) (eTup (aCons (eCall 1 F__law_wrong (aCons (eBin fdivD (eVar 3) (eC (.int 4))) aNil)) aNil))) (eSl false (eVar 0) (oSome (eBin addD (eVar 4) (eC (.int 1)))) oNone)))
@[simp] noncomputable def t__law_bent_3 : FS := (sIf (tV (eBin ltD (eVar 2) (eC (.int 3)))) t__law_bent_3a_0 sNext)
@[simp] noncomputable def t__law_bent_4a_0 : FS := (sSet 5 (eBin ixD (eVar 0) (eBin addD (eC (.int 1)) (eBin modD (eVar 3) (eC (.int 3))))))
@[simp] noncomputable def t__law_bent_4a_1 : FS := (sSet 6 (eBin modD (eBin fdivD (eVar 3) (eC (.int 3))) (eBin addD (eB lenD (aCons (eVar 5) aNil)) (eC (.int 1)))))
@[simp] noncomputable def t__law_bent_4a_2 : FS := (sSet 5 (eBin addD (eBin addD (eSl false (eVar 5) oNone (oSome (eVar 6))) (eTup (aCons (eCall 1 F__law_wrong (aCons (eBin fdivD (eVar 3) (eC (.int 32))) aNil)) aNil))) (eSl false (eVar 5) (oSome (eBin addD (eVar 6) (eBin modD (eVar 2) (eC (.int 2))))) oNone)))
@[simp] noncomputable def t__law_bent_4a_3 : FS := (sRet (eBin addD (eBin addD (eSl false (eVar 0) oNone (oSome (eBin addD (eC (.int 1)) (eBin modD (eVar 3) (eC (.int 3)))))) (eTup (aCons (eVar 5) aNil))) (eSl false (eVar 0) (oSome (eBin addD (eC (.int 2)) (eBin modD (eVar 3) (eC (.int 3))))) oNone)))
@[simp] noncomputable def t__law_bent_4 : FS := (sIf (tV (eBin ltD (eVar 2) (eC (.int 6)))) (sSeq t__law_bent_4a_0 (sSeq t__law_bent_4a_1 (sSeq t__law_bent_4a_2 t__law_bent_4a_3))) sNext)
@[simp] noncomputable def t__law_bent_5 : FS := (sRet (eBin ixD (eLst false (aCons (eSl false (eVar 0) oNone (oSome (eC (.int 3)))) (aCons (eBin addD (eVar 0) (eTup (aCons (eTup aNil) aNil))) (aCons (eRev (eVar 0) (negD (eC (.int 1)))) (aCons (eTup (aCons (eVar 0) aNil)) (aCons (eC .non) (aCons (eC (.int 5)) (aCons (eC (.str "")) (aCons (eC (.dic [] [])) (aCons (eTup aNil) (aCons (eBin addD (eSl false (eVar 0) (oSome (eC (.int 1))) oNone) (eSl false (eVar 0) oNone (oSome (eC (.int 1))))) aNil))))))))))) (eBin modD (eVar 3) (eC (.int 10)))))
noncomputable def b__law_bent : FS :=
  (sSeq t__law_bent_0 (sSeq t__law_bent_1 (sSeq t__law_bent_2 (sSeq t__law_bent_3 (sSeq t__law_bent_4 t__law_bent_5)))))
noncomputable def F__law_bent : List D → Hs → R D := runF 2 7 .trunc b__law_bent
@[simp] noncomputable def t__law_is_refused_0_0a_0 : FS := (sExpr (eCall 1 F_first_stand (aCons (eVar 0) aNil)))
@[simp] noncomputable def t__law_is_refused_0_0b_0 : FS := (sExpr (eCall 2 F_is_stand (aCons (eVar 0) (aCons (eTup (aCons (eC (.int 0)) (aCons (eTup aNil) (aCons (eTup aNil) (aCons (eTup aNil) aNil))))) aNil))))
@[simp] noncomputable def t__law_is_refused_0_0 : FS := (sIf (tV (eVar 1)) t__law_is_refused_0_0a_0 t__law_is_refused_0_0b_0)
noncomputable def k__law_is_refused_0 : FS := t__law_is_refused_0_0
@[simp] theorem k__law_is_refused_0_ap (s : Ss) (h : Hs) : k__law_is_refused_0 s h = t__law_is_refused_0_0 s h := (rfl)
@[simp] noncomputable def t__law_is_refused_0 : FS := (sTry "NoTask" 2 ["NoTask"] k__law_is_refused_0 (fun y => (sRet (eAndF (eC (.bl (subX y "DaysError"))) (eAndF (eC (.bl (subX y "ValueError"))) (eNotF (eC (.bl (subX y "NoStand")))))))))
@[simp] noncomputable def t__law_is_refused_1 : FS := (sRet (eC (.bl false)))
noncomputable def b__law_is_refused : FS :=
  (sSeq t__law_is_refused_0 t__law_is_refused_1)
noncomputable def F__law_is_refused : List D → Hs → R D := runF 2 3 .trunc b__law_is_refused
@[simp] noncomputable def t__law_no_task_0 : FS := (sRet (eAndF (eCall 2 F__law_is_refused (aCons (eVar 0) (aCons (eC (.bl true)) aNil))) (eCall 2 F__law_is_refused (aCons (eVar 0) (aCons (eC (.bl false)) aNil)))))
noncomputable def b__law_no_task : FS :=
  t__law_no_task_0
noncomputable def F__law_no_task : List D → Hs → R D := runF 1 1 .trunc b__law_no_task
@[simp] noncomputable def t__law_told_0 : FS := (sSet 2 (eB reprR (aCons (eVar 1) aNil)))
@[simp] noncomputable def t__law_told_1 : FS := (sSet 3 (eCall 2 F_is_stand (aCons (eVar 0) (aCons (eVar 1) aNil))))
@[simp] noncomputable def t__law_told_2 : FS := (sRet (eAndF (eIsi ["bool"] (eVar 3)) (eAndF (eBin (eqD false) (eVar 3) (eCall 2 F__law_is_stand (aCons (eVar 0) (aCons (eVar 1) aNil)))) (eBin (eqD false) (eB reprR (aCons (eVar 1) aNil)) (eVar 2)))))
noncomputable def b__law_told : FS :=
  (sSeq t__law_told_0 (sSeq t__law_told_1 t__law_told_2))
noncomputable def F__law_told : List D → Hs → R D := runF 2 4 .trunc b__law_told
@[simp] noncomputable def t__law_no_tasks_0 : FS := (sSet 1 (eLst false (aCons (eC .non) (aCons (eC (.int 0)) (aCons (eC (.str "task")) (aCons (eTup aNil) (aCons (eSl false (eVar 0) oNone (oSome (eC (.int 4)))) (aCons (eBin addD (eVar 0) (eTup (aCons (eTup aNil) aNil))) (aCons (eLst false (aCons (eVar 0) aNil)) (aCons (eC (.dic [] [])) (aCons (eBin addD (eTup (aCons (eBin addD (eBin ixD (eVar 0) (eC (.int 0))) (eTup (aCons (eC (.int 41)) aNil))) aNil)) (eSl false (eVar 0) (oSome (eC (.int 1))) oNone)) aNil)))))))))))
@[simp] noncomputable def t__law_no_tasks_1 : FS := (sSet 1 (eBin addD (eVar 1) (eLst false (aCons (eBin addD (eTup (aCons (eBin ixD (eVar 0) (eC (.int 0))) (aCons (eC (.int 3)) aNil))) (eSl false (eVar 0) (oSome (eC (.int 2))) oNone)) (aCons (eBin addD (eBin addD (eSl false (eVar 0) oNone (oSome (eC (.int 2)))) (eTup (aCons (eTup aNil) aNil))) (eSl false (eVar 0) (oSome (eC (.int 3))) oNone)) (aCons (eBin addD (eSl false (eVar 0) oNone (oSome (eC (.int 3)))) (eTup (aCons (eTup (aCons (eB lenD (aCons (eBin ixD (eVar 0) (eC (.int 0))) aNil)) aNil)) (aCons (eBin ixD (eVar 0) (eC (.int 4))) aNil)))) aNil))))))
@[simp] noncomputable def t__law_no_tasks_2 : FS := (sRet (eBin addD (eVar 1) (eLst false (aCons (eBin addD (eSl false (eVar 0) oNone (oSome (eC (.int 4)))) (eTup (aCons (eTup (aCons (eTup (aCons (eC (.int 0)) (aCons (eB lenD (aCons (eBin ixD (eVar 0) (eC (.int 0))) aNil)) aNil))) aNil)) aNil))) aNil))))
noncomputable def b__law_no_tasks : FS :=
  (sSeq t__law_no_tasks_0 (sSeq t__law_no_tasks_1 t__law_no_tasks_2))
noncomputable def F__law_no_tasks : List D → Hs → R D := runF 1 2 .trunc b__law_no_tasks
@[simp] noncomputable def t_law_0 : FS := (sSet 1 (eBin addLv (eCall 3 F__law_draws (aCons (eVar 0) (aCons (eC (.int 5)) (aCons (eC (.int 480)) aNil)))) (eCall 3 F__law_draws (aCons (eVar 0) (aCons (eC (.int 0)) (aCons (eC (.int 120)) aNil))))))
@[simp] noncomputable def t_law_1 : FS := (sSet 2 (eCall 2 F__law_task (aCons (eVar 1) (aCons (eC (.int 100000)) aNil))))
@[simp] noncomputable def t_law_2 : FS := (sSet 3 (eTup (aCons (eC (.int 0)) (aCons (eBin ixD (eVar 2) (eC (.int 0))) (aCons (eTup aNil) (aCons (eTup aNil) aNil))))))
@[simp] noncomputable def t_law_3_0a_0 : FS := (sRet (eC (.bl false)))
@[simp] noncomputable def t_law_3_0 : FS := (sIf (tV (eBin (eqD true) (eB reprR (aCons (eCall 1 F_first_stand (aCons (eVar 4) aNil)) aNil)) (eB reprR (aCons (eVar 3) aNil)))) t_law_3_0a_0 sNext)
noncomputable def k_law_3 : FS := (sFa [4] t_law_3_0)
@[simp] theorem k_law_3_ap (s : Ss) (h : Hs) : k_law_3 s h = (sFa [4] t_law_3_0) s h := (rfl)
@[simp] noncomputable def t_law_3 : FS := (sFb [4] (sFor (iRow (eLst false (aCons (eVar 2) (aCons (eCall 1 (F__law_lists 45) (aCons (eVar 2) aNil)) aNil)))) (gVar 4) k_law_3))
@[simp] noncomputable def t_law_4a_0 : FS := (sRet (eC (.bl false)))
@[simp] noncomputable def t_law_4 : FS := (sIf (tOrF (tNotF (tV (eCall 2 F__law_told (aCons (eVar 2) (aCons (eVar 3) aNil))))) (tNotF (tV (eCall 2 F__law_told (aCons (eCall 1 (F__law_lists 45) (aCons (eVar 2) aNil)) (aCons (eCall 1 (F__law_lists 45) (aCons (eVar 3) aNil)) aNil)))))) t_law_4a_0 sNext)
@[simp] noncomputable def t_law_5_0 : FS := (sSet 7 (eCall 2 F__law_made_up (aCons (eVar 1) (aCons (eVar 2) aNil))))
@[simp] noncomputable def t_law_5_1 : FS := (sSet 8 (eCall 2 F__law_bent (aCons (eVar 7) (aCons (eB absD (aCons (eVar 5) aNil)) aNil))))
@[simp] noncomputable def t_law_5_2_0a_0 : FS := (sRet (eC (.bl false)))
@[simp] noncomputable def t_law_5_2_0 : FS := (sIf (tNotF (tV (eCall 2 F__law_told (aCons (eVar 2) (aCons (eVar 9) aNil))))) t_law_5_2_0a_0 sNext)
noncomputable def k_law_5_2 : FS := (sFa [9] t_law_5_2_0)
@[simp] theorem k_law_5_2_ap (s : Ss) (h : Hs) : k_law_5_2 s h = (sFa [9] t_law_5_2_0) s h := (rfl)
@[simp] noncomputable def t_law_5_2 : FS := (sFb [9] (sFor (iRow (eLst false (aCons (eVar 7) (aCons (eVar 8) (aCons (eCall 1 (F__law_lists 45) (aCons (eVar 7) aNil)) (aCons (eCall 1 (F__law_lists 45) (aCons (eVar 8) aNil)) aNil)))))) (gVar 9) k_law_5_2))
@[simp] noncomputable def t_law_5_3a_0 : FS := (sRet (eC (.bl false)))
@[simp] noncomputable def t_law_5_3 : FS := (sIf (tNotF (tV (eCall 1 F__law_no_task (aCons (eBin ixD (eCall 1 F__law_no_tasks (aCons (eVar 2) aNil)) (eBin modD (eBin fdivD (eB absD (aCons (eVar 5) aNil)) (eC (.int 8))) (eC (.int 13)))) aNil)))) t_law_5_3a_0 sNext)
noncomputable def k_law_5 : FS := (sFa [5, 7, 8, 9] (sSeq t_law_5_0 (sSeq t_law_5_1 (sSeq t_law_5_2 t_law_5_3))))
@[simp] theorem k_law_5_ap (s : Ss) (h : Hs) : k_law_5 s h = (sFa [5, 7, 8, 9] (sSeq t_law_5_0 (sSeq t_law_5_1 (sSeq t_law_5_2 t_law_5_3)))) s h := (rfl)
@[simp] noncomputable def t_law_5 : FS := (sFb [5, 7, 8, 9] (sFor (iRow (eBin addD (eComp false [6] (iRng2 (aCons (eC (.int 33)) (aCons (eC (.int 40)) aNil))) (gVar 6) tYesF (eCall 2 F__law_cell (aCons (eVar 0) (aCons (eVar 6) aNil)))) (eSl false (eVar 0) (oSome (eC (.int 40))) (oSome (eC (.int 60)))))) (gVar 5) k_law_5))
@[simp] noncomputable def t_law_6 : FS := (sRet (eC (.bl true)))
noncomputable def b_law : FS :=
  (sSeq t_law_0 (sSeq t_law_1 (sSeq t_law_2 (sSeq t_law_3 (sSeq t_law_4 (sSeq t_law_5 t_law_6))))))
noncomputable def F_law : List D → Hs → R D := runF 1 10 .trunc b_law
end WD
namespace WD
open PySem PySem.Spec PyProof.Rows L2
def topS (i : Nat) : Stmt := PySem.Challenge.pw_withindays_k14_stands_told.main.body.getD i (.Pass ⟨0, 0, 0, 0⟩)
abbrev s_is_whole : Stmt := topS 5
theorem sc_is_whole : FnScope ["thing", "least", "most"] ["thing", "least", "most"] (defScope s_is_whole) := ⟨rfl, rfl, rfl, by decide +kernel, rfl, by decide +kernel, by decide +kernel⟩
abbrev s_is_row : Stmt := topS 6
theorem sc_is_row : FnScope ["thing"] ["thing"] (defScope s_is_row) := ⟨rfl, rfl, rfl, by decide +kernel, rfl, by decide +kernel, by decide +kernel⟩
abbrev s_is_rising : Stmt := topS 7
theorem sc_is_rising : FnScope ["thing", "least", "most", "last", "one"] ["thing", "least", "most"] (defScope s_is_rising) := ⟨rfl, rfl, rfl, by decide +kernel, rfl, by decide +kernel, by decide +kernel⟩
abbrev s_told_rows : Stmt := topS 8
theorem sc_told_rows : FnScope ["thing", "one"] ["thing"] (defScope s_told_rows) := ⟨rfl, rfl, rfl, by decide +kernel, rfl, by decide +kernel, by decide +kernel⟩
abbrev s_is_numbers : Stmt := topS 12
theorem sc_is_numbers : FnScope ["thing", "one"] ["thing"] (defScope s_is_numbers) := ⟨rfl, rfl, rfl, by decide +kernel, rfl, by decide +kernel, by decide +kernel⟩
abbrev s_is_off : Stmt := topS 17
theorem sc_is_off : FnScope ["thing", "one"] ["thing"] (defScope s_is_off) := ⟨rfl, rfl, rfl, by decide +kernel, rfl, by decide +kernel, by decide +kernel⟩
abbrev s_is_pair : Stmt := topS 18
theorem sc_is_pair : FnScope ["thing", "many"] ["thing", "many"] (defScope s_is_pair) := ⟨rfl, rfl, rfl, by decide +kernel, rfl, by decide +kernel, by decide +kernel⟩
abbrev s_are_pairs : Stmt := topS 19
theorem sc_are_pairs : FnScope ["thing", "many", "one", "pairs", "k"] ["thing", "many"] (defScope s_are_pairs) := ⟨rfl, rfl, rfl, by decide +kernel, rfl, by decide +kernel, by decide +kernel⟩
abbrev s_is_task : Stmt := topS 20
theorem sc_is_task : FnScope ["thing", "numbers", "hands", "off", "long", "tied"] ["thing"] (defScope s_is_task) := ⟨rfl, rfl, rfl, by decide +kernel, rfl, by decide +kernel, by decide +kernel⟩
abbrev s_asked_task : Stmt := topS 21
theorem sc_asked_task : FnScope ["thing"] ["thing"] (defScope s_asked_task) := ⟨rfl, rfl, rfl, by decide +kernel, rfl, by decide +kernel, by decide +kernel⟩
abbrev s_in_ties : Stmt := topS 23
theorem sc_in_ties : FnScope ["task", "found", "pair", "i"] ["task"] (defScope s_in_ties) := ⟨rfl, rfl, rfl, by decide +kernel, rfl, by decide +kernel, by decide +kernel⟩
abbrev s_are_waits : Stmt := topS 24
theorem sc_are_waits : FnScope ["numbers", "waits", "i"] ["numbers", "waits"] (defScope s_are_waits) := ⟨rfl, rfl, rfl, by decide +kernel, rfl, by decide +kernel, by decide +kernel⟩
abbrev s_is_some_of : Stmt := topS 25
theorem sc_is_some_of : FnScope ["things", "row", "most", "i"] ["things", "row", "most"] (defScope s_is_some_of) := ⟨rfl, rfl, rfl, by decide +kernel, rfl, by decide +kernel, by decide +kernel⟩
abbrev s_is_stand_of : Stmt := topS 26
theorem sc_is_stand_of : FnScope ["task", "thing", "phase", "waits", "busy", "last", "ends", "i"] ["task", "thing"] (defScope s_is_stand_of) := ⟨rfl, rfl, rfl, by decide +kernel, rfl, by decide +kernel, by decide +kernel⟩
abbrev s_is_stand : Stmt := topS 27
theorem sc_is_stand : FnScope ["task", "thing"] ["task", "thing"] (defScope s_is_stand) := ⟨rfl, rfl, rfl, by decide +kernel, rfl, by decide +kernel, by decide +kernel⟩
abbrev s_first_of : Stmt := topS 28
theorem sc_first_of : FnScope ["task"] ["task"] (defScope s_first_of) := ⟨rfl, rfl, rfl, by decide +kernel, rfl, by decide +kernel, by decide +kernel⟩
abbrev s_first_stand : Stmt := topS 29
theorem sc_first_stand : FnScope ["task"] ["task"] (defScope s_first_stand) := ⟨rfl, rfl, rfl, by decide +kernel, rfl, by decide +kernel, by decide +kernel⟩
abbrev s__law_cell : Stmt := topS 31
theorem sc__law_cell : FnScope ["_law_script", "_law_k", "_law_spare"] ["_law_script", "_law_k"] (defScope s__law_cell) := ⟨rfl, rfl, rfl, by decide +kernel, rfl, by decide +kernel, by decide +kernel⟩
abbrev s__law_draws : Stmt := topS 32
theorem sc__law_draws : FnScope ["_law_script", "_law_at", "_law_many", "_law_found", "_law_left", "_law_k", "_law_draw"] ["_law_script", "_law_at", "_law_many"] (defScope s__law_draws) := ⟨rfl, rfl, rfl, by decide +kernel, rfl, by decide +kernel, by decide +kernel⟩
abbrev s__law_next : Stmt := topS 33
theorem sc__law_next : FnScope ["_law_draws_here"] ["_law_draws_here"] (defScope s__law_next) := ⟨rfl, rfl, rfl, by decide +kernel, rfl, by decide +kernel, by decide +kernel⟩
abbrev s__law_long : Stmt := topS 35
theorem sc__law_long : FnScope ["_law_draws_here", "_law_many", "_law_draw", "_law_i"] ["_law_draws_here", "_law_many"] (defScope s__law_long) := ⟨rfl, rfl, rfl, by decide +kernel, rfl, by decide +kernel, by decide +kernel⟩
abbrev s__law_tied : Stmt := topS 36
theorem sc__law_tied : FnScope ["_law_draws_here", "_law_many", "_law_draw", "_law_found", "_law_j", "_law_i"] ["_law_draws_here", "_law_many"] (defScope s__law_tied) := ⟨rfl, rfl, rfl, by decide +kernel, rfl, by decide +kernel, by decide +kernel⟩
abbrev s__law_off : Stmt := topS 37
theorem sc__law_off : FnScope ["_law_draws_here", "_law_left", "_law_draw", "_law_size", "_law_k"] ["_law_draws_here", "_law_left"] (defScope s__law_off) := ⟨rfl, rfl, rfl, by decide +kernel, rfl, by decide +kernel, by decide +kernel⟩
abbrev s__law_task : Stmt := topS 38
theorem sc__law_task : FnScope ["_law_draws_here", "_law_most", "_law_numbers", "_law_left", "_law_k", "_law_draw", "_law_some", "_law_number", "_law_hands", "_law_off_here", "_law_long_here", "_law_rows"] ["_law_draws_here", "_law_most"] (defScope s__law_task) := ⟨rfl, rfl, rfl, by decide +kernel, rfl, by decide +kernel, by decide +kernel⟩
abbrev s__law_made_up : Stmt := topS 39
theorem sc__law_made_up : FnScope ["_law_draws_here", "_law_task_here", "_law_numbers", "_law_hands", "_law_off_here", "_law_long_here", "_law_tied_here", "_law_phase", "_law_waits", "_law_number", "_law_draw", "_law_ends", "_law_pair", "_law_busy", "_law_i", "_law_last", "_law_others"] ["_law_draws_here", "_law_task_here"] (defScope s__law_made_up) := ⟨rfl, rfl, rfl, by decide +kernel, rfl, by decide +kernel, by decide +kernel⟩
abbrev s__law_lists : Stmt := topS 40
theorem sc__law_lists : FnScope ["_law_thing", "_law_one"] ["_law_thing"] (defScope s__law_lists) := ⟨rfl, rfl, rfl, by decide +kernel, rfl, by decide +kernel, by decide +kernel⟩
abbrev s__law_whole : Stmt := topS 41
theorem sc__law_whole : FnScope ["_law_thing", "_law_least", "_law_most"] ["_law_thing", "_law_least", "_law_most"] (defScope s__law_whole) := ⟨rfl, rfl, rfl, by decide +kernel, rfl, by decide +kernel, by decide +kernel⟩
abbrev s__law_some_of : Stmt := topS 42
theorem sc__law_some_of : FnScope ["_law_things", "_law_thing", "_law_most", "_law_k"] ["_law_things", "_law_thing", "_law_most"] (defScope s__law_some_of) := ⟨rfl, rfl, rfl, by decide +kernel, rfl, by decide +kernel, by decide +kernel⟩
abbrev s__law_is_stand : Stmt := topS 43
theorem sc__law_is_stand : FnScope ["_law_task_here", "_law_thing", "_law_numbers", "_law_hands", "_law_off_here", "_law_long_here", "_law_tied_here", "_law_waits", "_law_busy", "_law_last", "_law_i", "_law_ends", "_law_pair"] ["_law_task_here", "_law_thing"] (defScope s__law_is_stand) := ⟨rfl, rfl, rfl, by decide +kernel, rfl, by decide +kernel, by decide +kernel⟩
abbrev s__law_wrong : Stmt := topS 44
theorem sc__law_wrong : FnScope ["_law_cell_here", "_law_some"] ["_law_cell_here"] (defScope s__law_wrong) := ⟨rfl, rfl, rfl, by decide +kernel, rfl, by decide +kernel, by decide +kernel⟩
abbrev s__law_bent : Stmt := topS 45
theorem sc__law_bent : FnScope ["_law_stand", "_law_cell_here", "_law_way", "_law_rest", "_law_at", "_law_row", "_law_place"] ["_law_stand", "_law_cell_here"] (defScope s__law_bent) := ⟨rfl, rfl, rfl, by decide +kernel, rfl, by decide +kernel, by decide +kernel⟩
abbrev s__law_is_refused : Stmt := topS 46
theorem sc__law_is_refused : FnScope ["_law_thing", "_law_is_first", "e"] ["_law_thing", "_law_is_first"] (defScope s__law_is_refused) := ⟨rfl, rfl, rfl, by decide +kernel, rfl, by decide +kernel, by decide +kernel⟩
abbrev s__law_no_task : Stmt := topS 47
theorem sc__law_no_task : FnScope ["_law_thing"] ["_law_thing"] (defScope s__law_no_task) := ⟨rfl, rfl, rfl, by decide +kernel, rfl, by decide +kernel, by decide +kernel⟩
abbrev s__law_told : Stmt := topS 48
theorem sc__law_told : FnScope ["_law_task_here", "_law_thing", "_law_kept", "_law_found"] ["_law_task_here", "_law_thing"] (defScope s__law_told) := ⟨rfl, rfl, rfl, by decide +kernel, rfl, by decide +kernel, by decide +kernel⟩
abbrev s__law_no_tasks : Stmt := topS 49
theorem sc__law_no_tasks : FnScope ["_law_task_here", "_law_found"] ["_law_task_here"] (defScope s__law_no_tasks) := ⟨rfl, rfl, rfl, by decide +kernel, rfl, by decide +kernel, by decide +kernel⟩
abbrev s_law : Stmt := topS 50
theorem sc_law : FnScope ["_law_script", "_law_draws_here", "_law_task_here", "_law_first", "_law_handed", "_law_cell_here", "_law_k", "_law_stand", "_law_bent_here", "_law_thing"] ["_law_script"] (defScope s_law) := ⟨rfl, rfl, rfl, by decide +kernel, rfl, by decide +kernel, by decide +kernel⟩
structure Adr where
  f_is_whole : Addr
  d_is_whole : FuncData
  f_is_row : Addr
  d_is_row : FuncData
  f_is_rising : Addr
  d_is_rising : FuncData
  f_told_rows : Addr
  d_told_rows : FuncData
  f_is_numbers : Addr
  d_is_numbers : FuncData
  f_is_off : Addr
  d_is_off : FuncData
  f_is_pair : Addr
  d_is_pair : FuncData
  f_are_pairs : Addr
  d_are_pairs : FuncData
  f_is_task : Addr
  d_is_task : FuncData
  f_asked_task : Addr
  d_asked_task : FuncData
  f_in_ties : Addr
  d_in_ties : FuncData
  f_are_waits : Addr
  d_are_waits : FuncData
  f_is_some_of : Addr
  d_is_some_of : FuncData
  f_is_stand_of : Addr
  d_is_stand_of : FuncData
  f_is_stand : Addr
  d_is_stand : FuncData
  f_first_of : Addr
  d_first_of : FuncData
  f_first_stand : Addr
  d_first_stand : FuncData
  f__law_cell : Addr
  d__law_cell : FuncData
  f__law_draws : Addr
  d__law_draws : FuncData
  f__law_next : Addr
  d__law_next : FuncData
  f__law_long : Addr
  d__law_long : FuncData
  f__law_tied : Addr
  d__law_tied : FuncData
  f__law_off : Addr
  d__law_off : FuncData
  f__law_task : Addr
  d__law_task : FuncData
  f__law_made_up : Addr
  d__law_made_up : FuncData
  f__law_lists : Addr
  d__law_lists : FuncData
  f__law_whole : Addr
  d__law_whole : FuncData
  f__law_some_of : Addr
  d__law_some_of : FuncData
  f__law_is_stand : Addr
  d__law_is_stand : FuncData
  f__law_wrong : Addr
  d__law_wrong : FuncData
  f__law_bent : Addr
  d__law_bent : FuncData
  f__law_is_refused : Addr
  d__law_is_refused : FuncData
  f__law_no_task : Addr
  d__law_no_task : FuncData
  f__law_told : Addr
  d__law_told : FuncData
  f__law_no_tasks : Addr
  d__law_no_tasks : FuncData
  f_law : Addr
  d_law : FuncData
  c_DaysError : Addr
  c_NoTask : Addr
  c_NoStand : Addr
  t_GREATEST : Tok
  t_MOST_HANDS : Tok
  t_MOST_OFF : Tok
  t_MOST_THINGS : Tok
  t_PARTS : Tok
structure Txt (K : PySem.W.Frag) (mg : Str → Option Value) (A : Adr) : Prop where
  u_is_whole : Fun K "is_whole" "is_whole" s_is_whole A.f_is_whole A.d_is_whole
  g_is_whole : mg "is_whole" = some (.ref A.f_is_whole)
  b_is_whole : Binds K A.d_is_whole ["thing", "least", "most"] []
  u_is_row : Fun K "is_row" "is_row" s_is_row A.f_is_row A.d_is_row
  g_is_row : mg "is_row" = some (.ref A.f_is_row)
  b_is_row : Binds K A.d_is_row ["thing"] []
  u_is_rising : Fun K "is_rising" "is_rising" s_is_rising A.f_is_rising A.d_is_rising
  g_is_rising : mg "is_rising" = some (.ref A.f_is_rising)
  b_is_rising : Binds K A.d_is_rising ["thing", "least", "most"] []
  u_told_rows : Fun K "told_rows" "told_rows" s_told_rows A.f_told_rows A.d_told_rows
  g_told_rows : mg "told_rows" = some (.ref A.f_told_rows)
  b_told_rows : Binds K A.d_told_rows ["thing"] []
  u_is_numbers : Fun K "is_numbers" "is_numbers" s_is_numbers A.f_is_numbers A.d_is_numbers
  g_is_numbers : mg "is_numbers" = some (.ref A.f_is_numbers)
  b_is_numbers : Binds K A.d_is_numbers ["thing"] []
  u_is_off : Fun K "is_off" "is_off" s_is_off A.f_is_off A.d_is_off
  g_is_off : mg "is_off" = some (.ref A.f_is_off)
  b_is_off : Binds K A.d_is_off ["thing"] []
  u_is_pair : Fun K "is_pair" "is_pair" s_is_pair A.f_is_pair A.d_is_pair
  g_is_pair : mg "is_pair" = some (.ref A.f_is_pair)
  b_is_pair : Binds K A.d_is_pair ["thing", "many"] []
  u_are_pairs : Fun K "are_pairs" "are_pairs" s_are_pairs A.f_are_pairs A.d_are_pairs
  g_are_pairs : mg "are_pairs" = some (.ref A.f_are_pairs)
  b_are_pairs : Binds K A.d_are_pairs ["thing", "many"] []
  u_is_task : Fun K "is_task" "is_task" s_is_task A.f_is_task A.d_is_task
  g_is_task : mg "is_task" = some (.ref A.f_is_task)
  b_is_task : Binds K A.d_is_task ["thing"] []
  u_asked_task : Fun K "asked_task" "asked_task" s_asked_task A.f_asked_task A.d_asked_task
  g_asked_task : mg "asked_task" = some (.ref A.f_asked_task)
  b_asked_task : Binds K A.d_asked_task ["thing"] []
  u_in_ties : Fun K "in_ties" "in_ties" s_in_ties A.f_in_ties A.d_in_ties
  g_in_ties : mg "in_ties" = some (.ref A.f_in_ties)
  b_in_ties : Binds K A.d_in_ties ["task"] []
  u_are_waits : Fun K "are_waits" "are_waits" s_are_waits A.f_are_waits A.d_are_waits
  g_are_waits : mg "are_waits" = some (.ref A.f_are_waits)
  b_are_waits : Binds K A.d_are_waits ["numbers", "waits"] []
  u_is_some_of : Fun K "is_some_of" "is_some_of" s_is_some_of A.f_is_some_of A.d_is_some_of
  g_is_some_of : mg "is_some_of" = some (.ref A.f_is_some_of)
  b_is_some_of : Binds K A.d_is_some_of ["things", "row", "most"] []
  u_is_stand_of : Fun K "is_stand_of" "is_stand_of" s_is_stand_of A.f_is_stand_of A.d_is_stand_of
  g_is_stand_of : mg "is_stand_of" = some (.ref A.f_is_stand_of)
  b_is_stand_of : Binds K A.d_is_stand_of ["task", "thing"] []
  u_is_stand : Fun K "is_stand" "is_stand" s_is_stand A.f_is_stand A.d_is_stand
  g_is_stand : mg "is_stand" = some (.ref A.f_is_stand)
  b_is_stand : Binds K A.d_is_stand ["task", "thing"] []
  u_first_of : Fun K "first_of" "first_of" s_first_of A.f_first_of A.d_first_of
  g_first_of : mg "first_of" = some (.ref A.f_first_of)
  b_first_of : Binds K A.d_first_of ["task"] []
  u_first_stand : Fun K "first_stand" "first_stand" s_first_stand A.f_first_stand A.d_first_stand
  g_first_stand : mg "first_stand" = some (.ref A.f_first_stand)
  b_first_stand : Binds K A.d_first_stand ["task"] []
  u__law_cell : Fun K "_law_cell" "_law_cell" s__law_cell A.f__law_cell A.d__law_cell
  g__law_cell : mg "_law_cell" = some (.ref A.f__law_cell)
  b__law_cell : Binds K A.d__law_cell ["_law_script", "_law_k"] []
  u__law_draws : Fun K "_law_draws" "_law_draws" s__law_draws A.f__law_draws A.d__law_draws
  g__law_draws : mg "_law_draws" = some (.ref A.f__law_draws)
  b__law_draws : Binds K A.d__law_draws ["_law_script", "_law_at", "_law_many"] []
  u__law_next : Fun K "_law_next" "_law_next" s__law_next A.f__law_next A.d__law_next
  g__law_next : mg "_law_next" = some (.ref A.f__law_next)
  b__law_next : Binds K A.d__law_next ["_law_draws_here"] []
  u__law_long : Fun K "_law_long" "_law_long" s__law_long A.f__law_long A.d__law_long
  g__law_long : mg "_law_long" = some (.ref A.f__law_long)
  b__law_long : Binds K A.d__law_long ["_law_draws_here", "_law_many"] []
  u__law_tied : Fun K "_law_tied" "_law_tied" s__law_tied A.f__law_tied A.d__law_tied
  g__law_tied : mg "_law_tied" = some (.ref A.f__law_tied)
  b__law_tied : Binds K A.d__law_tied ["_law_draws_here", "_law_many"] []
  u__law_off : Fun K "_law_off" "_law_off" s__law_off A.f__law_off A.d__law_off
  g__law_off : mg "_law_off" = some (.ref A.f__law_off)
  b__law_off : Binds K A.d__law_off ["_law_draws_here", "_law_left"] []
  u__law_task : Fun K "_law_task" "_law_task" s__law_task A.f__law_task A.d__law_task
  g__law_task : mg "_law_task" = some (.ref A.f__law_task)
  b__law_task : Binds K A.d__law_task ["_law_draws_here", "_law_most"] []
  u__law_made_up : Fun K "_law_made_up" "_law_made_up" s__law_made_up A.f__law_made_up A.d__law_made_up
  g__law_made_up : mg "_law_made_up" = some (.ref A.f__law_made_up)
  b__law_made_up : Binds K A.d__law_made_up ["_law_draws_here", "_law_task_here"] []
  u__law_lists : Fun K "_law_lists" "_law_lists" s__law_lists A.f__law_lists A.d__law_lists
  g__law_lists : mg "_law_lists" = some (.ref A.f__law_lists)
  b__law_lists : Binds K A.d__law_lists ["_law_thing"] []
  u__law_whole : Fun K "_law_whole" "_law_whole" s__law_whole A.f__law_whole A.d__law_whole
  g__law_whole : mg "_law_whole" = some (.ref A.f__law_whole)
  b__law_whole : Binds K A.d__law_whole ["_law_thing", "_law_least", "_law_most"] []
  u__law_some_of : Fun K "_law_some_of" "_law_some_of" s__law_some_of A.f__law_some_of A.d__law_some_of
  g__law_some_of : mg "_law_some_of" = some (.ref A.f__law_some_of)
  b__law_some_of : Binds K A.d__law_some_of ["_law_things", "_law_thing", "_law_most"] []
  u__law_is_stand : Fun K "_law_is_stand" "_law_is_stand" s__law_is_stand A.f__law_is_stand A.d__law_is_stand
  g__law_is_stand : mg "_law_is_stand" = some (.ref A.f__law_is_stand)
  b__law_is_stand : Binds K A.d__law_is_stand ["_law_task_here", "_law_thing"] []
  u__law_wrong : Fun K "_law_wrong" "_law_wrong" s__law_wrong A.f__law_wrong A.d__law_wrong
  g__law_wrong : mg "_law_wrong" = some (.ref A.f__law_wrong)
  b__law_wrong : Binds K A.d__law_wrong ["_law_cell_here"] []
  u__law_bent : Fun K "_law_bent" "_law_bent" s__law_bent A.f__law_bent A.d__law_bent
  g__law_bent : mg "_law_bent" = some (.ref A.f__law_bent)
  b__law_bent : Binds K A.d__law_bent ["_law_stand", "_law_cell_here"] []
  u__law_is_refused : Fun K "_law_is_refused" "_law_is_refused" s__law_is_refused A.f__law_is_refused A.d__law_is_refused
  g__law_is_refused : mg "_law_is_refused" = some (.ref A.f__law_is_refused)
  b__law_is_refused : Binds K A.d__law_is_refused ["_law_thing", "_law_is_first"] []
  u__law_no_task : Fun K "_law_no_task" "_law_no_task" s__law_no_task A.f__law_no_task A.d__law_no_task
  g__law_no_task : mg "_law_no_task" = some (.ref A.f__law_no_task)
  b__law_no_task : Binds K A.d__law_no_task ["_law_thing"] []
  u__law_told : Fun K "_law_told" "_law_told" s__law_told A.f__law_told A.d__law_told
  g__law_told : mg "_law_told" = some (.ref A.f__law_told)
  b__law_told : Binds K A.d__law_told ["_law_task_here", "_law_thing"] []
  u__law_no_tasks : Fun K "_law_no_tasks" "_law_no_tasks" s__law_no_tasks A.f__law_no_tasks A.d__law_no_tasks
  g__law_no_tasks : mg "_law_no_tasks" = some (.ref A.f__law_no_tasks)
  b__law_no_tasks : Binds K A.d__law_no_tasks ["_law_task_here"] []
  u_law : Fun K "law" "law" s_law A.f_law A.d_law
  g_law : mg "law" = some (.ref A.f_law)
  b_law : Binds K A.d_law ["_law_script"] []
  z_ValueError : mg "ValueError" = none
  z_abs : mg "abs" = none
  z_bool : mg "bool" = none
  z_int : mg "int" = none
  z_isinstance : mg "isinstance" = none
  z_len : mg "len" = none
  z_list : mg "list" = none
  z_max : mg "max" = none
  z_range : mg "range" = none
  z_repr : mg "repr" = none
  z_set : mg "set" = none
  z_sorted : mg "sorted" = none
  z_sum : mg "sum" = none
  z_tuple : mg "tuple" = none
  x_DaysError : Xg K mg "DaysError" A.c_DaysError
  x_NoTask : Xc K mg "NoTask" A.c_NoTask
  x_NoStand : Xg K mg "NoStand" A.c_NoStand
  e_NoTask : ExcC K A.c_NoTask
  m_NoTask_NoTask : PySem.W.exmOne K (.ref A.c_NoTask) (.ref A.c_NoTask) = some (subX "NoTask" "NoTask")
  k_NoTask_DaysError : PySem.W.kitOne K (.ref A.c_NoTask) (.ref A.c_DaysError) = some (subX "NoTask" "DaysError")
  k_NoTask_NoStand : PySem.W.kitOne K (.ref A.c_NoTask) (.ref A.c_NoStand) = some (subX "NoTask" "NoStand")
  k_NoTask_ValueError : PySem.W.kitOne K (.ref A.c_NoTask) (.type "ValueError") = some (subX "NoTask" "ValueError")
  c_GREATEST : mg "GREATEST" = some (.int 40 A.t_GREATEST)
  c_MOST_HANDS : mg "MOST_HANDS" = some (.int 2 A.t_MOST_HANDS)
  c_MOST_OFF : mg "MOST_OFF" = some (.int 7 A.t_MOST_OFF)
  c_MOST_THINGS : mg "MOST_THINGS" = some (.int 8 A.t_MOST_THINGS)
  c_PARTS : mg "PARTS" = some (.int 5 A.t_PARTS)
section
variable {P : Program} {w : World} {K : PySem.W.Frag} {mg : Str → Option Value} {base : Heap} {A : Adr}
theorem cls_at (T : Txt K mg A) : ∀ y ∈ (["NoTask"] : List Str), (y = "NoTask" ∧ clsV mg ⟨y, none⟩ = .ref A.c_NoTask) := by
  intro y hy
  simp only [List.mem_cons, List.not_mem_nil, or_false] at hy
  rcases hy with rfl
  · exact ⟨rfl, by unfold clsV; rw [T.x_NoTask.g]; rfl⟩
theorem exc_at (T : Txt K mg A) : ∀ y ∈ (["NoTask"] : List Str), ∃ Dc, clsV mg ⟨y, none⟩ = .ref Dc ∧ ExcC K Dc := by
  intro y hy
  rcases cls_at T y hy with ⟨rfl, e⟩
  · exact ⟨A.c_NoTask, e, T.e_NoTask⟩
theorem exm_NoTask (T : Txt K mg A) : ∀ y ∈ (["NoTask"] : List Str), PySem.W.exmOne K (clsV mg ⟨y, none⟩) (.ref A.c_NoTask) = some (subX y "NoTask") := by
  intro y hy
  rcases cls_at T y hy with ⟨rfl, e⟩
  · rw [e]; exact T.m_NoTask_NoTask
theorem kit_DaysError (T : Txt K mg A) : ∀ y ∈ (["NoTask"] : List Str), PySem.W.kitOne K (clsV mg ⟨y, none⟩) (.ref A.c_DaysError) = some (subX y "DaysError") := by
  intro y hy
  rcases cls_at T y hy with ⟨rfl, e⟩
  · rw [e]; exact T.k_NoTask_DaysError
theorem kit_NoStand (T : Txt K mg A) : ∀ y ∈ (["NoTask"] : List Str), PySem.W.kitOne K (clsV mg ⟨y, none⟩) (.ref A.c_NoStand) = some (subX y "NoStand") := by
  intro y hy
  rcases cls_at T y hy with ⟨rfl, e⟩
  · rw [e]; exact T.k_NoTask_NoStand
theorem kit_ValueError (T : Txt K mg A) : ∀ y ∈ (["NoTask"] : List Str), PySem.W.kitOne K (clsV mg ⟨y, none⟩) (.type "ValueError") = some (subX y "ValueError") := by
  intro y hy
  rcases cls_at T y hy with ⟨rfl, e⟩
  · rw [e]; exact T.k_NoTask_ValueError
theorem ok_is_whole (T : Txt K mg A) : FnG P w K mg base 1 A.f_is_whole A.d_is_whole ["thing", "least", "most"] (spF K mg 3 F_is_whole) := by
    refine fn_okG (k := 0) .trunc T.u_is_whole sc_is_whole fun cdv Ar outer s H E hr => ?_
    have tk := takes_of (X := cxOf (L2.CX P w) P w K mg base ["thing", "least", "most"] "is_whole" (defScope s_is_whole) A.f_is_whole cdv Ar outer s H E) rfl rfl rfl rfl
    have hp := passes_of (X := cxOf (L2.CX P w) P w K mg base ["thing", "least", "most"] "is_whole" (defScope s_is_whole) A.f_is_whole cdv Ar outer s H E) rfl
    exact (vss_one (vs_ret (ve_and (ve_isi (ve_var 0) (by rfl) T.z_isinstance (by rfl) T.z_int (by decide +kernel) (by decide)) (ve_and (ve_not (ve_isi (ve_var 0) (by rfl) T.z_isinstance (by rfl) T.z_bool (by decide +kernel) (by decide))) (ve_one (ve_chain od_le od_le (ve_var 1) (ve_var 0) (ve_var 2)))))))
theorem ok_is_row (T : Txt K mg A) : FnG P w K mg base 1 A.f_is_row A.d_is_row ["thing"] (spF K mg 1 F_is_row) := by
    refine fn_okG (k := 0) .trunc T.u_is_row sc_is_row fun cdv Ar outer s H E hr => ?_
    have tk := takes_of (X := cxOf (L2.CX P w) P w K mg base ["thing"] "is_row" (defScope s_is_row) A.f_is_row cdv Ar outer s H E) rfl rfl rfl rfl
    have hp := passes_of (X := cxOf (L2.CX P w) P w K mg base ["thing"] "is_row" (defScope s_is_row) A.f_is_row cdv Ar outer s H E) rfl
    exact (vss_one (vs_ret (ve_isiT (ve_var 0) (by rfl) T.z_isinstance (by rfl) T.z_list (by decide +kernel) (by rfl) T.z_tuple (by decide +kernel) (by decide) (by decide))))
theorem ok_is_rising (T : Txt K mg A) : FnG P w K mg base 2 A.f_is_rising A.d_is_rising ["thing", "least", "most"] (spF K mg 3 F_is_rising) := by
    refine fn_okG (k := 1) .trunc T.u_is_rising sc_is_rising fun cdv Ar outer s H E hr => ?_
    have tk := takes_of (X := cxOf (L2.CX P w) P w K mg base ["thing", "least", "most", "last", "one"] "is_rising" (defScope s_is_rising) A.f_is_rising cdv Ar outer s H E) rfl rfl rfl rfl
    have hp := passes_of (X := cxOf (L2.CX P w) P w K mg base ["thing", "least", "most", "last", "one"] "is_rising" (defScope s_is_rising) A.f_is_rising cdv Ar outer s H E) rfl
    exact (vss_cons (vs_if (vt_not (vt_val (ve_callG (ok_is_row T) (hr.mono (by first | decide | omega)) (by rfl) T.g_is_row T.u_is_row.kp T.b_is_row tk (va_cons (ve_var 0) va_nil)))) (vss_one (vs_ret ve_bl)) vss_nil)
      (vss_cons (vs_set 3 sc_is_rising.nd (ve_bin od_sub (ve_var 1) ve_int))
      (vss_cons (vs_fa (vs_fb (vs_for (vs := [4]) hp rfl (vi_row (ve_var 0)) (vg_name 4 sc_is_rising.nd) (vss_fa (vss_cons (vs_if (vt_not (vt_val (ve_callG (ok_is_whole T) (hr.mono (by first | decide | omega)) (by rfl) T.g_is_whole T.u_is_whole.kp T.b_is_whole tk (va_cons (ve_var 4) (va_cons (ve_bin od_add (ve_var 3) ve_int) (va_cons (ve_var 2) va_nil)))))) (vss_one (vs_ret ve_bl)) vss_nil)
      (vss_one (vs_set 3 sc_is_rising.nd (ve_var 4))))))))
      (vss_one (vs_ret ve_bl)))))
theorem ok_told_rows_n (T : Txt K mg A) : ∀ m : Nat, FnG P w K mg base (1 + m) A.f_told_rows A.d_told_rows ["thing"] (spF K mg 1 (F_told_rows m))
  | 0 => ⟨fun vs H Q E h => h.1, fun A outer s H args us vs Q E _ _ _ _ h => by obtain ⟨_, G, ms, ds, h, hh, i, q⟩ := h; exact q.elim⟩
  | m + 1 => by
    have hself := ok_told_rows_n T m
    refine fn_okG (k := 1 + m) .trunc T.u_told_rows sc_told_rows fun cdv Ar outer s H E hr => ?_
    have tk := takes_of (X := cxOf (L2.CX P w) P w K mg base ["thing", "one"] "told_rows" (defScope s_told_rows) A.f_told_rows cdv Ar outer s H E) rfl rfl rfl rfl
    have hp := passes_of (X := cxOf (L2.CX P w) P w K mg base ["thing", "one"] "told_rows" (defScope s_told_rows) A.f_told_rows cdv Ar outer s H E) rfl
    exact (vss_cons (vs_if (vt_val (ve_callG (ok_is_row T) (hr.mono (by first | decide | omega)) (by rfl) T.g_is_row T.u_is_row.kp T.b_is_row tk (va_cons (ve_var 0) va_nil))) (vss_one (vs_ret (ve_callTy cd_tuple (by rfl) T.z_tuple (by decide +kernel) (va_cons (ve_comp false [("one", 1)] rfl sc_told_rows.nd (vi_row (ve_var 0)) (blkOk_by (own := [("one", 1)]) (N := ["thing", "one"]) (sc := defScope s_told_rows) (by decide +kernel)) (fun _ _ _ _ _ => (vg_name 1 sc_told_rows.nd)) (fun _ _ _ _ _ => vts_nil) (fun _ _ _ _ _ => (ve_callG hself (hr.mono (by omega)) (by rfl) T.g_told_rows T.u_told_rows.kp T.b_told_rows takes0 (va_cons (ve_var 1) va_nil)))) va_nil)))) vss_nil)
      (vss_one (vs_ret (ve_var 0))))
theorem ok_told_rows (T : Txt K mg A) : FnG P w K mg base 47 A.f_told_rows A.d_told_rows ["thing"] (spF K mg 1 (F_told_rows 45)) := (ok_told_rows_n T 45).mono (by decide)
theorem ok_is_numbers (T : Txt K mg A) : FnG P w K mg base 2 A.f_is_numbers A.d_is_numbers ["thing"] (spF K mg 1 F_is_numbers) := by
    refine fn_okG (k := 1) .trunc T.u_is_numbers sc_is_numbers fun cdv Ar outer s H E hr => ?_
    have tk := takes_of (X := cxOf (L2.CX P w) P w K mg base ["thing", "one"] "is_numbers" (defScope s_is_numbers) A.f_is_numbers cdv Ar outer s H E) rfl rfl rfl rfl
    have hp := passes_of (X := cxOf (L2.CX P w) P w K mg base ["thing", "one"] "is_numbers" (defScope s_is_numbers) A.f_is_numbers cdv Ar outer s H E) rfl
    exact (vss_cons (vs_if (vt_w (vw_or (vt_not (vt_val (ve_callG (ok_is_row T) (hr.mono (by first | decide | omega)) (by rfl) T.g_is_row T.u_is_row.kp T.b_is_row tk (va_cons (ve_var 0) va_nil)))) (vw_or1 (vt_cmp od_gt (ve_callB cd_len (by rfl) T.z_len (by decide +kernel) (va_cons (ve_var 0) va_nil)) (ve_globI (by rfl) T.c_MOST_THINGS))))) (vss_one (vs_ret ve_bl)) vss_nil)
      (vss_one (vs_ret (ve_cmp (od_eq hr.units) (ve_comp false [("one", 1)] rfl sc_is_numbers.nd (vi_row (ve_var 0)) (blkOk_by (own := [("one", 1)]) (N := ["thing", "one"]) (sc := defScope s_is_numbers) (by decide +kernel)) (fun _ _ _ _ _ => (vg_name 1 sc_is_numbers.nd)) (fun _ _ _ _ _ => (vts_one (vt_not (vt_val (ve_callG (ok_is_whole T) (hr.mono (by first | decide | omega)) (by rfl) T.g_is_whole T.u_is_whole.kp T.b_is_whole takes0 (va_cons (ve_var 1) (va_cons ve_int (va_cons (ve_globI (by rfl) T.c_GREATEST) va_nil)))))))) (fun _ _ _ _ _ => (ve_var 1))) (ve_lst false va_nil)))))
theorem ok_is_off (T : Txt K mg A) : FnG P w K mg base 2 A.f_is_off A.d_is_off ["thing"] (spF K mg 1 F_is_off) := by
    refine fn_okG (k := 1) .trunc T.u_is_off sc_is_off fun cdv Ar outer s H E hr => ?_
    have tk := takes_of (X := cxOf (L2.CX P w) P w K mg base ["thing", "one"] "is_off" (defScope s_is_off) A.f_is_off cdv Ar outer s H E) rfl rfl rfl rfl
    have hp := passes_of (X := cxOf (L2.CX P w) P w K mg base ["thing", "one"] "is_off" (defScope s_is_off) A.f_is_off cdv Ar outer s H E) rfl
    exact (vss_cons (vs_if (vt_w (vw_or (vt_not (vt_val (ve_callG (ok_is_row T) (hr.mono (by first | decide | omega)) (by rfl) T.g_is_row T.u_is_row.kp T.b_is_row tk (va_cons (ve_var 0) va_nil)))) (vw_or (vt_cmp od_lt (ve_callB cd_len (by rfl) T.z_len (by decide +kernel) (va_cons (ve_var 0) va_nil)) ve_int) (vw_or1 (vt_cmp od_gt (ve_callB cd_len (by rfl) T.z_len (by decide +kernel) (va_cons (ve_var 0) va_nil)) (ve_globI (by rfl) T.c_MOST_OFF)))))) (vss_one (vs_ret ve_bl)) vss_nil)
      (vss_one (vs_ret (ve_cmp (od_eq hr.units) (ve_comp false [("one", 1)] rfl sc_is_off.nd (vi_row (ve_var 0)) (blkOk_by (own := [("one", 1)]) (N := ["thing", "one"]) (sc := defScope s_is_off) (by decide +kernel)) (fun _ _ _ _ _ => (vg_name 1 sc_is_off.nd)) (fun _ _ _ _ _ => (vts_one (vt_not (vt_val (ve_callG (ok_is_whole T) (hr.mono (by first | decide | omega)) (by rfl) T.g_is_whole T.u_is_whole.kp T.b_is_whole takes0 (va_cons (ve_var 1) (va_cons ve_int (va_cons ve_int va_nil)))))))) (fun _ _ _ _ _ => (ve_var 1))) (ve_lst false va_nil)))))
theorem ok_is_pair (T : Txt K mg A) : FnG P w K mg base 3 A.f_is_pair A.d_is_pair ["thing", "many"] (spF K mg 2 F_is_pair) := by
    refine fn_okG (k := 2) .trunc T.u_is_pair sc_is_pair fun cdv Ar outer s H E hr => ?_
    have tk := takes_of (X := cxOf (L2.CX P w) P w K mg base ["thing", "many"] "is_pair" (defScope s_is_pair) A.f_is_pair cdv Ar outer s H E) rfl rfl rfl rfl
    have hp := passes_of (X := cxOf (L2.CX P w) P w K mg base ["thing", "many"] "is_pair" (defScope s_is_pair) A.f_is_pair cdv Ar outer s H E) rfl
    exact (vss_one (vs_ret (ve_and (ve_callG (ok_is_rising T) (hr.mono (by first | decide | omega)) (by rfl) T.g_is_rising T.u_is_rising.kp T.b_is_rising tk (va_cons (ve_var 0) (va_cons ve_int (va_cons (ve_bin od_sub (ve_var 1) ve_int) va_nil)))) (ve_one (ve_cmp (od_eq hr.units) (ve_callB cd_len (by rfl) T.z_len (by decide +kernel) (va_cons (ve_var 0) va_nil)) ve_int)))))
theorem ok_are_pairs (T : Txt K mg A) : FnG P w K mg base 48 A.f_are_pairs A.d_are_pairs ["thing", "many"] (spF K mg 2 F_are_pairs) := by
    refine fn_okG (k := 47) .trunc T.u_are_pairs sc_are_pairs fun cdv Ar outer s H E hr => ?_
    have tk := takes_of (X := cxOf (L2.CX P w) P w K mg base ["thing", "many", "one", "pairs", "k"] "are_pairs" (defScope s_are_pairs) A.f_are_pairs cdv Ar outer s H E) rfl rfl rfl rfl
    have hp := passes_of (X := cxOf (L2.CX P w) P w K mg base ["thing", "many", "one", "pairs", "k"] "are_pairs" (defScope s_are_pairs) A.f_are_pairs cdv Ar outer s H E) rfl
    exact (vss_cons (vs_if (vt_w (vw_or (vt_not (vt_val (ve_callG (ok_is_row T) (hr.mono (by first | decide | omega)) (by rfl) T.g_is_row T.u_is_row.kp T.b_is_row tk (va_cons (ve_var 0) va_nil)))) (vw_or1 (vt_cmp (od_ne hr.units) (ve_comp false [("one", 2)] rfl sc_are_pairs.nd (vi_row (ve_var 0)) (blkOk_by (own := [("one", 2)]) (N := ["thing", "many", "one", "pairs", "k"]) (sc := defScope s_are_pairs) (by decide +kernel)) (fun _ _ _ _ _ => (vg_name 2 sc_are_pairs.nd)) (fun _ _ _ _ _ => (vts_one (vt_not (vt_val (ve_callG (ok_is_pair T) (hr.mono (by first | decide | omega)) (by rfl) T.g_is_pair T.u_is_pair.kp T.b_is_pair takes0 (va_cons (ve_var 2) (va_cons (ve_var 1) va_nil))))))) (fun _ _ _ _ _ => (ve_var 2))) (ve_lst false va_nil))))) (vss_one (vs_ret ve_bl)) vss_nil)
      (vss_cons (vs_set 3 sc_are_pairs.nd (ve_callG (ok_told_rows T) (hr.mono (by first | decide | omega)) (by rfl) T.g_told_rows T.u_told_rows.kp T.b_told_rows tk (va_cons (ve_var 0) va_nil)))
      (vss_one (vs_ret (ve_cmp (od_eq hr.units) (ve_comp false [("k", 4)] rfl sc_are_pairs.nd (vi_range2 (by rfl) T.z_range (va_cons ve_int (va_cons (ve_callB cd_len (by rfl) T.z_len (by decide +kernel) (va_cons (ve_var 3) va_nil)) va_nil))) (blkOk_by (own := [("k", 4)]) (N := ["thing", "many", "one", "pairs", "k"]) (sc := defScope s_are_pairs) (by decide +kernel)) (fun _ _ _ _ _ => (vg_name 4 sc_are_pairs.nd)) (fun _ _ _ _ _ => (vts_one (vt_cmp (od_geT (units65 hr.toRoom)) (ve_ix (ve_var 3) (ve_bin od_sub (ve_var 4) ve_int)) (ve_ix (ve_var 3) (ve_var 4))))) (fun _ _ _ _ _ => (ve_var 4))) (ve_lst false va_nil))))))
theorem ok_is_task (T : Txt K mg A) : FnG P w K mg base 49 A.f_is_task A.d_is_task ["thing"] (spF K mg 1 F_is_task) := by
    refine fn_okG (k := 48) .trunc T.u_is_task sc_is_task fun cdv Ar outer s H E hr => ?_
    have tk := takes_of (X := cxOf (L2.CX P w) P w K mg base ["thing", "numbers", "hands", "off", "long", "tied"] "is_task" (defScope s_is_task) A.f_is_task cdv Ar outer s H E) rfl rfl rfl rfl
    have hp := passes_of (X := cxOf (L2.CX P w) P w K mg base ["thing", "numbers", "hands", "off", "long", "tied"] "is_task" (defScope s_is_task) A.f_is_task cdv Ar outer s H E) rfl
    exact (vss_cons (vs_if (vt_w (vw_or (vt_not (vt_val (ve_callG (ok_is_row T) (hr.mono (by first | decide | omega)) (by rfl) T.g_is_row T.u_is_row.kp T.b_is_row tk (va_cons (ve_var 0) va_nil)))) (vw_or1 (vt_cmp (od_ne hr.units) (ve_callB cd_len (by rfl) T.z_len (by decide +kernel) (va_cons (ve_var 0) va_nil)) (ve_globI (by rfl) T.c_PARTS))))) (vss_one (vs_ret ve_bl)) vss_nil)
      (vss_cons (vs_un (vs := [1, 2, 3, 4, 5]) (ve_var 0) (vg_un rfl (vgs_cons (vg_name 1 sc_is_task.nd) (vgs_cons (vg_name 2 sc_is_task.nd) (vgs_cons (vg_name 3 sc_is_task.nd) (vgs_cons (vg_name 4 sc_is_task.nd) (vgs_cons (vg_name 5 sc_is_task.nd) vgs_nil)))))))
      (vss_cons (vs_if (vt_w (vw_or (vt_not (vt_val (ve_callG (ok_is_numbers T) (hr.mono (by first | decide | omega)) (by rfl) T.g_is_numbers T.u_is_numbers.kp T.b_is_numbers tk (va_cons (ve_var 1) va_nil)))) (vw_or (vt_not (vt_val (ve_callG (ok_is_whole T) (hr.mono (by first | decide | omega)) (by rfl) T.g_is_whole T.u_is_whole.kp T.b_is_whole tk (va_cons (ve_var 2) (va_cons ve_int (va_cons (ve_globI (by rfl) T.c_MOST_HANDS) va_nil)))))) (vw_or1 (vt_not (vt_val (ve_callG (ok_is_off T) (hr.mono (by first | decide | omega)) (by rfl) T.g_is_off T.u_is_off.kp T.b_is_off tk (va_cons (ve_var 3) va_nil)))))))) (vss_one (vs_ret ve_bl)) vss_nil)
      (vss_one (vs_ret (ve_and (ve_callG (ok_is_rising T) (hr.mono (by first | decide | omega)) (by rfl) T.g_is_rising T.u_is_rising.kp T.b_is_rising tk (va_cons (ve_var 4) (va_cons ve_int (va_cons (ve_bin od_sub (ve_callB cd_len (by rfl) T.z_len (by decide +kernel) (va_cons (ve_var 1) va_nil)) ve_int) va_nil)))) (ve_one (ve_callG (ok_are_pairs T) (hr.mono (by first | decide | omega)) (by rfl) T.g_are_pairs T.u_are_pairs.kp T.b_are_pairs tk (va_cons (ve_var 5) (va_cons (ve_callB cd_len (by rfl) T.z_len (by decide +kernel) (va_cons (ve_var 1) va_nil)) va_nil))))))))))
theorem ok_asked_task (T : Txt K mg A) : FnG P w K mg base 50 A.f_asked_task A.d_asked_task ["thing"] (spF K mg 1 F_asked_task) := by
    refine fn_okG (k := 49) .trunc T.u_asked_task sc_asked_task fun cdv Ar outer s H E hr => ?_
    have tk := takes_of (X := cxOf (L2.CX P w) P w K mg base ["thing"] "asked_task" (defScope s_asked_task) A.f_asked_task cdv Ar outer s H E) rfl rfl rfl rfl
    have hp := passes_of (X := cxOf (L2.CX P w) P w K mg base ["thing"] "asked_task" (defScope s_asked_task) A.f_asked_task cdv Ar outer s H E) rfl
    exact (vss_cons (vs_if (vt_not (vt_val (ve_callG (ok_is_task T) (hr.mono (by first | decide | omega)) (by rfl) T.g_is_task T.u_is_task.kp T.b_is_task tk (va_cons (ve_var 0) va_nil)))) (vss_one (vs_raise T.x_NoTask (by rfl) rfl tk)) vss_nil)
      (vss_one (vs_ret (ve_callG (ok_told_rows T) (hr.mono (by first | decide | omega)) (by rfl) T.g_told_rows T.u_told_rows.kp T.b_told_rows tk (va_cons (ve_var 0) va_nil)))))
theorem ok_in_ties (T : Txt K mg A) : FnG P w K mg base 1 A.f_in_ties A.d_in_ties ["task"] (spF K mg 1 F_in_ties) := by
    refine fn_okG (k := 0) .trunc T.u_in_ties sc_in_ties fun cdv Ar outer s H E hr => ?_
    have tk := takes_of (X := cxOf (L2.CX P w) P w K mg base ["task", "found", "pair", "i"] "in_ties" (defScope s_in_ties) A.f_in_ties cdv Ar outer s H E) rfl rfl rfl rfl
    have hp := passes_of (X := cxOf (L2.CX P w) P w K mg base ["task", "found", "pair", "i"] "in_ties" (defScope s_in_ties) A.f_in_ties cdv Ar outer s H E) rfl
    exact (vss_cons (vs_set 1 sc_in_ties.nd (ve_lst false va_nil))
      (vss_cons (vs_fb (vs_for (vs := [2]) hp rfl (vi_row (ve_ix (ve_var 0) ve_int)) (vg_name 2 sc_in_ties.nd) (vss_fa (vss_one (vs_set 1 sc_in_ties.nd (ve_bin od_add (ve_var 1) (ve_comp false [("i", 3)] rfl sc_in_ties.nd (vi_row (ve_var 2)) (blkOk_by (own := [("i", 3)]) (N := ["task", "found", "pair", "i"]) (sc := defScope s_in_ties) (by decide +kernel)) (fun _ _ _ _ _ => (vg_name 3 sc_in_ties.nd)) (fun _ _ _ _ _ => (vts_one (vt_cmp od_notin (ve_var 3) (ve_var 1)))) (fun _ _ _ _ _ => (ve_var 3)))))))))
      (vss_one (vs_ret (ve_var 1)))))
theorem ok_are_waits (T : Txt K mg A) : FnG P w K mg base 2 A.f_are_waits A.d_are_waits ["numbers", "waits"] (spF K mg 2 F_are_waits) := by
    refine fn_okG (k := 1) .trunc T.u_are_waits sc_are_waits fun cdv Ar outer s H E hr => ?_
    have tk := takes_of (X := cxOf (L2.CX P w) P w K mg base ["numbers", "waits", "i"] "are_waits" (defScope s_are_waits) A.f_are_waits cdv Ar outer s H E) rfl rfl rfl rfl
    have hp := passes_of (X := cxOf (L2.CX P w) P w K mg base ["numbers", "waits", "i"] "are_waits" (defScope s_are_waits) A.f_are_waits cdv Ar outer s H E) rfl
    exact (vss_cons (vs_if (vt_w (vw_or (vt_not (vt_val (ve_callG (ok_is_row T) (hr.mono (by first | decide | omega)) (by rfl) T.g_is_row T.u_is_row.kp T.b_is_row tk (va_cons (ve_var 1) va_nil)))) (vw_or1 (vt_cmp (od_ne hr.units) (ve_callB cd_len (by rfl) T.z_len (by decide +kernel) (va_cons (ve_var 1) va_nil)) (ve_callB cd_len (by rfl) T.z_len (by decide +kernel) (va_cons (ve_var 0) va_nil)))))) (vss_one (vs_ret ve_bl)) vss_nil)
      (vss_one (vs_ret (ve_cmp (od_eq hr.units) (ve_comp false [("i", 2)] rfl sc_are_waits.nd (vi_range1 (by rfl) T.z_range (va_cons (ve_callB cd_len (by rfl) T.z_len (by decide +kernel) (va_cons (ve_var 0) va_nil)) va_nil)) (blkOk_by (own := [("i", 2)]) (N := ["numbers", "waits", "i"]) (sc := defScope s_are_waits) (by decide +kernel)) (fun _ _ _ _ _ => (vg_name 2 sc_are_waits.nd)) (fun _ _ _ _ _ => (vts_one (vt_not (vt_val (ve_callG (ok_is_whole T) (hr.mono (by first | decide | omega)) (by rfl) T.g_is_whole T.u_is_whole.kp T.b_is_whole takes0 (va_cons (ve_ix (ve_var 1) (ve_var 2)) (va_cons ve_int (va_cons (ve_ix (ve_var 0) (ve_var 2)) va_nil)))))))) (fun _ _ _ _ _ => (ve_var 2))) (ve_lst false va_nil)))))
theorem ok_is_some_of (T : Txt K mg A) : FnG P w K mg base 3 A.f_is_some_of A.d_is_some_of ["things", "row", "most"] (spF K mg 3 F_is_some_of) := by
    refine fn_okG (k := 2) .trunc T.u_is_some_of sc_is_some_of fun cdv Ar outer s H E hr => ?_
    have tk := takes_of (X := cxOf (L2.CX P w) P w K mg base ["things", "row", "most", "i"] "is_some_of" (defScope s_is_some_of) A.f_is_some_of cdv Ar outer s H E) rfl rfl rfl rfl
    have hp := passes_of (X := cxOf (L2.CX P w) P w K mg base ["things", "row", "most", "i"] "is_some_of" (defScope s_is_some_of) A.f_is_some_of cdv Ar outer s H E) rfl
    exact (vss_cons (vs_if (vt_w (vw_or (vt_not (vt_val (ve_callG (ok_is_rising T) (hr.mono (by first | decide | omega)) (by rfl) T.g_is_rising T.u_is_rising.kp T.b_is_rising tk (va_cons (ve_var 1) (va_cons ve_int (va_cons ve_int va_nil)))))) (vw_or1 (vt_cmp od_gt (ve_callB cd_len (by rfl) T.z_len (by decide +kernel) (va_cons (ve_var 1) va_nil)) (ve_var 2))))) (vss_one (vs_ret ve_bl)) vss_nil)
      (vss_one (vs_ret (ve_cmp (od_eq hr.units) (ve_comp false [("i", 3)] rfl sc_is_some_of.nd (vi_row (ve_var 1)) (blkOk_by (own := [("i", 3)]) (N := ["things", "row", "most", "i"]) (sc := defScope s_is_some_of) (by decide +kernel)) (fun _ _ _ _ _ => (vg_name 3 sc_is_some_of.nd)) (fun _ _ _ _ _ => (vts_one (vt_cmp od_notin (ve_var 3) (ve_var 0)))) (fun _ _ _ _ _ => (ve_var 3))) (ve_lst false va_nil)))))
theorem ok_is_stand_of (T : Txt K mg A) : FnG P w K mg base 4 A.f_is_stand_of A.d_is_stand_of ["task", "thing"] (spF K mg 2 F_is_stand_of) := by
    refine fn_okG (k := 3) .trunc T.u_is_stand_of sc_is_stand_of fun cdv Ar outer s H E hr => ?_
    have tk := takes_of (X := cxOf (L2.CX P w) P w K mg base ["task", "thing", "phase", "waits", "busy", "last", "ends", "i"] "is_stand_of" (defScope s_is_stand_of) A.f_is_stand_of cdv Ar outer s H E) rfl rfl rfl rfl
    have hp := passes_of (X := cxOf (L2.CX P w) P w K mg base ["task", "thing", "phase", "waits", "busy", "last", "ends", "i"] "is_stand_of" (defScope s_is_stand_of) A.f_is_stand_of cdv Ar outer s H E) rfl
    exact (vss_cons (vs_if (vt_w (vw_or (vt_not (vt_val (ve_callG (ok_is_row T) (hr.mono (by first | decide | omega)) (by rfl) T.g_is_row T.u_is_row.kp T.b_is_row tk (va_cons (ve_var 1) va_nil)))) (vw_or1 (vt_cmp (od_ne hr.units) (ve_callB cd_len (by rfl) T.z_len (by decide +kernel) (va_cons (ve_var 1) va_nil)) ve_int)))) (vss_one (vs_ret ve_bl)) vss_nil)
      (vss_cons (vs_un (vs := [2, 3, 4, 5]) (ve_var 1) (vg_un rfl (vgs_cons (vg_name 2 sc_is_stand_of.nd) (vgs_cons (vg_name 3 sc_is_stand_of.nd) (vgs_cons (vg_name 4 sc_is_stand_of.nd) (vgs_cons (vg_name 5 sc_is_stand_of.nd) vgs_nil))))))
      (vss_cons (vs_if (vt_w (vw_or (vt_not (vt_val (ve_callG (ok_is_whole T) (hr.mono (by first | decide | omega)) (by rfl) T.g_is_whole T.u_is_whole.kp T.b_is_whole tk (va_cons (ve_var 2) (va_cons ve_int (va_cons (ve_bin od_sub (ve_callB cd_len (by rfl) T.z_len (by decide +kernel) (va_cons (ve_ix (ve_var 0) ve_int) va_nil)) ve_int) va_nil)))))) (vw_or1 (vt_not (vt_val (ve_callG (ok_are_waits T) (hr.mono (by first | decide | omega)) (by rfl) T.g_are_waits T.u_are_waits.kp T.b_are_waits tk (va_cons (ve_ix (ve_var 0) ve_int) (va_cons (ve_var 3) va_nil)))))))) (vss_one (vs_ret ve_bl)) vss_nil)
      (vss_cons (vs_set 6 sc_is_stand_of.nd (ve_callG (ok_in_ties T) (hr.mono (by first | decide | omega)) (by rfl) T.g_in_ties T.u_in_ties.kp T.b_in_ties tk (va_cons (ve_var 0) va_nil)))
      (vss_cons (vs_if (vt_w (vw_or (vt_not (vt_val (ve_callG (ok_is_some_of T) (hr.mono (by first | decide | omega)) (by rfl) T.g_is_some_of T.u_is_some_of.kp T.b_is_some_of tk (va_cons (ve_ix (ve_var 0) ve_int) (va_cons (ve_var 4) (va_cons (ve_ix (ve_var 0) ve_int) va_nil)))))) (vw_or1 (vt_not (vt_val (ve_callG (ok_is_some_of T) (hr.mono (by first | decide | omega)) (by rfl) T.g_is_some_of T.u_is_some_of.kp T.b_is_some_of tk (va_cons (ve_var 6) (va_cons (ve_var 5) (va_cons (ve_ix (ve_var 0) ve_int) va_nil))))))))) (vss_one (vs_ret ve_bl)) vss_nil)
      (vss_cons (vs_if (vt_cmp od_gt (ve_bin od_add (ve_callB cd_len (by rfl) T.z_len (by decide +kernel) (va_cons (ve_var 4) va_nil)) (ve_callB cd_len (by rfl) T.z_len (by decide +kernel) (va_cons (ve_comp false [("i", 7)] rfl sc_is_stand_of.nd (vi_row (ve_var 5)) (blkOk_by (own := [("i", 7)]) (N := ["task", "thing", "phase", "waits", "busy", "last", "ends", "i"]) (sc := defScope s_is_stand_of) (by decide +kernel)) (fun _ _ _ _ _ => (vg_name 7 sc_is_stand_of.nd)) (fun _ _ _ _ _ => (vts_one (vt_cmp od_notin (ve_var 7) (ve_var 4)))) (fun _ _ _ _ _ => (ve_var 7))) va_nil))) (ve_ix (ve_var 0) ve_int)) (vss_one (vs_ret ve_bl)) vss_nil)
      (vss_one (vs_ret (ve_cmp (od_eq hr.units) (ve_comp false [("i", 7)] rfl sc_is_stand_of.nd (vi_row (ve_var 4)) (blkOk_by (own := [("i", 7)]) (N := ["task", "thing", "phase", "waits", "busy", "last", "ends", "i"]) (sc := defScope s_is_stand_of) (by decide +kernel)) (fun _ _ _ _ _ => (vg_name 7 sc_is_stand_of.nd)) (fun _ _ _ _ _ => (vts_one (vt_w (vw_and (vt_cmp od_in (ve_var 7) (ve_var 6)) (vw_and1 (vt_cmp od_notin (ve_var 7) (ve_var 5))))))) (fun _ _ _ _ _ => (ve_var 7))) (ve_lst false va_nil))))))))))
theorem ok_is_stand (T : Txt K mg A) : FnG P w K mg base 51 A.f_is_stand A.d_is_stand ["task", "thing"] (spF K mg 2 F_is_stand) := by
    refine fn_okG (k := 50) .trunc T.u_is_stand sc_is_stand fun cdv Ar outer s H E hr => ?_
    have tk := takes_of (X := cxOf (L2.CX P w) P w K mg base ["task", "thing"] "is_stand" (defScope s_is_stand) A.f_is_stand cdv Ar outer s H E) rfl rfl rfl rfl
    have hp := passes_of (X := cxOf (L2.CX P w) P w K mg base ["task", "thing"] "is_stand" (defScope s_is_stand) A.f_is_stand cdv Ar outer s H E) rfl
    exact (vss_one (vs_ret (ve_callG (ok_is_stand_of T) (hr.mono (by first | decide | omega)) (by rfl) T.g_is_stand_of T.u_is_stand_of.kp T.b_is_stand_of tk (va_cons (ve_callG (ok_asked_task T) (hr.mono (by first | decide | omega)) (by rfl) T.g_asked_task T.u_asked_task.kp T.b_asked_task tk (va_cons (ve_var 0) va_nil)) (va_cons (ve_var 1) va_nil)))))
theorem ok_first_of (T : Txt K mg A) : FnG P w K mg base 1 A.f_first_of A.d_first_of ["task"] (spF K mg 1 F_first_of) := by
    refine fn_okG (k := 0) .trunc T.u_first_of sc_first_of fun cdv Ar outer s H E hr => ?_
    have tk := takes_of (X := cxOf (L2.CX P w) P w K mg base ["task"] "first_of" (defScope s_first_of) A.f_first_of cdv Ar outer s H E) rfl rfl rfl rfl
    have hp := passes_of (X := cxOf (L2.CX P w) P w K mg base ["task"] "first_of" (defScope s_first_of) A.f_first_of cdv Ar outer s H E) rfl
    exact (vss_one (vs_ret (ve_tup (va_cons ve_int (va_cons (ve_ix (ve_var 0) ve_int) (va_cons (ve_tup va_nil) (va_cons (ve_tup va_nil) va_nil)))))))
theorem ok_first_stand (T : Txt K mg A) : FnG P w K mg base 51 A.f_first_stand A.d_first_stand ["task"] (spF K mg 1 F_first_stand) := by
    refine fn_okG (k := 50) .trunc T.u_first_stand sc_first_stand fun cdv Ar outer s H E hr => ?_
    have tk := takes_of (X := cxOf (L2.CX P w) P w K mg base ["task"] "first_stand" (defScope s_first_stand) A.f_first_stand cdv Ar outer s H E) rfl rfl rfl rfl
    have hp := passes_of (X := cxOf (L2.CX P w) P w K mg base ["task"] "first_stand" (defScope s_first_stand) A.f_first_stand cdv Ar outer s H E) rfl
    exact (vss_one (vs_ret (ve_callG (ok_first_of T) (hr.mono (by first | decide | omega)) (by rfl) T.g_first_of T.u_first_of.kp T.b_first_of tk (va_cons (ve_callG (ok_asked_task T) (hr.mono (by first | decide | omega)) (by rfl) T.g_asked_task T.u_asked_task.kp T.b_asked_task tk (va_cons (ve_var 0) va_nil)) va_nil))))
theorem ok__law_cell (T : Txt K mg A) : FnG P w K mg base 1 A.f__law_cell A.d__law_cell ["_law_script", "_law_k"] (spF K mg 2 F__law_cell) := by
    refine fn_okG (k := 0) .trunc T.u__law_cell sc__law_cell fun cdv Ar outer s H E hr => ?_
    have tk := takes_of (X := cxOf (L2.CX P w) P w K mg base ["_law_script", "_law_k", "_law_spare"] "_law_cell" (defScope s__law_cell) A.f__law_cell cdv Ar outer s H E) rfl rfl rfl rfl
    have hp := passes_of (X := cxOf (L2.CX P w) P w K mg base ["_law_script", "_law_k", "_law_spare"] "_law_cell" (defScope s__law_cell) A.f__law_cell cdv Ar outer s H E) rfl
    exact (vss_cons (vs_if (vt_cmp od_lt (ve_var 1) (ve_callB cd_len (by rfl) T.z_len (by decide +kernel) (va_cons (ve_var 0) va_nil))) (vss_one (vs_ret (ve_ix (ve_var 0) (ve_var 1)))) vss_nil)
      (vss_cons (vs_set 2 sc__law_cell.nd (ve_bin od_add ve_int (ve_bin od_mul (ve_bin od_mul ve_int (ve_var 1)) (ve_var 1))))
      (vss_cons (vs_if (vt_cmp od_gt (ve_callB cd_len (by rfl) T.z_len (by decide +kernel) (va_cons (ve_var 0) va_nil)) ve_int) (vss_one (vs_set 2 sc__law_cell.nd (ve_bin od_add (ve_var 2) (ve_bin od_mul (ve_bin od_mod (ve_ix (ve_var 0) ve_int) ve_int) (ve_bin od_add (ve_bin od_mul ve_int (ve_var 1)) ve_int))))) vss_nil)
      (vss_one (vs_ret (ve_var 2))))))
theorem ok__law_draws (T : Txt K mg A) : FnG P w K mg base 2 A.f__law_draws A.d__law_draws ["_law_script", "_law_at", "_law_many"] (spF K mg 3 F__law_draws) := by
    refine fn_okG (k := 1) .move T.u__law_draws sc__law_draws fun cdv Ar outer s H E hr => ?_
    have tk := takes_of (X := cxOf (L2.CX P w) P w K mg base ["_law_script", "_law_at", "_law_many", "_law_found", "_law_left", "_law_k", "_law_draw"] "_law_draws" (defScope s__law_draws) A.f__law_draws cdv Ar outer s H E) rfl rfl rfl rfl
    have hp := passes_of (X := cxOf (L2.CX P w) P w K mg base ["_law_script", "_law_at", "_law_many", "_law_found", "_law_left", "_law_k", "_law_draw"] "_law_draws" (defScope s__law_draws) A.f__law_draws cdv Ar outer s H E) rfl
    exact (vss_cons (vs_set 3 sc__law_draws.nd (ve_lst true va_nil))
      (vss_cons (vs_set 4 sc__law_draws.nd (ve_callB (cd_max rfl) (by rfl) T.z_max (by decide +kernel) (va_cons ve_int (va_cons (ve_callG (ok__law_cell T) (hr.mono (by first | decide | omega)) (by rfl) T.g__law_cell T.u__law_cell.kp T.b__law_cell tk (va_cons (ve_var 0) (va_cons (ve_var 1) va_nil))) va_nil))))
      (vss_cons (vs_if (vt_cmp od_ge (ve_var 4) (ve_bin od_pow ve_int ve_int)) (vss_cons (vs_fa (vs_fb (vs_for (vs := [5]) hp rfl (vi_range1 (by rfl) T.z_range (va_cons (ve_var 2) va_nil)) (vg_name 5 sc__law_draws.nd) (vss_fa (vss_cons (vs_expr (ve_ml PySem.F.slot_list_append PySem.F.type_list_append md_append (ve_var 3) (va_cons (ve_bin od_mod (ve_var 4) ve_int) va_nil)))
      (vss_one (vs_set 4 sc__law_draws.nd (ve_bin od_fdiv (ve_var 4) ve_int))))))))
      (vss_one (vs_ret (ve_var 3)))) vss_nil)
      (vss_cons (vs_set 6 sc__law_draws.nd (ve_bin od_mod (ve_bin od_mul (ve_bin od_mod (ve_var 4) ve_int) ve_int) ve_int))
      (vss_cons (vs_fa (vs_fb (vs_for (vs := [5]) hp rfl (vi_range1 (by rfl) T.z_range (va_cons (ve_var 2) va_nil)) (vg_name 5 sc__law_draws.nd) (vss_fa (vss_cons (vs_set 6 sc__law_draws.nd (ve_bin od_mod (ve_bin od_add (ve_bin od_add (ve_bin od_add (ve_bin od_mul (ve_var 6) ve_int) (ve_callG (ok__law_cell T) (hr.mono (by first | decide | omega)) (by rfl) T.g__law_cell T.u__law_cell.kp T.b__law_cell tk (va_cons (ve_var 0) (va_cons (ve_bin od_add (ve_bin od_add (ve_var 1) ve_int) (ve_bin od_mod (ve_var 5) ve_int)) va_nil)))) (ve_bin od_mul (ve_var 5) (ve_var 5))) ve_int) ve_int))
      (vss_one (vs_expr (ve_ml PySem.F.slot_list_append PySem.F.type_list_append md_append (ve_var 3) (va_cons (ve_bin od_fdiv (ve_bin od_mod (ve_bin od_add (ve_bin od_mul (ve_var 6) ve_int) (ve_bin od_mul ve_int (ve_var 5))) ve_int) ve_int) va_nil)))))))))
      (vss_one (vs_ret (ve_var 3))))))))
theorem ok__law_next (T : Txt K mg A) : FnG P w K mg base 1 A.f__law_next A.d__law_next ["_law_draws_here"] (spF K mg 1 F__law_next) := by
    refine fn_okG (k := 0) .trunc T.u__law_next sc__law_next fun cdv Ar outer s H E hr => ?_
    have tk := takes_of (X := cxOf (L2.CX P w) P w K mg base ["_law_draws_here"] "_law_next" (defScope s__law_next) A.f__law_next cdv Ar outer s H E) rfl rfl rfl rfl
    have hp := passes_of (X := cxOf (L2.CX P w) P w K mg base ["_law_draws_here"] "_law_next" (defScope s__law_next) A.f__law_next cdv Ar outer s H E) rfl
    exact (vss_cons (vs_if (vt_cmp od_gt (ve_callB cd_len (by rfl) T.z_len (by decide +kernel) (va_cons (ve_var 0) va_nil)) ve_int) (vss_one (vs_ret (ve_ml0 PySem.F.slot_list_pop PySem.F.type_list_pop md_pop (ve_var 0)))) vss_nil)
      (vss_one (vs_ret ve_int)))
theorem ok__law_long (T : Txt K mg A) : FnG P w K mg base 2 A.f__law_long A.d__law_long ["_law_draws_here", "_law_many"] (spF K mg 2 F__law_long) := by
    refine fn_okG (k := 1) .trunc T.u__law_long sc__law_long fun cdv Ar outer s H E hr => ?_
    have tk := takes_of (X := cxOf (L2.CX P w) P w K mg base ["_law_draws_here", "_law_many", "_law_draw", "_law_i"] "_law_long" (defScope s__law_long) A.f__law_long cdv Ar outer s H E) rfl rfl rfl rfl
    have hp := passes_of (X := cxOf (L2.CX P w) P w K mg base ["_law_draws_here", "_law_many", "_law_draw", "_law_i"] "_law_long" (defScope s__law_long) A.f__law_long cdv Ar outer s H E) rfl
    exact (vss_cons (vs_set 2 sc__law_long.nd (ve_callG (ok__law_next T) (hr.mono (by first | decide | omega)) (by rfl) T.g__law_next T.u__law_next.kp T.b__law_next tk (va_cons (ve_var 0) va_nil)))
      (vss_cons (vs_if (vt_cmp od_gt (ve_bin od_mod (ve_var 2) ve_int) ve_int) (vss_one (vs_ret (ve_tup va_nil))) vss_nil)
      (vss_one (vs_ret (ve_callTy cd_tuple (by rfl) T.z_tuple (by decide +kernel) (va_cons (ve_comp false [("_law_i", 3)] rfl sc__law_long.nd (vi_range1 (by rfl) T.z_range (va_cons (ve_var 1) va_nil)) (blkOk_by (own := [("_law_i", 3)]) (N := ["_law_draws_here", "_law_many", "_law_draw", "_law_i"]) (sc := defScope s__law_long) (by decide +kernel)) (fun _ _ _ _ _ => (vg_name 3 sc__law_long.nd)) (fun _ _ _ _ _ => (vts_one (vt_cmp (od_eq hr.units) (ve_bin od_mod (ve_bin od_fdiv (ve_bin od_fdiv (ve_var 2) ve_int) (ve_bin od_shl ve_int (ve_var 3))) ve_int) ve_int))) (fun _ _ _ _ _ => (ve_var 3))) va_nil))))))
theorem ok__law_tied (T : Txt K mg A) : FnG P w K mg base 2 A.f__law_tied A.d__law_tied ["_law_draws_here", "_law_many"] (spF K mg 2 F__law_tied) := by
    refine fn_okG (k := 1) .trunc T.u__law_tied sc__law_tied fun cdv Ar outer s H E hr => ?_
    have tk := takes_of (X := cxOf (L2.CX P w) P w K mg base ["_law_draws_here", "_law_many", "_law_draw", "_law_found", "_law_j", "_law_i"] "_law_tied" (defScope s__law_tied) A.f__law_tied cdv Ar outer s H E) rfl rfl rfl rfl
    have hp := passes_of (X := cxOf (L2.CX P w) P w K mg base ["_law_draws_here", "_law_many", "_law_draw", "_law_found", "_law_j", "_law_i"] "_law_tied" (defScope s__law_tied) A.f__law_tied cdv Ar outer s H E) rfl
    exact (vss_cons (vs_set 2 sc__law_tied.nd (ve_callG (ok__law_next T) (hr.mono (by first | decide | omega)) (by rfl) T.g__law_next T.u__law_next.kp T.b__law_next tk (va_cons (ve_var 0) va_nil)))
      (vss_cons (vs_set 3 sc__law_tied.nd (ve_lst true va_nil))
      (vss_cons (vs_fb (vs_for (vs := [4]) hp rfl (vi_range1 (by rfl) T.z_range (va_cons (ve_var 1) va_nil)) (vg_name 4 sc__law_tied.nd) (vss_fa (vss_one (vs_fb (vs_for (vs := [5]) hp rfl (vi_range1 (by rfl) T.z_range (va_cons (ve_var 4) va_nil)) (vg_name 5 sc__law_tied.nd) (vss_fa (vss_one (vs_if (vt_w (vw_and (vt_cmp (od_eq hr.units) (ve_bin od_mod (ve_var 2) ve_int) ve_int) (vw_and1 (vt_cmp (od_eq hr.units) (ve_bin od_mod (ve_bin od_fdiv (ve_bin od_fdiv (ve_var 2) ve_int) (ve_bin od_add (ve_bin od_add ve_int (ve_var 5)) (ve_bin od_mul ve_int (ve_var 4)))) ve_int) ve_int)))) (vss_one (vs_expr (ve_ml PySem.F.slot_list_append PySem.F.type_list_append md_append (ve_var 3) (va_cons (ve_tup (va_cons (ve_var 5) (va_cons (ve_var 4) va_nil))) va_nil)))) vss_nil)))))))))
      (vss_one (vs_ret (ve_callTy cd_tuple (by rfl) T.z_tuple (by decide +kernel) (va_cons (ve_callB (cd_sorted false) (by rfl) T.z_sorted (by decide +kernel) (va_cons (ve_var 3) va_nil)) va_nil)))))))
theorem ok__law_off (T : Txt K mg A) : FnG P w K mg base 2 A.f__law_off A.d__law_off ["_law_draws_here", "_law_left"] (spF K mg 2 F__law_off) := by
    refine fn_okG (k := 1) .trunc T.u__law_off sc__law_off fun cdv Ar outer s H E hr => ?_
    have tk := takes_of (X := cxOf (L2.CX P w) P w K mg base ["_law_draws_here", "_law_left", "_law_draw", "_law_size", "_law_k"] "_law_off" (defScope s__law_off) A.f__law_off cdv Ar outer s H E) rfl rfl rfl rfl
    have hp := passes_of (X := cxOf (L2.CX P w) P w K mg base ["_law_draws_here", "_law_left", "_law_draw", "_law_size", "_law_k"] "_law_off" (defScope s__law_off) A.f__law_off cdv Ar outer s H E) rfl
    exact (vss_cons (vs_set 2 sc__law_off.nd (ve_callG (ok__law_next T) (hr.mono (by first | decide | omega)) (by rfl) T.g__law_next T.u__law_next.kp T.b__law_next tk (va_cons (ve_var 0) va_nil)))
      (vss_cons (vs_set 3 sc__law_off.nd (ve_bin od_add ve_int (ve_bin od_mod (ve_bin od_fdiv (ve_var 2) ve_int) ve_int)))
      (vss_cons (vs_if (vt_w (vw_or (vt_cmp od_gt (ve_bin od_mod (ve_var 2) ve_int) ve_int) (vw_or1 (vt_cmp od_gt (ve_var 3) (ve_var 1))))) (vss_one (vs_ret (ve_tup (va_cons ve_int va_nil)))) vss_nil)
      (vss_one (vs_ret (ve_callTy cd_tuple (by rfl) T.z_tuple (by decide +kernel) (va_cons (ve_comp false [("_law_k", 4)] rfl sc__law_off.nd (vi_range1 (by rfl) T.z_range (va_cons (ve_var 3) va_nil)) (blkOk_by (own := [("_law_k", 4)]) (N := ["_law_draws_here", "_law_left", "_law_draw", "_law_size", "_law_k"]) (sc := defScope s__law_off) (by decide +kernel)) (fun _ _ _ _ _ => (vg_name 4 sc__law_off.nd)) (fun _ _ _ _ _ => vts_nil) (fun _ _ _ _ _ => (ve_callTy cd_int (by rfl) T.z_int (by decide +kernel) (va_cons (ve_cmp (od_eq hr.units) (ve_bin od_mod (ve_bin od_fdiv (ve_bin od_fdiv (ve_var 2) ve_int) (ve_bin od_shl ve_int (ve_var 4))) ve_int) ve_int) va_nil)))) va_nil)))))))
theorem ok__law_task (T : Txt K mg A) : FnG P w K mg base 3 A.f__law_task A.d__law_task ["_law_draws_here", "_law_most"] (spF K mg 2 F__law_task) := by
    refine fn_okG (k := 2) .trunc T.u__law_task sc__law_task fun cdv Ar outer s H E hr => ?_
    have tk := takes_of (X := cxOf (L2.CX P w) P w K mg base ["_law_draws_here", "_law_most", "_law_numbers", "_law_left", "_law_k", "_law_draw", "_law_some", "_law_number", "_law_hands", "_law_off_here", "_law_long_here", "_law_rows"] "_law_task" (defScope s__law_task) A.f__law_task cdv Ar outer s H E) rfl rfl rfl rfl
    have hp := passes_of (X := cxOf (L2.CX P w) P w K mg base ["_law_draws_here", "_law_most", "_law_numbers", "_law_left", "_law_k", "_law_draw", "_law_some", "_law_number", "_law_hands", "_law_off_here", "_law_long_here", "_law_rows"] "_law_task" (defScope s__law_task) A.f__law_task cdv Ar outer s H E) rfl
    exact (vss_cons (vs_set 2 sc__law_task.nd (ve_lst true va_nil))
      (vss_cons (vs_set 3 sc__law_task.nd (ve_var 1))
      (vss_cons (vs_fb (vs_for (vs := [4]) hp rfl (vi_range1 (by rfl) T.z_range (va_cons (ve_bin od_mod (ve_callG (ok__law_next T) (hr.mono (by first | decide | omega)) (by rfl) T.g__law_next T.u__law_next.kp T.b__law_next tk (va_cons (ve_var 0) va_nil)) ve_int) va_nil)) (vg_name 4 sc__law_task.nd) (vss_fa (vss_cons (vs_set 5 sc__law_task.nd (ve_callG (ok__law_next T) (hr.mono (by first | decide | omega)) (by rfl) T.g__law_next T.u__law_next.kp T.b__law_next tk (va_cons (ve_var 0) va_nil)))
      (vss_cons (vs_set 6 sc__law_task.nd (ve_lst false (va_cons ve_int (va_cons ve_int (va_cons ve_int (va_cons ve_int (va_cons (ve_bin od_add ve_int (ve_bin od_mod (ve_bin od_fdiv (ve_var 5) ve_int) ve_int)) (va_cons (ve_bin od_add ve_int (ve_bin od_mod (ve_bin od_fdiv (ve_var 5) ve_int) ve_int)) (va_cons (ve_bin od_add ve_int (ve_bin od_mod (ve_bin od_fdiv (ve_var 5) ve_int) ve_int)) (va_cons ve_int (va_cons ve_int (va_cons ve_int va_nil))))))))))))
      (vss_cons (vs_set 7 sc__law_task.nd (ve_ix (ve_bin od_add (ve_var 6) (ve_lst false (va_cons ve_int (va_cons ve_int (va_cons ve_int (va_cons ve_int (va_cons ve_int (va_cons (ve_bin od_add ve_int (ve_bin od_mod (ve_bin od_fdiv (ve_var 5) ve_int) ve_int)) va_nil)))))))) (ve_bin od_mod (ve_var 5) ve_int)))
      (vss_one (vs_if (vt_cmp od_le (ve_var 7) (ve_var 3)) (vss_cons (vs_expr (ve_ml PySem.F.slot_list_append PySem.F.type_list_append md_append (ve_var 2) (va_cons (ve_var 7) va_nil)))
      (vss_one (vs_set 3 sc__law_task.nd (ve_bin od_fdiv (ve_var 3) (ve_var 7))))) vss_nil))))))))
      (vss_cons (vs_set 8 sc__law_task.nd (ve_bin od_add ve_int (ve_callTy cd_int (by rfl) T.z_int (by decide +kernel) (va_cons (ve_cmp (od_eq hr.units) (ve_bin od_mod (ve_callG (ok__law_next T) (hr.mono (by first | decide | omega)) (by rfl) T.g__law_next T.u__law_next.kp T.b__law_next tk (va_cons (ve_var 0) va_nil)) ve_int) ve_int) va_nil))))
      (vss_cons (vs_set 9 sc__law_task.nd (ve_callG (ok__law_off T) (hr.mono (by first | decide | omega)) (by rfl) T.g__law_off T.u__law_off.kp T.b__law_off tk (va_cons (ve_var 0) (va_cons (ve_var 3) va_nil))))
      (vss_cons (vs_set 10 sc__law_task.nd (ve_callG (ok__law_long T) (hr.mono (by first | decide | omega)) (by rfl) T.g__law_long T.u__law_long.kp T.b__law_long tk (va_cons (ve_var 0) (va_cons (ve_callB cd_len (by rfl) T.z_len (by decide +kernel) (va_cons (ve_var 2) va_nil)) va_nil))))
      (vss_cons (vs_set 11 sc__law_task.nd (ve_bin od_add (ve_bin od_add ve_int (ve_callB cd_len (by rfl) T.z_len (by decide +kernel) (va_cons (ve_var 10) va_nil))) (ve_bin od_mul (ve_bin od_sub (ve_var 8) ve_int) (ve_bin od_fdiv (ve_bin od_mul (ve_callB cd_len (by rfl) T.z_len (by decide +kernel) (va_cons (ve_var 10) va_nil)) (ve_bin od_sub (ve_callB cd_len (by rfl) T.z_len (by decide +kernel) (va_cons (ve_var 10) va_nil)) ve_int)) ve_int))))
      (vss_cons (vs_if (vt_cmp od_gt (ve_bin od_mul (ve_var 11) (ve_callB cd_len (by rfl) T.z_len (by decide +kernel) (va_cons (ve_var 9) va_nil))) (ve_var 3)) (vss_one (vs_set 10 sc__law_task.nd (ve_tup va_nil))) vss_nil)
      (vss_one (vs_ret (ve_tup (va_cons (ve_callTy cd_tuple (by rfl) T.z_tuple (by decide +kernel) (va_cons (ve_var 2) va_nil)) (va_cons (ve_var 8) (va_cons (ve_var 9) (va_cons (ve_var 10) (va_cons (ve_callG (ok__law_tied T) (hr.mono (by first | decide | omega)) (by rfl) T.g__law_tied T.u__law_tied.kp T.b__law_tied tk (va_cons (ve_var 0) (va_cons (ve_callB cd_len (by rfl) T.z_len (by decide +kernel) (va_cons (ve_var 2) va_nil)) va_nil))) va_nil))))))))))))))))
theorem ok__law_made_up (T : Txt K mg A) : FnG P w K mg base 2 A.f__law_made_up A.d__law_made_up ["_law_draws_here", "_law_task_here"] (spF K mg 2 F__law_made_up) := by
    refine fn_okG (k := 1) .trunc T.u__law_made_up sc__law_made_up fun cdv Ar outer s H E hr => ?_
    have tk := takes_of (X := cxOf (L2.CX P w) P w K mg base ["_law_draws_here", "_law_task_here", "_law_numbers", "_law_hands", "_law_off_here", "_law_long_here", "_law_tied_here", "_law_phase", "_law_waits", "_law_number", "_law_draw", "_law_ends", "_law_pair", "_law_busy", "_law_i", "_law_last", "_law_others"] "_law_made_up" (defScope s__law_made_up) A.f__law_made_up cdv Ar outer s H E) rfl rfl rfl rfl
    have hp := passes_of (X := cxOf (L2.CX P w) P w K mg base ["_law_draws_here", "_law_task_here", "_law_numbers", "_law_hands", "_law_off_here", "_law_long_here", "_law_tied_here", "_law_phase", "_law_waits", "_law_number", "_law_draw", "_law_ends", "_law_pair", "_law_busy", "_law_i", "_law_last", "_law_others"] "_law_made_up" (defScope s__law_made_up) A.f__law_made_up cdv Ar outer s H E) rfl
    exact (vss_cons (vs_un (vs := [2, 3, 4, 5, 6]) (ve_var 1) (vg_un rfl (vgs_cons (vg_name 2 sc__law_made_up.nd) (vgs_cons (vg_name 3 sc__law_made_up.nd) (vgs_cons (vg_name 4 sc__law_made_up.nd) (vgs_cons (vg_name 5 sc__law_made_up.nd) (vgs_cons (vg_name 6 sc__law_made_up.nd) vgs_nil)))))))
      (vss_cons (vs_set 7 sc__law_made_up.nd (ve_bin od_mod (ve_callG (ok__law_next T) (hr.mono (by first | decide | omega)) (by rfl) T.g__law_next T.u__law_next.kp T.b__law_next tk (va_cons (ve_var 0) va_nil)) (ve_callB cd_len (by rfl) T.z_len (by decide +kernel) (va_cons (ve_var 4) va_nil))))
      (vss_cons (vs_set 8 sc__law_made_up.nd (ve_lst true va_nil))
      (vss_cons (vs_fb (vs_for (vs := [9]) hp rfl (vi_row (ve_var 2)) (vg_name 9 sc__law_made_up.nd) (vss_fa (vss_cons (vs_set 10 sc__law_made_up.nd (ve_callG (ok__law_next T) (hr.mono (by first | decide | omega)) (by rfl) T.g__law_next T.u__law_next.kp T.b__law_next tk (va_cons (ve_var 0) va_nil)))
      (vss_one (vs_expr (ve_ml PySem.F.slot_list_append PySem.F.type_list_append md_append (ve_var 8) (va_cons (ve_ix (ve_lst false (va_cons (ve_bin od_add ve_int (ve_bin od_mod (ve_bin od_fdiv (ve_var 10) ve_int) (ve_var 9))) (va_cons (ve_var 9) (va_cons ve_int (va_cons (ve_callB (cd_max rfl) (by rfl) T.z_max (by decide +kernel) (va_cons ve_int (va_cons (ve_bin od_sub (ve_var 9) ve_int) va_nil))) va_nil))))) (ve_bin od_mod (ve_var 10) ve_int)) va_nil))))))))
      (vss_cons (vs_set 11 sc__law_made_up.nd (ve_sortSetX (ve_callB (cd_sumL rfl) (by rfl) T.z_sum (by decide +kernel) (va_cons (ve_comp false [("_law_pair", 12)] rfl sc__law_made_up.nd (vi_row (ve_var 6)) (blkOk_by (own := [("_law_pair", 12)]) (N := ["_law_draws_here", "_law_task_here", "_law_numbers", "_law_hands", "_law_off_here", "_law_long_here", "_law_tied_here", "_law_phase", "_law_waits", "_law_number", "_law_draw", "_law_ends", "_law_pair", "_law_busy", "_law_i", "_law_last", "_law_others"]) (sc := defScope s__law_made_up) (by decide +kernel)) (fun _ _ _ _ _ => (vg_name 12 sc__law_made_up.nd)) (fun _ _ _ _ _ => vts_nil) (fun _ _ _ _ _ => (ve_callTy (cd_list false) (by rfl) T.z_list (by decide +kernel) (va_cons (ve_var 12) va_nil)))) (va_cons (ve_lst false va_nil) va_nil))) (by rfl) T.z_sorted (by rfl) T.z_set))
      (vss_cons (vs_set 13 sc__law_made_up.nd (ve_slice false (ve_comp false [("_law_i", 14)] rfl sc__law_made_up.nd (vi_row (ve_var 5)) (blkOk_by (own := [("_law_i", 14)]) (N := ["_law_draws_here", "_law_task_here", "_law_numbers", "_law_hands", "_law_off_here", "_law_long_here", "_law_tied_here", "_law_phase", "_law_waits", "_law_number", "_law_draw", "_law_ends", "_law_pair", "_law_busy", "_law_i", "_law_last", "_law_others"]) (sc := defScope s__law_made_up) (by decide +kernel)) (fun _ _ _ _ _ => (vg_name 14 sc__law_made_up.nd)) (fun _ _ _ _ _ => (vts_one (vt_cmp (od_eq hr.units) (ve_bin od_mod (ve_callG (ok__law_next T) (hr.mono (by first | decide | omega)) (by rfl) T.g__law_next T.u__law_next.kp T.b__law_next takes0 (va_cons (ve_var 0) va_nil)) ve_int) ve_int))) (fun _ _ _ _ _ => (ve_var 14))) vo_none (vo_some (ve_var 3))))
      (vss_cons (vs_setComp false 15 [("_law_i", 14)] rfl sc__law_made_up.nd (vi_row (ve_var 11)) (blkOk_by (own := [("_law_i", 14)]) (N := ["_law_draws_here", "_law_task_here", "_law_numbers", "_law_hands", "_law_off_here", "_law_long_here", "_law_tied_here", "_law_phase", "_law_waits", "_law_number", "_law_draw", "_law_ends", "_law_pair", "_law_busy", "_law_i", "_law_last", "_law_others"]) (sc := defScope s__law_made_up) (by decide +kernel)) (fun _ _ _ _ _ => (vg_name 14 sc__law_made_up.nd)) (fun _ _ _ _ _ => (vts_one (vt_cmp od_in (ve_var 14) (ve_var 13)))) (fun _ _ _ _ _ => (ve_var 14)))
      (vss_cons (vs_setComp false 16 [("_law_i", 14)] rfl sc__law_made_up.nd (vi_row (ve_var 11)) (blkOk_by (own := [("_law_i", 14)]) (N := ["_law_draws_here", "_law_task_here", "_law_numbers", "_law_hands", "_law_off_here", "_law_long_here", "_law_tied_here", "_law_phase", "_law_waits", "_law_number", "_law_draw", "_law_ends", "_law_pair", "_law_busy", "_law_i", "_law_last", "_law_others"]) (sc := defScope s__law_made_up) (by decide +kernel)) (fun _ _ _ _ _ => (vg_name 14 sc__law_made_up.nd)) (fun _ _ _ _ _ => (vts_one (vt_w (vw_and (vt_cmp od_notin (ve_var 14) (ve_var 13)) (vw_and1 (vt_cmp (od_eq hr.units) (ve_bin od_mod (ve_callG (ok__law_next T) (hr.mono (by first | decide | omega)) (by rfl) T.g__law_next T.u__law_next.kp T.b__law_next takes0 (va_cons (ve_var 0) va_nil)) ve_int) ve_int)))))) (fun _ _ _ _ _ => (ve_var 14)))
      (vss_cons (vs_set 15 sc__law_made_up.nd (ve_callB (cd_sorted false) (by rfl) T.z_sorted (by decide +kernel) (va_cons (ve_bin od_add (ve_var 15) (ve_slice false (ve_var 16) vo_none (vo_some (ve_bin od_sub (ve_var 3) (ve_callB cd_len (by rfl) T.z_len (by decide +kernel) (va_cons (ve_var 13) va_nil)))))) va_nil)))
      (vss_one (vs_ret (ve_tup (va_cons (ve_var 7) (va_cons (ve_callTy cd_tuple (by rfl) T.z_tuple (by decide +kernel) (va_cons (ve_var 8) va_nil)) (va_cons (ve_callTy cd_tuple (by rfl) T.z_tuple (by decide +kernel) (va_cons (ve_var 13) va_nil)) (va_cons (ve_callTy cd_tuple (by rfl) T.z_tuple (by decide +kernel) (va_cons (ve_var 15) va_nil)) va_nil))))))))))))))))
theorem ok__law_lists_n (T : Txt K mg A) : ∀ m : Nat, FnG P w K mg base (0 + m) A.f__law_lists A.d__law_lists ["_law_thing"] (spF K mg 1 (F__law_lists m))
  | 0 => ⟨fun vs H Q E h => h.1, fun A outer s H args us vs Q E _ _ _ _ h => by obtain ⟨_, G, ms, ds, h, hh, i, q⟩ := h; exact q.elim⟩
  | m + 1 => by
    have hself := ok__law_lists_n T m
    refine fn_okG (k := 0 + m) .keep T.u__law_lists sc__law_lists fun cdv Ar outer s H E hr => ?_
    have tk := takes_of (X := cxOf (L2.CX P w) P w K mg base ["_law_thing", "_law_one"] "_law_lists" (defScope s__law_lists) A.f__law_lists cdv Ar outer s H E) rfl rfl rfl rfl
    have hp := passes_of (X := cxOf (L2.CX P w) P w K mg base ["_law_thing", "_law_one"] "_law_lists" (defScope s__law_lists) A.f__law_lists cdv Ar outer s H E) rfl
    exact (vss_cons (vs_if (vt_val (ve_isi (ve_var 0) (by rfl) T.z_isinstance (by rfl) T.z_tuple (by decide +kernel) (by decide))) (vss_one (vs_ret (ve_comp false [("_law_one", 1)] rfl sc__law_lists.nd (vi_row (ve_var 0)) (blkOk_by (own := [("_law_one", 1)]) (N := ["_law_thing", "_law_one"]) (sc := defScope s__law_lists) (by decide +kernel)) (fun _ _ _ _ _ => (vg_name 1 sc__law_lists.nd)) (fun _ _ _ _ _ => vts_nil) (fun _ _ _ _ _ => (ve_callG hself (hr.mono (by omega)) (by rfl) T.g__law_lists T.u__law_lists.kp T.b__law_lists takes0 (va_cons (ve_var 1) va_nil)))))) vss_nil)
      (vss_one (vs_ret (ve_var 0))))
theorem ok__law_lists (T : Txt K mg A) : FnG P w K mg base 46 A.f__law_lists A.d__law_lists ["_law_thing"] (spF K mg 1 (F__law_lists 45)) := (ok__law_lists_n T 45).mono (by decide)
theorem ok__law_whole (T : Txt K mg A) : FnG P w K mg base 1 A.f__law_whole A.d__law_whole ["_law_thing", "_law_least", "_law_most"] (spF K mg 3 F__law_whole) := by
    refine fn_okG (k := 0) .trunc T.u__law_whole sc__law_whole fun cdv Ar outer s H E hr => ?_
    have tk := takes_of (X := cxOf (L2.CX P w) P w K mg base ["_law_thing", "_law_least", "_law_most"] "_law_whole" (defScope s__law_whole) A.f__law_whole cdv Ar outer s H E) rfl rfl rfl rfl
    have hp := passes_of (X := cxOf (L2.CX P w) P w K mg base ["_law_thing", "_law_least", "_law_most"] "_law_whole" (defScope s__law_whole) A.f__law_whole cdv Ar outer s H E) rfl
    exact (vss_one (vs_ret (ve_and (ve_isi (ve_var 0) (by rfl) T.z_isinstance (by rfl) T.z_int (by decide +kernel) (by decide)) (ve_and (ve_not (ve_isi (ve_var 0) (by rfl) T.z_isinstance (by rfl) T.z_bool (by decide +kernel) (by decide))) (ve_one (ve_chain od_le od_le (ve_var 1) (ve_var 0) (ve_var 2)))))))
theorem ok__law_some_of (T : Txt K mg A) : FnG P w K mg base 2 A.f__law_some_of A.d__law_some_of ["_law_things", "_law_thing", "_law_most"] (spF K mg 3 F__law_some_of) := by
    refine fn_okG (k := 1) .trunc T.u__law_some_of sc__law_some_of fun cdv Ar outer s H E hr => ?_
    have tk := takes_of (X := cxOf (L2.CX P w) P w K mg base ["_law_things", "_law_thing", "_law_most", "_law_k"] "_law_some_of" (defScope s__law_some_of) A.f__law_some_of cdv Ar outer s H E) rfl rfl rfl rfl
    have hp := passes_of (X := cxOf (L2.CX P w) P w K mg base ["_law_things", "_law_thing", "_law_most", "_law_k"] "_law_some_of" (defScope s__law_some_of) A.f__law_some_of cdv Ar outer s H E) rfl
    exact (vss_cons (vs_if (vt_w (vw_or (vt_not (vt_val (ve_isiT (ve_var 1) (by rfl) T.z_isinstance (by rfl) T.z_list (by decide +kernel) (by rfl) T.z_tuple (by decide +kernel) (by decide) (by decide)))) (vw_or1 (vt_cmp od_gt (ve_callB cd_len (by rfl) T.z_len (by decide +kernel) (va_cons (ve_var 1) va_nil)) (ve_var 2))))) (vss_one (vs_ret ve_bl)) vss_nil)
      (vss_cons (vs_fb (vs_for (vs := [3]) hp rfl (vi_range1 (by rfl) T.z_range (va_cons (ve_callB cd_len (by rfl) T.z_len (by decide +kernel) (va_cons (ve_var 1) va_nil)) va_nil)) (vg_name 3 sc__law_some_of.nd) (vss_fa (vss_one (vs_if (vt_w (vw_or (vt_not (vt_val (ve_callG (ok__law_whole T) (hr.mono (by first | decide | omega)) (by rfl) T.g__law_whole T.u__law_whole.kp T.b__law_whole tk (va_cons (ve_ix (ve_var 1) (ve_var 3)) (va_cons ve_int (va_cons ve_int va_nil)))))) (vw_or (vt_cmp od_notin (ve_ix (ve_var 1) (ve_var 3)) (ve_var 0)) (vw_or1 (vt_w (vw_and (vt_cmp od_gt (ve_var 3) ve_int) (vw_and1 (vt_cmp od_ge (ve_ix (ve_var 1) (ve_bin od_sub (ve_var 3) ve_int)) (ve_ix (ve_var 1) (ve_var 3)))))))))) (vss_one (vs_ret ve_bl)) vss_nil)))))
      (vss_one (vs_ret ve_bl))))
theorem ok__law_is_stand (T : Txt K mg A) : FnG P w K mg base 3 A.f__law_is_stand A.d__law_is_stand ["_law_task_here", "_law_thing"] (spF K mg 2 F__law_is_stand) := by
    refine fn_okG (k := 2) .trunc T.u__law_is_stand sc__law_is_stand fun cdv Ar outer s H E hr => ?_
    have tk := takes_of (X := cxOf (L2.CX P w) P w K mg base ["_law_task_here", "_law_thing", "_law_numbers", "_law_hands", "_law_off_here", "_law_long_here", "_law_tied_here", "_law_waits", "_law_busy", "_law_last", "_law_i", "_law_ends", "_law_pair"] "_law_is_stand" (defScope s__law_is_stand) A.f__law_is_stand cdv Ar outer s H E) rfl rfl rfl rfl
    have hp := passes_of (X := cxOf (L2.CX P w) P w K mg base ["_law_task_here", "_law_thing", "_law_numbers", "_law_hands", "_law_off_here", "_law_long_here", "_law_tied_here", "_law_waits", "_law_busy", "_law_last", "_law_i", "_law_ends", "_law_pair"] "_law_is_stand" (defScope s__law_is_stand) A.f__law_is_stand cdv Ar outer s H E) rfl
    exact (vss_cons (vs_un (vs := [2, 3, 4, 5, 6]) (ve_var 0) (vg_un rfl (vgs_cons (vg_name 2 sc__law_is_stand.nd) (vgs_cons (vg_name 3 sc__law_is_stand.nd) (vgs_cons (vg_name 4 sc__law_is_stand.nd) (vgs_cons (vg_name 5 sc__law_is_stand.nd) (vgs_cons (vg_name 6 sc__law_is_stand.nd) vgs_nil)))))))
      (vss_cons (vs_if (vt_w (vw_or (vt_not (vt_val (ve_isiT (ve_var 1) (by rfl) T.z_isinstance (by rfl) T.z_list (by decide +kernel) (by rfl) T.z_tuple (by decide +kernel) (by decide) (by decide)))) (vw_or (vt_cmp (od_ne hr.units) (ve_callB cd_len (by rfl) T.z_len (by decide +kernel) (va_cons (ve_var 1) va_nil)) ve_int) (vw_or1 (vt_not (vt_val (ve_callG (ok__law_whole T) (hr.mono (by first | decide | omega)) (by rfl) T.g__law_whole T.u__law_whole.kp T.b__law_whole tk (va_cons (ve_ix (ve_var 1) ve_int) (va_cons ve_int (va_cons (ve_bin od_sub (ve_callB cd_len (by rfl) T.z_len (by decide +kernel) (va_cons (ve_var 4) va_nil)) ve_int) va_nil)))))))))) (vss_one (vs_ret ve_bl)) vss_nil)
      (vss_cons (vs_un (vs := [7, 8, 9]) (ve_tup (va_cons (ve_ix (ve_var 1) ve_int) (va_cons (ve_ix (ve_var 1) ve_int) (va_cons (ve_ix (ve_var 1) ve_int) va_nil)))) (vg_un rfl (vgs_cons (vg_name 7 sc__law_is_stand.nd) (vgs_cons (vg_name 8 sc__law_is_stand.nd) (vgs_cons (vg_name 9 sc__law_is_stand.nd) vgs_nil)))))
      (vss_cons (vs_if (vt_w (vw_or (vt_not (vt_val (ve_isiT (ve_var 7) (by rfl) T.z_isinstance (by rfl) T.z_list (by decide +kernel) (by rfl) T.z_tuple (by decide +kernel) (by decide) (by decide)))) (vw_or1 (vt_cmp (od_ne hr.units) (ve_callB cd_len (by rfl) T.z_len (by decide +kernel) (va_cons (ve_var 7) va_nil)) (ve_callB cd_len (by rfl) T.z_len (by decide +kernel) (va_cons (ve_var 2) va_nil)))))) (vss_one (vs_ret ve_bl)) vss_nil)
      (vss_cons (vs_if (vt_cmp (od_ne hr.units) (ve_comp false [("_law_i", 10)] rfl sc__law_is_stand.nd (vi_range1 (by rfl) T.z_range (va_cons (ve_callB cd_len (by rfl) T.z_len (by decide +kernel) (va_cons (ve_var 2) va_nil)) va_nil)) (blkOk_by (own := [("_law_i", 10)]) (N := ["_law_task_here", "_law_thing", "_law_numbers", "_law_hands", "_law_off_here", "_law_long_here", "_law_tied_here", "_law_waits", "_law_busy", "_law_last", "_law_i", "_law_ends", "_law_pair"]) (sc := defScope s__law_is_stand) (by decide +kernel)) (fun _ _ _ _ _ => (vg_name 10 sc__law_is_stand.nd)) (fun _ _ _ _ _ => (vts_one (vt_not (vt_val (ve_callG (ok__law_whole T) (hr.mono (by first | decide | omega)) (by rfl) T.g__law_whole T.u__law_whole.kp T.b__law_whole takes0 (va_cons (ve_ix (ve_var 7) (ve_var 10)) (va_cons ve_int (va_cons (ve_ix (ve_var 2) (ve_var 10)) va_nil)))))))) (fun _ _ _ _ _ => (ve_var 10))) (ve_lst false va_nil)) (vss_one (vs_ret ve_bl)) vss_nil)
      (vss_cons (vs_set 11 sc__law_is_stand.nd (ve_callB (cd_sumL rfl) (by rfl) T.z_sum (by decide +kernel) (va_cons (ve_comp false [("_law_pair", 12)] rfl sc__law_is_stand.nd (vi_row (ve_var 6)) (blkOk_by (own := [("_law_pair", 12)]) (N := ["_law_task_here", "_law_thing", "_law_numbers", "_law_hands", "_law_off_here", "_law_long_here", "_law_tied_here", "_law_waits", "_law_busy", "_law_last", "_law_i", "_law_ends", "_law_pair"]) (sc := defScope s__law_is_stand) (by decide +kernel)) (fun _ _ _ _ _ => (vg_name 12 sc__law_is_stand.nd)) (fun _ _ _ _ _ => vts_nil) (fun _ _ _ _ _ => (ve_callTy (cd_list false) (by rfl) T.z_list (by decide +kernel) (va_cons (ve_var 12) va_nil)))) (va_cons (ve_lst false va_nil) va_nil))))
      (vss_cons (vs_if (vt_w (vw_or (vt_not (vt_val (ve_callG (ok__law_some_of T) (hr.mono (by first | decide | omega)) (by rfl) T.g__law_some_of T.u__law_some_of.kp T.b__law_some_of tk (va_cons (ve_var 5) (va_cons (ve_var 8) (va_cons (ve_var 3) va_nil)))))) (vw_or1 (vt_not (vt_val (ve_callG (ok__law_some_of T) (hr.mono (by first | decide | omega)) (by rfl) T.g__law_some_of T.u__law_some_of.kp T.b__law_some_of tk (va_cons (ve_var 11) (va_cons (ve_var 9) (va_cons (ve_var 3) va_nil))))))))) (vss_one (vs_ret ve_bl)) vss_nil)
      (vss_cons (vs_if (vt_cmp od_gt (ve_lenSet (ve_bin od_add (ve_callTy (cd_list false) (by rfl) T.z_list (by decide +kernel) (va_cons (ve_var 8) va_nil)) (ve_callTy (cd_list false) (by rfl) T.z_list (by decide +kernel) (va_cons (ve_var 9) va_nil))) (by rfl) T.z_len (by rfl) T.z_set) (ve_var 3)) (vss_one (vs_ret ve_bl)) vss_nil)
      (vss_one (vs_ret (ve_cmp (od_eq hr.units) (ve_comp false [("_law_i", 10)] rfl sc__law_is_stand.nd (vi_row (ve_var 8)) (blkOk_by (own := [("_law_i", 10)]) (N := ["_law_task_here", "_law_thing", "_law_numbers", "_law_hands", "_law_off_here", "_law_long_here", "_law_tied_here", "_law_waits", "_law_busy", "_law_last", "_law_i", "_law_ends", "_law_pair"]) (sc := defScope s__law_is_stand) (by decide +kernel)) (fun _ _ _ _ _ => (vg_name 10 sc__law_is_stand.nd)) (fun _ _ _ _ _ => (vts_one (vt_w (vw_and (vt_cmp od_in (ve_var 10) (ve_var 11)) (vw_and1 (vt_cmp od_notin (ve_var 10) (ve_var 9))))))) (fun _ _ _ _ _ => (ve_var 10))) (ve_lst false va_nil))))))))))))
theorem ok__law_wrong (T : Txt K mg A) : FnG P w K mg base 1 A.f__law_wrong A.d__law_wrong ["_law_cell_here"] (spF K mg 1 F__law_wrong) := by
    refine fn_okG (k := 0) .trunc T.u__law_wrong sc__law_wrong fun cdv Ar outer s H E hr => ?_
    have tk := takes_of (X := cxOf (L2.CX P w) P w K mg base ["_law_cell_here", "_law_some"] "_law_wrong" (defScope s__law_wrong) A.f__law_wrong cdv Ar outer s H E) rfl rfl rfl rfl
    have hp := passes_of (X := cxOf (L2.CX P w) P w K mg base ["_law_cell_here", "_law_some"] "_law_wrong" (defScope s__law_wrong) A.f__law_wrong cdv Ar outer s H E) rfl
    exact (vss_cons (vs_set 1 sc__law_wrong.nd (ve_lst false (va_cons (ve_neg ve_int) (va_cons ve_int (va_cons ve_int (va_cons ve_int (va_cons ve_bl (va_cons ve_bl (va_cons ve_non (va_cons ve_str (va_cons ve_str (va_cons (ve_tup va_nil) (va_cons (ve_lst false va_nil) (va_cons (ve_tup (va_cons ve_int va_nil)) (va_cons (ve_tup (va_cons ve_int va_nil)) (va_cons (ve_tup (va_cons ve_int (va_cons ve_int va_nil))) (va_cons (ve_tup (va_cons ve_int (va_cons ve_int va_nil))) (va_cons (ve_tup (va_cons ve_int (va_cons ve_int va_nil))) (va_cons (ve_tup (va_cons ve_int (va_cons ve_int (va_cons ve_int va_nil)))) (va_cons (ve_tup (va_cons ve_int va_nil)) (va_cons (ve_lst false (va_cons ve_int va_nil)) va_nil)))))))))))))))))))))
      (vss_cons (vs_set 1 sc__law_wrong.nd (ve_bin od_add (ve_var 1) (ve_lst false (va_cons (ve_tup (va_cons (ve_tup (va_cons ve_int va_nil)) va_nil)) (va_cons ve_dict0 (va_cons ve_dict1 (va_cons (ve_bin od_pow ve_int ve_int) (va_cons ve_int (va_cons ve_int (va_cons ve_int (va_cons (ve_tup (va_cons ve_int va_nil)) (va_cons (ve_tup (va_cons ve_int va_nil)) (va_cons (ve_tup (va_cons (ve_neg ve_int) va_nil)) (va_cons (ve_tup (va_cons ve_bl va_nil)) (va_cons (ve_tup (va_cons ve_non va_nil)) (va_cons ve_str (va_cons (ve_tup (va_cons ve_int (va_cons ve_int va_nil))) (va_cons (ve_tup (va_cons ve_int (va_cons ve_int va_nil))) (va_cons ve_int va_nil)))))))))))))))))))
      (vss_one (vs_ret (ve_ix (ve_var 1) (ve_bin od_mod (ve_var 0) (ve_callB cd_len (by rfl) T.z_len (by decide +kernel) (va_cons (ve_var 1) va_nil))))))))
theorem ok__law_bent (T : Txt K mg A) : FnG P w K mg base 2 A.f__law_bent A.d__law_bent ["_law_stand", "_law_cell_here"] (spF K mg 2 F__law_bent) := by
    refine fn_okG (k := 1) .trunc T.u__law_bent sc__law_bent fun cdv Ar outer s H E hr => ?_
    have tk := takes_of (X := cxOf (L2.CX P w) P w K mg base ["_law_stand", "_law_cell_here", "_law_way", "_law_rest", "_law_at", "_law_row", "_law_place"] "_law_bent" (defScope s__law_bent) A.f__law_bent cdv Ar outer s H E) rfl rfl rfl rfl
    have hp := passes_of (X := cxOf (L2.CX P w) P w K mg base ["_law_stand", "_law_cell_here", "_law_way", "_law_rest", "_law_at", "_law_row", "_law_place"] "_law_bent" (defScope s__law_bent) A.f__law_bent cdv Ar outer s H E) rfl
    exact (vss_cons (vs_set 2 sc__law_bent.nd (ve_bin od_mod (ve_var 1) ve_int))
      (vss_cons (vs_set 3 sc__law_bent.nd (ve_bin od_fdiv (ve_var 1) ve_int))
      (vss_cons (vs_set 4 sc__law_bent.nd (ve_bin od_mod (ve_var 3) ve_int))
      (vss_cons (vs_if (vt_cmp od_lt (ve_var 2) ve_int) (vss_one (vs_ret (ve_bin od_add (ve_bin od_add (ve_slice false (ve_var 0) vo_none (vo_some (ve_var 4))) (ve_tup (va_cons (ve_callG (ok__law_wrong T) (hr.mono (by first | decide | omega)) (by rfl) T.g__law_wrong T.u__law_wrong.kp T.b__law_wrong tk (va_cons (ve_bin od_fdiv (ve_var 3) ve_int) va_nil)) va_nil))) (ve_slice false (ve_var 0) (vo_some (ve_bin od_add (ve_var 4) ve_int)) vo_none)))) vss_nil)
      (vss_cons (vs_if (vt_cmp od_lt (ve_var 2) ve_int) (vss_cons (vs_set 5 sc__law_bent.nd (ve_ix (ve_var 0) (ve_bin od_add ve_int (ve_bin od_mod (ve_var 3) ve_int))))
      (vss_cons (vs_set 6 sc__law_bent.nd (ve_bin od_mod (ve_bin od_fdiv (ve_var 3) ve_int) (ve_bin od_add (ve_callB cd_len (by rfl) T.z_len (by decide +kernel) (va_cons (ve_var 5) va_nil)) ve_int)))
      (vss_cons (vs_set 5 sc__law_bent.nd (ve_bin od_add (ve_bin od_add (ve_slice false (ve_var 5) vo_none (vo_some (ve_var 6))) (ve_tup (va_cons (ve_callG (ok__law_wrong T) (hr.mono (by first | decide | omega)) (by rfl) T.g__law_wrong T.u__law_wrong.kp T.b__law_wrong tk (va_cons (ve_bin od_fdiv (ve_var 3) ve_int) va_nil)) va_nil))) (ve_slice false (ve_var 5) (vo_some (ve_bin od_add (ve_var 6) (ve_bin od_mod (ve_var 2) ve_int))) vo_none)))
      (vss_one (vs_ret (ve_bin od_add (ve_bin od_add (ve_slice false (ve_var 0) vo_none (vo_some (ve_bin od_add ve_int (ve_bin od_mod (ve_var 3) ve_int)))) (ve_tup (va_cons (ve_var 5) va_nil))) (ve_slice false (ve_var 0) (vo_some (ve_bin od_add ve_int (ve_bin od_mod (ve_var 3) ve_int))) vo_none))))))) vss_nil)
      (vss_one (vs_ret (ve_ix (ve_lst false (va_cons (ve_slice false (ve_var 0) vo_none (vo_some ve_int)) (va_cons (ve_bin od_add (ve_var 0) (ve_tup (va_cons (ve_tup va_nil) va_nil))) (va_cons (ve_rev (ve_var 0) (ve_neg ve_int)) (va_cons (ve_tup (va_cons (ve_var 0) va_nil)) (va_cons ve_non (va_cons ve_int (va_cons ve_str (va_cons ve_dict0 (va_cons (ve_tup va_nil) (va_cons (ve_bin od_add (ve_slice false (ve_var 0) (vo_some ve_int) vo_none) (ve_slice false (ve_var 0) vo_none (vo_some ve_int))) va_nil))))))))))) (ve_bin od_mod (ve_var 3) ve_int)))))))))
theorem ok__law_is_refused (T : Txt K mg A) : FnG P w K mg base 52 A.f__law_is_refused A.d__law_is_refused ["_law_thing", "_law_is_first"] (spF K mg 2 F__law_is_refused) := by
    refine fn_okG (k := 51) .trunc T.u__law_is_refused sc__law_is_refused fun cdv Ar outer s H E hr => ?_
    have tk := takes_of (X := cxOf (L2.CX P w) P w K mg base ["_law_thing", "_law_is_first", "e"] "_law_is_refused" (defScope s__law_is_refused) A.f__law_is_refused cdv Ar outer s H E) rfl rfl rfl rfl
    have hp := passes_of (X := cxOf (L2.CX P w) P w K mg base ["_law_thing", "_law_is_first", "e"] "_law_is_refused" (defScope s__law_is_refused) A.f__law_is_refused cdv Ar outer s H E) rfl
    exact (vss_cons (vs_try 2 ["NoTask"] rfl rfl sc__law_is_refused.nd (by rfl) T.x_NoTask.g tk (exm_NoTask T) (fun W' pn xe tk' hp' => (vss_one (vs_if (vt_val (ve_var 1)) (vss_one (vs_expr (ve_callG (ok_first_stand T) (hr.mono (by first | decide | omega)) (by rfl) T.g_first_stand T.u_first_stand.kp T.b_first_stand tk' (va_cons (ve_var 0) va_nil)))) (vss_one (vs_expr (ve_callG (ok_is_stand T) (hr.mono (by first | decide | omega)) (by rfl) T.g_is_stand T.u_is_stand.kp T.b_is_stand tk' (va_cons (ve_var 0) (va_cons (ve_tup (va_cons ve_int (va_cons (ve_tup va_nil) (va_cons (ve_tup va_nil) (va_cons (ve_tup va_nil) va_nil))))) va_nil))))))))
      (fun a oe y pn hy hz hf => by
        have hK_DaysError : ∀ y ∈ (["NoTask"] : List Str), PySem.W.kitOne K (clsV mg ⟨y, none⟩) (.ref A.c_DaysError) = some (subX y "DaysError") := kit_DaysError T
        have hK_NoStand : ∀ y ∈ (["NoTask"] : List Str), PySem.W.kitOne K (clsV mg ⟨y, none⟩) (.ref A.c_NoStand) = some (subX y "NoStand") := kit_NoStand T
        have hK_ValueError : ∀ y ∈ (["NoTask"] : List Str), PySem.W.kitOne K (clsV mg ⟨y, none⟩) (.type "ValueError") = some (subX y "ValueError") := kit_ValueError T
        obtain ⟨Dc, eD, hC⟩ := exc_at T y hy
        replace hz : Zc (clsV mg ⟨y, none⟩) none oe := hz
        have hz0 := hz
        rw [eD] at hz
        have hKr := eD
        exact (vss_one (vs_ret (ve_and (ve_isE (c := .ref A.c_DaysError) (cv := .ref A.c_DaysError) 2 hC hz hf (by rw [← eD]; exact hK_DaysError y hy) (fun _ z => z) (pe_glob (v := .ref A.c_DaysError) (by rfl) T.x_DaysError.g rfl) List.mem_cons_self (by rfl) T.z_isinstance) (ve_and (ve_isE (c := .ty "ValueError") (cv := .type "ValueError") 2 hC hz hf (by rw [← eD]; exact hK_ValueError y hy) (fun _ z => z) (pe_bltn (v := .ty "ValueError") (by rfl) T.z_ValueError (by decide +kernel) rfl) List.mem_cons_self (by rfl) T.z_isinstance) (ve_one (ve_not (ve_isE (c := .ref A.c_NoStand) (cv := .ref A.c_NoStand) 2 hC hz hf (by rw [← eD]; exact hK_NoStand y hy) (fun _ z => z) (pe_glob (v := .ref A.c_NoStand) (by rfl) T.x_NoStand.g rfl) List.mem_cons_self (by rfl) T.z_isinstance)))))))))
      (vss_one (vs_ret ve_bl)))
theorem ok__law_no_task (T : Txt K mg A) : FnG P w K mg base 53 A.f__law_no_task A.d__law_no_task ["_law_thing"] (spF K mg 1 F__law_no_task) := by
    refine fn_okG (k := 52) .trunc T.u__law_no_task sc__law_no_task fun cdv Ar outer s H E hr => ?_
    have tk := takes_of (X := cxOf (L2.CX P w) P w K mg base ["_law_thing"] "_law_no_task" (defScope s__law_no_task) A.f__law_no_task cdv Ar outer s H E) rfl rfl rfl rfl
    have hp := passes_of (X := cxOf (L2.CX P w) P w K mg base ["_law_thing"] "_law_no_task" (defScope s__law_no_task) A.f__law_no_task cdv Ar outer s H E) rfl
    exact (vss_one (vs_ret (ve_and (ve_callG (ok__law_is_refused T) (hr.mono (by first | decide | omega)) (by rfl) T.g__law_is_refused T.u__law_is_refused.kp T.b__law_is_refused tk (va_cons (ve_var 0) (va_cons ve_bl va_nil))) (ve_one (ve_callG (ok__law_is_refused T) (hr.mono (by first | decide | omega)) (by rfl) T.g__law_is_refused T.u__law_is_refused.kp T.b__law_is_refused tk (va_cons (ve_var 0) (va_cons ve_bl va_nil)))))))
theorem ok__law_told (T : Txt K mg A) : FnG P w K mg base 52 A.f__law_told A.d__law_told ["_law_task_here", "_law_thing"] (spF K mg 2 F__law_told) := by
    refine fn_okG (k := 51) .trunc T.u__law_told sc__law_told fun cdv Ar outer s H E hr => ?_
    have tk := takes_of (X := cxOf (L2.CX P w) P w K mg base ["_law_task_here", "_law_thing", "_law_kept", "_law_found"] "_law_told" (defScope s__law_told) A.f__law_told cdv Ar outer s H E) rfl rfl rfl rfl
    have hp := passes_of (X := cxOf (L2.CX P w) P w K mg base ["_law_task_here", "_law_thing", "_law_kept", "_law_found"] "_law_told" (defScope s__law_told) A.f__law_told cdv Ar outer s H E) rfl
    exact (vss_cons (vs_set 2 sc__law_told.nd (ve_callB (cd_reprR hr) (by rfl) T.z_repr (by decide +kernel) (va_cons (ve_var 1) va_nil)))
      (vss_cons (vs_set 3 sc__law_told.nd (ve_callG (ok_is_stand T) (hr.mono (by first | decide | omega)) (by rfl) T.g_is_stand T.u_is_stand.kp T.b_is_stand tk (va_cons (ve_var 0) (va_cons (ve_var 1) va_nil))))
      (vss_one (vs_ret (ve_and (ve_isi (ve_var 3) (by rfl) T.z_isinstance (by rfl) T.z_bool (by decide +kernel) (by decide)) (ve_and (ve_cmp (od_eq hr.units) (ve_var 3) (ve_callG (ok__law_is_stand T) (hr.mono (by first | decide | omega)) (by rfl) T.g__law_is_stand T.u__law_is_stand.kp T.b__law_is_stand tk (va_cons (ve_var 0) (va_cons (ve_var 1) va_nil)))) (ve_one (ve_cmp (od_eq hr.units) (ve_callB (cd_reprR hr) (by rfl) T.z_repr (by decide +kernel) (va_cons (ve_var 1) va_nil)) (ve_var 2)))))))))
theorem ok__law_no_tasks (T : Txt K mg A) : FnG P w K mg base 1 A.f__law_no_tasks A.d__law_no_tasks ["_law_task_here"] (spF K mg 1 F__law_no_tasks) := by
    refine fn_okG (k := 0) .trunc T.u__law_no_tasks sc__law_no_tasks fun cdv Ar outer s H E hr => ?_
    have tk := takes_of (X := cxOf (L2.CX P w) P w K mg base ["_law_task_here", "_law_found"] "_law_no_tasks" (defScope s__law_no_tasks) A.f__law_no_tasks cdv Ar outer s H E) rfl rfl rfl rfl
    have hp := passes_of (X := cxOf (L2.CX P w) P w K mg base ["_law_task_here", "_law_found"] "_law_no_tasks" (defScope s__law_no_tasks) A.f__law_no_tasks cdv Ar outer s H E) rfl
    exact (vss_cons (vs_set 1 sc__law_no_tasks.nd (ve_lst false (va_cons ve_non (va_cons ve_int (va_cons ve_str (va_cons (ve_tup va_nil) (va_cons (ve_slice false (ve_var 0) vo_none (vo_some ve_int)) (va_cons (ve_bin od_add (ve_var 0) (ve_tup (va_cons (ve_tup va_nil) va_nil))) (va_cons (ve_lst false (va_cons (ve_var 0) va_nil)) (va_cons ve_dict0 (va_cons (ve_bin od_add (ve_tup (va_cons (ve_bin od_add (ve_ix (ve_var 0) ve_int) (ve_tup (va_cons ve_int va_nil))) va_nil)) (ve_slice false (ve_var 0) (vo_some ve_int) vo_none)) va_nil)))))))))))
      (vss_cons (vs_set 1 sc__law_no_tasks.nd (ve_bin od_add (ve_var 1) (ve_lst false (va_cons (ve_bin od_add (ve_tup (va_cons (ve_ix (ve_var 0) ve_int) (va_cons ve_int va_nil))) (ve_slice false (ve_var 0) (vo_some ve_int) vo_none)) (va_cons (ve_bin od_add (ve_bin od_add (ve_slice false (ve_var 0) vo_none (vo_some ve_int)) (ve_tup (va_cons (ve_tup va_nil) va_nil))) (ve_slice false (ve_var 0) (vo_some ve_int) vo_none)) (va_cons (ve_bin od_add (ve_slice false (ve_var 0) vo_none (vo_some ve_int)) (ve_tup (va_cons (ve_tup (va_cons (ve_callB cd_len (by rfl) T.z_len (by decide +kernel) (va_cons (ve_ix (ve_var 0) ve_int) va_nil)) va_nil)) (va_cons (ve_ix (ve_var 0) ve_int) va_nil)))) va_nil))))))
      (vss_one (vs_ret (ve_bin od_add (ve_var 1) (ve_lst false (va_cons (ve_bin od_add (ve_slice false (ve_var 0) vo_none (vo_some ve_int)) (ve_tup (va_cons (ve_tup (va_cons (ve_tup (va_cons ve_int (va_cons (ve_callB cd_len (by rfl) T.z_len (by decide +kernel) (va_cons (ve_ix (ve_var 0) ve_int) va_nil)) va_nil))) va_nil)) va_nil))) va_nil)))))))
theorem ok_law (T : Txt K mg A) : FnG P w K mg base 54 A.f_law A.d_law ["_law_script"] (spF K mg 1 F_law) := by
    refine fn_okG (k := 53) .trunc T.u_law sc_law fun cdv Ar outer s H E hr => ?_
    have tk := takes_of (X := cxOf (L2.CX P w) P w K mg base ["_law_script", "_law_draws_here", "_law_task_here", "_law_first", "_law_handed", "_law_cell_here", "_law_k", "_law_stand", "_law_bent_here", "_law_thing"] "law" (defScope s_law) A.f_law cdv Ar outer s H E) rfl rfl rfl rfl
    have hp := passes_of (X := cxOf (L2.CX P w) P w K mg base ["_law_script", "_law_draws_here", "_law_task_here", "_law_first", "_law_handed", "_law_cell_here", "_law_k", "_law_stand", "_law_bent_here", "_law_thing"] "law" (defScope s_law) A.f_law cdv Ar outer s H E) rfl
    exact (vss_cons (vs_set 1 sc_law.nd (ve_bin od_addLv (ve_callG (ok__law_draws T) (hr.mono (by first | decide | omega)) (by rfl) T.g__law_draws T.u__law_draws.kp T.b__law_draws tk (va_cons (ve_var 0) (va_cons ve_int (va_cons ve_int va_nil)))) (ve_callG (ok__law_draws T) (hr.mono (by first | decide | omega)) (by rfl) T.g__law_draws T.u__law_draws.kp T.b__law_draws tk (va_cons (ve_var 0) (va_cons ve_int (va_cons ve_int va_nil))))))
      (vss_cons (vs_set 2 sc_law.nd (ve_callG (ok__law_task T) (hr.mono (by first | decide | omega)) (by rfl) T.g__law_task T.u__law_task.kp T.b__law_task tk (va_cons (ve_var 1) (va_cons ve_int va_nil))))
      (vss_cons (vs_set 3 sc_law.nd (ve_tup (va_cons ve_int (va_cons (ve_ix (ve_var 2) ve_int) (va_cons (ve_tup va_nil) (va_cons (ve_tup va_nil) va_nil))))))
      (vss_cons (vs_fb (vs_for (vs := [4]) hp rfl (vi_row (ve_lst false (va_cons (ve_var 2) (va_cons (ve_callG (ok__law_lists T) (hr.mono (by first | decide | omega)) (by rfl) T.g__law_lists T.u__law_lists.kp T.b__law_lists tk (va_cons (ve_var 2) va_nil)) va_nil)))) (vg_name 4 sc_law.nd) (vss_fa (vss_one (vs_if (vt_cmp (od_ne hr.units) (ve_callB (cd_reprR hr) (by rfl) T.z_repr (by decide +kernel) (va_cons (ve_callG (ok_first_stand T) (hr.mono (by first | decide | omega)) (by rfl) T.g_first_stand T.u_first_stand.kp T.b_first_stand tk (va_cons (ve_var 4) va_nil)) va_nil)) (ve_callB (cd_reprR hr) (by rfl) T.z_repr (by decide +kernel) (va_cons (ve_var 3) va_nil))) (vss_one (vs_ret ve_bl)) vss_nil)))))
      (vss_cons (vs_if (vt_w (vw_or (vt_not (vt_val (ve_callG (ok__law_told T) (hr.mono (by first | decide | omega)) (by rfl) T.g__law_told T.u__law_told.kp T.b__law_told tk (va_cons (ve_var 2) (va_cons (ve_var 3) va_nil))))) (vw_or1 (vt_not (vt_val (ve_callG (ok__law_told T) (hr.mono (by first | decide | omega)) (by rfl) T.g__law_told T.u__law_told.kp T.b__law_told tk (va_cons (ve_callG (ok__law_lists T) (hr.mono (by first | decide | omega)) (by rfl) T.g__law_lists T.u__law_lists.kp T.b__law_lists tk (va_cons (ve_var 2) va_nil)) (va_cons (ve_callG (ok__law_lists T) (hr.mono (by first | decide | omega)) (by rfl) T.g__law_lists T.u__law_lists.kp T.b__law_lists tk (va_cons (ve_var 3) va_nil)) va_nil)))))))) (vss_one (vs_ret ve_bl)) vss_nil)
      (vss_cons (vs_fb (vs_for (vs := [5]) hp rfl (vi_row (ve_bin od_add (ve_comp false [("_law_k", 6)] rfl sc_law.nd (vi_range2 (by rfl) T.z_range (va_cons ve_int (va_cons ve_int va_nil))) (blkOk_by (own := [("_law_k", 6)]) (N := ["_law_script", "_law_draws_here", "_law_task_here", "_law_first", "_law_handed", "_law_cell_here", "_law_k", "_law_stand", "_law_bent_here", "_law_thing"]) (sc := defScope s_law) (by decide +kernel)) (fun _ _ _ _ _ => (vg_name 6 sc_law.nd)) (fun _ _ _ _ _ => vts_nil) (fun _ _ _ _ _ => (ve_callG (ok__law_cell T) (hr.mono (by first | decide | omega)) (by rfl) T.g__law_cell T.u__law_cell.kp T.b__law_cell takes0 (va_cons (ve_var 0) (va_cons (ve_var 6) va_nil))))) (ve_slice false (ve_var 0) (vo_some ve_int) (vo_some ve_int)))) (vg_name 5 sc_law.nd) (vss_fa (vss_cons (vs_set 7 sc_law.nd (ve_callG (ok__law_made_up T) (hr.mono (by first | decide | omega)) (by rfl) T.g__law_made_up T.u__law_made_up.kp T.b__law_made_up tk (va_cons (ve_var 1) (va_cons (ve_var 2) va_nil))))
      (vss_cons (vs_set 8 sc_law.nd (ve_callG (ok__law_bent T) (hr.mono (by first | decide | omega)) (by rfl) T.g__law_bent T.u__law_bent.kp T.b__law_bent tk (va_cons (ve_var 7) (va_cons (ve_callB cd_abs (by rfl) T.z_abs (by decide +kernel) (va_cons (ve_var 5) va_nil)) va_nil))))
      (vss_cons (vs_fb (vs_for (vs := [9]) hp rfl (vi_row (ve_lst false (va_cons (ve_var 7) (va_cons (ve_var 8) (va_cons (ve_callG (ok__law_lists T) (hr.mono (by first | decide | omega)) (by rfl) T.g__law_lists T.u__law_lists.kp T.b__law_lists tk (va_cons (ve_var 7) va_nil)) (va_cons (ve_callG (ok__law_lists T) (hr.mono (by first | decide | omega)) (by rfl) T.g__law_lists T.u__law_lists.kp T.b__law_lists tk (va_cons (ve_var 8) va_nil)) va_nil)))))) (vg_name 9 sc_law.nd) (vss_fa (vss_one (vs_if (vt_not (vt_val (ve_callG (ok__law_told T) (hr.mono (by first | decide | omega)) (by rfl) T.g__law_told T.u__law_told.kp T.b__law_told tk (va_cons (ve_var 2) (va_cons (ve_var 9) va_nil))))) (vss_one (vs_ret ve_bl)) vss_nil)))))
      (vss_one (vs_if (vt_not (vt_val (ve_callG (ok__law_no_task T) (hr.mono (by first | decide | omega)) (by rfl) T.g__law_no_task T.u__law_no_task.kp T.b__law_no_task tk (va_cons (ve_ix (ve_callG (ok__law_no_tasks T) (hr.mono (by first | decide | omega)) (by rfl) T.g__law_no_tasks T.u__law_no_tasks.kp T.b__law_no_tasks tk (va_cons (ve_var 2) va_nil)) (ve_bin od_mod (ve_bin od_fdiv (ve_callB cd_abs (by rfl) T.z_abs (by decide +kernel) (va_cons (ve_var 5) va_nil)) ve_int) ve_int)) va_nil)))) (vss_one (vs_ret ve_bl)) vss_nil))))))))
      (vss_one (vs_ret ve_bl))))))))
end
theorem all_mk {l : PySem.W.OpenLaw} {w : World} {K : PySem.W.Frag} {h : Heap} {mg : Str → Option Value} {fa : Addr} (X : K.In h) (G : h.Ns mainGlobals mg) (hfa : mg "law" = some (.ref fa))
    {f0 : Addr} {od0 an0 : Option Addr} {sl0 : Array (Option Value)} {oc0 kV0 dc0 pm0 cd0 ct0 : Value}
    {f1 : Addr} {od1 an1 : Option Addr} {sl1 : Array (Option Value)} {oc1 kV1 dc1 pm1 cd1 ct1 : Value}
    {f2 : Addr} {od2 an2 : Option Addr} {sl2 : Array (Option Value)} {oc2 kV2 dc2 pm2 cd2 ct2 : Value}
    {f3 : Addr} {od3 an3 : Option Addr} {sl3 : Array (Option Value)} {oc3 kV3 dc3 pm3 cd3 ct3 : Value}
    {f4 : Addr} {od4 an4 : Option Addr} {sl4 : Array (Option Value)} {oc4 kV4 dc4 pm4 cd4 ct4 : Value}
    {f5 : Addr} {od5 an5 : Option Addr} {sl5 : Array (Option Value)} {oc5 kV5 dc5 pm5 cd5 ct5 : Value}
    {f6 : Addr} {od6 an6 : Option Addr} {sl6 : Array (Option Value)} {oc6 kV6 dc6 pm6 cd6 ct6 : Value}
    {f7 : Addr} {od7 an7 : Option Addr} {sl7 : Array (Option Value)} {oc7 kV7 dc7 pm7 cd7 ct7 : Value}
    {f8 : Addr} {od8 an8 : Option Addr} {sl8 : Array (Option Value)} {oc8 kV8 dc8 pm8 cd8 ct8 : Value}
    {f9 : Addr} {od9 an9 : Option Addr} {sl9 : Array (Option Value)} {oc9 kV9 dc9 pm9 cd9 ct9 : Value}
    {f10 : Addr} {od10 an10 : Option Addr} {sl10 : Array (Option Value)} {oc10 kV10 dc10 pm10 cd10 ct10 : Value}
    {f11 : Addr} {od11 an11 : Option Addr} {sl11 : Array (Option Value)} {oc11 kV11 dc11 pm11 cd11 ct11 : Value}
    {f12 : Addr} {od12 an12 : Option Addr} {sl12 : Array (Option Value)} {oc12 kV12 dc12 pm12 cd12 ct12 : Value}
    {f13 : Addr} {od13 an13 : Option Addr} {sl13 : Array (Option Value)} {oc13 kV13 dc13 pm13 cd13 ct13 : Value}
    {f14 : Addr} {od14 an14 : Option Addr} {sl14 : Array (Option Value)} {oc14 kV14 dc14 pm14 cd14 ct14 : Value}
    {f15 : Addr} {od15 an15 : Option Addr} {sl15 : Array (Option Value)} {oc15 kV15 dc15 pm15 cd15 ct15 : Value}
    {f16 : Addr} {od16 an16 : Option Addr} {sl16 : Array (Option Value)} {oc16 kV16 dc16 pm16 cd16 ct16 : Value}
    {f17 : Addr} {od17 an17 : Option Addr} {sl17 : Array (Option Value)} {oc17 kV17 dc17 pm17 cd17 ct17 : Value}
    {f18 : Addr} {od18 an18 : Option Addr} {sl18 : Array (Option Value)} {oc18 kV18 dc18 pm18 cd18 ct18 : Value}
    {f19 : Addr} {od19 an19 : Option Addr} {sl19 : Array (Option Value)} {oc19 kV19 dc19 pm19 cd19 ct19 : Value}
    {f20 : Addr} {od20 an20 : Option Addr} {sl20 : Array (Option Value)} {oc20 kV20 dc20 pm20 cd20 ct20 : Value}
    {f21 : Addr} {od21 an21 : Option Addr} {sl21 : Array (Option Value)} {oc21 kV21 dc21 pm21 cd21 ct21 : Value}
    {f22 : Addr} {od22 an22 : Option Addr} {sl22 : Array (Option Value)} {oc22 kV22 dc22 pm22 cd22 ct22 : Value}
    {f23 : Addr} {od23 an23 : Option Addr} {sl23 : Array (Option Value)} {oc23 kV23 dc23 pm23 cd23 ct23 : Value}
    {f24 : Addr} {od24 an24 : Option Addr} {sl24 : Array (Option Value)} {oc24 kV24 dc24 pm24 cd24 ct24 : Value}
    {f25 : Addr} {od25 an25 : Option Addr} {sl25 : Array (Option Value)} {oc25 kV25 dc25 pm25 cd25 ct25 : Value}
    {f26 : Addr} {od26 an26 : Option Addr} {sl26 : Array (Option Value)} {oc26 kV26 dc26 pm26 cd26 ct26 : Value}
    {f27 : Addr} {od27 an27 : Option Addr} {sl27 : Array (Option Value)} {oc27 kV27 dc27 pm27 cd27 ct27 : Value}
    {f28 : Addr} {od28 an28 : Option Addr} {sl28 : Array (Option Value)} {oc28 kV28 dc28 pm28 cd28 ct28 : Value}
    {f29 : Addr} {od29 an29 : Option Addr} {sl29 : Array (Option Value)} {oc29 kV29 dc29 pm29 cd29 ct29 : Value}
    {f30 : Addr} {od30 an30 : Option Addr} {sl30 : Array (Option Value)} {oc30 kV30 dc30 pm30 cd30 ct30 : Value}
    {f31 : Addr} {od31 an31 : Option Addr} {sl31 : Array (Option Value)} {oc31 kV31 dc31 pm31 cd31 ct31 : Value}
    {f32 : Addr} {od32 an32 : Option Addr} {sl32 : Array (Option Value)} {oc32 kV32 dc32 pm32 cd32 ct32 : Value}
    {f33 : Addr} {od33 an33 : Option Addr} {sl33 : Array (Option Value)} {oc33 kV33 dc33 pm33 cd33 ct33 : Value}
    {f34 : Addr} {od34 an34 : Option Addr} {sl34 : Array (Option Value)} {oc34 kV34 dc34 pm34 cd34 ct34 : Value}
    {f35 : Addr} {od35 an35 : Option Addr} {sl35 : Array (Option Value)} {oc35 kV35 dc35 pm35 cd35 ct35 : Value}
    {C_DaysError : Addr}
    {C_NoTask : Addr}
    {C_NoStand : Addr}
    {t_GREATEST : Tok}
    {t_MOST_HANDS : Tok}
    {t_MOST_OFF : Tok}
    {t_MOST_THINGS : Tok}
    {t_PARTS : Tok}
    (a0 : PySem.W.nsIn K mainGlobals "is_whole" = some (some (.ref f0)))
    (l0 : K.lookup f0 = some ⟨oc0, od0, .func (PySem.W.fnOf "is_whole" "is_whole" (defArgs s_is_whole) (defBody s_is_whole) (defScope s_is_whole) .none kV0 dc0 pm0 an0 cd0 ct0), sl0⟩)
    (c0 : PySem.W.codeIn K cd0 "is_whole" = true)
    (k0 : PySem.W.keepIn K (.ref f0) = true)
    (a1 : PySem.W.nsIn K mainGlobals "is_row" = some (some (.ref f1)))
    (l1 : K.lookup f1 = some ⟨oc1, od1, .func (PySem.W.fnOf "is_row" "is_row" (defArgs s_is_row) (defBody s_is_row) (defScope s_is_row) .none kV1 dc1 pm1 an1 cd1 ct1), sl1⟩)
    (c1 : PySem.W.codeIn K cd1 "is_row" = true)
    (k1 : PySem.W.keepIn K (.ref f1) = true)
    (a2 : PySem.W.nsIn K mainGlobals "is_rising" = some (some (.ref f2)))
    (l2 : K.lookup f2 = some ⟨oc2, od2, .func (PySem.W.fnOf "is_rising" "is_rising" (defArgs s_is_rising) (defBody s_is_rising) (defScope s_is_rising) .none kV2 dc2 pm2 an2 cd2 ct2), sl2⟩)
    (c2 : PySem.W.codeIn K cd2 "is_rising" = true)
    (k2 : PySem.W.keepIn K (.ref f2) = true)
    (a3 : PySem.W.nsIn K mainGlobals "told_rows" = some (some (.ref f3)))
    (l3 : K.lookup f3 = some ⟨oc3, od3, .func (PySem.W.fnOf "told_rows" "told_rows" (defArgs s_told_rows) (defBody s_told_rows) (defScope s_told_rows) .none kV3 dc3 pm3 an3 cd3 ct3), sl3⟩)
    (c3 : PySem.W.codeIn K cd3 "told_rows" = true)
    (k3 : PySem.W.keepIn K (.ref f3) = true)
    (a4 : PySem.W.nsIn K mainGlobals "is_numbers" = some (some (.ref f4)))
    (l4 : K.lookup f4 = some ⟨oc4, od4, .func (PySem.W.fnOf "is_numbers" "is_numbers" (defArgs s_is_numbers) (defBody s_is_numbers) (defScope s_is_numbers) .none kV4 dc4 pm4 an4 cd4 ct4), sl4⟩)
    (c4 : PySem.W.codeIn K cd4 "is_numbers" = true)
    (k4 : PySem.W.keepIn K (.ref f4) = true)
    (a5 : PySem.W.nsIn K mainGlobals "is_off" = some (some (.ref f5)))
    (l5 : K.lookup f5 = some ⟨oc5, od5, .func (PySem.W.fnOf "is_off" "is_off" (defArgs s_is_off) (defBody s_is_off) (defScope s_is_off) .none kV5 dc5 pm5 an5 cd5 ct5), sl5⟩)
    (c5 : PySem.W.codeIn K cd5 "is_off" = true)
    (k5 : PySem.W.keepIn K (.ref f5) = true)
    (a6 : PySem.W.nsIn K mainGlobals "is_pair" = some (some (.ref f6)))
    (l6 : K.lookup f6 = some ⟨oc6, od6, .func (PySem.W.fnOf "is_pair" "is_pair" (defArgs s_is_pair) (defBody s_is_pair) (defScope s_is_pair) .none kV6 dc6 pm6 an6 cd6 ct6), sl6⟩)
    (c6 : PySem.W.codeIn K cd6 "is_pair" = true)
    (k6 : PySem.W.keepIn K (.ref f6) = true)
    (a7 : PySem.W.nsIn K mainGlobals "are_pairs" = some (some (.ref f7)))
    (l7 : K.lookup f7 = some ⟨oc7, od7, .func (PySem.W.fnOf "are_pairs" "are_pairs" (defArgs s_are_pairs) (defBody s_are_pairs) (defScope s_are_pairs) .none kV7 dc7 pm7 an7 cd7 ct7), sl7⟩)
    (c7 : PySem.W.codeIn K cd7 "are_pairs" = true)
    (k7 : PySem.W.keepIn K (.ref f7) = true)
    (a8 : PySem.W.nsIn K mainGlobals "is_task" = some (some (.ref f8)))
    (l8 : K.lookup f8 = some ⟨oc8, od8, .func (PySem.W.fnOf "is_task" "is_task" (defArgs s_is_task) (defBody s_is_task) (defScope s_is_task) .none kV8 dc8 pm8 an8 cd8 ct8), sl8⟩)
    (c8 : PySem.W.codeIn K cd8 "is_task" = true)
    (k8 : PySem.W.keepIn K (.ref f8) = true)
    (a9 : PySem.W.nsIn K mainGlobals "asked_task" = some (some (.ref f9)))
    (l9 : K.lookup f9 = some ⟨oc9, od9, .func (PySem.W.fnOf "asked_task" "asked_task" (defArgs s_asked_task) (defBody s_asked_task) (defScope s_asked_task) .none kV9 dc9 pm9 an9 cd9 ct9), sl9⟩)
    (c9 : PySem.W.codeIn K cd9 "asked_task" = true)
    (k9 : PySem.W.keepIn K (.ref f9) = true)
    (a10 : PySem.W.nsIn K mainGlobals "in_ties" = some (some (.ref f10)))
    (l10 : K.lookup f10 = some ⟨oc10, od10, .func (PySem.W.fnOf "in_ties" "in_ties" (defArgs s_in_ties) (defBody s_in_ties) (defScope s_in_ties) .none kV10 dc10 pm10 an10 cd10 ct10), sl10⟩)
    (c10 : PySem.W.codeIn K cd10 "in_ties" = true)
    (k10 : PySem.W.keepIn K (.ref f10) = true)
    (a11 : PySem.W.nsIn K mainGlobals "are_waits" = some (some (.ref f11)))
    (l11 : K.lookup f11 = some ⟨oc11, od11, .func (PySem.W.fnOf "are_waits" "are_waits" (defArgs s_are_waits) (defBody s_are_waits) (defScope s_are_waits) .none kV11 dc11 pm11 an11 cd11 ct11), sl11⟩)
    (c11 : PySem.W.codeIn K cd11 "are_waits" = true)
    (k11 : PySem.W.keepIn K (.ref f11) = true)
    (a12 : PySem.W.nsIn K mainGlobals "is_some_of" = some (some (.ref f12)))
    (l12 : K.lookup f12 = some ⟨oc12, od12, .func (PySem.W.fnOf "is_some_of" "is_some_of" (defArgs s_is_some_of) (defBody s_is_some_of) (defScope s_is_some_of) .none kV12 dc12 pm12 an12 cd12 ct12), sl12⟩)
    (c12 : PySem.W.codeIn K cd12 "is_some_of" = true)
    (k12 : PySem.W.keepIn K (.ref f12) = true)
    (a13 : PySem.W.nsIn K mainGlobals "is_stand_of" = some (some (.ref f13)))
    (l13 : K.lookup f13 = some ⟨oc13, od13, .func (PySem.W.fnOf "is_stand_of" "is_stand_of" (defArgs s_is_stand_of) (defBody s_is_stand_of) (defScope s_is_stand_of) .none kV13 dc13 pm13 an13 cd13 ct13), sl13⟩)
    (c13 : PySem.W.codeIn K cd13 "is_stand_of" = true)
    (k13 : PySem.W.keepIn K (.ref f13) = true)
    (a14 : PySem.W.nsIn K mainGlobals "is_stand" = some (some (.ref f14)))
    (l14 : K.lookup f14 = some ⟨oc14, od14, .func (PySem.W.fnOf "is_stand" "is_stand" (defArgs s_is_stand) (defBody s_is_stand) (defScope s_is_stand) .none kV14 dc14 pm14 an14 cd14 ct14), sl14⟩)
    (c14 : PySem.W.codeIn K cd14 "is_stand" = true)
    (k14 : PySem.W.keepIn K (.ref f14) = true)
    (a15 : PySem.W.nsIn K mainGlobals "first_of" = some (some (.ref f15)))
    (l15 : K.lookup f15 = some ⟨oc15, od15, .func (PySem.W.fnOf "first_of" "first_of" (defArgs s_first_of) (defBody s_first_of) (defScope s_first_of) .none kV15 dc15 pm15 an15 cd15 ct15), sl15⟩)
    (c15 : PySem.W.codeIn K cd15 "first_of" = true)
    (k15 : PySem.W.keepIn K (.ref f15) = true)
    (a16 : PySem.W.nsIn K mainGlobals "first_stand" = some (some (.ref f16)))
    (l16 : K.lookup f16 = some ⟨oc16, od16, .func (PySem.W.fnOf "first_stand" "first_stand" (defArgs s_first_stand) (defBody s_first_stand) (defScope s_first_stand) .none kV16 dc16 pm16 an16 cd16 ct16), sl16⟩)
    (c16 : PySem.W.codeIn K cd16 "first_stand" = true)
    (k16 : PySem.W.keepIn K (.ref f16) = true)
    (a17 : PySem.W.nsIn K mainGlobals "_law_cell" = some (some (.ref f17)))
    (l17 : K.lookup f17 = some ⟨oc17, od17, .func (PySem.W.fnOf "_law_cell" "_law_cell" (defArgs s__law_cell) (defBody s__law_cell) (defScope s__law_cell) .none kV17 dc17 pm17 an17 cd17 ct17), sl17⟩)
    (c17 : PySem.W.codeIn K cd17 "_law_cell" = true)
    (k17 : PySem.W.keepIn K (.ref f17) = true)
    (a18 : PySem.W.nsIn K mainGlobals "_law_draws" = some (some (.ref f18)))
    (l18 : K.lookup f18 = some ⟨oc18, od18, .func (PySem.W.fnOf "_law_draws" "_law_draws" (defArgs s__law_draws) (defBody s__law_draws) (defScope s__law_draws) .none kV18 dc18 pm18 an18 cd18 ct18), sl18⟩)
    (c18 : PySem.W.codeIn K cd18 "_law_draws" = true)
    (k18 : PySem.W.keepIn K (.ref f18) = true)
    (a19 : PySem.W.nsIn K mainGlobals "_law_next" = some (some (.ref f19)))
    (l19 : K.lookup f19 = some ⟨oc19, od19, .func (PySem.W.fnOf "_law_next" "_law_next" (defArgs s__law_next) (defBody s__law_next) (defScope s__law_next) .none kV19 dc19 pm19 an19 cd19 ct19), sl19⟩)
    (c19 : PySem.W.codeIn K cd19 "_law_next" = true)
    (k19 : PySem.W.keepIn K (.ref f19) = true)
    (a20 : PySem.W.nsIn K mainGlobals "_law_long" = some (some (.ref f20)))
    (l20 : K.lookup f20 = some ⟨oc20, od20, .func (PySem.W.fnOf "_law_long" "_law_long" (defArgs s__law_long) (defBody s__law_long) (defScope s__law_long) .none kV20 dc20 pm20 an20 cd20 ct20), sl20⟩)
    (c20 : PySem.W.codeIn K cd20 "_law_long" = true)
    (k20 : PySem.W.keepIn K (.ref f20) = true)
    (a21 : PySem.W.nsIn K mainGlobals "_law_tied" = some (some (.ref f21)))
    (l21 : K.lookup f21 = some ⟨oc21, od21, .func (PySem.W.fnOf "_law_tied" "_law_tied" (defArgs s__law_tied) (defBody s__law_tied) (defScope s__law_tied) .none kV21 dc21 pm21 an21 cd21 ct21), sl21⟩)
    (c21 : PySem.W.codeIn K cd21 "_law_tied" = true)
    (k21 : PySem.W.keepIn K (.ref f21) = true)
    (a22 : PySem.W.nsIn K mainGlobals "_law_off" = some (some (.ref f22)))
    (l22 : K.lookup f22 = some ⟨oc22, od22, .func (PySem.W.fnOf "_law_off" "_law_off" (defArgs s__law_off) (defBody s__law_off) (defScope s__law_off) .none kV22 dc22 pm22 an22 cd22 ct22), sl22⟩)
    (c22 : PySem.W.codeIn K cd22 "_law_off" = true)
    (k22 : PySem.W.keepIn K (.ref f22) = true)
    (a23 : PySem.W.nsIn K mainGlobals "_law_task" = some (some (.ref f23)))
    (l23 : K.lookup f23 = some ⟨oc23, od23, .func (PySem.W.fnOf "_law_task" "_law_task" (defArgs s__law_task) (defBody s__law_task) (defScope s__law_task) .none kV23 dc23 pm23 an23 cd23 ct23), sl23⟩)
    (c23 : PySem.W.codeIn K cd23 "_law_task" = true)
    (k23 : PySem.W.keepIn K (.ref f23) = true)
    (a24 : PySem.W.nsIn K mainGlobals "_law_made_up" = some (some (.ref f24)))
    (l24 : K.lookup f24 = some ⟨oc24, od24, .func (PySem.W.fnOf "_law_made_up" "_law_made_up" (defArgs s__law_made_up) (defBody s__law_made_up) (defScope s__law_made_up) .none kV24 dc24 pm24 an24 cd24 ct24), sl24⟩)
    (c24 : PySem.W.codeIn K cd24 "_law_made_up" = true)
    (k24 : PySem.W.keepIn K (.ref f24) = true)
    (a25 : PySem.W.nsIn K mainGlobals "_law_lists" = some (some (.ref f25)))
    (l25 : K.lookup f25 = some ⟨oc25, od25, .func (PySem.W.fnOf "_law_lists" "_law_lists" (defArgs s__law_lists) (defBody s__law_lists) (defScope s__law_lists) .none kV25 dc25 pm25 an25 cd25 ct25), sl25⟩)
    (c25 : PySem.W.codeIn K cd25 "_law_lists" = true)
    (k25 : PySem.W.keepIn K (.ref f25) = true)
    (a26 : PySem.W.nsIn K mainGlobals "_law_whole" = some (some (.ref f26)))
    (l26 : K.lookup f26 = some ⟨oc26, od26, .func (PySem.W.fnOf "_law_whole" "_law_whole" (defArgs s__law_whole) (defBody s__law_whole) (defScope s__law_whole) .none kV26 dc26 pm26 an26 cd26 ct26), sl26⟩)
    (c26 : PySem.W.codeIn K cd26 "_law_whole" = true)
    (k26 : PySem.W.keepIn K (.ref f26) = true)
    (a27 : PySem.W.nsIn K mainGlobals "_law_some_of" = some (some (.ref f27)))
    (l27 : K.lookup f27 = some ⟨oc27, od27, .func (PySem.W.fnOf "_law_some_of" "_law_some_of" (defArgs s__law_some_of) (defBody s__law_some_of) (defScope s__law_some_of) .none kV27 dc27 pm27 an27 cd27 ct27), sl27⟩)
    (c27 : PySem.W.codeIn K cd27 "_law_some_of" = true)
    (k27 : PySem.W.keepIn K (.ref f27) = true)
    (a28 : PySem.W.nsIn K mainGlobals "_law_is_stand" = some (some (.ref f28)))
    (l28 : K.lookup f28 = some ⟨oc28, od28, .func (PySem.W.fnOf "_law_is_stand" "_law_is_stand" (defArgs s__law_is_stand) (defBody s__law_is_stand) (defScope s__law_is_stand) .none kV28 dc28 pm28 an28 cd28 ct28), sl28⟩)
    (c28 : PySem.W.codeIn K cd28 "_law_is_stand" = true)
    (k28 : PySem.W.keepIn K (.ref f28) = true)
    (a29 : PySem.W.nsIn K mainGlobals "_law_wrong" = some (some (.ref f29)))
    (l29 : K.lookup f29 = some ⟨oc29, od29, .func (PySem.W.fnOf "_law_wrong" "_law_wrong" (defArgs s__law_wrong) (defBody s__law_wrong) (defScope s__law_wrong) .none kV29 dc29 pm29 an29 cd29 ct29), sl29⟩)
    (c29 : PySem.W.codeIn K cd29 "_law_wrong" = true)
    (k29 : PySem.W.keepIn K (.ref f29) = true)
    (a30 : PySem.W.nsIn K mainGlobals "_law_bent" = some (some (.ref f30)))
    (l30 : K.lookup f30 = some ⟨oc30, od30, .func (PySem.W.fnOf "_law_bent" "_law_bent" (defArgs s__law_bent) (defBody s__law_bent) (defScope s__law_bent) .none kV30 dc30 pm30 an30 cd30 ct30), sl30⟩)
    (c30 : PySem.W.codeIn K cd30 "_law_bent" = true)
    (k30 : PySem.W.keepIn K (.ref f30) = true)
    (a31 : PySem.W.nsIn K mainGlobals "_law_is_refused" = some (some (.ref f31)))
    (l31 : K.lookup f31 = some ⟨oc31, od31, .func (PySem.W.fnOf "_law_is_refused" "_law_is_refused" (defArgs s__law_is_refused) (defBody s__law_is_refused) (defScope s__law_is_refused) .none kV31 dc31 pm31 an31 cd31 ct31), sl31⟩)
    (c31 : PySem.W.codeIn K cd31 "_law_is_refused" = true)
    (k31 : PySem.W.keepIn K (.ref f31) = true)
    (a32 : PySem.W.nsIn K mainGlobals "_law_no_task" = some (some (.ref f32)))
    (l32 : K.lookup f32 = some ⟨oc32, od32, .func (PySem.W.fnOf "_law_no_task" "_law_no_task" (defArgs s__law_no_task) (defBody s__law_no_task) (defScope s__law_no_task) .none kV32 dc32 pm32 an32 cd32 ct32), sl32⟩)
    (c32 : PySem.W.codeIn K cd32 "_law_no_task" = true)
    (k32 : PySem.W.keepIn K (.ref f32) = true)
    (a33 : PySem.W.nsIn K mainGlobals "_law_told" = some (some (.ref f33)))
    (l33 : K.lookup f33 = some ⟨oc33, od33, .func (PySem.W.fnOf "_law_told" "_law_told" (defArgs s__law_told) (defBody s__law_told) (defScope s__law_told) .none kV33 dc33 pm33 an33 cd33 ct33), sl33⟩)
    (c33 : PySem.W.codeIn K cd33 "_law_told" = true)
    (k33 : PySem.W.keepIn K (.ref f33) = true)
    (a34 : PySem.W.nsIn K mainGlobals "_law_no_tasks" = some (some (.ref f34)))
    (l34 : K.lookup f34 = some ⟨oc34, od34, .func (PySem.W.fnOf "_law_no_tasks" "_law_no_tasks" (defArgs s__law_no_tasks) (defBody s__law_no_tasks) (defScope s__law_no_tasks) .none kV34 dc34 pm34 an34 cd34 ct34), sl34⟩)
    (c34 : PySem.W.codeIn K cd34 "_law_no_tasks" = true)
    (k34 : PySem.W.keepIn K (.ref f34) = true)
    (a35 : PySem.W.nsIn K mainGlobals "law" = some (some (.ref f35)))
    (l35 : K.lookup f35 = some ⟨oc35, od35, .func (PySem.W.fnOf "law" "law" (defArgs s_law) (defBody s_law) (defScope s_law) .none kV35 dc35 pm35 an35 cd35 ct35), sl35⟩)
    (c35 : PySem.W.codeIn K cd35 "law" = true)
    (k35 : PySem.W.keepIn K (.ref f35) = true)
    (z_ValueError : PySem.W.nsIn K mainGlobals "ValueError" = some none)
    (z_abs : PySem.W.nsIn K mainGlobals "abs" = some none)
    (z_bool : PySem.W.nsIn K mainGlobals "bool" = some none)
    (z_int : PySem.W.nsIn K mainGlobals "int" = some none)
    (z_isinstance : PySem.W.nsIn K mainGlobals "isinstance" = some none)
    (z_len : PySem.W.nsIn K mainGlobals "len" = some none)
    (z_list : PySem.W.nsIn K mainGlobals "list" = some none)
    (z_max : PySem.W.nsIn K mainGlobals "max" = some none)
    (z_range : PySem.W.nsIn K mainGlobals "range" = some none)
    (z_repr : PySem.W.nsIn K mainGlobals "repr" = some none)
    (z_set : PySem.W.nsIn K mainGlobals "set" = some none)
    (z_sorted : PySem.W.nsIn K mainGlobals "sorted" = some none)
    (z_sum : PySem.W.nsIn K mainGlobals "sum" = some none)
    (z_tuple : PySem.W.nsIn K mainGlobals "tuple" = some none)
    (xa_DaysError : PySem.W.nsIn K mainGlobals "DaysError" = some (some (.ref C_DaysError)))
    (xa_NoTask : PySem.W.nsIn K mainGlobals "NoTask" = some (some (.ref C_NoTask)))
    (xq_NoTask : PySem.W.excIn K C_NoTask veBm "ValueError.__new__" = true)
    (xk_NoTask : PySem.W.keepIn K (.ref C_NoTask) = true)
    (xb_NoTask : PySem.W.subIn K (.ref C_NoTask) (.type "BaseException") = some true)
    (xt_NoTask : PySem.W.typeIn K (.ref C_NoTask) = some (.type "type"))
    (xa_NoStand : PySem.W.nsIn K mainGlobals "NoStand" = some (some (.ref C_NoStand)))
    (ehg_NoTask : PySem.W.findIn K (.ref C_NoTask) "__getattribute__" = some (some (.builtin "BaseException.__getattribute__")))
    (ehk_NoTask : PySem.W.findIn K (.ref C_NoTask) "__getattr__" = some none)
    (ehs_NoTask : PySem.W.subIn K (.ref C_NoTask) (.type "BaseException") = some true)
    (ehd_NoTask : PySem.W.hasDictIn K C_NoTask = true)
    (eha_NoTask : PySem.W.findIn K (.ref C_NoTask) "__class__" = some (some (.builtin "object.__class__")))
    (ehn_NoTask : PySem.W.specialIn K (.builtin "object.__class__") "__get__" = some (some (.builtin "getset_descriptor.__get__")))
    (eht_NoTask : PySem.W.takesIn K (.builtin "object.__class__") = some true)
    (ehm_NoTask : PySem.W.mroIn K C_NoTask (.type "object") = some true)
    (m_NoTask_NoTask : PySem.W.exmOne K (.ref C_NoTask) (.ref C_NoTask) = some true)
    (k_NoTask_DaysError : PySem.W.kitOne K (.ref C_NoTask) (.ref C_DaysError) = some true)
    (k_NoTask_NoStand : PySem.W.kitOne K (.ref C_NoTask) (.ref C_NoStand) = some false)
    (k_NoTask_ValueError : PySem.W.kitOne K (.ref C_NoTask) (.type "ValueError") = some true)
    (cc_GREATEST : PySem.W.nsIn K mainGlobals "GREATEST" = some (some (.int 40 t_GREATEST)))
    (cc_MOST_HANDS : PySem.W.nsIn K mainGlobals "MOST_HANDS" = some (some (.int 2 t_MOST_HANDS)))
    (cc_MOST_OFF : PySem.W.nsIn K mainGlobals "MOST_OFF" = some (some (.int 7 t_MOST_OFF)))
    (cc_MOST_THINGS : PySem.W.nsIn K mainGlobals "MOST_THINGS" = some (some (.int 8 t_MOST_THINGS)))
    (cc_PARTS : PySem.W.nsIn K mainGlobals "PARTS" = some (some (.int 5 t_PARTS))) :
    ∃ fd : FuncData, (∀ (s : Shared) (v : Value), BindsTo s fd ⟨[v], []⟩ [("_law_script", v)]) ∧ ∀ base : Heap, K.In base → base.Ns mainGlobals mg → FnG l.prog w K mg base 54 fa fd ["_law_script"] (spL K F_law) := by
  have e := hfa.symm.trans (PySem.W.mg_of X G a35)
  cases e
  have T : Txt K mg ⟨f0, _, f1, _, f2, _, f3, _, f4, _, f5, _, f6, _, f7, _, f8, _, f9, _, f10, _, f11, _, f12, _, f13, _, f14, _, f15, _, f16, _, f17, _, f18, _, f19, _, f20, _, f21, _, f22, _, f23, _, f24, _, f25, _, f26, _, f27, _, f28, _, f29, _, f30, _, f31, _, f32, _, f33, _, f34, _, fa, _, C_DaysError, C_NoTask, C_NoStand, t_GREATEST, t_MOST_HANDS, t_MOST_OFF, t_MOST_THINGS, t_PARTS⟩ :=
    ⟨fun_mk (st := s_is_whole) l0 c0 k0, PySem.W.mg_of X G a0, (fun_mk (st := s_is_whole) l0 c0 k0).binds (ps := ["thing", "least", "most"]) fun _ _ _ _ _ _ us hl => match us, hl with | [_, _, _], _ => rfl,
    fun_mk (st := s_is_row) l1 c1 k1, PySem.W.mg_of X G a1, (fun_mk (st := s_is_row) l1 c1 k1).binds (ps := ["thing"]) fun _ _ _ _ _ _ us hl => match us, hl with | [_], _ => rfl,
    fun_mk (st := s_is_rising) l2 c2 k2, PySem.W.mg_of X G a2, (fun_mk (st := s_is_rising) l2 c2 k2).binds (ps := ["thing", "least", "most"]) fun _ _ _ _ _ _ us hl => match us, hl with | [_, _, _], _ => rfl,
    fun_mk (st := s_told_rows) l3 c3 k3, PySem.W.mg_of X G a3, (fun_mk (st := s_told_rows) l3 c3 k3).binds (ps := ["thing"]) fun _ _ _ _ _ _ us hl => match us, hl with | [_], _ => rfl,
    fun_mk (st := s_is_numbers) l4 c4 k4, PySem.W.mg_of X G a4, (fun_mk (st := s_is_numbers) l4 c4 k4).binds (ps := ["thing"]) fun _ _ _ _ _ _ us hl => match us, hl with | [_], _ => rfl,
    fun_mk (st := s_is_off) l5 c5 k5, PySem.W.mg_of X G a5, (fun_mk (st := s_is_off) l5 c5 k5).binds (ps := ["thing"]) fun _ _ _ _ _ _ us hl => match us, hl with | [_], _ => rfl,
    fun_mk (st := s_is_pair) l6 c6 k6, PySem.W.mg_of X G a6, (fun_mk (st := s_is_pair) l6 c6 k6).binds (ps := ["thing", "many"]) fun _ _ _ _ _ _ us hl => match us, hl with | [_, _], _ => rfl,
    fun_mk (st := s_are_pairs) l7 c7 k7, PySem.W.mg_of X G a7, (fun_mk (st := s_are_pairs) l7 c7 k7).binds (ps := ["thing", "many"]) fun _ _ _ _ _ _ us hl => match us, hl with | [_, _], _ => rfl,
    fun_mk (st := s_is_task) l8 c8 k8, PySem.W.mg_of X G a8, (fun_mk (st := s_is_task) l8 c8 k8).binds (ps := ["thing"]) fun _ _ _ _ _ _ us hl => match us, hl with | [_], _ => rfl,
    fun_mk (st := s_asked_task) l9 c9 k9, PySem.W.mg_of X G a9, (fun_mk (st := s_asked_task) l9 c9 k9).binds (ps := ["thing"]) fun _ _ _ _ _ _ us hl => match us, hl with | [_], _ => rfl,
    fun_mk (st := s_in_ties) l10 c10 k10, PySem.W.mg_of X G a10, (fun_mk (st := s_in_ties) l10 c10 k10).binds (ps := ["task"]) fun _ _ _ _ _ _ us hl => match us, hl with | [_], _ => rfl,
    fun_mk (st := s_are_waits) l11 c11 k11, PySem.W.mg_of X G a11, (fun_mk (st := s_are_waits) l11 c11 k11).binds (ps := ["numbers", "waits"]) fun _ _ _ _ _ _ us hl => match us, hl with | [_, _], _ => rfl,
    fun_mk (st := s_is_some_of) l12 c12 k12, PySem.W.mg_of X G a12, (fun_mk (st := s_is_some_of) l12 c12 k12).binds (ps := ["things", "row", "most"]) fun _ _ _ _ _ _ us hl => match us, hl with | [_, _, _], _ => rfl,
    fun_mk (st := s_is_stand_of) l13 c13 k13, PySem.W.mg_of X G a13, (fun_mk (st := s_is_stand_of) l13 c13 k13).binds (ps := ["task", "thing"]) fun _ _ _ _ _ _ us hl => match us, hl with | [_, _], _ => rfl,
    fun_mk (st := s_is_stand) l14 c14 k14, PySem.W.mg_of X G a14, (fun_mk (st := s_is_stand) l14 c14 k14).binds (ps := ["task", "thing"]) fun _ _ _ _ _ _ us hl => match us, hl with | [_, _], _ => rfl,
    fun_mk (st := s_first_of) l15 c15 k15, PySem.W.mg_of X G a15, (fun_mk (st := s_first_of) l15 c15 k15).binds (ps := ["task"]) fun _ _ _ _ _ _ us hl => match us, hl with | [_], _ => rfl,
    fun_mk (st := s_first_stand) l16 c16 k16, PySem.W.mg_of X G a16, (fun_mk (st := s_first_stand) l16 c16 k16).binds (ps := ["task"]) fun _ _ _ _ _ _ us hl => match us, hl with | [_], _ => rfl,
    fun_mk (st := s__law_cell) l17 c17 k17, PySem.W.mg_of X G a17, (fun_mk (st := s__law_cell) l17 c17 k17).binds (ps := ["_law_script", "_law_k"]) fun _ _ _ _ _ _ us hl => match us, hl with | [_, _], _ => rfl,
    fun_mk (st := s__law_draws) l18 c18 k18, PySem.W.mg_of X G a18, (fun_mk (st := s__law_draws) l18 c18 k18).binds (ps := ["_law_script", "_law_at", "_law_many"]) fun _ _ _ _ _ _ us hl => match us, hl with | [_, _, _], _ => rfl,
    fun_mk (st := s__law_next) l19 c19 k19, PySem.W.mg_of X G a19, (fun_mk (st := s__law_next) l19 c19 k19).binds (ps := ["_law_draws_here"]) fun _ _ _ _ _ _ us hl => match us, hl with | [_], _ => rfl,
    fun_mk (st := s__law_long) l20 c20 k20, PySem.W.mg_of X G a20, (fun_mk (st := s__law_long) l20 c20 k20).binds (ps := ["_law_draws_here", "_law_many"]) fun _ _ _ _ _ _ us hl => match us, hl with | [_, _], _ => rfl,
    fun_mk (st := s__law_tied) l21 c21 k21, PySem.W.mg_of X G a21, (fun_mk (st := s__law_tied) l21 c21 k21).binds (ps := ["_law_draws_here", "_law_many"]) fun _ _ _ _ _ _ us hl => match us, hl with | [_, _], _ => rfl,
    fun_mk (st := s__law_off) l22 c22 k22, PySem.W.mg_of X G a22, (fun_mk (st := s__law_off) l22 c22 k22).binds (ps := ["_law_draws_here", "_law_left"]) fun _ _ _ _ _ _ us hl => match us, hl with | [_, _], _ => rfl,
    fun_mk (st := s__law_task) l23 c23 k23, PySem.W.mg_of X G a23, (fun_mk (st := s__law_task) l23 c23 k23).binds (ps := ["_law_draws_here", "_law_most"]) fun _ _ _ _ _ _ us hl => match us, hl with | [_, _], _ => rfl,
    fun_mk (st := s__law_made_up) l24 c24 k24, PySem.W.mg_of X G a24, (fun_mk (st := s__law_made_up) l24 c24 k24).binds (ps := ["_law_draws_here", "_law_task_here"]) fun _ _ _ _ _ _ us hl => match us, hl with | [_, _], _ => rfl,
    fun_mk (st := s__law_lists) l25 c25 k25, PySem.W.mg_of X G a25, (fun_mk (st := s__law_lists) l25 c25 k25).binds (ps := ["_law_thing"]) fun _ _ _ _ _ _ us hl => match us, hl with | [_], _ => rfl,
    fun_mk (st := s__law_whole) l26 c26 k26, PySem.W.mg_of X G a26, (fun_mk (st := s__law_whole) l26 c26 k26).binds (ps := ["_law_thing", "_law_least", "_law_most"]) fun _ _ _ _ _ _ us hl => match us, hl with | [_, _, _], _ => rfl,
    fun_mk (st := s__law_some_of) l27 c27 k27, PySem.W.mg_of X G a27, (fun_mk (st := s__law_some_of) l27 c27 k27).binds (ps := ["_law_things", "_law_thing", "_law_most"]) fun _ _ _ _ _ _ us hl => match us, hl with | [_, _, _], _ => rfl,
    fun_mk (st := s__law_is_stand) l28 c28 k28, PySem.W.mg_of X G a28, (fun_mk (st := s__law_is_stand) l28 c28 k28).binds (ps := ["_law_task_here", "_law_thing"]) fun _ _ _ _ _ _ us hl => match us, hl with | [_, _], _ => rfl,
    fun_mk (st := s__law_wrong) l29 c29 k29, PySem.W.mg_of X G a29, (fun_mk (st := s__law_wrong) l29 c29 k29).binds (ps := ["_law_cell_here"]) fun _ _ _ _ _ _ us hl => match us, hl with | [_], _ => rfl,
    fun_mk (st := s__law_bent) l30 c30 k30, PySem.W.mg_of X G a30, (fun_mk (st := s__law_bent) l30 c30 k30).binds (ps := ["_law_stand", "_law_cell_here"]) fun _ _ _ _ _ _ us hl => match us, hl with | [_, _], _ => rfl,
    fun_mk (st := s__law_is_refused) l31 c31 k31, PySem.W.mg_of X G a31, (fun_mk (st := s__law_is_refused) l31 c31 k31).binds (ps := ["_law_thing", "_law_is_first"]) fun _ _ _ _ _ _ us hl => match us, hl with | [_, _], _ => rfl,
    fun_mk (st := s__law_no_task) l32 c32 k32, PySem.W.mg_of X G a32, (fun_mk (st := s__law_no_task) l32 c32 k32).binds (ps := ["_law_thing"]) fun _ _ _ _ _ _ us hl => match us, hl with | [_], _ => rfl,
    fun_mk (st := s__law_told) l33 c33 k33, PySem.W.mg_of X G a33, (fun_mk (st := s__law_told) l33 c33 k33).binds (ps := ["_law_task_here", "_law_thing"]) fun _ _ _ _ _ _ us hl => match us, hl with | [_, _], _ => rfl,
    fun_mk (st := s__law_no_tasks) l34 c34 k34, PySem.W.mg_of X G a34, (fun_mk (st := s__law_no_tasks) l34 c34 k34).binds (ps := ["_law_task_here"]) fun _ _ _ _ _ _ us hl => match us, hl with | [_], _ => rfl,
    fun_mk (st := s_law) l35 c35 k35, PySem.W.mg_of X G a35, (fun_mk (st := s_law) l35 c35 k35).binds (ps := ["_law_script"]) fun _ _ _ _ _ _ us hl => match us, hl with | [_], _ => rfl,
    PySem.W.mg_none_of X G z_ValueError,
    PySem.W.mg_none_of X G z_abs,
    PySem.W.mg_none_of X G z_bool,
    PySem.W.mg_none_of X G z_int,
    PySem.W.mg_none_of X G z_isinstance,
    PySem.W.mg_none_of X G z_len,
    PySem.W.mg_none_of X G z_list,
    PySem.W.mg_none_of X G z_max,
    PySem.W.mg_none_of X G z_range,
    PySem.W.mg_none_of X G z_repr,
    PySem.W.mg_none_of X G z_set,
    PySem.W.mg_none_of X G z_sorted,
    PySem.W.mg_none_of X G z_sum,
    PySem.W.mg_none_of X G z_tuple,
    ⟨PySem.W.mg_of X G xa_DaysError⟩,
    ⟨PySem.W.mg_of X G xa_NoTask, xq_NoTask, xk_NoTask, xb_NoTask, xt_NoTask⟩,
    ⟨PySem.W.mg_of X G xa_NoStand⟩,
    ⟨ehg_NoTask, ehk_NoTask, ehs_NoTask, ehd_NoTask, eha_NoTask, ehn_NoTask, eht_NoTask, ehm_NoTask⟩,
    m_NoTask_NoTask.trans (by decide),
    k_NoTask_DaysError.trans (by decide),
    k_NoTask_NoStand.trans (by decide),
    k_NoTask_ValueError.trans (by decide),
    PySem.W.mg_of X G cc_GREATEST,
    PySem.W.mg_of X G cc_MOST_HANDS,
    PySem.W.mg_of X G cc_MOST_OFF,
    PySem.W.mg_of X G cc_MOST_THINGS,
    PySem.W.mg_of X G cc_PARTS⟩
  exact ⟨_, fun s v => .of_eq rfl, fun base _ _ => (ok_law T).imp fun vs H Q E q => spL_imp q⟩
end WD
namespace WD
open PySem PySem.Spec PyProof.Rows L2
theorem F_is_whole_eq {d : D} {lo hi : Int} {h : Hs} : F_is_whole [d, .int lo, .int hi] h = .ok (.bl (isW lo hi d)) h := by
  cases d with
  | int i => by_cases h1 : lo ≤ i <;> by_cases h2 : i ≤ hi <;> simp [F_is_whole, b_is_whole, h1, h2]
  | bl b => simp [F_is_whole, b_is_whole, isW]
  | _ => simp [F_is_whole, b_is_whole, D.isI, isW]
theorem F_is_row_eq {d : D} {h : Hs} : F_is_row [d] h = .ok (.bl (rowOf h d).isSome) h := by
  simp [F_is_row, b_is_row]
def risL : Int → Int → List D → Bool
  | _, _, [] => true
  | lo, hi, .int n :: ns => decide (lo ≤ n) && decide (n ≤ hi) && risL (n + 1) hi ns
  | _, _, _ => false
def isRis (h : Hs) (lo hi : Int) (d : D) : Bool := match rowOf h d with
  | some xs => risL lo hi xs
  | none => false
theorem ris_loop {hi : Int} {a b : D} {h : Hs} : ∀ (xs : List D) (l : Int), fgS [3, 4] (loopS (gVar 4) k_is_rising_2 xs [some a, some b, some (.int hi), some (.int l), none] h) = if risL (l + 1) hi xs = true then .nx [some a, some b, some (.int hi), none, none] h else .rt (.bl false) h := by
  intro xs
  induction xs with
  | nil => intro l; simp [x_loop_nil, risL]
  | cons x xs ih =>
    intro l
    rw [x_loop_cons]
    cases x with
    | int n =>
      by_cases h1 : l + 1 ≤ n
      · by_cases h2 : n ≤ hi
        · simpa [F_is_whole_eq, h1, h2, risL] using ih n
        · simp [F_is_whole_eq, h1, h2, risL]
      · simp [F_is_whole_eq, h1, risL]
    | _ => simp [F_is_whole_eq, isW, risL]
theorem F_is_rising_eq {d : D} {lo hi : Int} {h : Hs} : F_is_rising [d, .int lo, .int hi] h = .ok (.bl (isRis h lo hi d)) h := by
  cases hr : rowOf h d with
  | none => simp [F_is_rising, b_is_rising, F_is_row_eq, hr, isRis]
  | some xs =>
    have hf : sFor (iRow (eVar 0)) (gVar 4) k_is_rising_2 [some d, some (.int lo), some (.int hi), some (.int (lo - 1)), none] h = loopS (gVar 4) k_is_rising_2 xs [some d, some (.int lo), some (.int hi), some (.int (lo - 1)), none] h := by
      refine sFor_row (fun s => ∃ l, s = [some d, some (.int lo), some (.int hi), some (.int l), none]) rfl hr ⟨_, rfl⟩ fun x hx s ⟨l, hs⟩ => ?_
      subst hs
      refine ⟨_, rfl, ?_⟩
      cases x with
      | int n => by_cases h1 : l + 1 ≤ n <;> by_cases h2 : n ≤ hi <;> simp [F_is_whole_eq, h1, h2]
      | _ => simp [F_is_whole_eq, isW]
    have hl := ris_loop (hi := hi) (a := d) (b := .int lo) (h := h) xs (lo - 1)
    rw [show lo - 1 + 1 = lo by omega] at hl
    cases hb : risL lo hi xs <;> simp [F_is_rising, b_is_rising, F_is_row_eq, hr, isRis, hf, hl, hb]
/-- told as tuples -/
theorem F_told_eq : ∀ (n : Nat) (d : D) (q : Q) (h : Hs) (fuel : Nat), n < fuel → vq h n d = some q → q.nd = true → F_told_rows fuel [d] h = .ok (qD q) h := by
  intro n
  induction n with
  | zero =>
    intro d q h fuel hf e hq
    obtain ⟨fuel, rfl⟩ : ∃ f, fuel = f + 1 := ⟨fuel - 1, by omega⟩
    rcases vq_inv e with ⟨h1, h2⟩ | ⟨_, _, _, h1, _⟩
    · cases q with
      | row _ => exact h2.elim
      | dic => cases hq
      | _ => cases h2; simp [F_told_rows, b_told_rows, F_is_row_eq, h1, qD, exitT_same]
    · omega
  | succ n ih =>
    intro d q h fuel hf e hq
    obtain ⟨fuel, rfl⟩ : ∃ f, fuel = f + 1 := ⟨fuel - 1, by omega⟩
    rcases vq_inv e with ⟨h1, h2⟩ | ⟨m, xs, qs, h1, h2, h3, rfl⟩
    · cases q with
      | row _ => exact h2.elim
      | dic => cases hq
      | _ => cases h2; simp [F_told_rows, b_told_rows, F_is_row_eq, h1, qD, exitT_same]
    · obtain rfl : n = m := by omega
      have hq' : ndL qs = true := hq
      have hc : eComp false [1] (iRow (eVar 0)) (gVar 1) tYesF (eCall 1 (F_told_rows fuel) (aCons (eVar 1) aNil)) [some d, none] h = .ok (.lst (qDL qs)) h := by
        rw [comp_map (em := id) (fun x => qD ((vq h n x).getD .non)) (by rw [List.map_id]; exact Itr.row rfl h2) fun x hx => ?_]
        · simp only [x_newF, R.ok.injEq, D.lst.injEq, and_true]
          exact mapM_qD h3
        · obtain ⟨y, hy, ey⟩ := mapM_mem h3 x hx
          have := ih x y h fuel (by omega) ey (ndL_mem hq' hy)
          simp [this, ey]
      simp [F_told_rows, b_told_rows, F_is_row_eq, h2, hc, qD, exitT_same, und_qDL]

end WD
namespace WD
open PySem PySem.Spec PyProof.Rows L2
def isDay (h : Hs) (many : Int) (d : D) : Bool := match rowOf h d with
  | some xs => risL 0 (many - 1) xs && decide ((xs.length : Int) ≤ 2)
  | none => false
def areDays (h : Hs) (many : Int) (d : D) : Bool := match rowOf h d with
  | some xs => decide ((xs.length : Int) ≤ 4000) && xs.all (isDay h many)
  | none => false
def isRing (h : Hs) (many : Int) (d : D) : Bool := match rowOf h d with
  | some xs => decide ((xs.length : Int) ≤ 4000) && xs.all (isDay h many) && decide ((0 : Int) < xs.length)
  | none => false
theorem filter_not_empty {α : Type} (p : α → Bool) (xs : List α) : (xs.filter fun x => !p x).isEmpty = xs.all p := by
  rw [Bool.eq_iff_iff]; simp
/-- good rings -/
def DayOk (many : Int) (d : List Int) : Prop := risL 0 (many - 1) (d.map D.int) = true ∧ d.length ≤ 2
structure RingOk (many : Int) (r : List (List Int)) : Prop where
  pos : 0 < r.length
  most : r.length ≤ 4000
  day : ∀ d ∈ r, DayOk many d
theorem isDay_ok {h : Hs} {n : Nat} {x : D} {d : List Int} {many : Int} (e : vq h n x = some (dayQ d)) (hd : DayOk many d) : isDay h many x = true := by
  obtain ⟨m, _, hr⟩ := dayQ_inv e
  have := hd.2
  simp [isDay, hr, hd.1]
  omega
theorem mapM_days {h : Hs} {n : Nat} : ∀ {xs : List D} {r : List (List Int)}, xs.mapM (vq h n) = some (r.map dayQ) → ∀ x ∈ xs, ∃ d ∈ r, vq h n x = some (dayQ d) := by
  intro xs r e x hx
  obtain ⟨y, hy, ey⟩ := mapM_mem e x hx
  obtain ⟨d, hd, rfl⟩ := List.mem_map.mp hy
  exact ⟨d, hd, ey⟩
theorem isRing_ok {h : Hs} {n : Nat} {x : D} {r : List (List Int)} {many : Int} (e : vq h n x = some (ringQ r)) (hr : RingOk many r) : isRing h many x = true := by
  obtain ⟨m, xs, _, h2, h3⟩ := ringQ_inv e
  have hl := mapM_len h3
  rw [List.length_map] at hl
  have h4 := hr.pos
  have h5 := hr.most
  simp only [isRing, h2, Bool.and_eq_true, decide_eq_true_eq, List.all_eq_true]
  refine ⟨⟨by omega, fun y hy => ?_⟩, by omega⟩
  obtain ⟨d, hd, ed⟩ := mapM_days h3 y hy
  exact isDay_ok ed (hr.day d hd)
theorem risL_mono {hi hi' : Int} (hh : hi ≤ hi') : ∀ (xs : List D) (lo : Int), risL lo hi xs = true → risL lo hi' xs = true
  | [], _, _ => rfl
  | .int n :: xs, lo, h => by
    simp only [risL, Bool.and_eq_true, decide_eq_true_eq] at h ⊢
    exact ⟨⟨h.1.1, by omega⟩, risL_mono hh xs _ h.2⟩
  | .non :: _, _, h => by cases h
  | .bl _ :: _, _, h => by cases h
  | .str _ :: _, _, h => by cases h
  | .tup _ :: _, _, h => by cases h
  | .lst _ :: _, _, h => by cases h
  | .scr _ :: _, _, h => by cases h
  | .dic _ _ :: _, _, h => by cases h
  | .loc _ :: _, _, h => by cases h
theorem DayOk.mono {m m' : Int} {d : List Int} (h : DayOk m d) (hm : m ≤ m') : DayOk m' d := ⟨risL_mono (by omega) _ _ h.1, h.2⟩
theorem dayOk_nil {m : Int} : DayOk m [] := ⟨rfl, by simp⟩
theorem dayOk_one {m i : Int} (h0 : 0 ≤ i) (h1 : i < m) : DayOk m [i] := ⟨by simp [risL]; omega, by simp⟩
/-- the day at a place, round and round -/
def dayAt (r : List (List Int)) (a : Int) : List Int := r.getD (a % (r.length : Int)).toNat []
theorem ix_at {r : List (List Int)} {a : Int} {h : Hs} (hr : 0 < r.length) : ixD (dT r) (.int (a % (r.length : Int))) h = .ok (iT (dayAt r a)) h :=
  ix_dT (Int.emod_nonneg _ (by omega)) (Int.emod_lt_of_pos _ (by omega))

end WD
namespace WD
open PySem PySem.Spec PyProof.Rows L2
def isNums (h : Hs) (d : D) : Bool := match rowOf h d with
  | some xs => decide ((xs.length : Int) ≤ 8) && xs.all (isW 1 40)
  | none => false
theorem F_is_numbers_eq {d : D} {h : Hs} : F_is_numbers [d] h = .ok (.bl (isNums h d)) h := by
  cases hr : rowOf h d with
  | none => simp [F_is_numbers, b_is_numbers, F_is_row_eq, isNums, hr]
  | some xs =>
    have hc : eComp false [1] (iRow (eVar 0)) (gVar 1) (tNotF (tV (eCall 3 F_is_whole (aCons (eVar 1) (aCons (eC (.int 1)) (aCons (eC (.int 40)) aNil)))))) (eVar 1) [some d, none] h = .ok (.lst (xs.filter fun x => !isW 1 40 x)) h := by
      rw [comp_ty (em := id) (fun x => !isW 1 40 x) id (by rw [List.map_id]; exact Itr.row rfl hr) fun x hx => ?_]
      · simp
      · simp [F_is_whole_eq]
    by_cases hz : (8 : Int) < xs.length
    · have hz' : ¬ (xs.length : Int) ≤ 8 := by omega
      simp [F_is_numbers, b_is_numbers, F_is_row_eq, isNums, hr, x_len hr, hz, hz']
    · have hz' : (xs.length : Int) ≤ 8 := by omega
      simp [F_is_numbers, b_is_numbers, F_is_row_eq, isNums, hr, x_len hr, hz, hz', hc, filter_not_empty]
/-- good numbers -/
def NumOk (ns : List Int) : Prop := ns.length ≤ 8 ∧ ∀ n ∈ ns, 1 ≤ n ∧ n ≤ 40
theorem isNums_ok {h : Hs} {d : D} {ns : List Int} (hr : rowOf h d = some (ns.map D.int)) (hn : NumOk ns) : isNums h d = true := by
  have := hn.1
  simp only [isNums, hr, Bool.and_eq_true, decide_eq_true_eq, List.all_eq_true, List.length_map]
  refine ⟨by omega, fun x hx => ?_⟩
  obtain ⟨n, h1, rfl⟩ := List.mem_map.mp hx
  have := hn.2 n h1
  simp; omega
end WD
namespace WD
open PySem PySem.Spec PyProof.Rows L2
theorem rgI_bd {lo : Int} {n : Nat} {k : Int} (h : k ∈ rgI lo n) : lo ≤ k ∧ k < lo + n := by
  unfold rgI at h
  simp only [List.mem_map, List.mem_range] at h
  obtain ⟨i, hi, rfl⟩ := h
  omega
@[simp] theorem rgI_len {lo : Int} {n : Nat} : (rgI lo n).length = n := by simp [rgI]
theorem rgI_range' {m : Nat} : rgI 1 m = (List.range' 1 m).map fun (k : Nat) => (k : Int) := by
  unfold rgI
  rw [List.range'_eq_map_range, List.map_map]
  refine List.map_congr_left fun i _ => ?_
  simp
theorem rg_srt : ∀ (n : Nat) (lo : Int), (rgI lo n).Pairwise (· < ·) := fun n lo => by
  unfold rgI
  rw [List.pairwise_map]
  exact List.pairwise_lt_range.imp fun {a b} h => by omega
theorem rg_mem {lo k : Int} {n : Nat} (h1 : lo ≤ k) (h2 : k < lo + n) : k ∈ rgI lo n := by
  unfold rgI
  rw [List.mem_map]
  exact ⟨(k - lo).toNat, List.mem_range.mpr (by omega), by omega⟩

end WD
namespace WD
open PySem PySem.Spec PyProof.Rows L2

end WD
namespace WD
open PySem PySem.Spec PyProof.Rows L2
def natL (ns : List Int) : List Nat := ns.map Int.toNat
theorem natL_back {ns : List Int} (h : ∀ n ∈ ns, 1 ≤ n ∧ n ≤ 40) : ns = (natL ns).map fun (m : Nat) => (m : Int) := by
  unfold natL
  rw [List.map_map]
  conv => lhs; rw [← List.map_id ns]
  refine List.map_congr_left fun n hn => ?_
  have := h n hn
  simp; omega
theorem natL_ok {ns : List Int} (h : ∀ n ∈ ns, 1 ≤ n ∧ n ≤ 40) : ∀ m ∈ natL ns, 1 ≤ m ∧ m ≤ 40 := by
  intro m hm
  obtain ⟨n, hn, rfl⟩ := List.mem_map.mp hm
  have := h n hn
  omega
def lcmL (ms : List Nat) : Nat := ms.foldl Nat.lcm 1
theorem lcmL_pos : ∀ (ms : List Nat) (f : Nat), 0 < f → (∀ m ∈ ms, 1 ≤ m ∧ m ≤ 40) → 0 < ms.foldl Nat.lcm f
  | [], f, hf, _ => hf
  | m :: ms, f, hf, hm => lcmL_pos ms _ (Nat.lcm_pos hf (by have := hm m List.mem_cons_self; omega)) fun k hk => hm k (List.mem_cons_of_mem _ hk)
theorem lcmL_le : ∀ (ms : List Nat) (f : Nat), (∀ m ∈ ms, 1 ≤ m ∧ m ≤ 40) → ms.foldl Nat.lcm f ≤ f * 40 ^ ms.length
  | [], f, _ => by simp
  | m :: ms, f, hm => by
    have h1 := hm m List.mem_cons_self
    refine Nat.le_trans (lcmL_le ms _ fun k hk => hm k (List.mem_cons_of_mem _ hk)) ?_
    have : Nat.lcm f m ≤ f * m := Nat.div_le_self _ _
    calc Nat.lcm f m * 40 ^ ms.length ≤ (f * m) * 40 ^ ms.length := Nat.mul_le_mul_right _ this
      _ ≤ (f * 40) * 40 ^ ms.length := Nat.mul_le_mul_right _ (Nat.mul_le_mul_left _ h1.2)
      _ = f * 40 ^ (m :: ms).length := by rw [List.length_cons, Nat.pow_succ, Nat.mul_assoc, Nat.mul_comm 40]
theorem lcmL_bd {ms : List Nat} (h8 : ms.length ≤ 8) (hm : ∀ m ∈ ms, 1 ≤ m ∧ m ≤ 40) : lcmL ms ≤ 6553600000000 := by
  refine Nat.le_trans (lcmL_le ms 1 hm) ?_
  rw [Nat.one_mul]
  exact Nat.le_trans (Nat.pow_le_pow_right (by decide) h8) (by decide)
theorem dvd_foldl_lcm : ∀ (ms : List Nat) (f : Nat), f ∣ ms.foldl Nat.lcm f
  | [], f => Nat.dvd_refl f
  | m :: ms, f => Nat.dvd_trans (Nat.dvd_lcm_left f m) (dvd_foldl_lcm ms _)
theorem mem_dvd_lcm : ∀ (ms : List Nat) (f : Nat), ∀ m ∈ ms, m ∣ ms.foldl Nat.lcm f
  | m :: ms, f, k, hk => by
    rcases List.mem_cons.mp hk with rfl | hk
    · exact Nat.dvd_trans (Nat.dvd_lcm_right f k) (dvd_foldl_lcm ms _)
    · exact mem_dvd_lcm ms _ k hk
theorem foldl_lcm_dvd : ∀ (ms : List Nat) (f M : Nat), f ∣ M → (∀ m ∈ ms, m ∣ M) → ms.foldl Nat.lcm f ∣ M
  | [], f, M, hf, _ => hf
  | m :: ms, f, M, hf, hm => foldl_lcm_dvd ms _ M (Nat.lcm_dvd hf (hm m List.mem_cons_self)) fun k hk => hm k (List.mem_cons_of_mem _ hk)
def overL (L : Nat) (ms : List Nat) : Nat := (ms.map fun m => L / m).sum
theorem overL_mul {L c : Nat} : ∀ ms : List Nat, (∀ m ∈ ms, m ∣ L) → overL (c * L) ms = c * overL L ms
  | [], _ => by simp [overL]
  | m :: ms, h => by
    have ih := overL_mul (L := L) (c := c) ms fun k hk => h k (List.mem_cons_of_mem _ hk)
    unfold overL at ih ⊢
    rw [List.map_cons, List.sum_cons, List.map_cons, List.sum_cons, ih, Nat.mul_add, Nat.mul_div_assoc _ (h m List.mem_cons_self)]
/-- a share of at most one, by any number that all divide -/
theorem room_iff {L M : Nat} {ms : List Nat} (hL : 0 < L) (hM : 0 < M) (h1 : ∀ m ∈ ms, m ∣ L) (h2 : ∀ m ∈ ms, m ∣ M) : overL L ms ≤ L ↔ overL M ms ≤ M := by
  have e1 : overL (M * L) ms = M * overL L ms := overL_mul ms h1
  have e2 : overL (L * M) ms = L * overL M ms := overL_mul ms h2
  rw [Nat.mul_comm L M] at e2
  constructor
  · intro h
    have : L * overL M ms ≤ L * M := by rw [← e2, e1, Nat.mul_comm L M]; exact Nat.mul_le_mul_left _ h
    exact Nat.le_of_mul_le_mul_left this hL
  · intro h
    have : M * overL L ms ≤ M * L := by rw [← e1, e2, Nat.mul_comm M L]; exact Nat.mul_le_mul_left _ h
    exact Nat.le_of_mul_le_mul_left this hM
def prodL (ms : List Nat) : Nat := ms.foldl (· * ·) 1
theorem foldl_mul : ∀ (ms : List Nat) (f : Nat), ms.foldl (· * ·) f = f * prodL ms
  | [], f => by simp [prodL]
  | m :: ms, f => by
    unfold prodL
    rw [List.foldl_cons, List.foldl_cons, foldl_mul ms (f * m), foldl_mul ms (1 * m), Nat.one_mul, Nat.mul_assoc]
theorem prodL_cons {m : Nat} {ms : List Nat} : prodL (m :: ms) = m * prodL ms := by
  unfold prodL
  rw [List.foldl_cons, foldl_mul, Nat.one_mul]; rfl
theorem prodL_pos : ∀ ms : List Nat, (∀ m ∈ ms, 1 ≤ m ∧ m ≤ 40) → 0 < prodL ms
  | [], _ => by decide
  | m :: ms, h => by
    rw [prodL_cons]
    exact Nat.mul_pos (by have := h m List.mem_cons_self; omega) (prodL_pos ms fun k hk => h k (List.mem_cons_of_mem _ hk))
theorem mem_dvd_prod : ∀ ms : List Nat, ∀ m ∈ ms, m ∣ prodL ms
  | m :: ms, k, hk => by
    rw [prodL_cons]
    rcases List.mem_cons.mp hk with rfl | hk
    · exact Nat.dvd_mul_right _ _
    · exact Nat.dvd_trans (mem_dvd_prod ms k hk) (Nat.dvd_mul_left _ _)
/-- whether the share is at most one -/
def roomN (ms : List Nat) : Bool := decide (overL (lcmL ms) ms ≤ lcmL ms)
def roomB (ns : List Int) : Bool := roomN (natL ns)
theorem sum_cast : ∀ ms : List Nat, (ms.map fun (m : Nat) => (m : Int)).sum = ((ms.sum : Nat) : Int)
  | [] => rfl
  | m :: ms => by rw [List.map_cons, List.sum_cons, sum_cast ms, List.sum_cons]; omega
theorem sum_div {L : Nat} (ms : List Nat) : ((ms.map fun (m : Nat) => (m : Int)).map fun n => (L : Int) / n).sum = ((overL L ms : Nat) : Int) := by
  unfold overL
  rw [← sum_cast, List.map_map, List.map_map]
  rfl
end WD
namespace WD
open PySem PySem.Spec PyProof.Rows L2
def adjB {α : Type} (r : α → α → Bool) : List α → Bool
  | a :: b :: l => r a b && adjB r (b :: l)
  | _ => true
theorem adjB_all {α : Type} {r : α → α → Bool} {z : α} : ∀ l : List α, adjB r l = (List.range' 1 (l.length - 1)).all fun k => r (l.getD (k - 1) z) (l.getD k z)
  | [] => rfl
  | [a] => rfl
  | a :: b :: l => by
    have ih := adjB_all (r := r) (z := z) (b :: l)
    rw [adjB, ih]
    simp only [List.length_cons, Nat.add_sub_cancel]
    rw [List.range'_succ, List.all_cons]
    congr 1
    rw [Bool.eq_iff_iff]
    simp only [List.all_eq_true, List.mem_range'_1]
    constructor
    · intro h k hk
      have := h (k - 1) (by omega)
      obtain ⟨k, rfl⟩ : ∃ j, k = j + 2 := ⟨k - 2, by omega⟩
      simpa using this
    · intro h k hk
      have := h (k + 1) (by omega)
      obtain ⟨k, rfl⟩ : ∃ j, k = j + 1 := ⟨k - 1, by omega⟩
      simpa using this
def ltP (p q : Int × Int) : Bool := decide (p.1 < q.1 ∨ (p.1 = q.1 ∧ p.2 < q.2))
def isOff (h : Hs) (d : D) : Bool := match rowOf h d with
  | some xs => decide ((1 : Int) ≤ xs.length) && decide ((xs.length : Int) ≤ 7) && xs.all (isW 0 1)
  | none => false
theorem F_is_off_eq {d : D} {h : Hs} : F_is_off [d] h = .ok (.bl (isOff h d)) h := by
  cases hr : rowOf h d with
  | none => simp [F_is_off, b_is_off, F_is_row_eq, isOff, hr]
  | some xs =>
    have hc : eComp false [1] (iRow (eVar 0)) (gVar 1) (tNotF (tV (eCall 3 F_is_whole (aCons (eVar 1) (aCons (eC (.int 0)) (aCons (eC (.int 1)) aNil)))))) (eVar 1) [some d, none] h = .ok (.lst (xs.filter fun x => !isW 0 1 x)) h := by
      rw [comp_ty (em := id) (fun x => !isW 0 1 x) id (by rw [List.map_id]; exact Itr.row rfl hr) fun x hx => ?_]
      · simp
      · simp [F_is_whole_eq]
    by_cases hz : (xs.length : Int) < 1
    · have hz' : ¬ (1 : Int) ≤ xs.length := by omega
      simp only [F_is_off, b_is_off, t_is_off_0]
      simp [F_is_row_eq, isOff, hr, x_len hr, hz, hz']
    · have hz' : (1 : Int) ≤ xs.length := by omega
      by_cases hy : (7 : Int) < xs.length
      · have hy' : ¬ (xs.length : Int) ≤ 7 := by omega
        simp only [F_is_off, b_is_off, t_is_off_0]
        simp [F_is_row_eq, isOff, hr, x_len hr, hz, hz', hy, hy']
      · have hy' : (xs.length : Int) ≤ 7 := by omega
        simp only [F_is_off, b_is_off, t_is_off_0]
        simp [F_is_row_eq, isOff, hr, x_len hr, hz, hz', hy, hy', hc, filter_not_empty]
def isPair (h : Hs) (many : Int) (d : D) : Bool := match rowOf h d with
  | some xs => risL 0 (many - 1) xs && decide ((xs.length : Int) = 2)
  | none => false
theorem F_is_pair_eq {many : Int} {d : D} {h : Hs} : F_is_pair [d, .int many] h = .ok (.bl (isPair h many d)) h := by
  cases hr : rowOf h d with
  | none => simp [F_is_pair, b_is_pair, F_is_rising_eq, isRis, isPair, hr]
  | some xs =>
    have e : ((xs.length : Int) == 2) = decide ((xs.length : Int) = 2) := by rw [Bool.eq_iff_iff]; simp
    cases hb : risL 0 (many - 1) xs <;> simp [F_is_pair, b_is_pair, F_is_rising_eq, isRis, isPair, hr, hb, x_len hr, e]
def prQ (p : Int × Int) : Q := .row [.int p.1, .int p.2]
theorem isPair_inv {h : Hs} {many : Int} {d : D} (e : isPair h many d = true) : ∃ p : Int × Int, rowOf h d = some [.int p.1, .int p.2] ∧ 0 ≤ p.1 ∧ p.1 < p.2 ∧ p.2 < many := by
  unfold isPair at e
  cases hr : rowOf h d with
  | none => rw [hr] at e; cases e
  | some xs =>
    rw [hr] at e
    simp only [Bool.and_eq_true, decide_eq_true_eq] at e
    obtain ⟨e1, e2⟩ := e
    match xs, e1, e2 with
    | [.int a, .int b], e1, _ =>
      simp [risL] at e1
      exact ⟨(a, b), rfl, by omega, by show a < b; omega, by show b < many; omega⟩
    | [.int a, .non], e1, _ => simp [risL] at e1
    | [.int a, .bl _], e1, _ => simp [risL] at e1
    | [.int a, .str _], e1, _ => simp [risL] at e1
    | [.int a, .tup _], e1, _ => simp [risL] at e1
    | [.int a, .lst _], e1, _ => simp [risL] at e1
    | [.int a, .scr _], e1, _ => simp [risL] at e1
    | [.int a, .dic _ _], e1, _ => simp [risL] at e1
    | [.int a, .loc _], e1, _ => simp [risL] at e1
    | [.non, _], e1, _ => simp [risL] at e1
    | [.bl _, _], e1, _ => simp [risL] at e1
    | [.str _, _], e1, _ => simp [risL] at e1
    | [.tup _, _], e1, _ => simp [risL] at e1
    | [.lst _, _], e1, _ => simp [risL] at e1
    | [.scr _, _], e1, _ => simp [risL] at e1
    | [.dic _ _, _], e1, _ => simp [risL] at e1
    | [.loc _, _], e1, _ => simp [risL] at e1
    | [], _, e2 => simp at e2
    | [_], _, e2 => simp at e2
    | _ :: _ :: _ :: _, _, e2 => simp at e2; omega
def pairOf (h : Hs) (d : D) : Int × Int := match rowOf h d with
  | some [.int a, .int b] => (a, b)
  | _ => (0, 0)
def arePairs (h : Hs) (many : Int) (d : D) : Bool := match rowOf h d with
  | some xs => xs.all (isPair h many) && adjB ltP (xs.map (pairOf h))
  | none => false
theorem vq_pairs {h : Hs} {many : Int} : ∀ xs : List D, xs.all (isPair h many) = true → xs.mapM (vq h 1) = some ((xs.map (pairOf h)).map prQ)
  | [], _ => rfl
  | x :: xs, e => by
    simp only [List.all_cons, Bool.and_eq_true] at e
    obtain ⟨p, hp, _⟩ := isPair_inv e.1
    have h1 : vq h 1 x = some (prQ p) := by rw [vq_row hp]; rfl
    have h2 : pairOf h x = p := by simp [pairOf, hp]
    rw [List.mapM_cons, h1, vq_pairs xs e.2]
    simp [h2]
theorem qDL_prs : ∀ ps : List (Int × Int), qDL (ps.map prQ) = ps.map prD
  | [] => rfl
  | p :: ps => by simp only [List.map_cons, qDL, qDL_prs ps]; rfl
theorem ndL_prs : ∀ ps : List (Int × Int), ndL (ps.map prQ) = true
  | [] => rfl
  | p :: ps => by simp [ndL, ndL_prs ps, prQ, Q.nd]
theorem ix_prs {ps : List (Int × Int)} {i : Int} {h : Hs} (h0 : 0 ≤ i) (h1 : i < ps.length) : ixD (.tup (ps.map prD)) (.int i) h = .ok (prD (ps.getD i.toNat (0, 0))) h := by
  rw [ix_mem (xs := ps.map prD) rfl h0 (by simpa using h1)]
  simp [List.getD, List.getElem?_eq_getElem (show i.toNat < ps.length by omega)]
theorem F_are_pairs_eq {many : Int} {d : D} {h : Hs} (hz : ∀ xs, rowOf h d = some xs → xs.length ≤ 100000 ∧ xs.all (isPair h many) = true) : F_are_pairs [d, .int many] h = .ok (.bl (arePairs h many d)) h := by
  cases hr : rowOf h d with
  | none => simp [F_are_pairs, b_are_pairs, F_is_row_eq, arePairs, hr]
  | some xs =>
    obtain ⟨hl, ha⟩ := hz xs hr
    have hc : eComp false [2] (iRow (eVar 0)) (gVar 2) (tNotF (tV (eCall 2 F_is_pair (aCons (eVar 2) (aCons (eVar 1) aNil))))) (eVar 2) [some d, some (.int many), none, none, none] h = .ok (.lst (xs.filter fun x => !isPair h many x)) h := by
      rw [comp_ty (em := id) (fun x => !isPair h many x) id (by rw [List.map_id]; exact Itr.row rfl hr) fun x hx => ?_]
      · simp
      · simp [F_is_pair_eq]
    have hfe := filter_not_empty (isPair h many) xs
    rw [ha] at hfe
    have hfe : xs.filter (fun x => !isPair h many x) = [] := List.isEmpty_iff.mp hfe
    rw [hfe] at hc
    have hne : eqD true (.lst []) (.lst []) h = .ok (.bl false) h := by rw [show D.lst [] = iL [] from rfl, eq_iL]; rfl
    have hv := vq_pairs xs ha
    have ht := F_told_eq 2 d (.row ((xs.map (pairOf h)).map prQ)) h 45 (by omega) (by rw [vq_row hr, hv]; rfl) (by rw [Q.nd]; exact ndL_prs _)
    have hq : qD (.row ((xs.map (pairOf h)).map prQ)) = .tup ((xs.map (pairOf h)).map prD) := by rw [qD, qDL_prs]
    rw [hq] at ht
    have hpl : (xs.map (pairOf h)).length = xs.length := List.length_map _
    have har : arePairs h many d = adjB ltP (xs.map (pairOf h)) := by simp [arePairs, hr, ha]
    rw [har]
    generalize xs.map (pairOf h) = ps at *
    have hi : Itr (iRng2 (aCons (eC (.int 1)) (aCons (eB lenD (aCons (eVar 3) aNil)) aNil))) [some d, some (.int many), none, some (.tup (ps.map prD)), none] h h ((List.range' 1 (ps.length - 1)).map fun (k : Nat) => .int (k : Int)) := by
      have := Itr.rng2 (f := aCons (eC (.int 1)) (aCons (eB lenD (aCons (eVar 3) aNil)) aNil)) (s := [some d, some (.int many), none, some (.tup (ps.map prD)), none]) (h := h) (h1 := h) (m := 1) (n := ps.length) (by simp) (by omega) (by omega) (by omega) (by omega)
      rw [show ((ps.length : Int) - 1).toNat = ps.length - 1 by omega, rgI_range', List.map_map] at this
      exact this
    have hc2 : eComp false [4] (iRng2 (aCons (eC (.int 1)) (aCons (eB lenD (aCons (eVar 3) aNil)) aNil))) (gVar 4) (tV (eBin geT (eBin ixD (eVar 3) (eBin subD (eVar 4) (eC (.int 1)))) (eBin ixD (eVar 3) (eVar 4)))) (eVar 4) [some d, some (.int many), none, some (.tup (ps.map prD)), none] h = .ok (iL (((List.range' 1 (ps.length - 1)).filter fun k => !ltP (ps.getD (k - 1) (0, 0)) (ps.getD k (0, 0))).map fun (k : Nat) => (k : Int))) h := by
      rw [comp_ty (fun k => !ltP (ps.getD (k - 1) (0, 0)) (ps.getD k (0, 0))) (fun (k : Nat) => .int (k : Int)) hi fun k hk => ?_]
      · simp [iL, Function.comp_def]
      · rw [List.mem_range'_1] at hk
        have i1 := ix_prs (h := h) (ps := ps) (i := (k : Int)) (by omega) (by omega)
        have i2 := ix_prs (h := h) (ps := ps) (i := (k : Int) - 1) (by omega) (by omega)
        have e2 : ((k : Int) - 1).toNat = k - 1 := by omega
        have e1 : (k : Int).toNat = k := by omega
        rw [e1] at i1; rw [e2] at i2
        generalize ps.getD (k - 1) (0, 0) = b at *
        generalize ps.getD k (0, 0) = a at *
        refine ⟨_, rfl, ?_, fun _ => by simp⟩
        have : decide (a.1 < b.1 ∨ (b.1 = a.1 ∧ a.2 ≤ b.2)) = !ltP b a := by
          rw [Bool.eq_iff_iff]; simp [ltP]; omega
        simp [i1, i2, this]
    have hall := adjB_all (r := ltP) (z := (0, 0)) ps
    rw [← filter_not_empty] at hall
    have hz2 : ∀ ks : List Nat, eqD false (iL (ks.map fun (k : Nat) => (k : Int))) (.lst []) h = .ok (.bl ks.isEmpty) h := fun ks => by
      rw [show D.lst [] = iL [] from rfl, eq_iL]
      cases ks <;> simp
    simp only [F_are_pairs, b_are_pairs, t_are_pairs_0]
    simp [F_is_row_eq, hr, hc, hne, ht, hc2, hz2, hall]
def isTask (h : Hs) (d : D) : Bool := match rowOf h d with
  | some [n, w, o, l, p] => isNums h n && isW 1 2 w && isOff h o && isRis h 0 ((((rowOf h n).getD []).length : Int) - 1) l && arePairs h (((rowOf h n).getD []).length : Int) p
  | _ => false
theorem F_is_task_eq {d : D} {h : Hs} (hz : ∀ n w o l p xs, rowOf h d = some [n, w, o, l, p] → rowOf h p = some xs → xs.length ≤ 100000 ∧ xs.all (isPair h (((rowOf h n).getD []).length : Int)) = true) : F_is_task [d] h = .ok (.bl (isTask h d)) h := by
  cases hr : rowOf h d with
  | none => simp [F_is_task, b_is_task, F_is_row_eq, isTask, hr]
  | some xs =>
    by_cases h5 : (xs.length : Int) = 5
    · match xs, h5 with
      | [n, w, o, l, p], _ =>
        have hap := F_are_pairs_eq (many := (((rowOf h n).getD []).length : Int)) (d := p) (h := h) fun xs hx => hz n w o l p xs hr hx
        cases hn : isNums h n with
        | false => simp [F_is_task, b_is_task, F_is_row_eq, isTask, hr, x_len hr, F_is_numbers_eq, hn]
        | true =>
          have hrn : ∃ ys, rowOf h n = some ys := by
            unfold isNums at hn
            cases q : rowOf h n with
            | none => rw [q] at hn; cases hn
            | some ys => exact ⟨ys, rfl⟩
          obtain ⟨ys, hy⟩ := hrn
          rw [hy, Option.getD_some] at hap
          cases hw : isW 1 2 w with
          | false => simp [F_is_task, b_is_task, F_is_row_eq, isTask, hr, x_len hr, F_is_numbers_eq, hn, F_is_whole_eq, hw]
          | true =>
            cases ho : isOff h o with
            | false => simp [F_is_task, b_is_task, F_is_row_eq, isTask, hr, x_len hr, F_is_numbers_eq, hn, F_is_whole_eq, hw, F_is_off_eq, ho]
            | true =>
              cases hl : isRis h 0 ((ys.length : Int) - 1) l <;> simp [F_is_task, b_is_task, F_is_row_eq, isTask, hr, x_len hr, F_is_numbers_eq, hn, F_is_whole_eq, hw, F_is_off_eq, ho, hy, x_len hy, F_is_rising_eq, hl, hap]
    · have : ∀ (n w o l p : D), xs ≠ [n, w, o, l, p] := fun n w o l p e => h5 (by rw [e]; rfl)
      have hf : isTask h d = false := by
        unfold isTask
        rw [hr]
        split
        · rename_i e; exact absurd (Option.some.inj e) (this _ _ _ _ _)
        · rfl
      simp [F_is_task, b_is_task, F_is_row_eq, hf, hr, x_len hr, h5]
structure Tk where
  ns : List Int
  hands : Int
  off : List Int
  lg : List Int
  tied : List (Int × Int)
def Tk.Q (t : Tk) : Q := .row [dayQ t.ns, .int t.hands, dayQ t.off, dayQ t.lg, .row (t.tied.map prQ)]
def Tk.D (t : Tk) : D := .tup [iT t.ns, .int t.hands, iT t.off, iT t.lg, .tup (t.tied.map prD)]
structure Tk.Ok (t : Tk) : Prop where
  num : NumOk t.ns
  hnd : t.hands = 1 ∨ t.hands = 2
  off1 : 1 ≤ t.off.length
  off7 : t.off.length ≤ 7
  offs : ∀ x ∈ t.off, x = 0 ∨ x = 1
  lng : risL 0 ((t.ns.length : Int) - 1) (t.lg.map D.int) = true
  prs : ∀ p ∈ t.tied, 0 ≤ p.1 ∧ p.1 < p.2 ∧ p.2 < t.ns.length
  inc : adjB ltP t.tied = true
  few : t.tied.length ≤ 1000
theorem qDL_ints : ∀ ns : List Int, qDL (ns.map .int) = ns.map D.int
  | [] => rfl
  | n :: ns => by simp only [List.map_cons, qDL, qDL_ints ns]; rfl
theorem qD_day' (ns : List Int) : qD (dayQ ns) = iT ns := by simp only [dayQ, qD, qDL_ints]; rfl
theorem qD_tk (t : Tk) : qD t.Q = t.D := by
  simp only [Tk.Q, Tk.D, qD, qDL, qD_day', qDL_prs]
theorem ndL_ints : ∀ ns : List Int, ndL (ns.map .int) = true
  | [] => rfl
  | n :: ns => by simp [ndL, ndL_ints ns, Q.nd]
theorem nd_tk (t : Tk) : t.Q.nd = true := by
  simp [Tk.Q, Q.nd, ndL, dayQ, ndL_ints, ndL_prs]
theorem mapM_prs {h : Hs} {n : Nat} : ∀ {xs : List D} {ps : List (Int × Int)}, xs.mapM (vq h n) = some (ps.map prQ) → xs.map (pairOf h) = ps ∧ ∀ x ∈ xs, ∃ p ∈ ps, rowOf h x = some [.int p.1, .int p.2]
  | [], ps, e => by
    cases ps with
    | nil => exact ⟨rfl, by simp⟩
    | cons p ps => cases e
  | x :: xs, ps, e => by
    obtain ⟨y, ys, h1, h2, h3⟩ := mapM_cons_some e
    cases ps with
    | nil => cases h3
    | cons p ps =>
      simp only [List.map_cons, List.cons.injEq] at h3
      obtain ⟨rfl, rfl⟩ := h3
      obtain ⟨i1, i2⟩ := mapM_prs h2
      have hx : rowOf h x = some [.int p.1, .int p.2] := by
        rcases vq_inv h1 with ⟨_, q⟩ | ⟨m, ys, qs, _, hr, hm, hq⟩
        · exact q.elim
        · simp only [prQ, Q.row.injEq] at hq
          subst hq
          have := mapM_ints_vq (ns := [p.1, p.2]) hm
          rw [hr, this]; rfl
      refine ⟨by simp [pairOf, hx, ← i1], fun z hz => ?_⟩
      rcases List.mem_cons.mp hz with rfl | hz
      · exact ⟨p, List.mem_cons_self, hx⟩
      · obtain ⟨p', hp, e'⟩ := i2 z hz
        exact ⟨p', List.mem_cons_of_mem _ hp, e'⟩
theorem mapM_view {α β : Type} {f : α → Option β} {xs : List α} {q : β} {qs : List β} (e : xs.mapM f = some (q :: qs)) : ∃ y ys, f y = some q ∧ ys.mapM f = some qs ∧ xs = y :: ys := by
  cases xs with
  | nil => cases e
  | cons x xs =>
    obtain ⟨y, ys, h1, h2, h3⟩ := mapM_cons_some e
    simp only [List.cons.injEq] at h3
    obtain ⟨rfl, rfl⟩ := h3
    exact ⟨x, xs, h1, h2, rfl⟩
theorem tk_inv {h : Hs} {n : Nat} {d : D} {t : Tk} (e : vq h n d = some t.Q) : ∃ a o l p xs, rowOf h d = some [a, .int t.hands, o, l, p] ∧ rowOf h a = some (t.ns.map D.int) ∧ rowOf h o = some (t.off.map D.int) ∧ rowOf h l = some (t.lg.map D.int) ∧
    rowOf h p = some xs ∧ xs.map (pairOf h) = t.tied ∧ ∀ x ∈ xs, ∃ p ∈ t.tied, rowOf h x = some [.int p.1, .int p.2] := by
  rcases vq_inv e with ⟨_, q⟩ | ⟨m, xs, qs, _, hr, hm, hq⟩
  · exact q.elim
  · simp only [Tk.Q, Q.row.injEq] at hq
    subst hq
    obtain ⟨y1, ys1, a1, m1, e1⟩ := mapM_view hm
    obtain ⟨y2, ys2, a2, m2, e2⟩ := mapM_view m1
    obtain ⟨y3, ys3, a3, m3, e3⟩ := mapM_view m2
    obtain ⟨y4, ys4, a4, m4, e4⟩ := mapM_view m3
    obtain ⟨y5, ys5, a5, m5, e5⟩ := mapM_view m4
    have e6 := mapM_len m5
    have e6 : ys5 = [] := List.length_eq_zero_iff.mp e6
    subst e6 e5 e4 e3 e2 e1
    obtain ⟨_, _, r1⟩ := dayQ_inv a1
    obtain ⟨_, _, r3⟩ := dayQ_inv a3
    obtain ⟨_, _, r4⟩ := dayQ_inv a4
    have r2 : y2 = .int t.hands := by
      rcases vq_inv a2 with ⟨_, q⟩ | ⟨_, _, _, _, _, _, q⟩
      · exact q
      · cases q
    subst r2
    rcases vq_inv a5 with ⟨_, q⟩ | ⟨k, xs, qs, _, hr5, hm5, hq5⟩
    · exact q.elim
    · simp only [Q.row.injEq] at hq5
      subst hq5
      obtain ⟨i1, i2⟩ := mapM_prs hm5
      exact ⟨y1, y3, y4, y5, xs, hr, r1, r3, r4, hr5, i1, i2⟩
theorem isTask_ok {h : Hs} {n : Nat} {d : D} {t : Tk} (e : vq h n d = some t.Q) (ht : t.Ok) : isTask h d = true := by
  obtain ⟨a, o, l, p, xs, hr, r1, r3, r4, r5, i1, i2⟩ := tk_inv e
  have h1 := isNums_ok r1 ht.num
  have h2 : isW 1 2 (.int t.hands) = true := by
    have := ht.hnd
    simp; omega
  have h3 : isOff h o = true := by
    have q1 := ht.off1
    have q2 := ht.off7
    simp only [isOff, r3, Bool.and_eq_true, decide_eq_true_eq, List.all_eq_true, List.length_map]
    refine ⟨⟨by omega, by omega⟩, fun x hx => ?_⟩
    obtain ⟨z, hz, rfl⟩ := List.mem_map.mp hx
    rcases ht.offs z hz with rfl | rfl <;> rfl
  have h4 : isRis h 0 ((t.ns.length : Int) - 1) l = true := by simp only [isRis, r4]; exact ht.lng
  have h5 : arePairs h (t.ns.length : Int) p = true := by
    simp only [arePairs, r5, i1, ht.inc, Bool.and_true, List.all_eq_true]
    intro x hx
    obtain ⟨q, hq, rq⟩ := i2 x hx
    have := ht.prs q hq
    simp [isPair, rq, risL]
    omega
  simp [isTask, hr, r1, h1, h2, h3, h4, h5]
theorem F_asked_task_eq {h : Hs} {n : Nat} {d : D} {t : Tk} (e : vq h n d = some t.Q) (hn : n ≤ 40) (ht : t.Ok) : F_asked_task [d] h = .ok t.D h := by
  have h1 := isTask_ok e ht
  obtain ⟨a, o, l, p, xs, hr, r1, r3, r4, r5, i1, i2⟩ := tk_inv e
  have h3 := F_is_task_eq (d := d) (h := h) fun n' w' o' l' p' ys hd hp => by
    rw [hr] at hd
    simp only [Option.some.injEq, List.cons.injEq, and_true] at hd
    obtain ⟨rfl, _, _, _, rfl⟩ := hd
    rw [r5] at hp
    cases hp
    have := ht.few
    rw [← i1, List.length_map] at this
    refine ⟨by omega, List.all_eq_true.mpr fun x hx => ?_⟩
    obtain ⟨q, hq, rq⟩ := i2 x hx
    have := ht.prs q hq
    rw [r1]
    simp [isPair, rq, risL]
    omega
  rw [h1] at h3
  have h2 := F_told_eq n d t.Q h 45 (by omega) e (nd_tk t)
  rw [qD_tk] at h2
  have hu : (t.D).und h.length = true := by rw [← qD_tk]; exact und_qD _ _
  simp [F_asked_task, b_asked_task, h3, h2, exitT_same hu]

end WD
namespace WD
open PySem PySem.Spec PyProof.Rows L2
/-- a deck at place n, all else as in h -/
def hd (n : Nat) (dk : List Int) (h : Hs) : Hs := h.set n (.lst (dk.map D.int))
@[simp] theorem hd_len {n : Nat} {dk : List Int} {h : Hs} : (hd n dk h).length = h.length := by simp [hd]
@[simp] theorem hd_hd {n : Nat} {dk dk' : List Int} {h : Hs} : hd n dk' (hd n dk h) = hd n dk' h := by simp [hd]
theorem hd_at {n : Nat} {dk : List Int} {h t : Hs} (hn : n < h.length) : locAt (hd n dk h ++ t) n = some (dk.map D.int) := by
  unfold locAt hd
  rw [List.getElem?_append_left (by simpa using hn), List.getElem?_set_self hn]; rfl
theorem hd_at0 {n : Nat} {dk : List Int} {h : Hs} (hn : n < h.length) : locAt (hd n dk h) n = some (dk.map D.int) := by
  have := hd_at (dk := dk) (t := []) hn
  simpa using this
theorem hd_set {n : Nat} {dk dk' : List Int} {h t : Hs} (hn : n < h.length) : (hd n dk h ++ t).set n (.lst (dk'.map D.int)) = hd n dk' h ++ t := by
  unfold hd
  rw [List.set_append_left _ _ (by simpa using hn), List.set_set]
theorem hd_other {n m : Nat} {dk : List Int} {h : Hs} (hm : m ≠ n) : locAt (hd n dk h) m = locAt h m := by
  unfold locAt hd
  rw [List.getElem?_set_ne (Ne.symm hm)]
theorem hd_self {n : Nat} {dk : List Int} {h : Hs} (e : locAt h n = some (dk.map D.int)) : hd n dk h = h := set_same e
theorem hd_trunc {n : Nat} {dk : List Int} {h t : Hs} : TruncOk h.length h (hd n dk h ++ t) := fun i o hi e => by
  rw [List.getElem?_append_left (by simpa using hi)] at e
  unfold hd at e
  by_cases hin : n = i
  · subst hin
    rw [List.getElem?_set_self hi] at e
    cases e
    exact .inr und_O_ints
  · rw [List.getElem?_set_ne hin] at e
    exact .inl e
theorem exitT_hd {n : Nat} {dk : List Int} {h t : Hs} {d : D} (hd' : d.und h.length = true) : exitT h d (hd n dk h ++ t) = .ok d (hd n dk h) := by
  unfold exitT
  rw [if_pos hd_trunc]
  unfold frz1
  rw [if_pos hd']
  dsimp only
  rw [List.take_append_of_le_length (by simp), List.take_of_length_le (by simp)]
theorem exitT_hd0 {n : Nat} {dk : List Int} {h : Hs} {d : D} (hu : d.und h.length = true) : exitT h d (hd n dk h) = .ok d (hd n dk h) := by
  have := exitT_hd (n := n) (dk := dk) (t := []) hu
  simpa using this
theorem exitT_hdF {n m : Nat} {dk : List Int} {h t : Hs} {xs : List D} (hm : h.length ≤ m) (e : locAt (hd n dk h ++ t) m = some xs) (hx : undL h.length xs = true) : exitT h (.loc m) (hd n dk h ++ t) = .ok (.lst xs) (hd n dk h) := by
  unfold exitT
  rw [if_pos hd_trunc]
  unfold frz1
  rw [if_neg (by simp [D.und]; omega)]
  simp only [e, hx, if_true]
  rw [List.take_append_of_le_length (by simp), List.take_of_length_le (by simp)]
/-- the cell's worth -/
theorem F_cell_eq {ns : List Int} {k : Nat} {h : Hs} (hk : k ≤ 1000000) : ∃ v : Int, F__law_cell [.scr (ns.map D.int), .int k] h = .ok (.int v) h := by
  have b1 : -18446744073709551616 < (k : Int) := by omega
  have b2 : (k : Int) < 18446744073709551616 := by omega
  have hl : lenD [.scr (ns.map D.int)] h = .ok (.int ns.length) h := by rw [x_len (d := .scr (ns.map D.int)) rfl]; simp
  by_cases hlt : k < ns.length
  · have hix := ix_ints (h := h) (d := .scr (ns.map D.int)) (ns := ns) (i := (k : Int)) rfl (by omega) (by omega)
    generalize ns.getD (k : Int).toNat 0 = v at hix
    exact ⟨v, by simp [F__law_cell, b__law_cell, hl, hlt, hix]⟩
  · cases ns with
    | nil =>
      simp at hl
      have hk0 : ¬ (k : Int) < 0 := by omega
      exact ⟨80021 + 941 * k * k, by simp [hk0, F__law_cell, b__law_cell, hl, hlt, b1, b2]⟩
    | cons a ns =>
      have hix := ix_ints (h := h) (d := .scr ((a :: ns).map D.int)) (ns := a :: ns) (i := 0) rfl (by omega) (by simp)
      have hm : -18446744073709551616 < a % 99991 ∧ a % 99991 < 18446744073709551616 := by omega
      refine ⟨80021 + 941 * k * k + a % 99991 * (2 * k + 5), ?_⟩
      simp at hix hl hlt
      have hlt2 : ¬ (k : Int) < (ns.length : Int) + 1 := by omega
      simp [F__law_cell, b__law_cell, hl, hlt2, b1, b2, hix, hm]
theorem F_next_eq {n : Nat} {dk : List Int} {h t : Hs} (hn : n < h.length) : ∃ (x : Int) (dk' : List Int), F__law_next [.loc n] (hd n dk h ++ t) = .ok (.int x) (hd n dk' h ++ t) := by
  have hl := x_len (d := .loc n) (hd_at (dk := dk) (t := t) hn)
  have hll : (hd n dk h ++ t).length = h.length + t.length := by simp
  cases hdk : dk.length with
  | zero =>
    obtain rfl : dk = [] := List.eq_nil_of_length_eq_zero hdk
    refine ⟨0, [], ?_⟩
    simp at hl
    simp [F__law_next, b__law_next, hl, exitT_same]
  | succ m =>
    obtain ⟨dk1, d, rfl⟩ := split_last (l := dk) (by omega)
    have hp : popD (.loc n) [] (hd n (dk1 ++ [d]) h ++ t) = .ok (.int d) (hd n dk1 h ++ t) := by
      simp only [popD, hd_at (dk := dk1 ++ [d]) (t := t) hn]
      simp [hd_set hn]
    have hlo : lstOf (hd n (dk1 ++ [d]) h ++ t) (.loc n) = some ((dk1 ++ [d]).map D.int) := hd_at hn
    have hb : hd n dk1 h ++ t = hd n dk1 (hd n (dk1 ++ [d]) h ++ t) := by
      have := hd_set (dk := dk1 ++ [d]) (dk' := dk1) (t := t) hn
      rw [← this]; rfl
    refine ⟨d, dk1, ?_⟩
    have hex : exitT (hd n (dk1 ++ [d]) h ++ t) (.int d) (hd n dk1 h ++ t) = .ok (.int d) (hd n dk1 h ++ t) := by
      rw [hb]; exact exitT_hd0 rfl
    generalize hd n (dk1 ++ [d]) h ++ t = H1 at *
    generalize hd n dk1 h ++ t = H2 at *
    have hpos : (0 : Int) < ((dk1 ++ [d]).map D.int).length := by simp
    simp only [F__law_next, b__law_next, x_run]
    simp at hl hlo
    simp [hl, hlo, hp, hex]
theorem drawsA_loop {s0 s1 s2 : D} {g : Hs} : ∀ (ks : List Int) (dk : List Int) (left : Int), dk.length + ks.length ≤ 100000 → ∃ (dk' : List Int) (left' : Int), dk'.length = dk.length + ks.length ∧
    loopS (gVar 5) k__law_draws_2a_0 (ks.map D.int) [some s0, some s1, some s2, some (.loc g.length), some (.int left), none, none] (g ++ [.lst (dk.map D.int)]) = .nx [some s0, some s1, some s2, some (.loc g.length), some (.int left'), none, none] (g ++ [.lst (dk'.map D.int)])
  | [], dk, left, _ => ⟨dk, left, by simp, rfl⟩
  | k :: ks, dk, left, hz => by
    simp only [List.length_cons] at hz
    obtain ⟨dk', left', h1, h2⟩ := drawsA_loop (s0 := s0) (s1 := s1) (s2 := s2) (g := g) ks (dk ++ [left % 10000]) (left / 10000) (by simp; omega)
    have ha := app_last (g := g) (xs := dk.map D.int) (d := .int (left % 10000)) (by simp; omega)
    refine ⟨dk', left', by simp at h1 ⊢; omega, ?_⟩
    refine (loop_nx (s1 := [some s0, some s1, some s2, some (.loc g.length), some (.int left), some (.int k), none]) rfl ?_).trans h2
    simp [ha]
theorem drawsB_loop {ns : List Int} {at_ : Nat} {s2 left : D} {g : Hs} (hat : at_ ≤ 10000) : ∀ (ks : List Int) (dk : List Int) (draw : Int), (∀ k ∈ ks, 0 ≤ k ∧ k ≤ 100000) → dk.length + ks.length ≤ 100000 → ∃ (dk' : List Int) (draw' : Int), dk'.length = dk.length + ks.length ∧
    loopS (gVar 5) k__law_draws_4 (ks.map D.int) [some (.scr (ns.map D.int)), some (.int at_), some s2, some (.loc g.length), some left, none, some (.int draw)] (g ++ [.lst (dk.map D.int)]) = .nx [some (.scr (ns.map D.int)), some (.int at_), some s2, some (.loc g.length), some left, none, some (.int draw')] (g ++ [.lst (dk'.map D.int)])
  | [], dk, draw, _, _ => ⟨dk, draw, by simp, rfl⟩
  | k :: ks, dk, draw, hk, hz => by
    simp only [List.length_cons] at hz
    obtain ⟨k0, k1⟩ := hk k List.mem_cons_self
    obtain ⟨v, hv⟩ := F_cell_eq (ns := ns) (k := at_ + 1 + (k % 30).toNat) (h := g ++ [.lst (dk.map D.int)]) (by omega)
    have hc : ((at_ + 1 + (k % 30).toNat : Nat) : Int) = (at_ : Int) + 1 + k % 30 := by omega
    rw [hc] at hv
    have hd1 : ∀ c : Int, -18446744073709551616 < c % 2147483629 ∧ c % 2147483629 < 18446744073709551616 := fun c => by omega
    have b1 : -18446744073709551616 < k := by omega
    have b2 : k < 18446744073709551616 := by omega
    obtain ⟨dk', draw', h1, h2⟩ := drawsB_loop (ns := ns) (s2 := s2) (left := left) (g := g) hat ks (dk ++ [(((draw * 48271 + v + k * k + 7) % 2147483629) * 39373 + 11 * k) % 2147483647 / 16]) ((draw * 48271 + v + k * k + 7) % 2147483629) (fun j hj => hk j (List.mem_cons_of_mem _ hj)) (by simp; omega)
    have ha := app_last (g := g) (xs := dk.map D.int) (d := .int ((((draw * 48271 + v + k * k + 7) % 2147483629) * 39373 + 11 * k) % 2147483647 / 16)) (by simp; omega)
    refine ⟨dk', draw', by simp at h1 ⊢; omega, ?_⟩
    refine (loop_nx (s1 := [some (.scr (ns.map D.int)), some (.int at_), some s2, some (.loc g.length), some left, some (.int k), some (.int draw)]) rfl ?_).trans h2
    simp [hv, hd1, b1, b2, ha]
theorem exitM_end {g : Hs} {xs : List D} (hx : undL g.length xs = true) : exitM g g.length (g ++ [.lst xs]) = .ok (.loc g.length) (g ++ [.lst xs]) := by
  unfold exitM
  rw [if_pos ⟨fun i o hi e => .inl (by rw [List.getElem?_append_left hi] at e; exact e), Nat.le_refl _⟩, locAt_end]
  simp [hx]
theorem F_next_0 {n : Nat} {dk : List Int} {h : Hs} (hn : n < h.length) : ∃ (x : Int) (dk' : List Int), F__law_next [.loc n] (hd n dk h) = .ok (.int x) (hd n dk' h) := by
  obtain ⟨x, dk', e⟩ := F_next_eq (dk := dk) (t := []) hn
  exact ⟨x, dk', by simpa using e⟩

end WD
namespace WD
open PySem PySem.Spec PyProof.Rows L2
theorem F_draws_eq {ns : List Int} {at_ many : Nat} {g : Hs} (hat : at_ ≤ 10000) (hm : many ≤ 10000) : ∃ dk : List Int, dk.length = many ∧ F__law_draws [.scr (ns.map D.int), .int at_, .int many] g = .ok (.loc g.length) (g ++ [.lst (dk.map D.int)]) := by
  obtain ⟨v, hv⟩ := F_cell_eq (ns := ns) (k := at_) (h := g ++ [.lst []]) (by omega)
  have fin : ∀ dk : List Int, dk.length = many → b__law_draws [some (.scr (ns.map D.int)), some (.int at_), some (.int many), none, none, none, none] g = .rt (.loc g.length) (g ++ [.lst (dk.map D.int)]) → ∃ dk : List Int, dk.length = many ∧ F__law_draws [.scr (ns.map D.int), .int at_, .int many] g = .ok (.loc g.length) (g ++ [.lst (dk.map D.int)]) := fun dk hl hb => by
    refine ⟨dk, hl, ?_⟩
    simp only [F__law_draws, x_run, List.length_cons, List.length_nil]
    simp only [Nat.zero_add, Nat.reduceAdd, if_true, List.map_cons, List.map_nil, Nat.reduceSub, List.replicate, List.cons_append, List.nil_append, hb]
    exact exitM_end (by simp)
  generalize hw : (if v > 0 then v else 0) = w
  by_cases hbig : 1000000000000000000 ≤ w
  · obtain ⟨dk, left, h1, h2⟩ := drawsA_loop (s0 := .scr (ns.map D.int)) (s1 := .int at_) (s2 := .int many) (g := g) (rgI 0 many) [] w (by simp; omega)
    have hf : sFor (iRng1 (aCons (eVar 2) aNil)) (gVar 5) k__law_draws_2a_0 [some (.scr (ns.map D.int)), some (.int at_), some (.int many), some (.loc g.length), some (.int w), none, none] (g ++ [.lst []]) = _ := (for_rng (n := many) rfl (by omega) (by omega)).trans h2
    have hlo : lstOf (g ++ [.lst (dk.map D.int)]) (.loc g.length) = some (dk.map D.int) := locAt_end
    refine fin dk (by simpa using h1) ?_
    simp [b__law_draws, hv, hw, hbig, hf]
  · obtain ⟨dk, draw, h1, h2⟩ := drawsB_loop (ns := ns) (s2 := .int many) (left := .int w) (g := g) hat (rgI 0 many) [] (w % 2147483647 * 48271 % 2147483647) (fun k hk => by have := rgI_bd hk; omega) (by simp; omega)
    have hf : sFor (iRng1 (aCons (eVar 2) aNil)) (gVar 5) k__law_draws_4 [some (.scr (ns.map D.int)), some (.int at_), some (.int many), some (.loc g.length), some (.int w), none, some (.int (w % 2147483647 * 48271 % 2147483647))] (g ++ [.lst []]) = _ := (for_rng (n := many) rfl (by omega) (by omega)).trans h2
    have hm : -18446744073709551616 < w % 2147483647 ∧ w % 2147483647 < 18446744073709551616 := by omega
    refine fin dk (by simpa using h1) ?_
    simp [b__law_draws, hv, hw, hbig, hf, hm]

end WD
namespace WD
open PySem PySem.Spec PyProof.Rows L2
theorem shl_one {k : Nat} {h : Hs} (hk : k ≤ 100) : shlD (.int 1) (.int k) h = .ok (.int (2 ^ k : Nat)) h := by
  have e := x_sl1 (h := h) (i := 1) (j := k) (by omega) (by omega) (by omega) (by omega)
  simpa using e
theorem two_pow_bd {k : Nat} (hk : k ≤ 8) : 0 < ((2 ^ k : Nat) : Int) ∧ ((2 ^ k : Nat) : Int) ≤ 256 := by
  have h1 : 2 ^ k ≤ 2 ^ 8 := Nat.pow_le_pow_right (by omega) hk
  have h2 : 0 < 2 ^ k := Nat.pow_pos (by omega)
  omega
theorem ris_filter {hi : Int} (p : Int → Bool) : ∀ (n : Nat) (lo : Int), (n : Int) ≤ hi + 1 - lo → risL lo hi (((rgI lo n).filter p).map D.int) = true := by
  have key : ∀ (l : List Int) (lo : Int), l.Pairwise (· < ·) → (∀ x ∈ l, lo ≤ x ∧ x ≤ hi) → risL lo hi (l.map D.int) = true := by
    intro l
    induction l with
    | nil => intro lo _ _; rfl
    | cons a l ih =>
      intro lo hp hb
      obtain ⟨h1, h2⟩ := List.pairwise_cons.mp hp
      have h3 := hb a List.mem_cons_self
      simp only [List.map_cons, risL, Bool.and_eq_true, isW_int, decide_eq_true_eq]
      refine ⟨by simpa using h3, ih (a + 1) h2 fun x hx => ?_⟩
      have h4 := h1 x hx
      have h5 := hb x (List.mem_cons_of_mem _ hx)
      exact ⟨by omega, h5.2⟩
  intro n lo hn
  refine key _ lo ((rg_srt _ _).sublist List.filter_sublist) fun x hx => ?_
  have := rgI_bd (List.mem_filter.mp hx).1
  omega
/-- the heap H1 with other draws at n -/
structure Dw (n : Nat) (H1 H2 : Hs) : Prop where
  ex : ∃ dk' : List Int, H2 = hd n dk' H1
theorem Dw.exit {n : Nat} {H1 H2 : Hs} (w : Dw n H1 H2) {d : D} (hd' : d.und H1.length = true) : exitT H1 d H2 = .ok d H2 := by
  obtain ⟨dk, rfl⟩ := w.ex
  exact exitT_hd0 hd'
theorem Dw.exitA {n : Nat} {H1 H2 t : Hs} (w : Dw n H1 H2) {d : D} (hd' : d.und H1.length = true) : exitT H1 d (H2 ++ t) = .ok d H2 := by
  obtain ⟨dk, rfl⟩ := w.ex
  exact exitT_hd hd'
theorem Dw.len {n : Nat} {H1 H2 : Hs} (w : Dw n H1 H2) : H2.length = H1.length := by
  obtain ⟨dk, rfl⟩ := w.ex
  simp
theorem Dw.trans {n : Nat} {H1 H2 H3 : Hs} (w : Dw n H1 H2) (v : Dw n H2 H3) : Dw n H1 H3 := by
  obtain ⟨dk, rfl⟩ := w.ex
  obtain ⟨dk', rfl⟩ := v.ex
  exact ⟨dk', by simp⟩
theorem Dw.of {n : Nat} {dk dk' : List Int} {h t : Hs} (hn : n < h.length) : Dw n (hd n dk h ++ t) (hd n dk' h ++ t) := ⟨dk', by
  have := hd_set (dk := dk) (dk' := dk') (t := t) hn
  rw [← this]; rfl⟩
/-- draws lie at n -/
structure Dk (n : Nat) (H : Hs) : Prop where
  ex : ∃ dk : List Int, locAt H n = some (dk.map D.int)
theorem Dk.app {n : Nat} {H t : Hs} (k : Dk n H) : Dk n (H ++ t) := by
  obtain ⟨dk, e⟩ := k.ex
  exact ⟨dk, by rw [locAt_app (locAt_lt e)]; exact e⟩
theorem Dk.next {n : Nat} {H : Hs} (k : Dk n H) : ∃ (x : Int) (H2 : Hs), Dw n H H2 ∧ Dk n H2 ∧ F__law_next [.loc n] H = .ok (.int x) H2 := by
  obtain ⟨dk, e⟩ := k.ex
  have hn := locAt_lt e
  obtain ⟨x, dk', q⟩ := F_next_0 (dk := dk) (h := H) hn
  rw [hd_self e] at q
  exact ⟨x, hd n dk' H, ⟨dk', rfl⟩, ⟨dk', hd_at0 hn⟩, q⟩
theorem Dk.cut {n : Nat} {H t : Hs} (k : Dk n (H ++ t)) (hn : n < H.length) : Dk n H := by
  obtain ⟨dk, e⟩ := k.ex
  rw [locAt_app hn] at e
  exact ⟨dk, e⟩
theorem Dw.cut {n : Nat} {H t H2 : Hs} (w : Dw n (H ++ t) H2) (hn : n < H.length) : ∃ H3, H2 = H3 ++ t ∧ Dw n H H3 := by
  obtain ⟨dk, rfl⟩ := w.ex
  exact ⟨hd n dk H, by simp [hd, List.set_append_left _ _ hn], ⟨dk, rfl⟩⟩
theorem law_long_eq {n : Nat} {H1 : Hs} {many : Nat} (k : Dk n H1) (hm : many ≤ 8) : ∃ (lg : List Int) (H2 : Hs), Dw n H1 H2 ∧ Dk n H2 ∧ lg.length ≤ many ∧ risL 0 ((many : Int) - 1) (lg.map D.int) = true ∧ F__law_long [.loc n, .int many] H1 = .ok (iT lg) H2 := by
  obtain ⟨x, H2, w, k2, e⟩ := k.next
  have hex : ∀ ns : List Int, exitT H1 (iT ns) H2 = .ok (iT ns) H2 := fun ns => w.exit und_iT
  by_cases hx : 0 < x % 3
  · refine ⟨[], H2, w, k2, by simp, rfl, ?_⟩
    have := hex []
    simp [F__law_long, b__law_long, e, hx]
    exact this
  · refine ⟨(rgI 0 many).filter fun i => decide (x / 4 / (2 ^ i.toNat : Nat) % 3 = 0), H2, w, k2, ?_, ris_filter _ _ _ (by omega), ?_⟩
    · exact Nat.le_trans (List.length_filter_le _ _) (by simp)
    · have hi : Itr (iRng1 (aCons (eVar 1) aNil)) [some (.loc n), some (.int many), some (.int x), none] H2 H2 ((rgI 0 many).map D.int) := by
        have := Itr.rng (f := aCons (eVar 1) aNil) (s := [some (.loc n), some (.int many), some (.int x), none]) (h := H2) (h1 := H2) (n := many) rfl (by omega) (by omega)
        simpa using this
      have hc : eComp false [3] (iRng1 (aCons (eVar 1) aNil)) (gVar 3) (tV (eBin (eqD false) (eBin modD (eBin fdivD (eBin fdivD (eVar 2) (eC (.int 4))) (eBin shlD (eC (.int 1)) (eVar 3))) (eC (.int 3))) (eC (.int 0)))) (eVar 3) [some (.loc n), some (.int many), some (.int x), none] H2 = .ok (iL ((rgI 0 many).filter fun i => decide (x / 4 / (2 ^ i.toNat : Nat) % 3 = 0))) H2 := by
        rw [comp_ty (fun i => decide (x / 4 / (2 ^ i.toNat : Nat) % 3 = 0)) D.int hi fun i hi' => ?_]
        · simp [iL]
        · have hb := rgI_bd hi'
          obtain ⟨k, rfl⟩ : ∃ k : Nat, i = k := ⟨i.toNat, by omega⟩
          have hs := shl_one (k := k) (h := H2) (by omega)
          obtain ⟨p1, p2⟩ := two_pow_bd (k := k) (by omega)
          rw [show (k : Int).toNat = k by omega]
          generalize ((2 ^ k : Nat) : Int) = W at *
          have p3 : W < 18446744073709551616 := by omega
          refine ⟨_, rfl, ?_, fun _ => by simp⟩
          have he : ((x / 4 / W % 3 == 0) : Bool) = decide (x / 4 / W % 3 = 0) := by rw [Bool.eq_iff_iff]; simp
          simp [hs, p1, p3, he]
      have htp : tupleD [iL ((rgI 0 many).filter fun i => decide (x / 4 / (2 ^ i.toNat : Nat) % 3 = 0))] H2 = .ok (iT ((rgI 0 many).filter fun i => decide (x / 4 / (2 ^ i.toNat : Nat) % 3 = 0))) H2 := by rw [x_tuple (d := iL _) rfl]; rfl
      have hx2 := hex ((rgI 0 many).filter fun i => decide (x / 4 / (2 ^ i.toNat : Nat) % 3 = 0))
      generalize (rgI 0 many).filter (fun i => decide (x / 4 / (2 ^ i.toNat : Nat) % 3 = 0)) = lg at *
      simp [F__law_long, b__law_long, e, hx, hc, htp, hx2]
theorem law_off_eq {n : Nat} {H1 : Hs} {left : Int} (k : Dk n H1) (hl : 1 ≤ left) : ∃ (off : List Int) (H2 : Hs), Dw n H1 H2 ∧ Dk n H2 ∧ 1 ≤ off.length ∧ off.length ≤ 7 ∧ (off.length : Int) ≤ left ∧ (∀ x ∈ off, x = 0 ∨ x = 1) ∧ F__law_off [.loc n, .int left] H1 = .ok (iT off) H2 := by
  obtain ⟨x, H2, w, k2, e⟩ := k.next
  have hex : ∀ ns : List Int, exitT H1 (iT ns) H2 = .ok (iT ns) H2 := fun ns => w.exit und_iT
  generalize hsz : 1 + x / 3 % 7 = sz
  have hb : 1 ≤ sz ∧ sz ≤ 7 := by omega
  have one : (0 < x % 3 ∨ left < sz) → ∃ (off : List Int) (H2 : Hs), Dw n H1 H2 ∧ Dk n H2 ∧ 1 ≤ off.length ∧ off.length ≤ 7 ∧ (off.length : Int) ≤ left ∧ (∀ x ∈ off, x = 0 ∨ x = 1) ∧ F__law_off [.loc n, .int left] H1 = .ok (iT off) H2 := fun hor => by
    refine ⟨[0], H2, w, k2, by simp, by simp, by simpa using hl, by simp, ?_⟩
    have := hex [0]
    by_cases hx : 0 < x % 3
    · simp [F__law_off, b__law_off, e, hsz, hx]
      exact this
    · have hy : left < sz := hor.resolve_left hx
      simp [F__law_off, b__law_off, e, hsz, hx, hy]
      exact this
  by_cases hx : 0 < x % 3
  · exact one (.inl hx)
  · by_cases hy : left < sz
    · exact one (.inr hy)
    · let off := (rgI 0 sz.toNat).map fun i => if x / 32 / (2 ^ i.toNat : Nat) % 4 = 0 then (1 : Int) else 0
      have hlen : off.length = sz.toNat := by simp [off]
      refine ⟨off, H2, w, k2, by omega, by omega, by omega, fun z hz => ?_, ?_⟩
      · obtain ⟨i, _, rfl⟩ := List.mem_map.mp hz
        split <;> simp
      · have hi : Itr (iRng1 (aCons (eVar 3) aNil)) [some (.loc n), some (.int left), some (.int x), some (.int sz), none] H2 H2 ((rgI 0 sz.toNat).map D.int) :=
          Itr.rng (f := aCons (eVar 3) aNil) (s := [some (.loc n), some (.int left), some (.int x), some (.int sz), none]) (h := H2) (h1 := H2) (n := sz) rfl (by omega) (by omega)
        have hc : eComp false [4] (iRng1 (aCons (eVar 3) aNil)) (gVar 4) tYesF (eB intD (aCons (eBin (eqD false) (eBin modD (eBin fdivD (eBin fdivD (eVar 2) (eC (.int 32))) (eBin shlD (eC (.int 1)) (eVar 4))) (eC (.int 4))) (eC (.int 0))) aNil)) [some (.loc n), some (.int left), some (.int x), some (.int sz), none] H2 = .ok (iL off) H2 := by
          rw [comp_map (em := D.int) (fun i => .int (if x / 32 / (2 ^ i.toNat : Nat) % 4 = 0 then (1 : Int) else 0)) hi fun i hi' => ?_]
          · simp [iL, off, Function.comp_def]
          · have hb := rgI_bd hi'
            obtain ⟨k, rfl⟩ : ∃ k : Nat, i = k := ⟨i.toNat, by omega⟩
            have hs := shl_one (k := k) (h := H2) (by omega)
            obtain ⟨p1, p2⟩ := two_pow_bd (k := k) (by omega)
            rw [show (k : Int).toNat = k by omega]
            generalize ((2 ^ k : Nat) : Int) = W at *
            have p3 : W < 18446744073709551616 := by omega
            refine ⟨_, rfl, ?_⟩
            simp [hs, p1, p3]
        have htp : tupleD [iL off] H2 = .ok (iT off) H2 := by rw [x_tuple (d := iL _) rfl]; rfl
        have hx2 := hex off
        generalize off = lg at *
        simp [F__law_off, b__law_off, e, hsz, hx, hy, hc, htp, hx2]
theorem rgI_succ {lo : Int} {n : Nat} : rgI lo (n + 1) = lo :: rgI (lo + 1) n := by
  unfold rgI
  rw [List.range_succ_eq_map, List.map_cons, List.map_map]
  congr 1
  · simp
  · refine List.map_congr_left fun i _ => ?_
    simp only [Function.comp]
    omega
/-- pairs, by the second and then by the first -/
def colP (p q : Int × Int) : Prop := p.2 < q.2 ∨ (p.2 = q.2 ∧ p.1 < q.1)
theorem tied_in {n : Nat} {x j : Int} {many : D} {g : Hs} (hj : 0 ≤ j ∧ j ≤ 8) : ∀ (m : Nat) (i : Int) (acc : List (Int × Int)), 0 ≤ i → i + m ≤ j → acc.length + m ≤ 100000 → acc.Pairwise colP → (∀ p ∈ acc, (0 ≤ p.1 ∧ p.1 < p.2) ∧ (p.2 < j ∨ (p.2 = j ∧ p.1 < i))) → ∃ acc' : List (Int × Int), acc'.length ≤ acc.length + m ∧ acc'.Pairwise colP ∧ (∀ p ∈ acc', (0 ≤ p.1 ∧ p.1 < p.2) ∧ (p.2 < j ∨ (p.2 = j ∧ p.1 < i + m))) ∧
    loopS (gVar 5) k__law_tied_2_0 ((rgI i m).map D.int) [some (.loc n), some many, some (.int x), some (.loc g.length), some (.int j), none] (g ++ [.lst (acc.map prD)]) = .nx [some (.loc n), some many, some (.int x), some (.loc g.length), some (.int j), none] (g ++ [.lst (acc'.map prD)])
  | 0, i, acc, _, _, _, hp, hb => ⟨acc, by simp, hp, fun p hp => by have := hb p hp; simpa using this, rfl⟩
  | m + 1, i, acc, h0, hi, hz, hp, hb => by
    rw [rgI_succ, List.map_cons]
    have b1 : 0 < 1 + i + 8 * j := by omega
    have b2 : 1 + i + 8 * j < 18446744073709551616 := by omega
    have hfd : ∀ H : Hs, fdivD (.int (x / 3)) (.int (1 + i + 8 * j)) H = .ok (.int (x / 3 / (1 + i + 8 * j))) H := fun H => by
      generalize 1 + i + 8 * j = W at *
      simp [b1, b2]
    by_cases hc : x % 3 = 0 ∧ x / 3 / (1 + i + 8 * j) % 4 = 0
    · obtain ⟨acc', q1, q2, q3, q4⟩ := tied_in (n := n) (x := x) (many := many) (g := g) hj m (i + 1) (acc ++ [(i, j)]) (by omega) (by omega) (by simp; omega) (by
        rw [List.pairwise_append]
        refine ⟨hp, List.pairwise_singleton _ _, fun p hpp q hq => ?_⟩
        obtain rfl : q = (i, j) := by simpa using hq
        have := (hb p hpp).2
        unfold colP
        simp only
        omega) (fun p hpp => by
        rcases List.mem_append.mp hpp with hpp | hpp
        · have := hb p hpp; omega
        · obtain rfl : p = (i, j) := by simpa using hpp
          exact ⟨⟨h0, by show i < j; omega⟩, .inr ⟨rfl, by show i < i + 1; omega⟩⟩)
      refine ⟨acc', by simp at q1; omega, q2, fun p hpp => by have := q3 p hpp; omega, ?_⟩
      refine (loop_nx (s1 := [some (.loc n), some many, some (.int x), some (.loc g.length), some (.int j), some (.int i)]) rfl ?_).trans q4
      have ha := app_last (g := g) (xs := acc.map prD) (d := .tup [.int i, .int j]) (by simp; omega)
      have e : acc.map prD ++ [.tup [.int i, .int j]] = (acc ++ [(i, j)]).map prD := by simp [prD]
      rw [e] at ha
      generalize (acc ++ [(i, j)]).map prD = ys at *
      simp [hfd, hc.1, hc.2, ha]
    · obtain ⟨acc', q1, q2, q3, q4⟩ := tied_in (n := n) (x := x) (many := many) (g := g) hj m (i + 1) acc (by omega) (by omega) (by omega) hp (fun p hpp => by have := hb p hpp; omega)
      refine ⟨acc', by omega, q2, fun p hpp => by have := q3 p hpp; omega, ?_⟩
      refine (loop_nx (s1 := [some (.loc n), some many, some (.int x), some (.loc g.length), some (.int j), some (.int i)]) rfl ?_).trans q4
      by_cases h1 : x % 3 = 0
      · have h2 : ¬ x / 3 / (1 + i + 8 * j) % 4 = 0 := fun q => hc ⟨h1, q⟩
        simp [hfd, h1, h2]
      · simp [h1]
theorem tied_out {n : Nat} {x : Int} {many : D} {g : Hs} : ∀ (m : Nat) (j : Int) (acc : List (Int × Int)), 0 ≤ j → j + m ≤ 8 → acc.length ≤ 10 * j.toNat → acc.Pairwise colP → (∀ p ∈ acc, (0 ≤ p.1 ∧ p.1 < p.2) ∧ p.2 < j) → ∃ acc' : List (Int × Int), acc'.length ≤ 80 ∧ acc'.Pairwise colP ∧ (∀ p ∈ acc', (0 ≤ p.1 ∧ p.1 < p.2) ∧ p.2 < j + m) ∧
    loopS (gVar 4) k__law_tied_2 ((rgI j m).map D.int) [some (.loc n), some many, some (.int x), some (.loc g.length), none, none] (g ++ [.lst (acc.map prD)]) = .nx [some (.loc n), some many, some (.int x), some (.loc g.length), none, none] (g ++ [.lst (acc'.map prD)])
  | 0, j, acc, _, _, hz, hp, hb => ⟨acc, by omega, hp, fun p hp => by have := hb p hp; simpa using this, rfl⟩
  | m + 1, j, acc, h0, hj, hz, hp, hb => by
    rw [rgI_succ, List.map_cons]
    obtain ⟨acc1, a1, a2, a3, a4⟩ := tied_in (n := n) (x := x) (many := many) (g := g) (j := j) (by omega) j.toNat 0 acc (by omega) (by omega) (by omega) hp (fun p hpp => by have := hb p hpp; omega)
    obtain ⟨acc', q1, q2, q3, q4⟩ := tied_out (n := n) (x := x) (many := many) (g := g) m (j + 1) acc1 (by omega) (by omega) (by omega) a2 (fun p hpp => by have := a3 p hpp; omega)
    refine ⟨acc', q1, q2, fun p hpp => by have := q3 p hpp; omega, ?_⟩
    refine (loop_nx (s1 := [some (.loc n), some many, some (.int x), some (.loc g.length), some (.int j), none]) rfl ?_).trans q4
    have hf := (for_rng (f := aCons (eVar 4) aNil) (g := gVar 5) (b := k__law_tied_2_0) (s := [some (.loc n), some many, some (.int x), some (.loc g.length), some (.int j), none]) (h := g ++ [.lst (acc.map prD)]) (h1 := g ++ [.lst (acc.map prD)]) (n := j) rfl (by omega) (by omega)).trans a4
    simp [hf]
theorem adj_of_pw {α : Type} {r : α → α → Bool} : ∀ l : List α, l.Pairwise (fun a b => r a b = true) → adjB r l = true
  | [], _ => rfl
  | [_], _ => rfl
  | a :: b :: l, h => by
    obtain ⟨h1, h2⟩ := List.pairwise_cons.mp h
    rw [adjB, h1 b List.mem_cons_self, adj_of_pw _ h2]; rfl
theorem sortP_inc {ps : List (Int × Int)} (h : ps.Pairwise colP) : adjB ltP (sortP ps) = true := by
  refine adj_of_pw _ ?_
  have hnd : (sortP ps).Nodup := (sortP_perm ps).nodup_iff.mpr (h.imp fun {a b} hab e => by subst e; unfold colP at hab; omega)
  refine ((sortP_srt ps).and hnd).imp fun {a b} hab => ?_
  obtain ⟨h1, h2⟩ := hab
  have h3 : ¬ (b.1 < a.1 ∨ (b.1 = a.1 ∧ b.2 < a.2)) := fun q => by
    have : ltPr b a = true := SrtO.lexB_iff.mpr q
    rw [h1] at this; cases this
  have h4 : ¬ (a.1 = b.1 ∧ a.2 = b.2) := fun q => h2 (Prod.ext q.1 q.2)
  simp only [ltP, decide_eq_true_eq]
  omega
theorem law_tied_eq {n : Nat} {H1 : Hs} {many : Nat} (k : Dk n H1) (hm : many ≤ 8) : ∃ (ps : List (Int × Int)) (H2 : Hs), Dw n H1 H2 ∧ Dk n H2 ∧ (∀ p ∈ ps, 0 ≤ p.1 ∧ p.1 < p.2 ∧ p.2 < many) ∧ adjB ltP ps = true ∧ ps.length ≤ 1000 ∧ F__law_tied [.loc n, .int many] H1 = .ok (.tup (ps.map prD)) H2 := by
  obtain ⟨x, H2, w, k2, e⟩ := k.next
  obtain ⟨acc, q1, q2, q3, q4⟩ := tied_out (n := n) (x := x) (many := .int many) (g := H2) many 0 [] (by omega) (by omega) (by simp) (by simp) (by simp)
  rw [List.map_nil, show rgI 0 many = rgI 0 (many : Int).toNat by rw [Int.toNat_natCast]] at q4
  have hf := (for_rng (f := aCons (eVar 1) aNil) (g := gVar 4) (b := k__law_tied_2) (s := [some (.loc n), some (.int many), some (.int x), some (.loc H2.length), none, none]) (h := H2 ++ [.lst []]) (h1 := H2 ++ [.lst []]) (n := (many : Int)) rfl (by omega) (by omega)).trans q4
  refine ⟨sortP acc, H2, w, k2, fun p hp => ?_, sortP_inc q2, by rw [(sortP_perm acc).length_eq]; omega, ?_⟩
  · have := q3 p ((sortP_perm acc).mem_iff.mp hp)
    omega
  · have hs : sortedD false [.loc H2.length] (H2 ++ [.lst (acc.map prD)]) = .ok (.lst ((sortP acc).map prD)) (H2 ++ [.lst (acc.map prD)]) := by
      rw [x_sorted_prs0 (d := .loc H2.length) (ps := acc) (show locAt _ _ = _ from locAt_end)]; rfl
    have hu : (D.tup ((sortP acc).map prD)).und H1.length = true := by
      have := und_qD H1.length (.row ((sortP acc).map prQ))
      rw [qD, qDL_prs] at this; exact this
    have hx := w.exitA (t := [.lst (acc.map prD)]) hu
    have htp : tupleD [.lst ((sortP acc).map prD)] (H2 ++ [.lst (acc.map prD)]) = .ok (.tup ((sortP acc).map prD)) (H2 ++ [.lst (acc.map prD)]) := by rw [x_tuple (d := .lst _) rfl]
    generalize (sortP acc).map prD = zs at *
    simp [F__law_tied, b__law_tied, e, hf, hs, htp, hx]

end WD
namespace WD
open PySem PySem.Spec PyProof.Rows L2
def prodI : List Int → Int
  | [] => 1
  | n :: ns => n * prodI ns
theorem prodI_app (ns : List Int) (m : Int) : prodI (ns ++ [m]) = prodI ns * m := by
  induction ns with
  | nil => simp [prodI]
  | cons n ns ih => simp [prodI, ih, Int.mul_assoc]
theorem prodI_pos : ∀ ns : List Int, (∀ n ∈ ns, 1 ≤ n) → 1 ≤ prodI ns
  | [], _ => by simp [prodI]
  | n :: ns, h => by
    have h1 := h n List.mem_cons_self
    have h2 := prodI_pos ns fun m hm => h m (List.mem_cons_of_mem _ hm)
    have := Int.mul_le_mul h1 h2 (by omega) (by omega)
    simpa [prodI] using this
def busyI (many hands : Int) : Int := if hands = 1 then 1 + many else 1 + many + many * (many - 1) / 2
def Tk.room (t : Tk) : Int := t.off.length * busyI t.lg.length t.hands * prodI t.ns
def taskL (x : Int) : List Int := [2, 3, 4, 6, 1 + x / 16 % 4, 2 + x / 16 % 5, 3 + x / 16 % 8, 5, 8, 12, 7, 3, 4, 2, 5, 1 + x / 16 % 40]
theorem taskL_bd (x : Int) : ∀ n ∈ taskL x, 1 ≤ n ∧ n ≤ 40 := by
  intro n hn
  simp only [taskL, List.mem_cons, List.not_mem_nil, or_false] at hn
  omega
theorem task_turn {n : Nat} {H : Hs} {most left k : Int} {nums : List Int} (hk : Dk n H) (hb : ∀ m ∈ nums, 1 ≤ m ∧ m ≤ 40) (hz : nums.length ≤ 1000) (hl : 1 ≤ left) (hp : prodI nums * left ≤ most) : ∃ (nums' : List Int) (left' : Int) (H2 : Hs), Dw n H H2 ∧ Dk n H2 ∧ nums'.length ≤ nums.length + 1 ∧ (∀ m ∈ nums', 1 ≤ m ∧ m ≤ 40) ∧ 1 ≤ left' ∧ prodI nums' * left' ≤ most ∧
    k__law_task_2 [some (.loc n), some (.int most), some (.loc H.length), some (.int left), some (.int k), none, none, none, none, none, none, none] (H ++ [.lst (nums.map D.int)]) = .nx [some (.loc n), some (.int most), some (.loc H.length), some (.int left'), none, none, none, none, none, none, none, none] (H2 ++ [.lst (nums'.map D.int)]) := by
  obtain ⟨x, H2', w, k2, e⟩ := (hk.app (t := [.lst (nums.map D.int)])).next
  have hn : n < H.length := by obtain ⟨dk, q⟩ := hk.ex; exact locAt_lt q
  obtain ⟨H2, rfl, w2⟩ := w.cut hn
  have hlen := w2.len
  have k3 := k2.cut (by omega)
  have hix := ix_ints (h := H2 ++ [.lst (nums.map D.int)]) (d := .lst ((taskL x).map D.int)) (ns := taskL x) (i := x % 16) rfl (by omega) (by simp [taskL]; omega)
  have hf : (taskL x).getD (x % 16).toNat 0 ∈ taskL x := by
    have hl : (x % 16).toNat < (taskL x).length := by simp [taskL]; omega
    simp only [List.getD, List.getElem?_eq_getElem hl, Option.getD_some]
    exact List.getElem_mem hl
  generalize hnum : (taskL x).getD (x % 16).toNat 0 = num at *
  have hnb := taskL_bd x num hf
  simp [taskL] at hix
  by_cases hle : num ≤ left
  · refine ⟨nums ++ [num], left / num, H2, w2, k3, by simp, fun m hm => ?_, ?_, ?_, ?_⟩
    · rcases List.mem_append.mp hm with hm | hm
      · exact hb m hm
      · obtain rfl : m = num := by simpa using hm
        exact hnb
    · exact (Int.le_ediv_iff_mul_le (by omega)).mpr (by omega)
    · rw [prodI_app, Int.mul_assoc]
      refine Int.le_trans (Int.mul_le_mul_of_nonneg_left ?_ (by have := prodI_pos nums fun m hm => (hb m hm).1; omega)) hp
      rw [Int.mul_comm]
      exact Int.ediv_mul_le _ (by omega)
    · have ha := app_last (g := H2) (xs := nums.map D.int) (d := .int num) (by simp; omega)
      rw [hlen] at ha
      have h0 : 0 < num := by omega
      have h1 : num < 18446744073709551616 := by omega
      have hat : locAt (H2 ++ [.lst (nums.map D.int)]) H.length = some (nums.map D.int) := by rw [← hlen]; exact locAt_end
      simp [e, hix, hle, hat, ha, h0, h1]
  · refine ⟨nums, left, H2, w2, k3, by omega, hb, hl, hp, ?_⟩
    simp [e, hix, hle]
theorem task_loop {n : Nat} {most : Int} : ∀ (m : Nat) (i : Int) (H : Hs) (left : Int) (nums : List Int), Dk n H → (∀ m ∈ nums, 1 ≤ m ∧ m ≤ 40) → nums.length + m ≤ 1000 → 1 ≤ left → prodI nums * left ≤ most → ∃ (nums' : List Int) (left' : Int) (H2 : Hs), Dw n H H2 ∧ Dk n H2 ∧ nums'.length ≤ nums.length + m ∧ (∀ m ∈ nums', 1 ≤ m ∧ m ≤ 40) ∧ 1 ≤ left' ∧ prodI nums' * left' ≤ most ∧
    loopS (gVar 4) k__law_task_2 ((rgI i m).map D.int) [some (.loc n), some (.int most), some (.loc H.length), some (.int left), none, none, none, none, none, none, none, none] (H ++ [.lst (nums.map D.int)]) = .nx [some (.loc n), some (.int most), some (.loc H.length), some (.int left'), none, none, none, none, none, none, none, none] (H2 ++ [.lst (nums'.map D.int)])
  | 0, i, H, left, nums, hk, hb, hz, hl, hp => ⟨nums, left, H, ⟨by obtain ⟨dk, e⟩ := hk.ex; exact ⟨dk, (hd_self e).symm⟩⟩, hk, by omega, hb, hl, hp, rfl⟩
  | m + 1, i, H, left, nums, hk, hb, hz, hl, hp => by
    obtain ⟨nums1, left1, H1, w1, k1, a1, a2, a3, a4, a5⟩ := task_turn (k := i) hk hb (by omega) hl hp
    obtain ⟨nums2, left2, H2, w2, k2, b1, b2, b3, b4, b5⟩ := task_loop (n := n) (most := most) m (i + 1) H1 left1 nums1 k1 a2 (by omega) a3 a4
    rw [w1.len] at b5
    refine ⟨nums2, left2, H2, w1.trans w2, k2, by omega, b2, b3, b4, ?_⟩
    rw [rgI_succ, List.map_cons]
    exact (loop_nx (s1 := [some (.loc n), some (.int most), some (.loc H.length), some (.int left), some (.int i), none, none, none, none, none, none, none]) rfl a5).trans b5

end WD
namespace WD
open PySem PySem.Spec PyProof.Rows L2
theorem law_task_eq {n : Nat} {H : Hs} {most : Int} (hk : Dk n H) (hm : 1 ≤ most) : ∃ (t : Tk) (H2 : Hs), Dw n H H2 ∧ Dk n H2 ∧ t.Ok ∧ t.room ≤ most ∧ t.off.length * prodI t.ns ≤ most ∧ F__law_task [.loc n, .int most] H = .ok t.D H2 := by
  have hn : n < H.length := by obtain ⟨dk, q⟩ := hk.ex; exact locAt_lt q
  obtain ⟨x0, H0', w0, k0, e0⟩ := (hk.app (t := [.lst []])).next
  obtain ⟨H0, rfl, v0⟩ := w0.cut hn
  have k0 := k0.cut (by have := v0.len; omega)
  obtain ⟨nums, left, H1, w1, k1, a1, a2, a3, a4, a5⟩ := task_loop (n := n) (most := most) (x0 % 7).toNat 0 H0 most [] k0 (by simp) (by simp; omega) hm (by simp [prodI])
  have hfor : sFor (iRng1 (aCons (eBin modD (eCall 1 F__law_next (aCons (eVar 0) aNil)) (eC (.int 7))) aNil)) (gVar 4) k__law_task_2 [some (.loc n), some (.int most), some (.loc H.length), some (.int most), none, none, none, none, none, none, none, none] (H ++ [.lst []]) = .nx [some (.loc n), some (.int most), some (.loc H.length), some (.int left), none, none, none, none, none, none, none, none] (H1 ++ [.lst (nums.map D.int)]) := by
    rw [v0.len] at a5
    exact (for_rng (n := x0 % 7) (by simp [e0]) (by omega) (by omega)).trans a5
  have l1 := w1.len
  have l0 := v0.len
  obtain ⟨x1, H2', w2, k2, e2⟩ := (k1.app (t := [.lst (nums.map D.int)])).next
  obtain ⟨off, H3, w3, k3, o1, o2, o3, o4, e3⟩ := law_off_eq (left := left) k2 a3
  have hnl : nums.length ≤ 8 := by simp at a1; omega
  obtain ⟨lg, H4, w4, k4, g1, g2, e4⟩ := law_long_eq (many := nums.length) k3 hnl
  obtain ⟨ps, H5, w5, k5, p1, p2, p3, e5⟩ := law_tied_eq (many := nums.length) k4 hnl
  have wA : Dw n (H1 ++ [.lst (nums.map D.int)]) H5 := ((w2.trans w3).trans w4).trans w5
  obtain ⟨H6, rfl, v6⟩ := wA.cut (by omega)
  have cut := fun {G : Hs} (w : Dw n (H1 ++ [.lst (nums.map D.int)]) G) => w.cut (show n < H1.length by omega)
  obtain ⟨G2, rfl, u2⟩ := cut w2
  obtain ⟨G3, rfl, u3⟩ := cut (w2.trans w3)
  obtain ⟨G4, rfl, u4⟩ := cut ((w2.trans w3).trans w4)
  have at_ : ∀ G : Hs, Dw n H1 G → locAt (G ++ [.lst (nums.map D.int)]) H.length = some (nums.map D.int) := fun G w => by
    have : H.length = G.length := by have := w.len; omega
    rw [this]; exact locAt_end
  have hln : ∀ G : Hs, Dw n H1 G → lenD [.loc H.length] (G ++ [.lst (nums.map D.int)]) = .ok (.int nums.length) (G ++ [.lst (nums.map D.int)]) := fun G w => by
    have := x_len (d := .loc H.length) (at_ G w)
    simpa using this
  generalize hhd : 1 + (if x1 % 3 = 0 then (1 : Int) else 0) = hands at *
  have hh : hands = 1 ∨ hands = 2 := by split at hhd <;> omega
  have hrow : 1 + (lg.length : Int) + (hands - 1) * ((lg.length : Int) * ((lg.length : Int) - 1) / 2) = busyI lg.length hands := by
    unfold busyI
    rcases hh with rfl | rfl <;> simp
  have pp := prodI_pos nums fun m hm => (a2 m hm).1
  have fin : ∀ lg' : List Int, lg'.length ≤ nums.length → risL 0 ((nums.length : Int) - 1) (lg'.map D.int) = true → (off.length : Int) * busyI lg'.length hands ≤ left → b__law_task [some (.loc n), some (.int most), none, none, none, none, none, none, none, none, none, none] H = .rt (Tk.mk nums hands off lg' ps).D (H6 ++ [.lst (nums.map D.int)]) → ∃ (t : Tk) (H2 : Hs), Dw n H H2 ∧ Dk n H2 ∧ t.Ok ∧ t.room ≤ most ∧ t.off.length * prodI t.ns ≤ most ∧ F__law_task [.loc n, .int most] H = .ok t.D H2 := fun lg' hl hr hroom hb => by
    have w6 : Dw n H H6 := (v0.trans w1).trans v6
    refine ⟨⟨nums, hands, off, lg', ps⟩, H6, w6, k5.cut (by have := v6.len; omega), ⟨⟨hnl, a2⟩, hh, o1, o2, o4, hr, p1, p2, p3⟩, ?_, ?_, ?_⟩
    · refine Int.le_trans (Int.mul_le_mul_of_nonneg_right hroom (show (0 : Int) ≤ prodI nums by omega)) ?_
      rw [Int.mul_comm]; exact a4
    · refine Int.le_trans (Int.mul_le_mul_of_nonneg_right o3 (show (0 : Int) ≤ prodI nums by omega)) ?_
      rw [Int.mul_comm]; exact a4
    · simp only [F__law_task, x_run, List.length_cons, List.length_nil]
      simp only [Nat.zero_add, Nat.reduceAdd, if_true, List.map_cons, List.map_nil, Nat.reduceSub, List.replicate, List.cons_append, List.nil_append, hb]
      exact w6.exitA (by rw [← qD_tk]; exact und_qD _ _)
  have htp : tupleD [.loc H.length] (G4 ++ [.lst (nums.map D.int)]) = .ok (iT nums) (G4 ++ [.lst (nums.map D.int)]) := x_tupL (at_ G4 u4)
  have hl2 := hln G2 u2
  have hl3 := hln G3 u3
  have hl4 := hln G4 u4
  have hol : lenD [iT off] (G4 ++ [.lst (nums.map D.int)]) = .ok (.int off.length) (G4 ++ [.lst (nums.map D.int)]) := by simp
  have hgl : lenD [iT lg] (G4 ++ [.lst (nums.map D.int)]) = .ok (.int lg.length) (G4 ++ [.lst (nums.map D.int)]) := by simp
  have hlb : (lg.length : Int) ≤ 8 := by omega
  have hlb0 : (0 : Int) ≤ lg.length := by omega
  have m1 : ∀ G : Hs, mulD (.int (lg.length : Int)) (.int ((lg.length : Int) - 1)) G = .ok (.int ((lg.length : Int) * ((lg.length : Int) - 1))) G := fun G => by
    generalize (lg.length : Int) = m at *
    rw [x_mul, if_pos (.inl (by unfold smallI; omega))]
  have m2 : ∀ (z : Int) (G : Hs), mulD (.int (hands - 1)) (.int z) G = .ok (.int ((hands - 1) * z)) G := fun z G => by
    rw [x_mul, if_pos (.inl (by unfold smallI; omega))]
  have m3 : ∀ (z : Int) (G : Hs), mulD (.int z) (.int (off.length : Int)) G = .ok (.int (z * (off.length : Int))) G := fun z G => by
    have : (off.length : Int) ≤ 7 := by omega
    have h0 : (0 : Int) ≤ off.length := by omega
    generalize (off.length : Int) = m at *
    rw [x_mul, if_pos (.inr (by unfold smallI; omega))]
  have hif : (if (x1 % 3 == 0) = true then (1 : Int) else 0) = if x1 % 3 = 0 then 1 else 0 := by simp
  by_cases hbig : left < busyI lg.length hands * off.length
  · refine fin [] (by simp) rfl ?_ ?_
    · have : busyI ((([] : List Int).length : Nat) : Int) hands = 1 := by unfold busyI; rcases hh with rfl | rfl <;> rfl
      rw [this]; omega
    · rw [← hrow] at hbig
      simp only [iT] at *
      simp [b__law_task, hfor, e2, hhd, e3, hl3, e4, hl4, m1, m2, m3, hbig, htp, e5, Tk.D, iT]
  · refine fin lg g1 g2 (by rw [Int.mul_comm]; omega) ?_
    rw [← hrow] at hbig
    simp [b__law_task, hfor, e2, hhd, e3, hl3, e4, hl4, m1, m2, m3, hbig, htp, e5, Tk.D]

end WD
namespace WD
open PySem PySem.Spec PyProof.Rows L2
theorem ris_ints : ∀ {xs : List D} {lo hi : Int}, risL lo hi xs = true → ∃ ns : List Int, xs = ns.map D.int
  | [], _, _, _ => ⟨[], rfl⟩
  | .int n :: xs, lo, hi, e => by
    simp only [risL, Bool.and_eq_true] at e
    obtain ⟨ns, h⟩ := ris_ints e.2
    exact ⟨n :: ns, by rw [h]; rfl⟩
  | .non :: _, _, _, e => by simp [risL] at e
  | .bl _ :: _, _, _, e => by simp [risL] at e
  | .str _ :: _, _, _, e => by simp [risL] at e
  | .tup _ :: _, _, _, e => by simp [risL] at e
  | .lst _ :: _, _, _, e => by simp [risL] at e
  | .scr _ :: _, _, _, e => by simp [risL] at e
  | .dic _ _ :: _, _, _, e => by simp [risL] at e
  | .loc _ :: _, _, _, e => by simp [risL] at e
def endsA : List Int → List (Int × Int) → List Int
  | acc, [] => acc
  | acc, p :: ps => endsA (acc ++ [p.1, p.2].filter fun i => !acc.contains i) ps
def Tk.ends (t : Tk) : List Int := endsA [] t.tied
theorem endsA_mem {i : Int} : ∀ (ps : List (Int × Int)) (acc : List Int), i ∈ endsA acc ps ↔ i ∈ acc ∨ ∃ p ∈ ps, i = p.1 ∨ i = p.2
  | [], acc => by simp [endsA]
  | p :: ps, acc => by
    rw [endsA, endsA_mem ps]
    simp only [List.mem_append, List.mem_filter, List.mem_cons, List.not_mem_nil, or_false]
    by_cases h : i ∈ acc
    · simp [h]
    · simp [h]
theorem ends_len : ∀ (ps : List (Int × Int)) (acc : List Int), (endsA acc ps).length ≤ acc.length + 2 * ps.length
  | [], acc => by simp [endsA]
  | p :: ps, acc => by
    rw [endsA]
    have := ends_len ps (acc ++ [p.1, p.2].filter fun i => !acc.contains i)
    have h2 := List.length_filter_le (fun i => !acc.contains i) [p.1, p.2]
    simp only [List.length_append, List.length_cons, List.length_nil] at this h2 ⊢
    omega
theorem ties_loop {t : Tk} {h : Hs} : ∀ (ps : List (Int × Int)) (acc : List Int), acc.length + 2 * ps.length ≤ 100000 → loopS (gVar 2) k_in_ties_1 (ps.map prD) [some t.D, some (iL acc), none, none] h = .nx [some t.D, some (iL (endsA acc ps)), none, none] h
  | [], acc, _ => rfl
  | p :: ps, acc, hz => by
    have h2 := List.length_filter_le (fun i => !acc.contains i) [p.1, p.2]
    simp only [List.length_cons, List.length_nil] at h2 hz
    have ih := ties_loop (t := t) (h := h) ps (acc ++ [p.1, p.2].filter fun i => !acc.contains i) (by simp only [List.length_append]; omega)
    rw [List.map_cons]
    refine (loop_nx (s1 := [some t.D, some (iL acc), some (prD p), none]) rfl ?_).trans ih
    have hc : eComp false [3] (iRow (eVar 2)) (gVar 3) (tV (eBin (inD true) (eVar 3) (eVar 1))) (eVar 3) [some t.D, some (iL acc), some (prD p), none] h = .ok (iL ([p.1, p.2].filter fun i => !acc.contains i)) h := by
      rw [comp_ty (em := D.int) (xs := [p.1, p.2]) (fun i => !acc.contains i) D.int (Itr.tup rfl) fun i hi => ?_]
      · rfl
      · exact ⟨_, rfl, by simp [in_ints (d := iL acc) row_iL], fun _ => rfl⟩
    have ha := add_iL (h := h) (xs := acc) (ys := [p.1, p.2].filter fun i => !acc.contains i) (by omega)
    generalize [p.1, p.2].filter (fun i => !acc.contains i) = l at *
    simp [hc, ha]
theorem ix_tk' (t : Tk) (h : Hs) : ixD t.D (.int 0) h = .ok (iT t.ns) h ∧ ixD t.D (.int 1) h = .ok (.int t.hands) h ∧ ixD t.D (.int 2) h = .ok (iT t.off) h ∧ ixD t.D (.int 3) h = .ok (iT t.lg) h ∧ ixD t.D (.int 4) h = .ok (.tup (t.tied.map prD)) h :=
  ⟨x_ix_row (d := t.D) rfl rfl, x_ix_row (d := t.D) rfl rfl, x_ix_row (d := t.D) rfl rfl, x_ix_row (d := t.D) rfl rfl, x_ix_row (d := t.D) rfl rfl⟩
theorem F_in_ties_eq {t : Tk} {h : Hs} (ht : t.Ok) : F_in_ties [t.D] h = .ok (iL t.ends) h := by
  obtain ⟨i0, i1, i2, i3, i4⟩ := ix_tk' t h
  have hl := ties_loop (t := t) (h := h) t.tied [] (by have := ht.few; simp; omega)
  have hf := (for_tup (f := eBin ixD (eVar 0) (eC (.int 4))) (g := gVar 2) (b := k_in_ties_1) (s := [some t.D, some (iL []), none, none]) (h := h) (h1 := h) (xs := t.tied.map prD) (by simp [i4])).trans hl
  have hf' : sFor (iRow (eBin ixD (eVar 0) (eC (.int 4)))) (gVar 2) k_in_ties_1 [some t.D, some (.lst []), none, none] h = _ := hf
  have he : endsA [] t.tied = t.ends := rfl
  rw [he] at hf'
  generalize t.ends = E at *
  simp [F_in_ties, b_in_ties, hf', exitT_same]
def isWaits (h : Hs) (ns : List Int) (d : D) : Bool := match rowOf h d with
  | some xs => decide (xs.length = ns.length) && (List.range ns.length).all fun i => isW 1 (ns.getD i 0) (xs.getD i .non)
  | none => false
theorem F_are_waits_eq {ns : List Int} {d : D} {h : Hs} (hz : ns.length ≤ 1000) : F_are_waits [iT ns, d] h = .ok (.bl (isWaits h ns d)) h := by
  cases hr : rowOf h d with
  | none => simp [F_are_waits, b_are_waits, F_is_row_eq, isWaits, hr]
  | some xs =>
    by_cases hl : xs.length = ns.length
    · have hc : eComp false [2] (iRng1 (aCons (eB lenD (aCons (eVar 0) aNil)) aNil)) (gVar 2) (tNotF (tV (eCall 3 F_is_whole (aCons (eBin ixD (eVar 1) (eVar 2)) (aCons (eC (.int 1)) (aCons (eBin ixD (eVar 0) (eVar 2)) aNil)))))) (eVar 2) [some (iT ns), some d, none] h = .ok (.lst (((List.range ns.length).filter fun i => !isW 1 (ns.getD i 0) (xs.getD i .non)).map fun (k : Nat) => .int k)) h := by
        rw [comp_ty (em := fun (k : Nat) => D.int k) (xs := List.range ns.length) (h1 := h) (fun i => !isW 1 (ns.getD i 0) (xs.getD i .non)) (fun (k : Nat) => .int k) (Itr.rngN (by simp) (by omega)) fun i hi => ?_]
        · rfl
        · have hi := List.mem_range.mp hi
          have e1 := ix_mem (i := (i : Int)) hr (by omega) (by omega)
          have e2 := ix_iT (r := ns) (h := h) (i := (i : Int)) (by omega) (by omega)
          have e3 : xs[(i : Int).toNat]'(by omega) = xs.getD i .non := by simp [List.getD, List.getElem?_eq_getElem (show i < xs.length by omega)]
          rw [e3] at e1
          rw [Int.toNat_natCast] at e2
          generalize xs.getD i .non = x at *
          generalize ns.getD i 0 = n at *
          exact ⟨_, rfl, by simp [e1, e2, F_is_whole_eq], fun _ => rfl⟩
      have he := filter_not_empty (fun i => isW 1 (ns.getD i 0) (xs.getD i .non)) (List.range ns.length)
      have hw : isWaits h ns d = ((List.range ns.length).filter fun i => !isW 1 (ns.getD i 0) (xs.getD i .non)).isEmpty := by
        rw [he]; simp [isWaits, hr, hl]
      rw [hw]
      generalize (List.range ns.length).filter (fun i => !isW 1 (ns.getD i 0) (xs.getD i .non)) = l at *
      simp [F_are_waits, b_are_waits, F_is_row_eq, hr, x_len hr, hl, hc]
    · have hl' : ¬ (xs.length : Int) = ns.length := by omega
      simp [F_are_waits, b_are_waits, F_is_row_eq, isWaits, hr, x_len hr, hl, hl']
def someL (xs : List D) : List Int := xs.filterMap fun d => match d with
  | .int i => some i
  | _ => none
@[simp] theorem someL_ints (ns : List Int) : someL (ns.map D.int) = ns := by
  induction ns with
  | nil => rfl
  | cons n ns ih => simp only [someL, List.map_cons, List.filterMap_cons] at ih ⊢; rw [ih]
def isSome (h : Hs) (things : List Int) (most : Int) (d : D) : Bool := match rowOf h d with
  | some xs => risL 0 7 xs && decide ((xs.length : Int) ≤ most) && (someL xs).all fun i => things.contains i
  | none => false
theorem F_is_some_eq {th d : D} {things : List Int} {most : Int} {h : Hs} (hth : rowOf h th = some (things.map D.int)) : F_is_some_of [th, d, .int most] h = .ok (.bl (isSome h things most d)) h := by
  cases hr : rowOf h d with
  | none => simp [F_is_some_of, b_is_some_of, F_is_rising_eq, isRis, isSome, hr]
  | some xs =>
    cases hb : risL 0 7 xs with
    | false => simp [F_is_some_of, b_is_some_of, F_is_rising_eq, isRis, isSome, hr, hb]
    | true =>
      by_cases hm : most < xs.length
      · have : ¬ (xs.length : Int) ≤ most := by omega
        simp [F_is_some_of, b_is_some_of, F_is_rising_eq, isRis, isSome, hr, hb, x_len hr, hm, this]
      · have hm' : (xs.length : Int) ≤ most := by omega
        obtain ⟨ns, rfl⟩ := ris_ints hb
        have hc : eComp false [3] (iRow (eVar 1)) (gVar 3) (tV (eBin (inD true) (eVar 3) (eVar 0))) (eVar 3) [some th, some d, some (.int most), none] h = .ok (iL (ns.filter fun i => !things.contains i)) h := by
          rw [comp_ty (em := D.int) (xs := ns) (fun i => !things.contains i) D.int (Itr.row rfl hr) fun i hi => ?_]
          · rfl
          · exact ⟨_, rfl, by simp [in_ints hth], fun _ => rfl⟩
        have he := filter_not_empty (fun i => things.contains i) ns
        have hw : isSome h things most d = decide ((ns.filter fun i => !things.contains i) = []) := by
          have : decide ((ns.filter fun i => !things.contains i) = []) = (ns.filter fun i => !things.contains i).isEmpty := by
            cases ns.filter fun i => !things.contains i <;> rfl
          rw [this, he]
          simp only [List.length_map] at hm'
          simp only [isSome, hr, hb, List.length_map, hm', decide_true, Bool.true_and, someL_ints]
        rw [hw]
        generalize ns.filter (fun i => !things.contains i) = l at *
        simp only [List.length_map] at hm
        simp [F_is_some_of, b_is_some_of, F_is_rising_eq, isRis, hr, hb, x_len hr, hm, hc]
def rowI (h : Hs) (d : D) : List Int := someL ((rowOf h d).getD [])
def isStand (h : Hs) (t : Tk) (d : D) : Bool := match rowOf h d with
  | some [p, w, b, l] => isW 0 ((t.off.length : Int) - 1) p && isWaits h t.ns w && isSome h t.lg t.hands b && isSome h t.ends t.hands l &&
      decide (((rowI h b).length : Int) + ((rowI h l).filter fun i => !(rowI h b).contains i).length ≤ t.hands) && (rowI h b).all fun i => !t.ends.contains i || (rowI h l).contains i
  | _ => false
theorem isSome_inv {h : Hs} {things : List Int} {most : Int} {d : D} (e : isSome h things most d = true) : rowOf h d = some ((rowI h d).map D.int) ∧ risL 0 7 ((rowI h d).map D.int) = true ∧ ((rowI h d).length : Int) ≤ most ∧ ∀ i ∈ rowI h d, i ∈ things := by
  unfold isSome at e
  cases hr : rowOf h d with
  | none => rw [hr] at e; cases e
  | some xs =>
    rw [hr] at e
    simp only [Bool.and_eq_true, decide_eq_true_eq] at e
    obtain ⟨⟨e1, e2⟩, e3⟩ := e
    obtain ⟨ns, rfl⟩ := ris_ints e1
    have : rowI h d = ns := by simp [rowI, hr]
    rw [this]
    simp only [someL_ints, List.all_eq_true, List.contains_iff_mem] at e3
    exact ⟨rfl, e1, by simpa using e2, e3⟩
theorem F_is_stand_eq {t : Tk} {d : D} {h : Hs} (ht : t.Ok) : F_is_stand_of [t.D, d] h = .ok (.bl (isStand h t d)) h := by
  obtain ⟨i0, i1, i2, i3, i4⟩ := ix_tk' t h
  have hti := F_in_ties_eq (h := h) ht
  cases hr : rowOf h d with
  | none => simp [F_is_stand_of, b_is_stand_of, F_is_row_eq, isStand, hr]
  | some xs =>
    by_cases h4 : (xs.length : Int) = 4
    · match xs, h4 with
      | [p, w, b, l], _ =>
        have hw := F_are_waits_eq (ns := t.ns) (d := w) (h := h) (by have := ht.num.1; omega)
        have hb := F_is_some_eq (th := iT t.lg) (d := b) (most := t.hands) (h := h) row_iT
        have hl := F_is_some_eq (th := iL t.ends) (d := l) (most := t.hands) (h := h) row_iL
        have hp := F_is_whole_eq (d := p) (lo := 0) (hi := (t.off.length : Int) - 1) (h := h)
        cases bp : isW 0 ((t.off.length : Int) - 1) p with
        | false => rw [bp] at hp; simp [F_is_stand_of, b_is_stand_of, F_is_row_eq, isStand, hr, x_len hr, i2, hp, bp]
        | true =>
          rw [bp] at hp
          cases bw : isWaits h t.ns w with
          | false => rw [bw] at hw; simp [F_is_stand_of, b_is_stand_of, F_is_row_eq, isStand, hr, x_len hr, i0, i2, hp, bp, hw, bw]
          | true =>
            rw [bw] at hw
            cases bb : isSome h t.lg t.hands b with
            | false => rw [bb] at hb; simp [F_is_stand_of, b_is_stand_of, F_is_row_eq, isStand, hr, x_len hr, i0, i1, i2, i3, hp, bp, hw, bw, hti, hb, bb]
            | true =>
              rw [bb] at hb
              cases bl : isSome h t.ends t.hands l with
              | false => rw [bl] at hl; simp [F_is_stand_of, b_is_stand_of, F_is_row_eq, isStand, hr, x_len hr, i0, i1, i2, i3, hp, bp, hw, bw, hti, hb, bb, hl, bl]
              | true =>
                rw [bl] at hl
                obtain ⟨rb, _⟩ := isSome_inv bb
                obtain ⟨rl, _⟩ := isSome_inv bl
                have hc1 : eComp false [7] (iRow (eVar 5)) (gVar 7) (tV (eBin (inD true) (eVar 7) (eVar 4))) (eVar 7) [some t.D, some d, some p, some w, some b, some l, some (iL t.ends), none] h = .ok (iL ((rowI h l).filter fun i => !(rowI h b).contains i)) h := by
                  rw [comp_ty (em := D.int) (xs := rowI h l) (fun i => !(rowI h b).contains i) D.int (Itr.row rfl rl) fun i hi => ?_]
                  · rfl
                  · exact ⟨_, rfl, by simp [in_ints rb], fun _ => rfl⟩
                have hc2 : eComp false [7] (iRow (eVar 4)) (gVar 7) (tAndF (tV (eBin (inD false) (eVar 7) (eVar 6))) (tV (eBin (inD true) (eVar 7) (eVar 5)))) (eVar 7) [some t.D, some d, some p, some w, some b, some l, some (iL t.ends), none] h = .ok (iL ((rowI h b).filter fun i => t.ends.contains i && !(rowI h l).contains i)) h := by
                  rw [comp_ty (em := D.int) (xs := rowI h b) (fun i => t.ends.contains i && !(rowI h l).contains i) D.int (Itr.row rfl rb) fun i hi => ?_]
                  · rfl
                  · refine ⟨_, rfl, ?_, fun _ => rfl⟩
                    have e1 := in_ints (n := false) (i := i) (d := iL t.ends) (h := h) row_iL
                    have e2 := in_ints (n := true) (i := i) rl
                    cases hce : t.ends.contains i <;> rw [hce] at e1 <;> simp at e1 e2 <;> simp [e1, e2]
                have hlb : lenD [b] h = .ok (.int (rowI h b).length) h := by rw [x_len rb]; simp
                have hcount : ∀ X : Int, (isStand h t d) = (decide (((rowI h b).length : Int) + ((rowI h l).filter fun i => !(rowI h b).contains i).length ≤ t.hands) && decide (((rowI h b).filter fun i => t.ends.contains i && !(rowI h l).contains i) = [])) := fun _ => by
                  have : decide (((rowI h b).filter fun i => t.ends.contains i && !(rowI h l).contains i) = []) = (rowI h b).all fun i => !t.ends.contains i || (rowI h l).contains i := by
                    rw [Bool.eq_iff_iff, decide_eq_true_iff, List.filter_eq_nil_iff, List.all_eq_true]
                    refine forall_congr' fun i => forall_congr' fun _ => ?_
                    cases t.ends.contains i <;> cases (rowI h l).contains i <;> simp
                  rw [this]
                  simp only [isStand, hr, bp, bw, bb, bl, Bool.true_and]
                rw [hcount 0]
                generalize (rowI h l).filter (fun i => !(rowI h b).contains i) = u1 at *
                generalize (rowI h b).filter (fun i => t.ends.contains i && !(rowI h l).contains i) = u2 at *
                generalize (rowI h b).length = n1 at *
                by_cases hq : t.hands < (n1 : Int) + u1.length
                · have : ¬ (n1 : Int) + u1.length ≤ t.hands := by omega
                  simp [F_is_stand_of, b_is_stand_of, F_is_row_eq, hr, x_len hr, i0, i1, i2, i3, hp, hw, hti, hb, hl, hc1, hc2, hlb, hq, this]
                · have : (n1 : Int) + u1.length ≤ t.hands := by omega
                  simp [F_is_stand_of, b_is_stand_of, F_is_row_eq, hr, x_len hr, i0, i1, i2, i3, hp, hw, hti, hb, hl, hc1, hc2, hlb, hq, this]
    · have : ∀ (a b c e : D), xs ≠ [a, b, c, e] := fun a b c e q => h4 (by rw [q]; rfl)
      have hf : isStand h t d = false := by
        unfold isStand
        rw [hr]
        split
        · rename_i e; exact absurd (Option.some.inj e) (this _ _ _ _)
        · rfl
      simp [F_is_stand_of, b_is_stand_of, F_is_row_eq, hf, hr, x_len hr, h4]
structure Sd where
  ph : Int
  ws : List Int
  busy : List Int
  last : List Int
deriving DecidableEq
def Sd.Q (s : Sd) : Q := .row [.int s.ph, dayQ s.ws, dayQ s.busy, dayQ s.last]
def Sd.D (s : Sd) : D := .tup [.int s.ph, iT s.ws, iT s.busy, iT s.last]
structure Sd.Ok (t : Tk) (s : Sd) : Prop where
  ph0 : 0 ≤ s.ph
  ph1 : s.ph < t.off.length
  wl : s.ws.length = t.ns.length
  wb : ∀ i, i < t.ns.length → 1 ≤ s.ws.getD i 0 ∧ s.ws.getD i 0 ≤ t.ns.getD i 0
  bris : risL 0 7 (s.busy.map D.int) = true
  bl : (s.busy.length : Int) ≤ t.hands
  bin : ∀ i ∈ s.busy, i ∈ t.lg
  lris : risL 0 7 (s.last.map D.int) = true
  ll : (s.last.length : Int) ≤ t.hands
  lin : ∀ i ∈ s.last, i ∈ t.ends
  sum : (s.busy.length : Int) + (s.last.filter fun i => !s.busy.contains i).length ≤ t.hands
  bt : ∀ i ∈ s.busy, i ∈ t.ends → i ∈ s.last
theorem qD_sd (s : Sd) : qD s.Q = s.D := by simp only [Sd.Q, Sd.D, qD, qDL, qD_day']
theorem nd_sd (s : Sd) : s.Q.nd = true := by simp [Sd.Q, Q.nd, ndL, dayQ, ndL_ints]
theorem und_sd (s : Sd) (n : Nat) : s.D.und n = true := by rw [← qD_sd]; exact und_qD _ _
theorem vq_sd {h : Hs} {n : Nat} (s : Sd) : vq h (n + 2) s.D = some s.Q := by
  rw [vq_row (d := s.D) (xs := [.int s.ph, iT s.ws, iT s.busy, iT s.last]) rfl]
  simp only [List.mapM_cons, List.mapM_nil, vq_int, vq_iT]; rfl
theorem sd_inv {h : Hs} {n : Nat} {d : D} {s : Sd} (e : vq h n d = some s.Q) : ∃ w b l, rowOf h d = some [.int s.ph, w, b, l] ∧ rowOf h w = some (s.ws.map D.int) ∧ rowOf h b = some (s.busy.map D.int) ∧ rowOf h l = some (s.last.map D.int) := by
  rcases vq_inv e with ⟨_, q⟩ | ⟨m, xs, qs, _, hr, hm, hq⟩
  · exact q.elim
  · simp only [Sd.Q, Q.row.injEq] at hq
    subst hq
    obtain ⟨y1, ys1, a1, m1, e1⟩ := mapM_view hm
    obtain ⟨y2, ys2, a2, m2, e2⟩ := mapM_view m1
    obtain ⟨y3, ys3, a3, m3, e3⟩ := mapM_view m2
    obtain ⟨y4, ys4, a4, m4, e4⟩ := mapM_view m3
    have e6 : ys4 = [] := List.length_eq_zero_iff.mp (mapM_len m4)
    subst e6 e4 e3 e2 e1
    obtain ⟨_, _, r2⟩ := dayQ_inv a2
    obtain ⟨_, _, r3⟩ := dayQ_inv a3
    obtain ⟨_, _, r4⟩ := dayQ_inv a4
    have r1 : y1 = .int s.ph := by
      rcases vq_inv a1 with ⟨_, q⟩ | ⟨_, _, _, _, _, _, q⟩
      · exact q
      · cases q
    subst r1
    exact ⟨y2, y3, y4, hr, r2, r3, r4⟩
theorem isStand_ok {h : Hs} {n : Nat} {d : D} {s : Sd} {t : Tk} (e : vq h n d = some s.Q) (hs : s.Ok t) : isStand h t d = true := by
  obtain ⟨w, b, l, hr, rw', rb, rl⟩ := sd_inv e
  have eb : rowI h b = s.busy := by simp [rowI, rb]
  have el : rowI h l = s.last := by simp [rowI, rl]
  have h1 : isW 0 ((t.off.length : Int) - 1) (.int s.ph) = true := by
    have := hs.ph0; have := hs.ph1; simp; omega
  have h2 : isWaits h t.ns w = true := by
    have hwl := hs.wl
    simp only [isWaits, rw', Bool.and_eq_true, decide_eq_true_eq, List.length_map, hwl, List.all_eq_true, List.mem_range, true_and]
    intro i hi
    have := hs.wb i hi
    have hg : (s.ws.map D.int).getD i .non = .int (s.ws.getD i 0) := by
      simp [List.getD, List.getElem?_eq_getElem (show i < s.ws.length by omega)]
    rw [hg]
    simp only [isW_int, Bool.and_eq_true, decide_eq_true_eq]
    exact this
  have hb : isSome h t.lg t.hands b = true := by
    simp only [isSome, rb, Bool.and_eq_true, decide_eq_true_eq, List.length_map, someL_ints, List.all_eq_true, List.contains_iff_mem]
    exact ⟨⟨hs.bris, hs.bl⟩, hs.bin⟩
  have hl : isSome h t.ends t.hands l = true := by
    simp only [isSome, rl, Bool.and_eq_true, decide_eq_true_eq, List.length_map, someL_ints, List.all_eq_true, List.contains_iff_mem]
    exact ⟨⟨hs.lris, hs.ll⟩, hs.lin⟩
  have h5 : (s.busy.all fun i => !t.ends.contains i || s.last.contains i) = true := by
    rw [List.all_eq_true]
    intro i hi
    by_cases q : i ∈ t.ends
    · simp [hs.bt i hi q]
    · simp [q]
  have h6 := hs.sum
  simp only [isStand, hr, h1, h2, hb, hl, eb, el, h5, Bool.and_true, Bool.true_and, decide_eq_true_eq]
  exact h6
def Sd.le (a b : Sd) : Bool := decide (a.ph = b.ph) && decide (a.busy = b.busy) && ((List.range a.ws.length).all fun i => decide (a.ws.getD i 0 ≤ b.ws.getD i 0)) && b.last.all fun i => a.last.contains i
theorem ix_sd (s : Sd) (h : Hs) : ixD s.D (.int 0) h = .ok (.int s.ph) h ∧ ixD s.D (.int 1) h = .ok (iT s.ws) h ∧ ixD s.D (.int 2) h = .ok (iT s.busy) h ∧ ixD s.D (.int 3) h = .ok (iT s.last) h :=
  ⟨x_ix_row (d := s.D) rfl rfl, x_ix_row (d := s.D) rfl rfl, x_ix_row (d := s.D) rfl rfl, x_ix_row (d := s.D) rfl rfl⟩
end WD
namespace WD
open PySem PySem.Spec PyProof.Rows L2
def rkN (i j : Nat) : Nat := i * (15 - i) / 2 + (j - i - 1)
theorem rkN_ltF : ∀ i j : Fin 8, ∀ i' j' : Fin 8, (i.val < j.val ∧ i'.val < j'.val ∧ (i.val < i'.val ∨ (i.val = i'.val ∧ j.val < j'.val))) → rkN i.val j.val < rkN i'.val j'.val := by decide +kernel
theorem rkN_lt (i : Nat) (h1 : i < 8) (j : Nat) (h2 : j < 8) (i' : Nat) (h3 : i' < 8) (j' : Nat) (h4 : j' < 8) (a : i < j) (b : i' < j') (c : i < i' ∨ (i = i' ∧ j < j')) : rkN i j < rkN i' j' := rkN_ltF ⟨i, h1⟩ ⟨j, h2⟩ ⟨i', h3⟩ ⟨j', h4⟩ ⟨a, b, c⟩
theorem rkN_le : ∀ i, i < 8 → ∀ j, j < 8 → i < j → rkN i j ≤ 27 := by decide +kernel
theorem tied_len : ∀ (ps : List (Int × Int)) (p : Int × Int), (∀ q ∈ p :: ps, 0 ≤ q.1 ∧ q.1 < q.2 ∧ q.2 < 8) → adjB ltP (p :: ps) = true → (p :: ps).length + rkN p.1.toNat p.2.toNat ≤ 28
  | [], p, hb, _ => by
    have := hb p List.mem_cons_self
    have := rkN_le p.1.toNat (by omega) p.2.toNat (by omega) (by omega)
    simp only [List.length_cons, List.length_nil]; omega
  | q :: ps, p, hb, ha => by
    rw [adjB, Bool.and_eq_true] at ha
    have ih := tied_len ps q (fun z hz => hb z (List.mem_cons_of_mem _ hz)) ha.2
    have h1 := hb p List.mem_cons_self
    have h2 := hb q (List.mem_cons_of_mem _ List.mem_cons_self)
    have h3 := ha.1
    simp only [ltP, decide_eq_true_eq] at h3
    have := rkN_lt p.1.toNat (by omega) p.2.toNat (by omega) q.1.toNat (by omega) q.2.toNat (by omega) (by omega) (by omega) (by omega)
    simp only [List.length_cons] at ih ⊢
    omega
theorem Tk.Ok.tied28 {t : Tk} (ht : t.Ok) : t.tied.length ≤ 28 := by
  cases hp : t.tied with
  | nil => simp
  | cons p ps =>
    have := tied_len ps p (fun q hq => by
      have h1 := ht.prs q (by rw [hp]; exact hq)
      have h2 := ht.num.1
      omega) (by rw [← hp]; exact ht.inc)
    omega
theorem ris_pw : ∀ {l : List Int} {lo hi : Int}, risL lo hi (l.map D.int) = true → l.Pairwise (· < ·) ∧ ∀ x ∈ l, lo ≤ x ∧ x ≤ hi
  | [], _, _, _ => ⟨List.Pairwise.nil, by simp⟩
  | a :: l, lo, hi, e => by
    simp only [List.map_cons, risL, Bool.and_eq_true, decide_eq_true_eq] at e
    obtain ⟨h1, h2⟩ := ris_pw e.2
    refine ⟨List.pairwise_cons.mpr ⟨fun x hx => by have := (h2 x hx).1; omega, h1⟩, fun x hx => ?_⟩
    rcases List.mem_cons.mp hx with rfl | hx
    · exact e.1
    · have := h2 x hx; omega
theorem ris_of : ∀ {l : List Int} {lo hi : Int}, l.Pairwise (· < ·) → (∀ x ∈ l, lo ≤ x ∧ x ≤ hi) → risL lo hi (l.map D.int) = true
  | [], _, _, _, _ => rfl
  | a :: l, lo, hi, hp, hb => by
    obtain ⟨h1, h2⟩ := List.pairwise_cons.mp hp
    have h3 := hb a List.mem_cons_self
    simp only [List.map_cons, risL, Bool.and_eq_true, decide_eq_true_eq]
    refine ⟨h3, ris_of h2 fun x hx => ?_⟩
    have h4 := h1 x hx
    have h5 := hb x (List.mem_cons_of_mem _ hx)
    omega
theorem len_sub : ∀ {l m : List Int}, l.Nodup → (∀ x ∈ l, x ∈ m) → l.length ≤ m.length
  | [], m, _, _ => Nat.zero_le _
  | a :: l, m, hn, hs => by
    obtain ⟨h1, h2⟩ := List.nodup_cons.mp hn
    have ha := hs a List.mem_cons_self
    have ih := len_sub (l := l) (m := m.erase a) h2 fun x hx => (List.mem_erase_of_ne (fun e : x = a => h1 (e ▸ hx))).mpr (hs x (List.mem_cons_of_mem _ hx))
    rw [List.length_erase_of_mem ha] at ih
    have := List.length_pos_of_mem ha
    simp only [List.length_cons]; omega
theorem pw_nodup {l : List Int} (h : l.Pairwise (· < ·)) : l.Nodup := h.imp fun {a b} hab e => by omega
theorem ends_bd {t : Tk} (ht : t.Ok) {i : Int} (hi : i ∈ t.ends) : 0 ≤ i ∧ i < t.ns.length := by
  rcases (endsA_mem _ _).mp hi with q | ⟨p, hp, rfl | rfl⟩
  · cases q
  · have := ht.prs p hp; omega
  · have := ht.prs p hp; omega
def tiesL (ps : List (Int × Int)) : List Int := (ps.map fun p => [p.1, p.2]).flatten
theorem tiesL_mem {ps : List (Int × Int)} {i : Int} : i ∈ tiesL ps ↔ ∃ p ∈ ps, i = p.1 ∨ i = p.2 := by
  simp only [tiesL, List.mem_flatten, List.mem_map]
  constructor
  · rintro ⟨l, ⟨p, hp, rfl⟩, hi⟩
    exact ⟨p, hp, by simpa using hi⟩
  · rintro ⟨p, hp, hi⟩
    exact ⟨_, ⟨p, hp, rfl⟩, by simpa using hi⟩
theorem tiesL_len (ps : List (Int × Int)) : (tiesL ps).length = 2 * ps.length := by
  induction ps with
  | nil => rfl
  | cons p ps ih => simp only [tiesL, List.map_cons, List.flatten_cons, List.length_append, List.length_cons, List.length_nil] at ih ⊢; omega
theorem ends_iff {t : Tk} {i : Int} : i ∈ t.ends ↔ i ∈ tiesL t.tied := by
  rw [tiesL_mem]
  unfold Tk.ends
  rw [endsA_mem]; simp
/-- a comprehension that picks, its test drawing -/
theorem comp_pick {n : Nat} {vs : List Nat} {fi : FI} {g : Tg} {tt : FT} {te : FE} {s : Ss} {h h1 : Hs} {xs : List Int} (P : Int → Prop) (hf : fi s h = .ok (.seq (xs.map D.int)) h1) (hk : Dk n h1)
    (hs : ∀ x ∈ xs, ∀ H, Dk n H → ∃ s2 b H2, g (.int x) (wipeS s vs) H = some s2 ∧ tt s2 H = .ok b H2 ∧ Dw n H H2 ∧ Dk n H2 ∧ (b = true → P x ∧ te s2 H2 = .ok (.int x) H2)) :
    ∃ (ys : List Int) (H2 : Hs), ys.Sublist xs ∧ (∀ y ∈ ys, P y) ∧ Dw n h1 H2 ∧ Dk n H2 ∧ eComp false vs fi g tt te s h = .ok (iL ys) H2 := by
  have main : ∀ (zs acc : List Int) (H : Hs), (∀ z ∈ zs, z ∈ xs) → Dk n H → ∃ (ys : List Int) (H2 : Hs), ys.Sublist zs ∧ (∀ y ∈ ys, P y) ∧ Dw n H H2 ∧ Dk n H2 ∧ compA g tt te (wipeS s vs) (newL false) (zs.map D.int) (acc.map D.int) H = .ok (iL (acc ++ ys)) H2 := by
    intro zs
    induction zs with
    | nil => intro acc H _ hk; exact ⟨[], H, List.Sublist.refl _, by simp, ⟨by obtain ⟨dk, e⟩ := hk.ex; exact ⟨dk, (hd_self e).symm⟩⟩, hk, by simp [compA, iL]⟩
    | cons z zs ih =>
      intro acc H hz hk
      obtain ⟨s2, b, H2, k1, k2, w, k3, k4⟩ := hs z (hz z List.mem_cons_self) H hk
      cases b with
      | false =>
        obtain ⟨ys, H3, a1, a2, a3, a4, a5⟩ := ih acc H2 (fun y hy => hz y (List.mem_cons_of_mem _ hy)) k3
        refine ⟨ys, H3, a1.cons _, a2, w.trans a3, a4, ?_⟩
        rw [← a5, List.map_cons]
        conv => lhs; unfold compA stepC
        simp only [k1, k2, x_quiet_ok, R.bind_ok, Bool.false_eq_true, if_false]
      | true =>
        obtain ⟨p1, p2⟩ := k4 rfl
        obtain ⟨ys, H3, a1, a2, a3, a4, a5⟩ := ih (acc ++ [z]) H2 (fun y hy => hz y (List.mem_cons_of_mem _ hy)) k3
        refine ⟨z :: ys, H3, a1.cons₂ _, fun y hy => ?_, w.trans a3, a4, ?_⟩
        · rcases List.mem_cons.mp hy with rfl | hy
          · exact p1
          · exact a2 y hy
        · rw [List.map_append, List.append_assoc] at a5
          rw [show acc ++ z :: ys = acc ++ ([z] ++ ys) from rfl, ← a5, List.map_cons]
          conv => lhs; unfold compA stepC
          simp only [k1, k2, p2, x_quiet_ok, R.bind_ok, if_true]
          rfl
  obtain ⟨ys, H2, a1, a2, a3, a4, a5⟩ := main xs [] h1 (fun z hz => hz) hk
  refine ⟨ys, H2, a1, a2, a3, a4, ?_⟩
  unfold eComp
  rw [hf, R.bind_ok]
  exact a5
theorem made_turn {n : Nat} {H : Hs} {t : Tk} {ph : Int} {num : Int} {ws : List Int} (hk : Dk n H) (hb : 1 ≤ num ∧ num ≤ 40) (hz : ws.length ≤ 1000) : ∃ (w : Int) (H2 : Hs), Dw n H H2 ∧ Dk n H2 ∧ 1 ≤ w ∧ w ≤ num ∧
    k__law_made_up_3 [some (.loc n), some t.D, some (iT t.ns), some (.int t.hands), some (iT t.off), some (iT t.lg), some (.tup (t.tied.map prD)), some (.int ph), some (.loc H.length), some (.int num), none, none, none, none, none, none, none] (H ++ [.lst (ws.map D.int)]) = .nx [some (.loc n), some t.D, some (iT t.ns), some (.int t.hands), some (iT t.off), some (iT t.lg), some (.tup (t.tied.map prD)), some (.int ph), some (.loc H.length), none, none, none, none, none, none, none, none] (H2 ++ [.lst ((ws ++ [w]).map D.int)]) := by
  obtain ⟨x, H2', w, k2, e⟩ := (hk.app (t := [.lst (ws.map D.int)])).next
  have hn : n < H.length := by obtain ⟨dk, q⟩ := hk.ex; exact locAt_lt q
  obtain ⟨H2, rfl, w2⟩ := w.cut hn
  have hlen := w2.len
  have k3 := k2.cut (by omega)
  let L : List Int := [1 + x / 4 % num, num, 1, if num - 1 > 1 then num - 1 else 1]
  have hix := ix_ints (h := H2 ++ [.lst (ws.map D.int)]) (d := .lst (L.map D.int)) (ns := L) (i := x % 4) rfl (by omega) (by simp [L]; omega)
  have hf : L.getD (x % 4).toNat 0 ∈ L := by
    have hl : (x % 4).toNat < L.length := by simp [L]; omega
    simp only [List.getD, List.getElem?_eq_getElem hl, Option.getD_some]
    exact List.getElem_mem hl
  have hlb : ∀ z ∈ L, 1 ≤ z ∧ z ≤ num := by
    intro z hz
    have h1 := Int.emod_nonneg (x / 4) (show num ≠ 0 by omega)
    have h2 := Int.emod_lt_of_pos (x / 4) (show 0 < num by omega)
    simp only [L, List.mem_cons, List.not_mem_nil, or_false] at hz
    rcases hz with rfl | rfl | rfl | rfl
    · omega
    · omega
    · omega
    · split <;> omega
  have hwb := hlb _ hf
  generalize hv : L.getD (x % 4).toNat 0 = v at *
  refine ⟨v, H2, w2, k3, hwb.1, hwb.2, ?_⟩
  have ha := app_last (g := H2) (xs := ws.map D.int) (d := .int v) (by simp; omega)
  rw [hlen] at ha
  have hat : locAt (H2 ++ [.lst (ws.map D.int)]) H.length = some (ws.map D.int) := by rw [← hlen]; exact locAt_end
  have h0 : 0 < num := by omega
  simp [L] at hix
  simp [e, h0, hix, hat, ha]
theorem made_loop {n : Nat} {t : Tk} {ph : Int} : ∀ (ns : List Int) (H : Hs) (ws : List Int), Dk n H → (∀ m ∈ ns, 1 ≤ m ∧ m ≤ 40) → ws.length + ns.length ≤ 1000 → ∃ (vs : List Int) (H2 : Hs), Dw n H H2 ∧ Dk n H2 ∧ vs.length = ns.length ∧ (∀ i, i < ns.length → 1 ≤ vs.getD i 0 ∧ vs.getD i 0 ≤ ns.getD i 0) ∧
    loopS (gVar 9) k__law_made_up_3 (ns.map D.int) [some (.loc n), some t.D, some (iT t.ns), some (.int t.hands), some (iT t.off), some (iT t.lg), some (.tup (t.tied.map prD)), some (.int ph), some (.loc H.length), none, none, none, none, none, none, none, none] (H ++ [.lst (ws.map D.int)]) = .nx [some (.loc n), some t.D, some (iT t.ns), some (.int t.hands), some (iT t.off), some (iT t.lg), some (.tup (t.tied.map prD)), some (.int ph), some (.loc H.length), none, none, none, none, none, none, none, none] (H2 ++ [.lst ((ws ++ vs).map D.int)])
  | [], H, ws, hk, _, _ => ⟨[], H, ⟨by obtain ⟨dk, e⟩ := hk.ex; exact ⟨dk, (hd_self e).symm⟩⟩, hk, rfl, by simp, by rw [List.append_nil]; rfl⟩
  | m :: ns, H, ws, hk, hb, hz => by
    simp only [List.length_cons] at hz
    obtain ⟨w, H1, w1, k1, b1, b2, e1⟩ := made_turn (t := t) (ph := ph) (ws := ws) hk (hb m List.mem_cons_self) (by omega)
    obtain ⟨vs, H2, w2, k2, c1, c2, e2⟩ := made_loop (t := t) (ph := ph) ns H1 (ws ++ [w]) k1 (fun z hz => hb z (List.mem_cons_of_mem _ hz)) (by simp; omega)
    rw [w1.len, List.append_assoc] at e2
    refine ⟨w :: vs, H2, w1.trans w2, k2, by simp [c1], fun i hi => ?_, ?_⟩
    · cases i with
      | zero => exact ⟨b1, b2⟩
      | succ i => simpa using c2 i (by simpa using hi)
    · rw [List.map_cons]
      exact (loop_nx (s1 := [some (.loc n), some t.D, some (iT t.ns), some (.int t.hands), some (iT t.off), some (iT t.lg), some (.tup (t.tied.map prD)), some (.int ph), some (.loc H.length), some (.int m), none, none, none, none, none, none, none]) rfl e1).trans e2
theorem made_ok {t : Tk} (ht : t.Ok) {ph : Int} {ws busy oth : List Int} (hp : 0 ≤ ph ∧ ph < t.off.length) (wl : ws.length = t.ns.length) (wb : ∀ i, i < t.ns.length → 1 ≤ ws.getD i 0 ∧ ws.getD i 0 ≤ t.ns.getD i 0)
    (hbs : busy.Sublist t.lg) (hbl : (busy.length : Int) ≤ t.hands) (hos : oth.Sublist (sortU (tiesL t.tied))) (hon : ∀ i ∈ oth, i ∉ busy) :
    (Sd.mk ph ws busy (sortI ((sortU (tiesL t.tied)).filter (fun i => busy.contains i) ++ oth.take (t.hands - busy.length).toNat))).Ok t := by
  have h8 := ht.num.1
  obtain ⟨lp, lb⟩ := ris_pw ht.lng
  have bp : busy.Pairwise (· < ·) := lp.sublist hbs
  have es := sortU_srt (tiesL t.tied)
  have em : ∀ i, i ∈ sortU (tiesL t.tied) ↔ i ∈ t.ends := fun i => by rw [sortU_mem, ends_iff]
  generalize hE : sortU (tiesL t.tied) = E at *
  have l0 : (E.filter fun i => busy.contains i).length ≤ busy.length := len_sub (pw_nodup (es.sublist List.filter_sublist)) fun x hx => by
    have := (List.mem_filter.mp hx).2
    simpa using this
  have lk : (oth.take (t.hands - busy.length).toNat).length ≤ (t.hands - busy.length).toNat := by rw [List.length_take]; omega
  have pm := sortI_perm (E.filter (fun i => busy.contains i) ++ oth.take (t.hands - busy.length).toNat)
  have om : ∀ i ∈ oth.take (t.hands - busy.length).toNat, i ∈ E ∧ i ∉ busy := fun i hi => by
    have h1 := List.mem_of_mem_take hi
    exact ⟨hos.subset h1, hon i h1⟩
  have nd : (E.filter (fun i => busy.contains i) ++ oth.take (t.hands - busy.length).toNat).Nodup := by
    rw [List.nodup_append]
    refine ⟨pw_nodup (es.sublist List.filter_sublist), pw_nodup ((es.sublist hos).sublist (List.take_sublist _ _)), fun a ha b hb e => ?_⟩
    subst e
    have h1 := (List.mem_filter.mp ha).2
    exact (om a hb).2 (by simpa using h1)
  have mem : ∀ i, i ∈ sortI (E.filter (fun i => busy.contains i) ++ oth.take (t.hands - busy.length).toNat) → i ∈ E := fun i hi => by
    rcases List.mem_append.mp (pm.mem_iff.mp hi) with q | q
    · exact (List.mem_filter.mp q).1
    · exact (om i q).1
  have pl := pm.length_eq
  rw [List.length_append] at pl
  refine ⟨hp.1, hp.2, wl, wb, ris_of bp fun x hx => ?_, hbl, fun i hi => hbs.subset hi, ris_of ?_ fun x hx => ?_, ?_, fun i hi => (em i).mp (mem i hi), ?_, fun i hi he => ?_⟩
  · have := lb x (hbs.subset hx); omega
  · refine ((sortI_srt _).and (pm.nodup_iff.mpr nd)).imp fun {a b} hab => ?_
    have := hab.1; have := hab.2; omega
  · have := ends_bd ht ((em x).mp (mem x hx)); omega
  · show ((sortI _).length : Int) ≤ _
    rw [pl]; omega
  · have e0 : ((E.filter fun i => busy.contains i).filter fun i => !busy.contains i) = [] := by
      rw [List.filter_eq_nil_iff]
      intro a ha
      have := (List.mem_filter.mp ha).2
      rw [this]; decide
    have h1 := (pm.filter fun i => !busy.contains i).length_eq
    rw [List.filter_append, e0, List.nil_append] at h1
    have h2 := List.length_filter_le (fun i => !busy.contains i) (oth.take (t.hands - busy.length).toNat)
    show (busy.length : Int) + (((sortI _).filter _).length : Nat) ≤ _
    rw [h1]; omega
  · refine pm.mem_iff.mpr (List.mem_append_left _ (List.mem_filter.mpr ⟨(em i).mpr he, ?_⟩))
    simpa using hi
theorem law_made_eq {n : Nat} {H : Hs} {t : Tk} (hk : Dk n H) (ht : t.Ok) : ∃ (s : Sd) (H2 : Hs), Dw n H H2 ∧ Dk n H2 ∧ s.Ok t ∧ F__law_made_up [.loc n, t.D] H = .ok s.D H2 := by
  have hn : n < H.length := by obtain ⟨dk, q⟩ := hk.ex; exact locAt_lt q
  obtain ⟨x0, H0, w0, k0, e0⟩ := hk.next
  have l0 := w0.len
  have ho := ht.off1
  have hph : 0 ≤ x0 % (t.off.length : Int) ∧ x0 % (t.off.length : Int) < t.off.length := ⟨Int.emod_nonneg _ (by omega), Int.emod_lt_of_pos _ (by omega)⟩
  have hmo : ∀ (G : Hs), modD (.int x0) (.int t.off.length) G = .ok (.int (x0 % (t.off.length : Int))) G := fun G => by
    have : (0 : Int) < t.off.length := by omega
    generalize (t.off.length : Int) = L at *
    simp [this]
  generalize hpe : x0 % (t.off.length : Int) = ph at *
  obtain ⟨ws, H1, w1, k1, wl, wb, e1⟩ := made_loop (n := n) (t := t) (ph := ph) t.ns H0 [] k0 ht.num.2 (by have := ht.num.1; simp; omega)
  have l1 := w1.len
  rw [l0, List.nil_append] at e1
  have hfor := (for_tup (f := eVar 2) (g := gVar 9) (b := k__law_made_up_3) (s := [some (.loc n), some t.D, some (iT t.ns), some (.int t.hands), some (iT t.off), some (iT t.lg), some (.tup (t.tied.map prD)), some (.int ph), some (.loc H.length), none, none, none, none, none, none, none, none]) (h := H0 ++ [.lst []]) (h1 := H0 ++ [.lst []]) (xs := t.ns.map D.int) rfl).trans e1
  -- the ends
  have h28 := ht.tied28
  have hcl : ∀ (s : Ss) (G : Hs), s[6]? = some (some (.tup (t.tied.map prD))) → 12 < s.length → eComp false [12] (iRow (eVar 6)) (gVar 12) tYesF (eB (listD false) (aCons (eVar 12) aNil)) s G = .ok (.lst (t.tied.map fun p => iL [p.1, p.2])) G := fun s G h6 hl => by
    rw [comp_map (em := prD) (xs := t.tied) (h1 := G) (fun p => iL [p.1, p.2]) (Itr.tup (by simp [h6])) fun p hp => ?_]
    · rfl
    · refine ⟨_, rfl, ?_⟩
      have : (((wipeS s [12]).set 12 (some (prD p)))[12]?) = some (some (prD p)) := by
        rw [List.getElem?_set_self (by simpa using hl)]
      simp only [x_b, x_acons, x_var, this, x_anil, R.bind_ok]
      rfl
  have hsum : ∀ G : Hs, sumLD [.lst (t.tied.map fun p => iL [p.1, p.2]), .lst []] G = .ok (iL (tiesL t.tied)) G := fun G => by
    have hlo := listsOf_map (h := G) (f := fun p : Int × Int => iL [p.1, p.2]) (g := fun p => [D.int p.1, D.int p.2]) t.tied fun p _ => rfl
    have e : ((t.tied.map fun p => [D.int p.1, D.int p.2]).map List.length).sum = 2 * t.tied.length := by
      rw [List.map_map]
      generalize t.tied = ps
      induction ps with
      | nil => rfl
      | cons p ps ih => simp only [List.map_cons, List.sum_cons, ih, Function.comp, List.length_cons, List.length_nil]; omega
    have ef : (t.tied.map fun p => [D.int p.1, D.int p.2]).flatten = (tiesL t.tied).map D.int := by
      unfold tiesL
      rw [List.map_flatten, List.map_map]; rfl
    simp only [sumLD, x_lx_lst, hlo, e, List.nil_append, List.length_nil, Nat.zero_add, ef]
    rw [if_pos (by simp; omega)]; rfl
  have hset : ∀ G : Hs, sortSetX [iL (tiesL t.tied)] G = .ok (iL (sortU (tiesL t.tied))) G := fun G => x_sortSetX row_iL (by rw [tiesL_len]; omega)
  -- busy
  have kA : Dk n (H1 ++ [.lst (ws.map D.int)]) := k1.app
  obtain ⟨bz, H3, b1, b2, w3, k3, e3⟩ := comp_pick (n := n) (vs := [14]) (fi := iRow (eVar 5)) (g := gVar 14) (tt := tV (eBin (eqD false) (eBin modD (eCall 1 F__law_next (aCons (eVar 0) aNil)) (eC (.int 3))) (eC (.int 0)))) (te := eVar 14) (s := [some (.loc n), some t.D, some (iT t.ns), some (.int t.hands), some (iT t.off), some (iT t.lg), some (.tup (t.tied.map prD)), some (.int ph), some (.loc H.length), none, none, some (iL (sortU (tiesL t.tied))), none, none, none, none, none]) (h := H1 ++ [.lst (ws.map D.int)]) (h1 := H1 ++ [.lst (ws.map D.int)]) (xs := t.lg) (fun _ => True) rfl kA fun x hx G kG => by
    obtain ⟨y, G2, wG, kG2, eG⟩ := kG.next
    refine ⟨_, (y % 3 == 0), G2, rfl, ?_, wG, kG2, fun _ => ⟨trivial, rfl⟩⟩
    simp [eG]
  generalize hE : sortU (tiesL t.tied) = E at *
  have hhn := ht.hnd
  have hcut : cutG bz none (some t.hands) = bz.take t.hands.toNat := cut_hi (by omega)
  generalize hbu : bz.take t.hands.toNat = busy at *
  have hbl : (busy.length : Int) ≤ t.hands := by rw [← hbu, List.length_take]; omega
  have hbs : busy.Sublist t.lg := by rw [← hbu]; exact (List.take_sublist _ _).trans b1
  have hc6 : eComp false [14] (iRow (eVar 11)) (gVar 14) (tV (eBin (inD false) (eVar 14) (eVar 13))) (eVar 14) [some (.loc n), some t.D, some (iT t.ns), some (.int t.hands), some (iT t.off), some (iT t.lg), some (.tup (t.tied.map prD)), some (.int ph), some (.loc H.length), none, none, some (iL E), none, some (iL busy), none, none, none] H3 = .ok (iL (E.filter fun i => busy.contains i)) H3 := by
    rw [comp_ty (em := D.int) (xs := E) (h1 := H3) (fun i => busy.contains i) D.int (Itr.lst rfl) fun i hi => ?_]
    · rfl
    · exact ⟨_, rfl, by simp [in_ints (d := iL busy) row_iL], fun _ => rfl⟩
  obtain ⟨oth, H4, c1, c2, w4, k4, e4⟩ := comp_pick (n := n) (vs := [14]) (fi := iRow (eVar 11)) (g := gVar 14) (tt := tAndF (tV (eBin (inD true) (eVar 14) (eVar 13))) (tV (eBin (eqD false) (eBin modD (eCall 1 F__law_next (aCons (eVar 0) aNil)) (eC (.int 3))) (eC (.int 0))))) (te := eVar 14) (s := [some (.loc n), some t.D, some (iT t.ns), some (.int t.hands), some (iT t.off), some (iT t.lg), some (.tup (t.tied.map prD)), some (.int ph), some (.loc H.length), none, none, some (iL E), none, some (iL busy), none, some (iL (E.filter fun i => busy.contains i)), none]) (h := H3) (h1 := H3) (xs := E) (fun i => i ∉ busy) rfl k3 fun x hx G kG => by
    by_cases hb : x ∈ busy
    · refine ⟨_, false, G, rfl, ?_, ⟨by obtain ⟨dk, e⟩ := kG.ex; exact ⟨dk, (hd_self e).symm⟩⟩, kG, fun q => nomatch q⟩
      simp [in_ints (d := iL busy) row_iL, hb]
    · obtain ⟨y, G2, wG, kG2, eG⟩ := kG.next
      refine ⟨_, (y % 3 == 0), G2, rfl, ?_, wG, kG2, fun _ => ⟨hb, rfl⟩⟩
      simp [in_ints (d := iL busy) row_iL, hb, eG]
  have ok := made_ok ht (ph := ph) (ws := ws) (busy := busy) (oth := oth) hph wl wb hbs hbl (by rw [hE]; exact c1) c2
  rw [hE] at ok
  have wB : Dw n (H1 ++ [.lst (ws.map D.int)]) H4 := w3.trans w4
  obtain ⟨H5, rfl, w5⟩ := wB.cut (by omega)
  have l5 := w5.len
  refine ⟨_, H5, (w0.trans w1).trans w5, k4.cut (by omega), ok, ?_⟩
  have hcut2 : cutG oth none (some (t.hands - (busy.length : Int))) = oth.take (t.hands - (busy.length : Int)).toNat := cut_hi (by omega)
  have hEl : E.length ≤ 100 := by rw [← hE]; exact Nat.le_trans (sortU_le _) (by rw [tiesL_len]; omega)
  have hadd : ∀ G : Hs, addD (iL (E.filter fun i => busy.contains i)) (iL (oth.take (t.hands - (busy.length : Int)).toNat)) G = .ok (iL (E.filter (fun i => busy.contains i) ++ oth.take (t.hands - (busy.length : Int)).toNat)) G := fun G => add_iL (by
    have h1 := List.length_filter_le (fun i => busy.contains i) E
    have h2 := c1.length_le
    have h3 := List.length_take_le (t.hands - (busy.length : Int)).toNat oth
    omega)
  generalize E.filter (fun i => busy.contains i) = F0 at *
  generalize oth.take (t.hands - (busy.length : Int)).toNat = O0 at *
  have hsrt : ∀ G : Hs, sortedD false [iL (F0 ++ O0)] G = .ok (iL (sortI (F0 ++ O0))) G := fun G => by rw [x_sorted_ints (ns := F0 ++ O0) row_iL]; rfl
  generalize F0 ++ O0 = M at *
  generalize hS : sortI M = la at *
  have htw : tupleD [.loc H.length] (H5 ++ [.lst (ws.map D.int)]) = .ok (iT ws) (H5 ++ [.lst (ws.map D.int)]) := x_tupL (by rw [show H.length = H5.length by omega]; exact locAt_end)
  have hex := ((w0.trans w1).trans w5).exitA (t := [.lst (ws.map D.int)]) (und_sd ⟨ph, ws, busy, la⟩ H.length)
  have hb : b__law_made_up [some (.loc n), some t.D, none, none, none, none, none, none, none, none, none, none, none, none, none, none, none] H = .rt (Sd.mk ph ws busy la).D (H5 ++ [.lst (ws.map D.int)]) := by
    have hrow : rowOf H t.D = some [iT t.ns, .int t.hands, iT t.off, iT t.lg, .tup (t.tied.map prD)] := rfl
    have hcl2 := hcl [some (.loc n), some t.D, some (iT t.ns), some (.int t.hands), some (iT t.off), some (iT t.lg), some (.tup (t.tied.map prD)), some (.int ph), some (.loc H.length), none, none, none, none, none, none, none, none] (H1 ++ [.lst (ws.map D.int)]) rfl (by simp)
    generalize (t.tied.map fun p => iL [p.1, p.2]) = TL at *
    generalize iL (tiesL t.tied) = TT at *
    have ll : ∀ (a : List Int) (G : Hs), lenD [iL a] G = .ok (.int a.length) G := fun a G => len_iL
    generalize hWS : O.lst (ws.map D.int) = WS at *
    simp only [b__law_made_up]
    simp [hrow, e0, hmo, l0, hfor, hcl2, hsum, hset, e3, hcut, hc6, e4, hcut2, hadd, hsrt, htw, Sd.D]
  simp only [F__law_made_up, x_run, List.length_cons, List.length_nil]
  simp only [Nat.zero_add, Nat.reduceAdd, if_true, List.map_cons, List.map_nil, Nat.reduceSub, List.replicate, List.cons_append, List.nil_append, hb]
  exact hex
theorem ties_sum {t : Tk} {G : Hs} (ht : t.Ok) : sumLD [.lst (t.tied.map fun p => iL [p.1, p.2]), .lst []] G = .ok (iL (tiesL t.tied)) G := by
  have h28 := ht.tied28
  have hlo := listsOf_map (h := G) (f := fun p : Int × Int => iL [p.1, p.2]) (g := fun p => [D.int p.1, D.int p.2]) t.tied fun p _ => rfl
  have e : ((t.tied.map fun p => [D.int p.1, D.int p.2]).map List.length).sum = 2 * t.tied.length := by
    rw [List.map_map]
    generalize t.tied = ps
    induction ps with
    | nil => rfl
    | cons p ps ih => simp only [List.map_cons, List.sum_cons, ih, Function.comp, List.length_cons, List.length_nil]; omega
  have ef : (t.tied.map fun p => [D.int p.1, D.int p.2]).flatten = (tiesL t.tied).map D.int := by
    unfold tiesL
    rw [List.map_flatten, List.map_map]; rfl
  simp only [sumLD, x_lx_lst, hlo, e, List.nil_append, List.length_nil, Nat.zero_add, ef]
  rw [if_pos (by simp; omega)]; rfl
theorem ties_contains {t : Tk} (i : Int) : (tiesL t.tied).contains i = t.ends.contains i := by
  rw [Bool.eq_iff_iff, List.contains_iff_mem, List.contains_iff_mem, ends_iff]

end WD
namespace WD
open PySem PySem.Spec PyProof.Rows L2
theorem vq_prs {h : Hs} {n : Nat} : ∀ ps : List (Int × Int), (ps.map prD).mapM (vq h (n + 1)) = some (ps.map prQ)
  | [] => rfl
  | p :: ps => by
    have h1 : vq h (n + 1) (prD p) = some (prQ p) := by unfold prD; rw [vq_tup2 vq_int vq_int]; rfl
    rw [List.map_cons, List.mapM_cons, h1, vq_prs ps]; rfl
def prL (p : Int × Int) : D := .lst [.int p.1, .int p.2]
theorem vq_prsL {h : Hs} {n : Nat} : ∀ ps : List (Int × Int), (ps.map prL).mapM (vq h (n + 1)) = some (ps.map prQ)
  | [] => rfl
  | p :: ps => by
    have h1 : vq h (n + 1) (prL p) = some (prQ p) := by unfold prL; rw [vq_row (xs := [.int p.1, .int p.2]) rfl, List.mapM_cons, vq_int, List.mapM_cons, vq_int]; rfl
    rw [List.map_cons, List.mapM_cons, h1, vq_prsL ps]; rfl
theorem vq_tk (t : Tk) (h : Hs) : vq h 3 t.D = some t.Q := by
  have hp : vq h 2 (.tup (t.tied.map prD)) = some (.row (t.tied.map prQ)) := by rw [vq_row (xs := t.tied.map prD) rfl, vq_prs]; rfl
  unfold Tk.D
  rw [vq_row (xs := [iT t.ns, .int t.hands, iT t.off, iT t.lg, .tup (t.tied.map prD)]) rfl]
  simp only [List.mapM_cons, List.mapM_nil, vq_iT, vq_int, hp]
  rfl
def Tk.L (t : Tk) : WD.D := .lst [iL t.ns, .int t.hands, iL t.off, iL t.lg, .lst (t.tied.map prL)]
theorem vq_tkL (t : Tk) (h : Hs) : vq h 3 t.L = some t.Q := by
  have hp : vq h 2 (.lst (t.tied.map prL)) = some (.row (t.tied.map prQ)) := by rw [vq_row (xs := t.tied.map prL) rfl, vq_prsL]; rfl
  unfold Tk.L
  rw [vq_row (xs := [iL t.ns, .int t.hands, iL t.off, iL t.lg, .lst (t.tied.map prL)]) rfl]
  simp only [List.mapM_cons, List.mapM_nil, vq_iL, vq_int, hp]
  rfl

end WD
namespace WD
open PySem PySem.Spec PyProof.Rows L2
theorem ok_string (s : String) : PyData.strOk (Str.ofString s) = true := by
  rw [Str.ofString_eq_toList]
  unfold PyData.strOk
  simp only [List.all_toArray, List.all_eq_true, List.mem_map, decide_eq_true_eq]
  rintro n ⟨c, _, rfl⟩
  have h := c.valid
  simp only [UInt32.isValidChar, Nat.isValidChar] at h
  show c.val.toNat < _
  omega
theorem sok_app {a b : Str} (ha : PyData.strOk a = true) (hb : PyData.strOk b = true) : PyData.strOk (a ++ b) = true := by
  have : (a ++ b).cps = a.cps ++ b.cps := rfl
  unfold PyData.strOk at *
  rw [this, Array.all_append, ha, hb]
  rfl
theorem sok_from : ∀ (ts : List Str) (k : Nat) (acc : Str), PyData.strOk acc = true → (∀ t ∈ ts, PyData.strOk t = true) → PyData.strOk (textFrom k acc ts) = true
  | [], _, _, h, _ => h
  | t :: ts, k, acc, h, ht => by
    show PyData.strOk (textFrom (k + 1) _ ts) = true
    exact sok_from ts (k + 1) _ (sok_app (sok_app h (ok_string _)) (ht t List.mem_cons_self)) fun x hx => ht x (List.mem_cons_of_mem _ hx)
theorem sok_join (sep : Str) (hs : PyData.strOk sep = true) : ∀ ts : List Str, (∀ t ∈ ts, PyData.strOk t = true) → PyData.strOk (Str.join sep ts) = true
  | [], _ => (by simp [Str.join, Str.empty, PyData.strOk] : PyData.strOk (Str.join sep []) = true)
  | [x], h => h x List.mem_cons_self
  | x :: y :: r, h => by
    show PyData.strOk (x ++ sep ++ Str.join sep (y :: r)) = true
    exact sok_app (sok_app (h x List.mem_cons_self) hs) (sok_join sep hs (y :: r) fun t ht => h t (List.mem_cons_of_mem _ ht))
mutual
/-- small: ints of at most eight signs -/
def smlD : D → Bool
  | .non => true
  | .bl _ => true
  | .int i => decide (0 ≤ i) && decide (i ≤ 1000000)
  | .tup xs => smlDs xs
  | .lst xs => smlDs xs
  | _ => false
def smlDs : List D → Bool
  | [] => true
  | x :: xs => smlD x && smlDs xs
end
mutual
def depD : D → Nat
  | .tup xs => depDs xs + 1
  | .lst xs => depDs xs + 1
  | _ => 0
def depDs : List D → Nat
  | [] => 0
  | x :: xs => max (depD x) (depDs xs)
end
mutual
def blkD : D → Nat
  | .tup xs => blkDs xs
  | .lst xs => blkDs xs
  | _ => 0
def blkDs : List D → Nat
  | [] => 0
  | x :: xs => blkD x + 1 + blkDs xs
end
theorem shown_int {i : Int} (h : 0 ≤ i ∧ i ≤ 1000000) : (PyData.shown (.int i)).length ≤ 9 ∧ PyData.showable (.int i) = true ∧ PyData.strOk (PyData.shown (.int i)) = true := by
  have hn : i.natAbs < 2 ^ 20 := by omega
  refine ⟨?_, ?_, ok_string _⟩
  · have e := int_text_length_le10 (a := i) (k := 8) (by decide) (by omega)
    show (Str.ofString (toString i)).length ≤ 9
    rw [PySem.ofString_length]; omega
  · simp only [PyData.showable, decide_eq_true_eq]
    by_cases h0 : i.natAbs = 0
    · rw [h0]; decide
    · rw [Nat.log2_lt h0]
      exact Nat.lt_of_lt_of_le hn (Nat.pow_le_pow_right (by omega) (by omega))
mutual
theorem small_toP : ∀ (d : D) (n : Nat), smlD d = true → depD d ≤ n → ∃ p : PyData, (∀ h : Hs, toP h n d = some p) ∧ p.bulk = blkD d ∧ p.showable = true ∧ p.leavesShort 9 = true ∧ PyData.strOk p.shown = true
  | .non, n, _, _ => ⟨.none, fun h => toP_non, rfl, rfl, rfl, ok_string _⟩
  | .bl b, n, _, _ => ⟨.bool b, fun h => toP_bl, rfl, rfl, rfl, by cases b <;> exact ok_string _⟩
  | .int i, n, hs, _ => by
    simp only [smlD, Bool.and_eq_true, decide_eq_true_eq] at hs
    obtain ⟨h1, h2, h3⟩ := shown_int hs
    exact ⟨.int i, fun h => toP_int, rfl, h2, by simp only [PyData.leavesShort, decide_eq_true_eq]; exact h1, h3⟩
  | .tup xs, n, hs, hd => by
    simp only [smlD] at hs
    simp only [depD] at hd
    obtain ⟨n, rfl⟩ : ∃ m, n = m + 1 := ⟨n - 1, by omega⟩
    obtain ⟨ps, h1, h2, h3, h4, h5⟩ := small_toPs xs n hs (by omega)
    refine ⟨.tuple ps, fun h => toP_tup (h1 h), by simp only [PyData.bulk, blkD, h2], by simpa [PyData.showable] using h3, by simpa [PyData.leavesShort] using h4, ?_⟩
    show PyData.strOk (("(" : Str) ++ Str.join ", " (PyData.shownAll ps) ++ (if (PyData.shownAll ps).length == 1 then ",)" else ")" : String)) = true
    exact sok_app (sok_app (ok_string _) (sok_join _ (ok_string _) _ h5)) (ok_string _)
  | .lst xs, n, hs, hd => by
    simp only [smlD] at hs
    simp only [depD] at hd
    obtain ⟨n, rfl⟩ : ∃ m, n = m + 1 := ⟨n - 1, by omega⟩
    obtain ⟨ps, h1, h2, h3, h4, h5⟩ := small_toPs xs n hs (by omega)
    refine ⟨.list ps, fun h => toP_lst rfl (h1 h), by simp only [PyData.bulk, blkD, h2], by simpa [PyData.showable] using h3, by simpa [PyData.leavesShort] using h4, ?_⟩
    show PyData.strOk (textFrom 0 "[" (PyData.shownAll ps) ++ "]") = true
    exact sok_app (sok_from _ _ _ (ok_string _) h5) (ok_string _)
  | .str _, _, hs, _ => by simp [smlD] at hs
  | .scr _, _, hs, _ => by simp [smlD] at hs
  | .dic _ _, _, hs, _ => by simp [smlD] at hs
  | .loc _, _, hs, _ => by simp [smlD] at hs
theorem small_toPs : ∀ (xs : List D) (n : Nat), smlDs xs = true → depDs xs ≤ n → ∃ ps : List PyData, (∀ h : Hs, xs.mapM (toP h n) = some ps) ∧ PyData.bulkAll ps = blkDs xs ∧ PyData.showableAll ps = true ∧ PyData.leavesShortAll 9 ps = true ∧ ∀ t ∈ PyData.shownAll ps, PyData.strOk t = true
  | [], n, _, _ => ⟨[], fun _ => rfl, rfl, rfl, rfl, by simp [PyData.shownAll]⟩
  | x :: xs, n, hs, hd => by
    simp only [smlDs, Bool.and_eq_true] at hs
    simp only [depDs] at hd
    obtain ⟨p, a1, a2, a3, a4, a5⟩ := small_toP x n hs.1 (by omega)
    obtain ⟨ps, b1, b2, b3, b4, b5⟩ := small_toPs xs n hs.2 (by omega)
    refine ⟨p :: ps, fun h => by rw [List.mapM_cons, a1 h, b1 h]; rfl, by simp only [PyData.bulkAll, blkDs, a2, b2], by simp [PyData.showableAll, a3, b3], by simp [PyData.leavesShortAll, a4, b4], fun t ht => ?_⟩
    simp only [PyData.shownAll, List.mem_cons] at ht
    rcases ht with rfl | ht
    · exact a5
    · exact b5 t ht
end
/-- the text of a small thing -/
theorem repr_smallD {d : D} (hs : smlD d = true) (hd : depD d ≤ 60) (hb : blkD d ≤ 1000000) : ∃ x : Str, PyData.strOk x = true ∧ ∀ h : Hs, reprD [d] h = .ok (.str x) h := by
  obtain ⟨p, h1, h2, h3, h4, h5⟩ := small_toP d 60 hs hd
  refine ⟨p.shown, h5, fun h => ?_⟩
  have hl : p.shown.length ≤ sizeLine := PyData.shown_fits_bulk (B := 9) (by omega) (by omega) h4 (by rw [h2]; exact Nat.le_trans hb (by decide))
  unfold reprD
  simp only [h1 h]
  rw [if_pos ⟨h3, hl⟩]
theorem eq_strx {n : Bool} {x : Str} {h : Hs} (hx : PyData.strOk x = true) : eqD n (.str x) (.str x) h = .ok (.bl (!n)) h := by
  unfold eqD
  have e : toP h 64 (.str x) = some (.str x) := by show (if PyData.strOk x = true then _ else _) = _; rw [if_pos hx]
  simp only [e]
  cases n <;> simp [PyData.eqv]
theorem small_ints : ∀ {ns : List Int}, (∀ n ∈ ns, 0 ≤ n ∧ n ≤ 1000000) → smlDs (ns.map D.int) = true
  | [], _ => rfl
  | n :: ns, h => by
    have := h n List.mem_cons_self
    simp [smlDs, smlD, this, small_ints fun m hm => h m (List.mem_cons_of_mem _ hm)]
theorem dep_ints : ∀ ns : List Int, depDs (ns.map D.int) = 0
  | [] => rfl
  | n :: ns => by simp [depDs, depD, dep_ints ns]
theorem blk_ints : ∀ ns : List Int, blkDs (ns.map D.int) = ns.length
  | [] => rfl
  | n :: ns => by simp [blkDs, blkD, blk_ints ns]; omega
theorem Sms.iT {ns : List Int} (h : ∀ n ∈ ns, 0 ≤ n ∧ n ≤ 1000000) : smlD (WD.iT ns) = true ∧ depD (WD.iT ns) = 1 ∧ blkD (WD.iT ns) = ns.length := by
  refine ⟨small_ints h, ?_, blk_ints ns⟩
  show depDs _ + 1 = 1
  rw [dep_ints]
theorem Sms.iL {ns : List Int} (h : ∀ n ∈ ns, 0 ≤ n ∧ n ≤ 1000000) : smlD (WD.iL ns) = true ∧ depD (WD.iL ns) = 1 ∧ blkD (WD.iL ns) = ns.length := by
  refine ⟨small_ints h, ?_, blk_ints ns⟩
  show depDs _ + 1 = 1
  rw [dep_ints]

theorem repr_small {d : D} (hs : smlD d = true) (hd : depD d ≤ 60) (hb : blkD d ≤ 1000000) : ∃ x : Str, PyData.strOk x = true ∧ ∀ h : Hs, reprR [d] h = .ok (.str x) h := let ⟨x, h1, h2⟩ := repr_smallD hs hd hb; ⟨x, h1, fun h => reprR_of (h2 h)⟩

end WD
namespace WD
open PySem PySem.Spec PyProof.Rows L2
mutual
def tL : D → D
  | .tup xs => .lst (tLs xs)
  | d => d
def tLs : List D → List D
  | [] => []
  | x :: xs => tL x :: tLs xs
end
mutual
def depT : D → Nat
  | .tup xs => depTs xs + 1
  | _ => 0
def depTs : List D → Nat
  | [] => 0
  | x :: xs => max (depT x) (depTs xs)
end
theorem tLs_map : ∀ xs : List D, tLs xs = xs.map tL
  | [] => rfl
  | x :: xs => by rw [tLs, tLs_map xs]; rfl
theorem depTs_mem : ∀ {xs : List D} {x : D}, x ∈ xs → depT x ≤ depTs xs
  | y :: ys, x, h => by
    rcases List.mem_cons.mp h with rfl | h
    · simp only [depTs]; omega
    · have := depTs_mem h
      simp only [depTs]; omega
theorem lists_tL : ∀ (n : Nat) (d : D) (h : Hs), depT d < n → F__law_lists n [d] h = .ok (tL d) h
  | 0, _, _, hd => absurd hd (by omega)
  | n + 1, d, h, hd => by
    cases d with
    | tup xs =>
      have hc : eComp false [1] (iRow (eVar 0)) (gVar 1) tYesF (eCall 1 (F__law_lists n) (aCons (eVar 1) aNil)) [some (.tup xs), none] h = .ok (.lst (tLs xs)) h := by
        rw [comp_map (em := id) (xs := xs) (h1 := h) tL (by rw [List.map_id]; exact Itr.tup rfl) fun x hx => ?_]
        · simp [tLs_map]
        · have h1 := depTs_mem hx
          simp only [depT] at hd
          have h2 := lists_tL n x h (by omega)
          exact ⟨_, rfl, by simp [h2]⟩
      simp [F__law_lists, b__law_lists, hc, tL]
    | _ => simp [F__law_lists, b__law_lists, tL, D.isT]
theorem tLs_ints : ∀ ns : List Int, tLs (ns.map D.int) = ns.map D.int
  | [] => rfl
  | n :: ns => by simp [tLs, tL, tLs_ints ns]
theorem depTs_ints : ∀ ns : List Int, depTs (ns.map D.int) = 0
  | [] => rfl
  | n :: ns => by simp [depTs, depT, depTs_ints ns]
@[simp] theorem tL_iT (ns : List Int) : tL (iT ns) = iL ns := by
  show D.lst (tLs (ns.map D.int)) = _
  rw [tLs_ints]; rfl
@[simp] theorem tL_int (n : Int) : tL (.int n) = .int n := rfl
@[simp] theorem depT_iT (ns : List Int) : depT (iT ns) = 1 := by
  show depTs (ns.map D.int) + 1 = 1
  rw [depTs_ints]
theorem tLs_prs : ∀ ps : List (Int × Int), tLs (ps.map prD) = ps.map prL
  | [] => rfl
  | p :: ps => by simp only [List.map_cons, tLs, tLs_prs ps]; rfl
theorem depTs_prs : ∀ ps : List (Int × Int), depTs (ps.map prD) ≤ 1
  | [] => by simp [depTs]
  | p :: ps => by
    have := depTs_prs ps
    simp only [List.map_cons, depTs, prD, depT]; omega
theorem tL_tk (t : Tk) : tL t.D = t.L := by
  have h : tL (.tup (t.tied.map prD)) = .lst (t.tied.map prL) := by show D.lst _ = _; rw [tLs_prs]
  show D.lst [tL (iT t.ns), tL (.int t.hands), tL (iT t.off), tL (iT t.lg), tL (.tup (t.tied.map prD))] = _
  rw [h, tL_iT, tL_iT, tL_iT]; rfl
theorem depT_tk (t : Tk) : depT t.D ≤ 3 := by
  have h := depTs_prs t.tied
  show depTs [iT t.ns, .int t.hands, iT t.off, iT t.lg, .tup (t.tied.map prD)] + 1 ≤ 3
  simp only [depTs, depT, depT_iT]; omega
def Sd.L (s : Sd) : WD.D := .lst [.int s.ph, iL s.ws, iL s.busy, iL s.last]
theorem tL_sd (s : Sd) : tL s.D = s.L := by
  show D.lst [tL (.int s.ph), tL (iT s.ws), tL (iT s.busy), tL (iT s.last)] = _
  rw [tL_iT, tL_iT, tL_iT]; rfl
theorem depT_sd (s : Sd) : depT s.D ≤ 2 := by
  show depTs [.int s.ph, iT s.ws, iT s.busy, iT s.last] + 1 ≤ 2
  simp only [depTs, depT, depT_iT]; omega
theorem lists_tk {t : Tk} {h : Hs} : F__law_lists 45 [t.D] h = .ok t.L h := by
  rw [lists_tL 45 t.D h (by have := depT_tk t; omega), tL_tk]
theorem lists_sd {s : Sd} {h : Hs} : F__law_lists 45 [s.D] h = .ok s.L h := by
  rw [lists_tL 45 s.D h (by have := depT_sd s; omega), tL_sd]
theorem vq_sdL {h : Hs} {n : Nat} (s : Sd) : vq h (n + 2) s.L = some s.Q := by
  rw [vq_row (d := s.L) (xs := [.int s.ph, iL s.ws, iL s.busy, iL s.last]) rfl]
  simp only [List.mapM_cons, List.mapM_nil, vq_int, vq_iL]; rfl
theorem und_sdL (s : Sd) (n : Nat) : s.L.und n = true := by simp [Sd.L]
theorem und_tk (t : Tk) (n : Nat) : (t.D).und n = true := by rw [← qD_tk]; exact und_qD _ _
theorem und_tkL (t : Tk) (n : Nat) : (t.L).und n = true := by
  have : undL n (t.tied.map prL) = true := undL_map fun p _ => by simp [prL]
  simp [Tk.L, this]
theorem Sd.Ok.num {t : Tk} {s : Sd} (ht : t.Ok) (hs : s.Ok t) : (0 ≤ s.ph ∧ s.ph ≤ 100) ∧ (∀ n ∈ s.ws, 0 ≤ n ∧ n ≤ 1000000) ∧ s.ws.length ≤ 8 ∧ (∀ n ∈ s.busy, 0 ≤ n ∧ n ≤ 1000000) ∧ s.busy.length ≤ 2 ∧ (∀ n ∈ s.last, 0 ≤ n ∧ n ≤ 1000000) ∧ s.last.length ≤ 2 := by
  have h1 := ht.num
  have h7 := ht.off7
  have hh := ht.hnd
  have hb := (ris_pw hs.bris).2
  have hl := (ris_pw hs.lris).2
  refine ⟨⟨hs.ph0, by have := hs.ph1; omega⟩, fun n hn => ?_, by rw [hs.wl]; exact h1.1, fun n hn => by have := hb n hn; omega, by have := hs.bl; omega, fun n hn => by have := hl n hn; omega, by have := hs.ll; omega⟩
  obtain ⟨i, hi, rfl⟩ := List.mem_iff_getElem.mp hn
  have hw := hs.wl
  have h2 := hs.wb i (by omega)
  have e1 : s.ws.getD i 0 = s.ws[i] := by simp [List.getD, List.getElem?_eq_getElem hi]
  have hi2 : i < t.ns.length := by omega
  have e2 : t.ns.getD i 0 = t.ns[i] := by simp [List.getD, List.getElem?_eq_getElem hi2]
  have h3 := h1.2 t.ns[i] (List.getElem_mem hi2)
  rw [e1, e2] at h2
  omega
theorem sm_sd {t : Tk} {s : Sd} (ht : t.Ok) (hs : s.Ok t) : (smlD s.D = true ∧ depD s.D ≤ 2 ∧ blkD s.D ≤ 100) ∧ (smlD s.L = true ∧ depD s.L ≤ 2 ∧ blkD s.L ≤ 100) := by
  obtain ⟨p, w, wl, b, bl, l, ll⟩ := hs.num ht
  obtain ⟨w1, w2, w3⟩ := Sms.iT w
  obtain ⟨b1, b2, b3⟩ := Sms.iT b
  obtain ⟨l1, l2, l3⟩ := Sms.iT l
  obtain ⟨x1, x2, x3⟩ := Sms.iL w
  obtain ⟨y1, y2, y3⟩ := Sms.iL b
  obtain ⟨z1, z2, z3⟩ := Sms.iL l
  have h1 := p.1
  have h2 : s.ph ≤ 1000000 := by omega
  refine ⟨⟨?_, ?_, ?_⟩, ?_, ?_, ?_⟩
  · simp [Sd.D, smlD, smlDs, w1, b1, l1, h1, h2]
  · simp [Sd.D, depD, depDs, w2, b2, l2]
  · simp only [Sd.D, blkD, blkDs, w3, b3, l3]; omega
  · simp [Sd.L, smlD, smlDs, x1, y1, z1, h1, h2]
  · simp [Sd.L, depD, depDs, x2, y2, z2]
  · simp only [Sd.L, blkD, blkDs, x3, y3, z3]; omega
theorem small_prD : ∀ ps : List (Int × Int), (∀ p ∈ ps, 0 ≤ p.1 ∧ p.1 < p.2 ∧ p.2 < 8) → smlDs (ps.map prD) = true ∧ depDs (ps.map prD) ≤ 1 ∧ blkDs (ps.map prD) = 3 * ps.length
  | [], _ => ⟨rfl, by simp [depDs], rfl⟩
  | p :: ps, h => by
    obtain ⟨h1, h2, h3⟩ := small_prD ps fun q hq => h q (List.mem_cons_of_mem _ hq)
    have h4 := h p List.mem_cons_self
    have a1 : p.1 ≤ 1000000 := by omega
    have a2 : 0 ≤ p.2 := by omega
    have a3 : p.2 ≤ 1000000 := by omega
    have e : prD p = .tup [.int p.1, .int p.2] := rfl
    rw [List.map_cons, e]
    generalize ps.map prD = zs at *
    exact ⟨by simp [smlDs, smlD, h1, h4.1, a1, a2, a3], by simp only [depDs, depD]; omega, by simp only [blkDs, blkD, h3, List.length_cons]; omega⟩
theorem small_prL : ∀ ps : List (Int × Int), (∀ p ∈ ps, 0 ≤ p.1 ∧ p.1 < p.2 ∧ p.2 < 8) → smlDs (ps.map prL) = true ∧ depDs (ps.map prL) ≤ 1 ∧ blkDs (ps.map prL) = 3 * ps.length
  | [], _ => ⟨rfl, by simp [depDs], rfl⟩
  | p :: ps, h => by
    obtain ⟨h1, h2, h3⟩ := small_prL ps fun q hq => h q (List.mem_cons_of_mem _ hq)
    have h4 := h p List.mem_cons_self
    have a1 : p.1 ≤ 1000000 := by omega
    have a2 : 0 ≤ p.2 := by omega
    have a3 : p.2 ≤ 1000000 := by omega
    have e : prL p = .lst [.int p.1, .int p.2] := rfl
    rw [List.map_cons, e]
    generalize ps.map prL = zs at *
    exact ⟨by simp [smlDs, smlD, h1, h4.1, a1, a2, a3], by simp only [depDs, depD]; omega, by simp only [blkDs, blkD, h3, List.length_cons]; omega⟩
theorem sm_tk {t : Tk} (ht : t.Ok) : (smlD t.D = true ∧ depD t.D ≤ 3 ∧ blkD t.D ≤ 200) ∧ (smlD t.L = true ∧ depD t.L ≤ 3 ∧ blkD t.L ≤ 200) := by
  have h8 := ht.num.1
  have hh := ht.hnd
  have n' : ∀ n ∈ t.ns, 0 ≤ n ∧ n ≤ 1000000 := fun n hn => by have := ht.num.2 n hn; omega
  have o' : ∀ n ∈ t.off, 0 ≤ n ∧ n ≤ 1000000 := fun n hn => by have := ht.offs n hn; omega
  have l' : ∀ n ∈ t.lg, 0 ≤ n ∧ n ≤ 1000000 := fun n hn => by have := (ris_pw ht.lng).2 n hn; omega
  have ll : t.lg.length ≤ 8 := by
    have := len_sub (l := t.lg) (m := (List.range t.ns.length).map fun (k : Nat) => (k : Int)) (pw_nodup (ris_pw ht.lng).1) fun x hx => by
      have := (ris_pw ht.lng).2 x hx
      exact List.mem_map.mpr ⟨x.toNat, List.mem_range.mpr (by omega), by omega⟩
    simp at this; omega
  have pp : ∀ p ∈ t.tied, 0 ≤ p.1 ∧ p.1 < p.2 ∧ p.2 < 8 := fun p hp => by have := ht.prs p hp; omega
  have h28 := ht.tied28
  have h7 := ht.off7
  obtain ⟨n1, n2, n3⟩ := Sms.iT n'
  obtain ⟨o1, o2, o3⟩ := Sms.iT o'
  obtain ⟨l1, l2, l3⟩ := Sms.iT l'
  obtain ⟨m1, m2, m3⟩ := Sms.iL n'
  obtain ⟨q1, q2, q3⟩ := Sms.iL o'
  obtain ⟨r1, r2, r3⟩ := Sms.iL l'
  obtain ⟨p1, p2, p3⟩ := small_prD t.tied pp
  obtain ⟨s1, s2, s3⟩ := small_prL t.tied pp
  have a1 : 0 ≤ t.hands := by omega
  have a2 : t.hands ≤ 1000000 := by omega
  refine ⟨⟨?_, ?_, ?_⟩, ?_, ?_, ?_⟩
  · simp [Tk.D, smlD, smlDs, n1, o1, l1, p1, a1, a2]
  · simp only [Tk.D, depD, depDs, n2, o2, l2]; omega
  · simp only [Tk.D, blkD, blkDs, n3, o3, l3, p3]; omega
  · simp [Tk.L, smlD, smlDs, m1, q1, r1, s1, a1, a2]
  · simp only [Tk.L, depD, depDs, m2, q2, r2]; omega
  · simp only [Tk.L, blkD, blkDs, m3, q3, r3, s3]; omega
theorem sm_le {d : D} {a b : Nat} (h : smlD d = true ∧ depD d ≤ a ∧ blkD d ≤ b) (ha : a ≤ 20 := by decide) (hb : b ≤ 400000 := by decide) : smlD d = true ∧ depD d ≤ 20 ∧ blkD d ≤ 400000 := ⟨h.1, by omega, by omega⟩
theorem repr_two {a b : D} (ha : smlD a = true ∧ depD a ≤ 20 ∧ blkD a ≤ 400000) (hb : smlD b = true ∧ depD b ≤ 20 ∧ blkD b ≤ 400000) : ∃ x : Str, PyData.strOk x = true ∧ ∀ h : Hs, reprR [.tup [a, b]] h = .ok (.str x) h := by
  refine repr_small ?_ ?_ ?_
  · simp [smlD, smlDs, ha.1, hb.1]
  · simp only [depD, depDs]; omega
  · simp only [blkD, blkDs]; omega
theorem Dw.other {n m : Nat} {H1 H2 : Hs} (w : Dw n H1 H2) (hm : m ≠ n) : locAt H2 m = locAt H1 m := by
  obtain ⟨dk, rfl⟩ := w.ex
  exact hd_other hm
theorem Dw.rfl' {n : Nat} {H : Hs} (k : Dk n H) : Dw n H H := ⟨by obtain ⟨dk, e⟩ := k.ex; exact ⟨dk, (hd_self e).symm⟩⟩
theorem Dk.lt {n : Nat} {H : Hs} (k : Dk n H) : n < H.length := by obtain ⟨dk, q⟩ := k.ex; exact locAt_lt q

end WD
namespace WD
open PySem PySem.Spec PyProof.Rows L2
theorem loop_same {g : Tg} {b : FS} {s : Ss} {h : Hs} : ∀ xs : List D, (∀ x ∈ xs, ∃ s1, g x s h = some s1 ∧ b s1 h = .nx s h) → loopS g b xs s h = .nx s h
  | [], _ => rfl
  | x :: xs, hb => by
    obtain ⟨s1, e1, e2⟩ := hb x List.mem_cons_self
    exact (loop_nx e1 e2).trans (loop_same xs fun y hy => hb y (List.mem_cons_of_mem _ hy))
/-- a walk over any row that leaves all as it is -/
theorem for_same {f : FE} {g : Tg} {b : FS} {s : Ss} {h : Hs} {d : D} {xs : List D} (ef : f s h = .ok d h) (hr : rowOf h d = some xs) (hb : ∀ x ∈ xs, ∃ s1, g x s h = some s1 ∧ b s1 h = .nx s h) : sFor (iRow f) g b s h = .nx s h := by
  refine (sFor_row (fun s' => s' = s) ef hr rfl fun x hx s' hs => ?_).trans (loop_same xs hb)
  subst hs
  obtain ⟨s1, e1, e2⟩ := hb x hx
  exact ⟨s1, e1, .inl ⟨s', e2, rfl⟩⟩
/-- the heap changes, something stays true of it -/
theorem loop_inv {α : Type} {em : α → D} {g : Tg} {b : FS} {s : Ss} (I : Hs → Prop) : ∀ (xs : List α) (h : Hs), I h → (∀ x ∈ xs, ∀ h, I h → ∃ s1 h2, g (em x) s h = some s1 ∧ b s1 h = .nx s h2 ∧ I h2) → ∃ h2, I h2 ∧ loopS g b (xs.map em) s h = .nx s h2
  | [], h, hi, _ => ⟨h, hi, rfl⟩
  | x :: xs, h, hi, hb => by
    obtain ⟨s1, h2, e1, e2, i2⟩ := hb x List.mem_cons_self h hi
    obtain ⟨h3, i3, e3⟩ := loop_inv I xs h2 i2 fun y hy => hb y (List.mem_cons_of_mem _ hy)
    exact ⟨h3, i3, by rw [List.map_cons]; exact (loop_nx e1 e2).trans e3⟩
/-- a comprehension whose items draw -/
theorem comp_drawn {α : Type} {em : α → D} {m : Bool} {n : Nat} {vs : List Nat} {fi : FI} {g : Tg} {te : FE} {s : Ss} {h h1 : Hs} {xs : List D} (P : α → Prop) (hi : Itr fi s h h1 xs) (hl : ∀ k, fi s h ≠ .ok (.loc k) h1) (K : Dk n h1)
    (hs : ∀ x ∈ xs, ∀ G, Dk n G → Dw n h1 G → ∃ s2, g x (wipeS s vs) G = some s2 ∧ ∃ a G2, P a ∧ Dw n G G2 ∧ Dk n G2 ∧ te s2 G = .ok (em a) G2) :
    ∃ (as : List α) (G2 : Hs), as.length = xs.length ∧ (∀ a ∈ as, P a) ∧ Dw n h1 G2 ∧ Dk n G2 ∧ eComp m vs fi g tYesF te s h = newL m (as.map em) G2 := by
  obtain ⟨acc, h', ⟨as, e1, e2, e3, e4, e5, _⟩, e⟩ := comp_inv (m := m) (vs := vs) (g := g) (tt := tYesF) (te := te) (fun acc rest G => ∃ as : List α, acc = as.map em ∧ as.length + rest.length = xs.length ∧ (∀ a ∈ as, P a) ∧ Dw n h1 G ∧ Dk n G ∧ ∀ r ∈ rest, r ∈ xs) hi hl ⟨[], rfl, by simp, by simp, ⟨by obtain ⟨dk, e⟩ := K.ex; exact ⟨dk, (hd_self e).symm⟩⟩, K, fun r hr => hr⟩ fun acc x rest G ⟨as, e1, e2, e3, e4, e5, e6⟩ => by
    obtain ⟨s2, k1, a, G2, k2, k3, k4, k5⟩ := hs x (e6 x List.mem_cons_self) G e5 e4
    refine ⟨s2, k1, .inr ⟨rfl, em a, G2, k5, as ++ [a], by simp [e1], by simp at e2 ⊢; omega, fun b hb => ?_, e4.trans k3, k4, fun r hr => e6 r (List.mem_cons_of_mem _ hr)⟩⟩
    rcases List.mem_append.mp hb with hb | hb
    · exact e3 b hb
    · obtain rfl : b = a := by simpa using hb
      exact k2
  exact ⟨as, h', by simpa using e2, e3, e4, e5, by rw [e, e1]⟩
theorem loop_invN {α : Type} {em : α → D} {g : Tg} {b : FS} {s : Ss} (I : Nat → Hs → Prop) : ∀ (xs : List α) (k : Nat) (h : Hs), I k h → (∀ x ∈ xs, ∀ j h, j < k + xs.length → I j h → ∃ s1 h2, g (em x) s h = some s1 ∧ b s1 h = .nx s h2 ∧ I (j + 1) h2) → ∃ h2, I (k + xs.length) h2 ∧ loopS g b (xs.map em) s h = .nx s h2
  | [], k, h, hi, _ => ⟨h, hi, rfl⟩
  | x :: xs, k, h, hi, hb => by
    obtain ⟨s1, h2, e1, e2, i2⟩ := hb x List.mem_cons_self k h (by simp) hi
    obtain ⟨h3, i3, e3⟩ := loop_invN I xs (k + 1) h2 i2 fun y hy j h hj => hb y (List.mem_cons_of_mem _ hy) j h (by simp; omega)
    refine ⟨h3, ?_, by rw [List.map_cons]; exact (loop_nx e1 e2).trans e3⟩
    rw [List.length_cons, show k + (xs.length + 1) = k + 1 + xs.length by omega]; exact i3
/-- side by side -/
def relL {α β : Type} (R : β → α → Prop) : List β → List α → Prop
  | [], [] => True
  | x :: xs, y :: ys => R x y ∧ relL R xs ys
  | _, _ => False
theorem relL.snoc {α β : Type} {R : β → α → Prop} : ∀ {xs : List β} {ys : List α} {x : β} {y : α}, relL R xs ys → R x y → relL R (xs ++ [x]) (ys ++ [y])
  | [], [], _, _, _, h => ⟨h, trivial⟩
  | [], _ :: _, _, _, h, _ => h.elim
  | _ :: _, [], _, _, h, _ => h.elim
  | _ :: _, _ :: _, _, _, h, q => ⟨h.1, relL.snoc h.2 q⟩
theorem relL.len {α β : Type} {R : β → α → Prop} : ∀ {xs : List β} {ys : List α}, relL R xs ys → xs.length = ys.length
  | [], [], _ => rfl
  | [], _ :: _, h => h.elim
  | _ :: _, [], h => h.elim
  | _ :: _, _ :: _, h => by simp [relL.len h.2]
theorem relL.at {α β : Type} {R : β → α → Prop} {b : β} {a : α} : ∀ {xs : List β} {ys : List α}, relL R xs ys → ∀ i, i < xs.length → R (xs.getD i b) (ys.getD i a)
  | [], [], _, i, hi => by simp at hi
  | [], _ :: _, h, _, _ => h.elim
  | _ :: _, [], h, _, _ => h.elim
  | _ :: _, _ :: _, h, 0, _ => h.1
  | _ :: xs, _ :: ys, h, i + 1, hi => by simpa using relL.at (b := b) (a := a) h.2 i (by simpa using hi)
theorem comp_drawn2 {α β : Type} {em : α → D} {en : β → D} {m : Bool} {n : Nat} {vs : List Nat} {fi : FI} {g : Tg} {te : FE} {s : Ss} {h h1 : Hs} {xs : List β} (P : β → α → Prop) (hi : Itr fi s h h1 (xs.map en)) (hl : ∀ k, fi s h ≠ .ok (.loc k) h1) (K : Dk n h1)
    (hs : ∀ x ∈ xs, ∀ G, Dk n G → Dw n h1 G → ∃ s2, g (en x) (wipeS s vs) G = some s2 ∧ ∃ a G2, P x a ∧ Dw n G G2 ∧ Dk n G2 ∧ te s2 G = .ok (em a) G2) :
    ∃ (as : List α) (G2 : Hs), relL P xs as ∧ Dw n h1 G2 ∧ Dk n G2 ∧ eComp m vs fi g tYesF te s h = newL m (as.map em) G2 := by
  obtain ⟨acc, h', ⟨as, done, rest, e1, e2, e3, e4, e5, e6⟩, e⟩ := comp_inv (m := m) (vs := vs) (g := g) (tt := tYesF) (te := te) (fun acc rst G => ∃ (as : List α) (done rest : List β), acc = as.map em ∧ rst = rest.map en ∧ xs = done ++ rest ∧ relL P done as ∧ Dw n h1 G ∧ Dk n G) hi hl ⟨[], [], xs, rfl, rfl, rfl, trivial, ⟨by obtain ⟨dk, e⟩ := K.ex; exact ⟨dk, (hd_self e).symm⟩⟩, K⟩ fun acc x rst G ⟨as, done, rest, e1, e2, e3, e4, e5, e6⟩ => by
    cases rest with
    | nil => cases e2
    | cons r rest =>
      simp only [List.map_cons, List.cons.injEq] at e2
      obtain ⟨rfl, rfl⟩ := e2
      obtain ⟨s2, k1, a, G2, k2, k3, k4, k5⟩ := hs r (by rw [e3]; simp) G e6 e5
      exact ⟨s2, k1, .inr ⟨rfl, em a, G2, k5, as ++ [a], done ++ [r], rest, by simp [e1], rfl, by simp [e3], e4.snoc k2, e5.trans k3, k4⟩⟩
  cases rest with
  | cons r rest => cases e2
  | nil =>
    rw [List.append_nil] at e3
    subst e3
    exact ⟨as, h', e4, e5, e6, by rw [e, e1]⟩

end WD
namespace WD
open PySem PySem.Spec PyProof.Rows L2
theorem F_asked_task_not {d : D} {h : Hs} (hd : isTask h d = false) (hz : ∀ n w o l p xs, rowOf h d = some [n, w, o, l, p] → rowOf h p = some xs → xs.length ≤ 100000 ∧ xs.all (isPair h (((rowOf h n).getD []).length : Int)) = true) : F_asked_task [d] h = .err ⟨"NoTask", none⟩ h := by
  simp [F_asked_task, b_asked_task, F_is_task_eq hz, hd]
theorem task_len {h : Hs} {e : D} (hr : ∀ xs, rowOf h e = some xs → xs.length ≠ 5) : F_asked_task [e] h = .err ⟨"NoTask", none⟩ h := by
  refine F_asked_task_not ?_ fun n w o l p xs he _ => absurd rfl (hr _ he)
  unfold isTask
  split
  · rename_i he; exact absurd rfl (hr _ he)
  · rfl
theorem stand_len {h : Hs} {t : Tk} {e : D} (hr : ∀ xs, rowOf h e = some xs → xs.length ≠ 4) : isStand h t e = false := by
  unfold isStand
  split
  · rename_i he; exact absurd rfl (hr _ he)
  · rfl
theorem first_ok {t : Tk} (ht : t.Ok) : (Sd.mk 0 t.ns [] []).Ok t := by
  have h1 := ht.off1
  have hh := ht.hnd
  refine ⟨by simp, by show (0 : Int) < _; omega, rfl, fun i hi => ?_, rfl, by simp; omega, by simp, rfl, by simp; omega, by simp, by simp; omega, by simp⟩
  have h2 := ht.num.2 (t.ns.getD i 0) (by simp [List.getD, List.getElem?_eq_getElem hi])
  exact ⟨h2.1, Int.le_refl _⟩

end WD
namespace WD
open PySem PySem.Spec PyProof.Rows L2
theorem F_are_pairs_all {many : Int} {d : D} {h : Hs} (hz : ∀ xs, rowOf h d = some xs → xs.length ≤ 100000) : F_are_pairs [d, .int many] h = .ok (.bl (arePairs h many d)) h := by
  cases hr : rowOf h d with
  | none => simp [F_are_pairs, b_are_pairs, F_is_row_eq, arePairs, hr]
  | some xs =>
    cases ha : xs.all (isPair h many) with
    | true =>
      have := F_are_pairs_eq (many := many) (d := d) (h := h) fun ys hy => by
        rw [hr] at hy; cases hy
        exact ⟨hz _ hr, ha⟩
      exact this
    | false =>
      have hc : eComp false [2] (iRow (eVar 0)) (gVar 2) (tNotF (tV (eCall 2 F_is_pair (aCons (eVar 2) (aCons (eVar 1) aNil))))) (eVar 2) [some d, some (.int many), none, none, none] h = .ok (.lst (xs.filter fun x => !isPair h many x)) h := by
        rw [comp_ty (em := id) (fun x => !isPair h many x) id (by rw [List.map_id]; exact Itr.row rfl hr) fun x hx => ?_]
        · simp
        · simp [F_is_pair_eq]
      have hfe := filter_not_empty (isPair h many) xs
      rw [ha] at hfe
      have har : arePairs h many d = false := by simp only [arePairs, hr, ha, Bool.false_and]
      rw [har]
      generalize xs.filter (fun x => !isPair h many x) = ys at *
      simp only [F_are_pairs, b_are_pairs, t_are_pairs_0]
      simp [F_is_row_eq, hr, hc, hfe]
theorem F_is_task_all {d : D} {h : Hs} (hz : ∀ n w o l p xs, rowOf h d = some [n, w, o, l, p] → rowOf h p = some xs → xs.length ≤ 100000) : F_is_task [d] h = .ok (.bl (isTask h d)) h := by
  cases hr : rowOf h d with
  | none => simp [F_is_task, b_is_task, F_is_row_eq, isTask, hr]
  | some xs =>
    by_cases h5 : (xs.length : Int) = 5
    · match xs, h5 with
      | [n, w, o, l, p], _ =>
        have hap := F_are_pairs_all (many := (((rowOf h n).getD []).length : Int)) (d := p) (h := h) fun xs hx => hz n w o l p xs hr hx
        cases hn : isNums h n with
        | false => simp [F_is_task, b_is_task, F_is_row_eq, isTask, hr, x_len hr, F_is_numbers_eq, hn]
        | true =>
          have hrn : ∃ ys, rowOf h n = some ys := by
            unfold isNums at hn
            cases q : rowOf h n with
            | none => rw [q] at hn; cases hn
            | some ys => exact ⟨ys, rfl⟩
          obtain ⟨ys, hy⟩ := hrn
          rw [hy, Option.getD_some] at hap
          cases hw : isW 1 2 w with
          | false => simp [F_is_task, b_is_task, F_is_row_eq, isTask, hr, x_len hr, F_is_numbers_eq, hn, F_is_whole_eq, hw]
          | true =>
            cases ho : isOff h o with
            | false => simp [F_is_task, b_is_task, F_is_row_eq, isTask, hr, x_len hr, F_is_numbers_eq, hn, F_is_whole_eq, hw, F_is_off_eq, ho]
            | true =>
              cases hl : isRis h 0 ((ys.length : Int) - 1) l <;> simp [F_is_task, b_is_task, F_is_row_eq, isTask, hr, x_len hr, F_is_numbers_eq, hn, F_is_whole_eq, hw, F_is_off_eq, ho, hy, x_len hy, F_is_rising_eq, hl, hap]
    · have : ∀ (n w o l p : D), xs ≠ [n, w, o, l, p] := fun n w o l p e => h5 (by rw [e]; rfl)
      have hf : isTask h d = false := by
        unfold isTask
        rw [hr]
        split
        · rename_i e; exact absurd (Option.some.inj e) (this _ _ _ _ _)
        · rfl
      simp [F_is_task, b_is_task, F_is_row_eq, hf, hr, x_len hr, h5]
theorem F_asked_task_nt {d : D} {h : Hs} (hd : isTask h d = false) (hz : ∀ n w o l p xs, rowOf h d = some [n, w, o, l, p] → rowOf h p = some xs → xs.length ≤ 100000) : F_asked_task [d] h = .err ⟨"NoTask", none⟩ h := by
  simp [F_asked_task, b_asked_task, F_is_task_all hz, hd]
theorem isTask5 {h : Hs} {n w o l p : D} : isTask h (.tup [n, w, o, l, p]) = (isNums h n && isW 1 2 w && isOff h o && isRis h 0 ((((rowOf h n).getD []).length : Int) - 1) l && arePairs h (((rowOf h n).getD []).length : Int) p) := rfl
theorem bad5 {n w o l p : D} {h : Hs} (hf : isTask h (.tup [n, w, o, l, p]) = false) (hp : ∀ xs, rowOf h p = some xs → xs.length ≤ 100000) : F_asked_task [.tup [n, w, o, l, p]] h = .err ⟨"NoTask", none⟩ h :=
  F_asked_task_nt hf fun n' w' o' l' p' xs e1 e2 => by
    have e1 : some [n, w, o, l, p] = some [n', w', o', l', p'] := e1
    simp only [Option.some.injEq, List.cons.injEq, and_true] at e1
    rw [← e1.2.2.2.2] at e2
    exact hp xs e2

end WD
namespace WD
open PySem PySem.Spec PyProof.Rows L2
theorem F_whole_eq {d : D} {lo hi : Int} {h : Hs} : F__law_whole [d, .int lo, .int hi] h = .ok (.bl (isW lo hi d)) h := by
  simpa [F_is_whole, b_is_whole, F__law_whole, b__law_whole] using F_is_whole_eq (d := d) (lo := lo) (hi := hi) (h := h)
theorem isW_inv {lo hi : Int} {d : D} (e : isW lo hi d = true) : ∃ i : Int, d = .int i ∧ lo ≤ i ∧ i ≤ hi := by
  cases d with
  | int i => exact ⟨i, rfl, by simpa using e⟩
  | _ => simp [isW] at e
def okS (things : List Int) (lo : Int) (xs : List D) : Bool := risL lo 7 xs && (someL xs).all fun i => things.contains i
theorem okS_int {things : List Int} {lo i : Int} {xs : List D} : okS things lo (.int i :: xs) = (decide (lo ≤ i) && decide (i ≤ 7) && things.contains i && okS things (i + 1) xs) := by
  simp only [okS, risL, someL, List.filterMap_cons, List.all_cons]
  cases decide (lo ≤ i) <;> cases decide (i ≤ 7) <;> cases things.contains i <;> simp
theorem some_loop {th d most : D} {things : List Int} {xs : List D} {h : Hs} (hth : rowOf h th = some (things.map D.int)) (hr : rowOf h d = some xs) : ∀ (m i : Nat) (lo : Int), i + m = xs.length → ((i = 0 ∧ lo = 0) ∨ ∃ p : Int, 0 < i ∧ xs.getD (i - 1) .non = .int p ∧ lo = p + 1 ∧ 0 ≤ p) →
    loopS (gVar 3) k__law_some_of_1 ((List.range' i m).map fun (k : Nat) => .int k) [some th, some d, some most, none] h = if okS things lo (xs.drop i) = true then .nx [some th, some d, some most, none] h else .rt (.bl false) h
  | 0, i, lo, hi, _ => by
    rw [List.drop_eq_nil_of_le (by omega)]
    rfl
  | m + 1, i, lo, hi, hlo => by
    have hil : i < xs.length := by omega
    rw [List.range'_succ, List.map_cons, List.drop_eq_getElem_cons hil]
    have e1 := ix_mem (i := (i : Int)) hr (by omega) (by omega)
    have e1' : xs[(i : Int).toNat]'(by omega) = xs[i] := by congr 1
    rw [e1'] at e1
    have hw := F_whole_eq (d := xs[i]) (lo := 0) (hi := 7) (h := h)
    have hgd : xs.getD i .non = xs[i] := by simp [List.getD, List.getElem?_eq_getElem hil]
    cases hb : isW 0 7 xs[i] with
    | false =>
      rw [hb] at hw
      have hf : okS things lo (xs[i] :: xs.drop (i + 1)) = false := by
        cases hx : xs[i] with
        | int j =>
          rw [okS_int]
          rw [hx] at hb
          simp only [isW_int, Bool.and_eq_false_iff, decide_eq_false_iff_not] at hb
          have : ¬ (lo ≤ j ∧ j ≤ 7) := fun q => by
            rcases hlo with ⟨_, rfl⟩ | ⟨p, _, _, rfl, h0⟩ <;> omega
          simp only [Bool.and_eq_false_iff, decide_eq_false_iff_not]
          by_cases q : lo ≤ j
          · exact .inl (.inl (.inr fun z => this ⟨q, z⟩))
          · exact .inl (.inl (.inl q))
        | _ => rfl
      rw [hf]
      refine (loop_rt (s1 := [some th, some d, some most, some (.int i)]) rfl (v := .bl false) (h2 := h) ?_).trans (if_neg (by decide)).symm
      generalize xs[i] = x at *
      simp [e1, hw]
    | true =>
      obtain ⟨j, hx, j0, j7⟩ := isW_inv hb
      rw [hb] at hw
      rw [hx] at hw e1 hgd
      rw [hx, okS_int]
      have ih := some_loop (most := most) (h := h) hth hr m (i + 1) (j + 1) (by omega) (.inr ⟨j, by omega, by simpa using hgd, rfl, j0⟩)
      have hin := in_ints (n := true) (i := j) hth
      simp only [if_true] at hin
      cases hc : things.contains j with
      | false =>
        rw [hc] at hin
        refine (loop_rt (s1 := [some th, some d, some most, some (.int i)]) rfl (v := .bl false) (h2 := h) ?_).trans (if_neg (by simp)).symm
        simp only [Bool.not_false] at hin
        simp [e1, hw, hin]
      | true =>
        rw [hc] at hin
        simp only [Bool.not_true] at hin
        rcases hlo with ⟨rfl, rfl⟩ | ⟨p, hi0, hp, rfl, hp0⟩
        · have d1 : decide ((0 : Int) ≤ j) = true := decide_eq_true j0
          have d2 : decide (j ≤ 7) = true := decide_eq_true j7
          rw [d1, d2]
          simp only [Bool.true_and]
          refine (loop_nx (s1 := [some th, some d, some most, some (.int (0 : Nat))]) rfl ?_).trans ih
          simp only [Int.natCast_zero] at e1 ⊢
          simp [e1, hw, hin]
        · have e2 := ix_mem (i := (i : Int) - 1) hr (by omega) (by omega)
          have e2' : xs[((i : Int) - 1).toNat]'(by omega) = .int p := by
            rw [← hp]
            have hq : ((i : Int) - 1).toNat = i - 1 := by omega
            simp only [hq]
            simp [List.getD, List.getElem?_eq_getElem (show i - 1 < xs.length by omega)]
          rw [e2'] at e2
          have d2 : decide (j ≤ 7) = true := decide_eq_true j7
          rw [d2]
          have hpos : 0 < i := hi0
          by_cases hjp : p + 1 ≤ j
          · rw [decide_eq_true hjp]
            simp only [Bool.true_and]
            refine (loop_nx (s1 := [some th, some d, some most, some (.int i)]) rfl ?_).trans ih
            have : ¬ j ≤ p := by omega
            simp [e1, hw, hin, hpos, e2, this]
          · rw [decide_eq_false hjp]
            refine (loop_rt (s1 := [some th, some d, some most, some (.int i)]) rfl (v := .bl false) (h2 := h) ?_).trans (if_neg (by simp)).symm
            have : j ≤ p := by omega
            simp [e1, hw, hin, hpos, e2, this]
theorem F_some_eq {th d : D} {things : List Int} {most : Int} {h : Hs} (hth : rowOf h th = some (things.map D.int)) (hz : ∀ xs, rowOf h d = some xs → xs.length ≤ 100000) : F__law_some_of [th, d, .int most] h = .ok (.bl (isSome h things most d)) h := by
  cases hr : rowOf h d with
  | none => simp [F__law_some_of, b__law_some_of, isSome, hr]
  | some xs =>
    by_cases hm : most < xs.length
    · have : ¬ (xs.length : Int) ≤ most := by omega
      simp [F__law_some_of, b__law_some_of, isSome, hr, x_len hr, hm, this]
    · have hm' : (xs.length : Int) ≤ most := by omega
      have hl := some_loop (most := .int most) hth hr xs.length 0 0 (by omega) (.inl ⟨rfl, rfl⟩)
      rw [← List.range_eq_range'] at hl
      have hf := (for_rngN (f := aCons (eB lenD (aCons (eVar 1) aNil)) aNil) (g := gVar 3) (b := k__law_some_of_1) (s := [some th, some d, some (.int most), none]) (h := h) (h1 := h) (n := xs.length) (by simp [x_len hr]) (by have := hz xs hr; omega)).trans hl
      have hw : isSome h things most d = okS things 0 xs := by simp [isSome, hr, hm', okS]
      rw [hw]
      rw [List.drop_zero] at hf
      cases hc : okS things 0 xs with
      | true => rw [hc] at hf; simp [F__law_some_of, b__law_some_of, hr, x_len hr, hm, hf]
      | false => rw [hc] at hf; simp [F__law_some_of, b__law_some_of, hr, x_len hr, hm, hf]
theorem isSome_ends {h : Hs} {t : Tk} {most : Int} {d : D} : isSome h (tiesL t.tied) most d = isSome h t.ends most d := by
  unfold isSome
  simp only [ties_contains]
/-- rising rows put together: how many they are -/
theorem both_len {b l : List Int} (hb : b.Nodup) (hl : l.Nodup) : (sortU (b ++ l)).length = b.length + (l.filter fun i => !b.contains i).length := by
  rw [sortU_len (ks := b ++ l.filter fun i => !b.contains i) ?_ fun k => ?_, List.length_append]
  · rw [List.nodup_append]
    refine ⟨hb, hl.sublist List.filter_sublist, fun a ha c hc e => ?_⟩
    subst e
    have := (List.mem_filter.mp hc).2
    simp [ha] at this
  · simp only [List.mem_append, List.mem_filter]
    by_cases q : k ∈ b <;> simp [q]
/-- a task's things, told as a tuple or as lists -/
structure TkRow (h : Hs) (t : Tk) (td : D) : Prop where
  ex : ∃ N O L T : D, rowOf h td = some [N, .int t.hands, O, L, T] ∧ rowOf h N = some (t.ns.map D.int) ∧ rowOf h O = some (t.off.map D.int) ∧ rowOf h L = some (t.lg.map D.int) ∧
    ∃ f : Int × Int → D, rowOf h T = some (t.tied.map f) ∧ ∀ p, rowOf h (f p) = some [.int p.1, .int p.2]
theorem tkRow_D {h : Hs} {t : Tk} : TkRow h t t.D := ⟨_, _, _, _, rfl, rfl, rfl, rfl, prD, rfl, fun _ => rfl⟩
theorem tkRow_L {h : Hs} {t : Tk} : TkRow h t t.L := ⟨_, _, _, _, rfl, rfl, rfl, rfl, prL, rfl, fun _ => rfl⟩
theorem law_is_stand_eq {h : Hs} {t : Tk} {td d : D} (ht : t.Ok) (ctd : TkRow h t td) (hz : ∀ xs, rowOf h d = some xs → ∀ x ∈ xs, ∀ ys, rowOf h x = some ys → ys.length ≤ 100000) : F__law_is_stand [td, d] h = .ok (.bl (isStand h t d)) h := by
  obtain ⟨N, O, L, T, hrow, hN, hO, hL, f, hT, hf⟩ := ctd
  cases hr : rowOf h d with
  | none => simp [F__law_is_stand, b__law_is_stand, hrow, hr, isStand]
  | some xs =>
    by_cases h4 : (xs.length : Int) = 4
    · match xs, h4, hz, hr with
      | [p, w, b, l], _, hz, hr =>
        have hzw := hz _ hr w (by simp)
        have hzb := hz _ hr b (by simp)
        have hzl := hz _ hr l (by simp)
        have h8 := ht.num.1
        have i0 : ixD d (.int 0) h = .ok p h := x_ix_row hr rfl
        have i1 : ixD d (.int 1) h = .ok w h := x_ix_row hr rfl
        have i2 : ixD d (.int 2) h = .ok b h := x_ix_row hr rfl
        have i3 : ixD d (.int 3) h = .ok l h := x_ix_row hr rfl
        have lO : lenD [O] h = .ok (.int t.off.length) h := by rw [x_len hO, List.length_map]
        have lN : lenD [N] h = .ok (.int t.ns.length) h := by rw [x_len hN, List.length_map]
        have hp := F_whole_eq (d := p) (lo := 0) (hi := (t.off.length : Int) - 1) (h := h)
        cases bp : isW 0 ((t.off.length : Int) - 1) p with
        | false => rw [bp] at hp; simp [F__law_is_stand, b__law_is_stand, hrow, isStand, hr, x_len hr, i0, lO, hp, bp]
        | true =>
          rw [bp] at hp
          cases hw : rowOf h w with
          | none => simp [F__law_is_stand, b__law_is_stand, hrow, isStand, hr, x_len hr, i0, i1, i2, i3, lO, hp, bp, hw, isWaits]
          | some ws =>
            have lw : lenD [w] h = .ok (.int ws.length) h := x_len hw
            by_cases hl : ws.length = t.ns.length
            · have hc : eComp false [10] (iRng1 (aCons (eB lenD (aCons (eVar 2) aNil)) aNil)) (gVar 10) (tNotF (tV (eCall 3 F__law_whole (aCons (eBin ixD (eVar 7) (eVar 10)) (aCons (eC (.int 1)) (aCons (eBin ixD (eVar 2) (eVar 10)) aNil)))))) (eVar 10) [some td, some d, some N, some (.int t.hands), some O, some L, some T, some w, some b, some l, none, none, none] h = .ok (.lst (((List.range t.ns.length).filter fun i => !isW 1 (t.ns.getD i 0) (ws.getD i .non)).map fun (k : Nat) => .int k)) h := by
                rw [comp_ty (em := fun (k : Nat) => D.int k) (xs := List.range t.ns.length) (h1 := h) (fun i => !isW 1 (t.ns.getD i 0) (ws.getD i .non)) (fun (k : Nat) => .int k) (Itr.rngN (by simp [lN]) (by omega)) fun i hi => ?_]
                · rfl
                · have hi := List.mem_range.mp hi
                  have e1 := ix_mem (i := (i : Int)) hw (by omega) (by omega)
                  have e2 := ix_ints (h := h) (d := N) (ns := t.ns) (i := (i : Int)) hN (by omega) (by omega)
                  have e3 : ws[(i : Int).toNat]'(by omega) = ws.getD i .non := by simp [List.getD, List.getElem?_eq_getElem (show i < ws.length by omega)]
                  rw [e3] at e1
                  rw [Int.toNat_natCast] at e2
                  generalize ws.getD i .non = x at *
                  generalize t.ns.getD i 0 = n at *
                  exact ⟨_, rfl, by simp [e1, e2, F_whole_eq], fun _ => rfl⟩
              have he := filter_not_empty (fun i => isW 1 (t.ns.getD i 0) (ws.getD i .non)) (List.range t.ns.length)
              have hwt : isWaits h t.ns w = ((List.range t.ns.length).filter fun i => !isW 1 (t.ns.getD i 0) (ws.getD i .non)).isEmpty := by
                rw [he]; simp [isWaits, hw, hl]
              have hl' : (ws.length : Int) = t.ns.length := by omega
              generalize hu : ((List.range t.ns.length).filter fun i => !isW 1 (t.ns.getD i 0) (ws.getD i .non)) = u at *
              cases hue : u.isEmpty with
              | false =>
                rw [hue] at hwt
                simp [F__law_is_stand, b__law_is_stand, hrow, isStand, hr, x_len hr, i0, i1, i2, i3, lO, lN, hp, bp, hw, lw, hl', hc, hwt, hue]
              | true =>
                rw [hue] at hwt
                have hcl : eComp false [12] (iRow (eVar 6)) (gVar 12) tYesF (eB (listD false) (aCons (eVar 12) aNil)) [some td, some d, some N, some (.int t.hands), some O, some L, some T, some w, some b, some l, none, none, none] h = .ok (.lst (t.tied.map fun p => iL [p.1, p.2])) h := by
                  rw [comp_map (em := f) (xs := t.tied) (h1 := h) (fun p => iL [p.1, p.2]) (Itr.row (d := T) rfl hT) fun p hp => ?_]
                  · rfl
                  · refine ⟨_, rfl, ?_⟩
                    have := x_list (m := false) (hf p)
                    simp [this]
                    rfl
                have hsum := ties_sum (G := h) ht
                have hsb := F_some_eq (th := L) (d := b) (most := t.hands) (h := h) hL hzb
                have hsl := F_some_eq (th := iL (tiesL t.tied)) (d := l) (most := t.hands) (h := h) row_iL hzl
                rw [isSome_ends] at hsl
                generalize htl : (t.tied.map fun p => iL [p.1, p.2]) = TL at *
                cases bb : isSome h t.lg t.hands b with
                | false =>
                  rw [bb] at hsb
                  generalize iL (tiesL t.tied) = TT at *
                  simp [F__law_is_stand, b__law_is_stand, hrow, isStand, hr, x_len hr, i0, i1, i2, i3, lO, lN, hp, bp, hw, lw, hl', hc, hwt, hue, hcl, hsum, hsb, bb]
                | true =>
                  rw [bb] at hsb
                  cases bl : isSome h t.ends t.hands l with
                  | false =>
                    rw [bl] at hsl
                    generalize iL (tiesL t.tied) = TT at *
                    simp [F__law_is_stand, b__law_is_stand, hrow, isStand, hr, x_len hr, i0, i1, i2, i3, lO, lN, hp, bp, hw, lw, hl', hc, hwt, hue, hcl, hsum, hsb, bb, hsl, bl]
                  | true =>
                    rw [bl] at hsl
                    obtain ⟨rb, sb, nb, _⟩ := isSome_inv bb
                    obtain ⟨rl, sl, nl, _⟩ := isSome_inv bl
                    have hh := ht.hnd
                    have pb := x_list (m := false) rb
                    have pl := x_list (m := false) rl
                    have hadd : addD (.lst ((rowI h b).map D.int)) (.lst ((rowI h l).map D.int)) h = .ok (iL (rowI h b ++ rowI h l)) h := by
                      rw [add_lst (by simp; omega), ← List.map_append]; rfl
                    have hset := x_lenSet (h := h) (d := iL (rowI h b ++ rowI h l)) (ns := rowI h b ++ rowI h l) row_iL (by simp; omega)
                    rw [both_len (pw_nodup (ris_pw sb).1) (pw_nodup (ris_pw sl).1)] at hset
                    have hc2 : eComp false [10] (iRow (eVar 8)) (gVar 10) (tAndF (tV (eBin (inD false) (eVar 10) (eVar 11))) (tV (eBin (inD true) (eVar 10) (eVar 9)))) (eVar 10) [some td, some d, some N, some (.int t.hands), some O, some L, some T, some w, some b, some l, none, some (iL (tiesL t.tied)), none] h = .ok (iL ((rowI h b).filter fun i => t.ends.contains i && !(rowI h l).contains i)) h := by
                      rw [comp_ty (em := D.int) (xs := rowI h b) (fun i => t.ends.contains i && !(rowI h l).contains i) D.int (Itr.row rfl rb) fun i hi => ?_]
                      · rfl
                      · refine ⟨_, rfl, ?_, fun _ => rfl⟩
                        have e1 := in_ints (n := false) (i := i) (d := iL (tiesL t.tied)) (h := h) row_iL
                        have e2 := in_ints (n := true) (i := i) rl
                        rw [ties_contains] at e1
                        cases hce : t.ends.contains i <;> rw [hce] at e1 <;> simp at e1 e2 <;> simp [e1, e2]
                    have hcount : (isStand h t d) = (decide (((rowI h b).length : Int) + ((rowI h l).filter fun i => !(rowI h b).contains i).length ≤ t.hands) && decide (((rowI h b).filter fun i => t.ends.contains i && !(rowI h l).contains i) = [])) := by
                      have : decide (((rowI h b).filter fun i => t.ends.contains i && !(rowI h l).contains i) = []) = (rowI h b).all fun i => !t.ends.contains i || (rowI h l).contains i := by
                        rw [Bool.eq_iff_iff, decide_eq_true_iff, List.filter_eq_nil_iff, List.all_eq_true]
                        refine forall_congr' fun i => forall_congr' fun _ => ?_
                        cases t.ends.contains i <;> cases (rowI h l).contains i <;> simp
                      rw [this]
                      simp only [isStand, hr, bp, hwt, bb, bl, Bool.true_and]
                    rw [hcount]
                    generalize (rowI h l).filter (fun i => !(rowI h b).contains i) = u1 at *
                    generalize (rowI h b).filter (fun i => t.ends.contains i && !(rowI h l).contains i) = u2 at *
                    generalize iL (rowI h b ++ rowI h l) = BL at *
                    generalize iL (tiesL t.tied) = TT at *
                    generalize (rowI h b).map D.int = B0 at *
                    generalize (rowI h l).map D.int = L0 at *
                    generalize hn1 : (rowI h b).length = n1 at *
                    by_cases hq : t.hands < (n1 : Int) + u1.length
                    · have : ¬ (n1 : Int) + u1.length ≤ t.hands := by omega
                      simp [F__law_is_stand, b__law_is_stand, hrow, hr, x_len hr, i0, i1, i2, i3, lO, lN, hp, hw, lw, hl', hc, hue, hcl, hsum, hsb, hsl, pb, pl, hadd, hset, hc2, hq, this]
                    · have : (n1 : Int) + u1.length ≤ t.hands := by omega
                      simp [F__law_is_stand, b__law_is_stand, hrow, hr, x_len hr, i0, i1, i2, i3, lO, lN, hp, hw, lw, hl', hc, hue, hcl, hsum, hsb, hsl, pb, pl, hadd, hset, hc2, hq, this]
            · have hl' : ¬ (ws.length : Int) = t.ns.length := by omega
              simp [F__law_is_stand, b__law_is_stand, hrow, isStand, hr, x_len hr, i0, i1, i2, i3, lO, lN, hp, bp, hw, lw, hl', isWaits, hl]
    · have : ∀ (a b c e : D), xs ≠ [a, b, c, e] := fun a b c e q => h4 (by rw [q]; rfl)
      have hf : isStand h t d = false := by
        unfold isStand
        rw [hr]
        split
        · rename_i e; exact absurd (Option.some.inj e) (this _ _ _ _)
        · rfl
      simp [F__law_is_stand, b__law_is_stand, hrow, hf, hr, x_len hr, h4]

end WD
namespace WD
open PySem PySem.Spec PyProof.Rows L2
def bigN : Nat := 10 ^ 70
def keyX : Key → Bool
  | .inl i => decide (i.natAbs < bigN)
  | .inr _ => false
mutual
def okR : D → Bool
  | .non => true
  | .bl _ => true
  | .int i => decide (i.natAbs < bigN)
  | .str x => PyData.strOk x && PyData.strOk (PyData.shown (.str x)) && decide (x.cps.size ≤ 100) && x.cps.toList.all fun c => decide (c < 16 ^ 8)
  | .tup xs => okRs xs
  | .lst xs => okRs xs
  | .dic ks xs => ks.all keyX && decide (ks.length = xs.length) && okRs xs
  | _ => false
def okRs : List D → Bool
  | [] => true
  | x :: xs => okR x && okRs xs
end
mutual
def dpR : D → Nat
  | .tup xs => dpRs xs + 1
  | .lst xs => dpRs xs + 1
  | .dic _ xs => dpRs xs + 1
  | _ => 0
def dpRs : List D → Nat
  | [] => 0
  | x :: xs => max (dpR x) (dpRs xs)
end
mutual
def bkR : D → Nat
  | .str x => x.cps.size
  | .tup xs => bkRs xs
  | .lst xs => bkRs xs
  | .dic _ xs => bkRs xs + xs.length
  | _ => 0
def bkRs : List D → Nat
  | [] => 0
  | x :: xs => bkR x + 1 + bkRs xs
end
theorem shown_big {i : Int} (h : i.natAbs < bigN) : (PyData.shown (.int i)).length ≤ 72 ∧ PyData.showable (.int i) = true ∧ PyData.strOk (PyData.shown (.int i)) = true := by
  refine ⟨?_, ?_, ok_string _⟩
  · have e := int_text_length_le10 (a := i) (k := 70) (by decide) h
    show (Str.ofString (toString i)).length ≤ 72
    rw [PySem.ofString_length]; omega
  · simp only [PyData.showable, decide_eq_true_eq]
    by_cases h0 : i.natAbs = 0
    · rw [h0]; decide
    · rw [Nat.log2_lt h0]
      exact Nat.lt_of_lt_of_le h (Nat.le_of_lt (by decide +kernel))
theorem toR_lst {h : Hs} {n : Nat} {xs : List D} {ps : List PyData} (e : xs.mapM (toR h n) = some ps) : toR h (n + 1) (.lst xs) = some (.list ps) := by
  show (xs.mapM (toR h n)).map PyData.list = _
  rw [e]; rfl
theorem toR_tup {h : Hs} {n : Nat} {xs : List D} {ps : List PyData} (e : xs.mapM (toR h n) = some ps) : toR h (n + 1) (.tup xs) = some (.tuple ps) := by
  show (xs.mapM (toR h n)).map PyData.tuple = _
  rw [e]; rfl
theorem toR_dic {h : Hs} {n : Nat} {ks : List Key} {xs : List D} {ps : List PyData} (hk : ks.all keyOk = true) (e : xs.mapM (toR h n) = some ps) : toR h (n + 1) (.dic ks xs) = some (.dict ((ks.map keyP).zip ps)) := by
  show (if ks.all keyOk = true then (xs.mapM (toR h n)).map fun ps => PyData.dict ((ks.map keyP).zip ps) else none) = _
  rw [if_pos hk, e]; rfl
theorem keys_ok : ∀ {ks : List Key}, ks.all keyX = true → ks.all keyOk = true
  | [], _ => rfl
  | .inl i :: ks, h => by
    simp only [List.all_cons, Bool.and_eq_true] at h ⊢
    exact ⟨rfl, keys_ok h.2⟩
  | .inr x :: ks, h => by simp [keyX] at h
/-- entries of a dict whose keys are whole numbers -/
theorem kv_facts : ∀ {ks : List Key} {ps : List PyData} {k : Nat}, ks.all keyX = true → ks.length = ps.length → PyData.showableAll ps = true → PyData.leavesShortAll 72 ps = true → PyData.depthAll ps ≤ k → (∀ t ∈ PyData.shownAll ps, PyData.strOk t = true) →
    PyData.bulkKv ((ks.map keyP).zip ps) = PyData.bulkAll ps + ps.length ∧ PyData.showableKv ((ks.map keyP).zip ps) = true ∧ PyData.leavesShortKv 72 ((ks.map keyP).zip ps) = true ∧ PyData.depthKv ((ks.map keyP).zip ps) ≤ k ∧ ∀ t ∈ PyData.shownKv ((ks.map keyP).zip ps), PyData.strOk t = true
  | [], [], _, _, _, _, _, _, _ => ⟨rfl, rfl, rfl, Nat.zero_le _, by simp [PyData.shownKv]⟩
  | [], _ :: _, _, _, h, _, _, _, _ => by cases h
  | _ :: _, [], _, _, h, _, _, _, _ => by cases h
  | .inr x :: ks, _ :: _, _, h, _, _, _, _, _ => by simp [keyX] at h
  | .inl i :: ks, p :: ps, k, hk, hl, hs, hv, hd, ht => by
    simp only [List.all_cons, Bool.and_eq_true, keyX, decide_eq_true_eq] at hk
    simp only [PyData.showableAll, PyData.leavesShortAll, PyData.depthAll, Bool.and_eq_true] at hs hv hd
    simp only [PyData.shownAll, List.mem_cons, forall_eq_or_imp] at ht
    obtain ⟨a1, a2, a3, a4, a5⟩ := kv_facts (k := k) hk.2 (by simpa using hl) hs.2 hv.2 (by omega) ht.2
    obtain ⟨b1, b2, b3⟩ := shown_big hk.1
    simp only [List.map_cons, List.zip_cons_cons, keyP]
    refine ⟨by simp only [PyData.bulkKv, PyData.bulkAll, PyData.bulk, a1, List.length_cons]; omega, by simp [PyData.showableKv, b2, hs.1, a2], by simp [PyData.leavesShortKv, PyData.leavesShort, b1, hv.1, a3], ?_, fun t h => ?_⟩
    · simp only [PyData.depthKv, PyData.depth]; omega
    · simp only [PyData.shownKv, List.mem_cons] at h
      rcases h with rfl | h
      · exact sok_app (sok_app b3 (ok_string _)) ht.1
      · exact a5 t h
mutual
theorem okR_toR : ∀ (d : D) (n : Nat), okR d = true → dpR d ≤ n → ∃ p : PyData, (∀ h : Hs, toR h n d = some p) ∧ p.bulk = bkR d ∧ p.showable = true ∧ p.leavesShort 72 = true ∧ p.depth ≤ dpR d ∧ PyData.strOk p.shown = true
  | .non, n, _, _ => ⟨.none, fun h => toR_of n _ _ toP_non, rfl, rfl, rfl, Nat.zero_le _, ok_string _⟩
  | .bl b, n, _, _ => ⟨.bool b, fun h => toR_of n _ _ toP_bl, rfl, rfl, rfl, Nat.zero_le _, by cases b <;> exact ok_string _⟩
  | .int i, n, hs, _ => by
    simp only [okR, decide_eq_true_eq] at hs
    obtain ⟨h1, h2, h3⟩ := shown_big hs
    exact ⟨.int i, fun h => toR_of n _ _ toP_int, rfl, h2, by simp only [PyData.leavesShort, decide_eq_true_eq]; exact h1, Nat.zero_le _, h3⟩
  | .str x, n, hs, _ => by
    simp only [okR, Bool.and_eq_true, decide_eq_true_eq] at hs
    obtain ⟨⟨⟨h1, h2⟩, h3⟩, h4⟩ := hs
    exact ⟨.str x, fun h => toR_of n _ _ (by cases n <;> simp [toP, h1]), rfl, rfl, by simpa [PyData.leavesShort] using h4, Nat.zero_le _, h2⟩
  | .tup xs, n, hs, hd => by
    simp only [okR] at hs
    simp only [dpR] at hd
    obtain ⟨n, rfl⟩ : ∃ m, n = m + 1 := ⟨n - 1, by omega⟩
    obtain ⟨ps, h1, h2, h3, h4, h6, h5⟩ := okRs_toR xs n hs (by omega)
    refine ⟨.tuple ps, fun h => toR_tup (h1 h).1, by simp only [PyData.bulk, bkR, h2], by simpa [PyData.showable] using h3, by simpa [PyData.leavesShort] using h4, by simp only [PyData.depth, dpR]; omega, ?_⟩
    show PyData.strOk (("(" : Str) ++ Str.join ", " (PyData.shownAll ps) ++ (if (PyData.shownAll ps).length == 1 then ",)" else ")" : String)) = true
    exact sok_app (sok_app (ok_string _) (sok_join _ (ok_string _) _ h5)) (ok_string _)
  | .lst xs, n, hs, hd => by
    simp only [okR] at hs
    simp only [dpR] at hd
    obtain ⟨n, rfl⟩ : ∃ m, n = m + 1 := ⟨n - 1, by omega⟩
    obtain ⟨ps, h1, h2, h3, h4, h6, h5⟩ := okRs_toR xs n hs (by omega)
    refine ⟨.list ps, fun h => toR_lst (h1 h).1, by simp only [PyData.bulk, bkR, h2], by simpa [PyData.showable] using h3, by simpa [PyData.leavesShort] using h4, by simp only [PyData.depth, dpR]; omega, ?_⟩
    show PyData.strOk (textFrom 0 "[" (PyData.shownAll ps) ++ "]") = true
    exact sok_app (sok_from _ _ _ (ok_string _) h5) (ok_string _)
  | .dic ks xs, n, hs, hd => by
    simp only [okR, Bool.and_eq_true, decide_eq_true_eq] at hs
    simp only [dpR] at hd
    obtain ⟨n, rfl⟩ : ∃ m, n = m + 1 := ⟨n - 1, by omega⟩
    obtain ⟨ps, h1, h2, h3, h4, h6, h5⟩ := okRs_toR xs n hs.2 (by omega)
    have hlen : xs.length = ps.length := (h1 []).2
    obtain ⟨a1, a2, a3, a4, a5⟩ := kv_facts (ks := ks) (ps := ps) (k := dpRs xs) hs.1.1 (by rw [hs.1.2, hlen]) h3 h4 h6 h5
    refine ⟨.dict ((ks.map keyP).zip ps), fun h => toR_dic (keys_ok hs.1.1) (h1 h).1, by simp only [PyData.bulk, bkR, a1, h2, hlen], by simpa [PyData.showable] using a2, by simpa [PyData.leavesShort] using a3, by simp only [PyData.depth, dpR]; omega, ?_⟩
    show PyData.strOk (("{" : Str) ++ Str.join ", " (PyData.shownKv ((ks.map keyP).zip ps)) ++ "}") = true
    exact sok_app (sok_app (ok_string _) (sok_join _ (ok_string _) _ a5)) (ok_string _)
  | .scr _, _, hs, _ => by simp [okR] at hs
  | .loc _, _, hs, _ => by simp [okR] at hs
theorem okRs_toR : ∀ (xs : List D) (n : Nat), okRs xs = true → dpRs xs ≤ n → ∃ ps : List PyData, (∀ h : Hs, xs.mapM (toR h n) = some ps ∧ xs.length = ps.length) ∧ PyData.bulkAll ps = bkRs xs ∧ PyData.showableAll ps = true ∧ PyData.leavesShortAll 72 ps = true ∧ PyData.depthAll ps ≤ dpRs xs ∧ ∀ t ∈ PyData.shownAll ps, PyData.strOk t = true
  | [], n, _, _ => ⟨[], fun _ => ⟨rfl, rfl⟩, rfl, rfl, rfl, Nat.zero_le _, by simp [PyData.shownAll]⟩
  | x :: xs, n, hs, hd => by
    simp only [okRs, Bool.and_eq_true] at hs
    simp only [dpRs] at hd
    obtain ⟨p, a1, a2, a3, a4, a6, a5⟩ := okR_toR x n hs.1 (by omega)
    obtain ⟨ps, b1, b2, b3, b4, b6, b5⟩ := okRs_toR xs n hs.2 (by omega)
    refine ⟨p :: ps, fun h => ⟨by rw [List.mapM_cons, a1 h, (b1 h).1]; rfl, by simp [(b1 h).2]⟩, by simp only [PyData.bulkAll, bkRs, a2, b2], by simp [PyData.showableAll, a3, b3], by simp [PyData.leavesShortAll, a4, b4], by simp only [PyData.depthAll, dpRs]; omega, fun t ht => ?_⟩
    simp only [PyData.shownAll, List.mem_cons] at ht
    rcases ht with rfl | ht
    · exact a5
    · exact b5 t ht
end
/-- a thing that can be shown: no more than M parts, no deeper than k -/
structure Sm (M k : Nat) (d : D) : Prop where
  ok : okR d = true
  bk : bkR d ≤ M
  dp : dpR d ≤ k
theorem Sm.repr {M k : Nat} {d : D} (s : Sm M k d) (hM : M ≤ 200000) (hk : k ≤ 60) : ∃ x : Str, PyData.strOk x = true ∧ ∀ h : Hs, reprR [d] h = .ok (.str x) h := by
  obtain ⟨p, h1, h2, h3, h4, h6, h5⟩ := okR_toR d 60 s.ok (by have := s.dp; omega)
  refine ⟨p.shown, h5, fun h => x_reprR (h1 h) h3 ?_ (by have := s.dp; omega)⟩
  have hl := PyData.shown_le_bulk 72 (by omega) p h4
  have := s.bk
  rw [sizeLine_eq]
  rw [h2] at hl
  omega
theorem Sm.mono {M k N l : Nat} {d : D} (s : Sm M k d) (h1 : M ≤ N) (h2 : k ≤ l) : Sm N l d := ⟨s.ok, Nat.le_trans s.bk h1, Nat.le_trans s.dp h2⟩
theorem sms {M k : Nat} : ∀ {xs : List D}, (∀ x ∈ xs, Sm M k x) → okRs xs = true ∧ bkRs xs ≤ xs.length * (M + 1) ∧ dpRs xs ≤ k
  | [], _ => ⟨rfl, Nat.zero_le _, Nat.zero_le _⟩
  | x :: xs, h => by
    obtain ⟨a, b, c⟩ := sms fun y hy => h y (List.mem_cons_of_mem _ hy)
    have hx := h x List.mem_cons_self
    have := hx.bk
    have := hx.dp
    refine ⟨by simp [okRs, hx.ok, a], ?_, by simp only [dpRs]; omega⟩
    simp only [bkRs, List.length_cons, Nat.add_mul, Nat.one_mul]; omega
theorem Sm.tup {M k : Nat} {xs : List D} (m : Nat) (h : ∀ x ∈ xs, Sm M k x) (hm : xs.length ≤ m) : Sm (m * (M + 1)) (k + 1) (.tup xs) := by
  obtain ⟨a, b, c⟩ := sms h
  have := Nat.mul_le_mul_right (M + 1) hm
  exact ⟨a, by simp only [bkR]; omega, by simp only [dpR]; omega⟩
theorem Sm.lst {M k : Nat} {xs : List D} (m : Nat) (h : ∀ x ∈ xs, Sm M k x) (hm : xs.length ≤ m) : Sm (m * (M + 1)) (k + 1) (.lst xs) := by
  obtain ⟨a, b, c⟩ := sms h
  have := Nat.mul_le_mul_right (M + 1) hm
  exact ⟨a, by simp only [bkR]; omega, by simp only [dpR]; omega⟩
theorem Sm.int {i : Int} (h : i.natAbs < bigN) : Sm 0 0 (.int i) := ⟨by simp [okR, h], Nat.le_refl _, Nat.le_refl _⟩
theorem small_big {i : Int} (h : -1000000 ≤ i ∧ i ≤ 1000000) : i.natAbs < bigN := Nat.lt_of_le_of_lt (show i.natAbs ≤ 1000000 by omega) (by decide +kernel)
theorem Sm.iT {ns : List Int} (m : Nat) (h : ∀ n ∈ ns, 0 ≤ n ∧ n ≤ 1000000) (hm : ns.length ≤ m) : Sm (m * 1) 1 (WD.iT ns) := Sm.tup (M := 0) (k := 0) m (fun x hx => by
  obtain ⟨n, hn, rfl⟩ := List.mem_map.mp hx
  have := h n hn
  exact Sm.int (small_big (by omega))) (by simpa using hm)
mutual
theorem okR_tL : ∀ d : D, okR (tL d) = okR d ∧ bkR (tL d) = bkR d ∧ dpR (tL d) = dpR d
  | .tup xs => by
    obtain ⟨a, b, c⟩ := okRs_tL xs
    exact ⟨by simp only [tL, okR, a], by simp only [tL, bkR, b], by simp only [tL, dpR, c]⟩
  | .non => ⟨rfl, rfl, rfl⟩
  | .bl _ => ⟨rfl, rfl, rfl⟩
  | .int _ => ⟨rfl, rfl, rfl⟩
  | .str _ => ⟨rfl, rfl, rfl⟩
  | .lst _ => ⟨rfl, rfl, rfl⟩
  | .scr _ => ⟨rfl, rfl, rfl⟩
  | .dic _ _ => ⟨rfl, rfl, rfl⟩
  | .loc _ => ⟨rfl, rfl, rfl⟩
theorem okRs_tL : ∀ xs : List D, okRs (tLs xs) = okRs xs ∧ bkRs (tLs xs) = bkRs xs ∧ dpRs (tLs xs) = dpRs xs
  | [] => ⟨rfl, rfl, rfl⟩
  | x :: xs => by
    obtain ⟨a, b, c⟩ := okR_tL x
    obtain ⟨a', b', c'⟩ := okRs_tL xs
    exact ⟨by simp only [tLs, okRs, a, a'], by simp only [tLs, bkRs, b, b'], by simp only [tLs, dpRs, c, c']⟩
end
theorem Sm.tL {M k : Nat} {d : D} (s : Sm M k d) : Sm M k (WD.tL d) := by
  obtain ⟨a, b, c⟩ := okR_tL d
  exact ⟨by rw [a]; exact s.ok, by rw [b]; exact s.bk, by rw [c]; exact s.dp⟩
theorem Sm.sd {t : Tk} {s : Sd} (ht : t.Ok) (hs : s.Ok t) : Sm 100 2 s.D := by
  obtain ⟨q1, q2, q3, q4, q5, q6, q7⟩ := hs.num ht
  refine (Sm.tup (M := 8) (k := 1) 4 (fun x hx => ?_) (by simp)).mono (by omega) (by omega)
  simp only [List.mem_cons, List.not_mem_nil, or_false] at hx
  rcases hx with rfl | rfl | rfl | rfl
  · exact (Sm.int (small_big (by omega))).mono (by omega) (by omega)
  · exact (Sm.iT 8 q2 q3).mono (by omega) (by omega)
  · exact (Sm.iT 8 q4 (by omega)).mono (by omega) (by omega)
  · exact (Sm.iT 8 q6 (by omega)).mono (by omega) (by omega)

end WD
namespace WD
open PySem PySem.Spec PyProof.Rows L2
theorem Sm.row {M k : Nat} {d : D} {h : Hs} {xs : List D} (s : Sm M k d) (hr : rowOf h d = some xs) : xs.length ≤ M ∧ ∀ y ∈ xs, Sm M k y := by
  have main : ∀ ys : List D, okRs ys = true → ys.length ≤ bkRs ys ∧ ∀ y ∈ ys, okR y = true ∧ bkR y ≤ bkRs ys ∧ dpR y ≤ dpRs ys := fun ys => by
    induction ys with
    | nil => exact fun _ => ⟨Nat.zero_le _, by simp⟩
    | cons y ys ih =>
      intro ho
      simp only [okRs, Bool.and_eq_true] at ho
      obtain ⟨a, b⟩ := ih ho.2
      refine ⟨by simp only [bkRs, List.length_cons]; omega, fun z hz => ?_⟩
      rcases List.mem_cons.mp hz with rfl | hz
      · exact ⟨ho.1, by simp only [bkRs]; omega, by simp only [dpRs]; omega⟩
      · obtain ⟨b1, b2, b3⟩ := b z hz
        exact ⟨b1, by simp only [bkRs]; omega, by simp only [dpRs]; omega⟩
  have s1 := s.ok
  have s2 := s.bk
  have s3 := s.dp
  cases d with
  | tup ys =>
    cases hr
    simp only [okR, bkR, dpR] at s1 s2 s3
    obtain ⟨a, b⟩ := main xs s1
    exact ⟨by omega, fun y hy => ⟨(b y hy).1, by have := (b y hy).2.1; omega, by have := (b y hy).2.2; omega⟩⟩
  | lst ys =>
    cases hr
    simp only [okR, bkR, dpR] at s1 s2 s3
    obtain ⟨a, b⟩ := main xs s1
    exact ⟨by omega, fun y hy => ⟨(b y hy).1, by have := (b y hy).2.1; omega, by have := (b y hy).2.2; omega⟩⟩
  | scr ys => simp [okR] at s1
  | loc n => simp [okR] at s1
  | _ => cases hr
mutual
theorem okR_und : ∀ (d : D) (n : Nat), okR d = true → d.und n = true
  | .non, _, _ => rfl
  | .bl _, _, _ => rfl
  | .int _, _, _ => rfl
  | .str _, _, _ => rfl
  | .tup xs, n, h => by
    simp only [okR] at h
    rw [D.und]; exact okRs_und xs n h
  | .lst xs, n, h => by
    simp only [okR] at h
    rw [D.und]; exact okRs_und xs n h
  | .dic ks xs, n, h => by
    simp only [okR, Bool.and_eq_true] at h
    rw [D.und]; exact okRs_und xs n h.2
  | .scr _, _, h => by simp [okR] at h
  | .loc _, _, h => by simp [okR] at h
theorem okRs_und : ∀ (xs : List D) (n : Nat), okRs xs = true → undL n xs = true
  | [], _, _ => rfl
  | x :: xs, n, h => by
    simp only [okRs, Bool.and_eq_true] at h
    rw [undL, okR_und x n h.1, okRs_und xs n h.2]; rfl
end
theorem Sm.und {M k : Nat} {d : D} (s : Sm M k d) (n : Nat) : d.und n = true := okR_und d n s.ok
mutual
theorem depT_dpR : ∀ d : D, depT d ≤ dpR d
  | .tup xs => by
    have := depTs_dpRs xs
    simp only [depT, dpR]; omega
  | .non => Nat.le_refl _
  | .bl _ => Nat.le_refl _
  | .int _ => Nat.le_refl _
  | .str _ => Nat.le_refl _
  | .lst _ => Nat.zero_le _
  | .scr _ => Nat.zero_le _
  | .dic _ _ => Nat.zero_le _
  | .loc _ => Nat.le_refl _
theorem depTs_dpRs : ∀ xs : List D, depTs xs ≤ dpRs xs
  | [] => Nat.le_refl _
  | x :: xs => by
    have h1 := depT_dpR x
    have h2 := depTs_dpRs xs
    simp only [depTs, dpRs]; omega
end
theorem Sm.lists {M k : Nat} {d : D} (s : Sm M k d) (hk : k < 45) {h : Hs} : F__law_lists 45 [d] h = .ok (WD.tL d) h := lists_tL 45 d h (by have := depT_dpR d; have := s.dp; omega)
/-- told: any thing -/
theorem law_told_eq {t : Tk} {td x : D} {h : Hs} {M k : Nat} (ht : t.Ok) (ctd : TkRow h t td) (ed : vq h 3 td = some t.Q) (sm : Sm M k x) (hM : M ≤ 100000) (hk : k ≤ 60) : F__law_told [td, x] h = .ok (.bl true) h := by
  obtain ⟨z, hz, hr⟩ := sm.repr (by omega) hk
  have h1 := F_asked_task_eq ed (by omega) ht
  have h2 := F_is_stand_eq (d := x) (h := h) ht
  have h3 := law_is_stand_eq (d := x) ht ctd fun xs hx y hy ys hys => by
    have := ((sm.row hx).2 y hy).row hys
    omega
  have he := eq_strx (n := false) (h := h) hz
  simp [F__law_told, b__law_told, F_is_stand, b_is_stand, hr, h1, h2, h3, he]
def wrong14 : List D := [.int (-1), .int 0, .int 1, .int 2, .bl true, .bl false, .non, .str "0", .str "", .tup [], .lst [], .tup [.int 0], .tup [.int 1], .tup [.int 0, .int 1], .tup [.int 1, .int 0], .tup [.int 0, .int 0], .tup [.int 0, .int 1, .int 2], .tup [.int 2], .lst [.int 1],
  .tup [.tup [.int 0]], .dic [] [], .dic [.inl 0] [.int 1], .int (10 ^ 60), .int 41, .int 7, .int 8, .tup [.int 7], .tup [.int 8], .tup [.int (-1)], .tup [.bl true], .tup [.non], .str "a", .tup [.int 3, .int 4], .tup [.int 1, .int 2], .int 3]
theorem wrong14_sm : ∀ w ∈ wrong14, Sm 100 3 w := by
  have : (wrong14.all fun w => okR w && decide (bkR w ≤ 100) && decide (dpR w ≤ 3)) = true := by decide +kernel
  intro w hw
  have h := List.all_eq_true.mp this w hw
  simp only [Bool.and_eq_true, decide_eq_true_eq] at h
  exact ⟨h.1.1, h.1.2, h.2⟩
theorem law_wrong14 {c : Int} {h : Hs} : ∃ w : D, Sm 100 3 w ∧ F__law_wrong [.int c] h = .ok w h := by
  obtain ⟨w, hw, hix⟩ := ix_any (h := h) (d := .lst wrong14) (xs := wrong14) (i := c % 35) rfl (by omega) (by show c % 35 < 35; omega)
  refine ⟨w, wrong14_sm w hw, ?_⟩
  have hx := exitT_same (h := h) ((wrong14_sm w hw).und h.length)
  have hadd : addD (.lst (wrong14.take 19)) (.lst (wrong14.drop 19)) h = .ok (.lst wrong14) h := by
    rw [add_lst (by decide), List.take_append_drop]
  have hln : lenD [.lst wrong14] h = .ok (.int 35) h := rfl
  have t1 : wrong14.take 19 = [.int (-1), .int 0, .int 1, .int 2, .bl true, .bl false, .non, .str "0", .str "", .tup [], .lst [], .tup [.int 0], .tup [.int 1], .tup [.int 0, .int 1], .tup [.int 1, .int 0], .tup [.int 0, .int 0], .tup [.int 0, .int 1, .int 2], .tup [.int 2], .lst [.int 1]] := rfl
  have t2 : wrong14.drop 19 = [.tup [.tup [.int 0]], .dic [] [], .dic [.inl 0] [.int 1], .int (10 ^ 60), .int 41, .int 7, .int 8, .tup [.int 7], .tup [.int 8], .tup [.int (-1)], .tup [.bl true], .tup [.non], .str "a", .tup [.int 3, .int 4], .tup [.int 1, .int 2], .int 3] := rfl
  rw [t1, t2] at hadd
  have hp : powD (.int 10) (.int 60) h = .ok (.int (10 ^ 60)) h := by simp
  generalize (10 : Int) ^ 60 = BB at *
  generalize D.lst wrong14 = WW at *
  simp [-x_pw, -add_lst, F__law_wrong, b__law_wrong, hp, hadd, hln, hix, hx]
theorem cut_mem {α : Type} {xs : List α} {a b : Option Int} {x : α} (h : x ∈ cutG xs a b) : x ∈ xs := by
  unfold cutG at h
  first
    | exact List.mem_of_mem_drop (List.mem_of_mem_take h)
    | exact List.mem_of_mem_take (List.mem_of_mem_drop h)
theorem cut_lenX {α : Type} {xs : List α} {a b : Option Int} : (cutG xs a b).length ≤ xs.length := by
  unfold cutG
  simp only [List.length_take, List.length_drop]; omega
theorem law_bent14 {t : Tk} {s : Sd} {c : Int} {h : Hs} (ht : t.Ok) (hs : s.Ok t) : ∃ x : D, Sm 20000 8 x ∧ F__law_bent [s.D, .int c] h = .ok x h := by
  obtain ⟨q1, q2, q3, q4, q5, q6, q7⟩ := hs.num ht
  have hD : s.D = .tup [.int s.ph, iT s.ws, iT s.busy, iT s.last] := rfl
  have hP : ∀ x ∈ [D.int s.ph, iT s.ws, iT s.busy, iT s.last], Sm 8 1 x := fun x hx => by
    simp only [List.mem_cons, List.not_mem_nil, or_false] at hx
    rcases hx with rfl | rfl | rfl | rfl
    · exact (Sm.int (small_big (by omega))).mono (by omega) (by omega)
    · exact (Sm.iT 8 q2 q3).mono (by omega) (by omega)
    · exact (Sm.iT 8 q4 (by omega)).mono (by omega) (by omega)
    · exact (Sm.iT 8 q6 (by omega)).mono (by omega) (by omega)
  have fin : ∀ x : D, Sm 20000 8 x → b__law_bent [some s.D, some (.int c), none, none, none, none, none] h = .rt x h → ∃ x : D, Sm 20000 8 x ∧ F__law_bent [s.D, .int c] h = .ok x h := fun x sm hb => by
    refine ⟨x, sm, ?_⟩
    simp only [F__law_bent, x_run, List.length_cons, List.length_nil]
    simp only [Nat.zero_add, Nat.reduceAdd, if_true, List.map_cons, List.map_nil, Nat.reduceSub, List.replicate, List.cons_append, List.nil_append, hb]
    exact exitT_same (sm.und _)
  rw [hD] at fin ⊢
  generalize hp : [D.int s.ph, iT s.ws, iT s.busy, iT s.last] = P at *
  have hPl : P.length = 4 := by rw [← hp]; rfl
  have put : ∀ (a b : Option Int) (v : D), Sm 2000 5 v → Sm 20000 8 (.tup (cutG P none a ++ [v] ++ cutG P b none)) := fun a b v hv => by
    refine (Sm.tup (M := 2000) (k := 5) 9 (fun x hx => ?_) ?_).mono (by omega) (by omega)
    · simp only [List.mem_append, List.mem_singleton] at hx
      rcases hx with (hx | rfl) | hx
      · exact (hP x (cut_mem hx)).mono (by omega) (by omega)
      · exact hv
      · exact (hP x (cut_mem hx)).mono (by omega) (by omega)
    · have h1 := cut_lenX (xs := P) (a := none) (b := a)
      have h2 := cut_lenX (xs := P) (a := b) (b := none)
      simp only [List.length_append, List.length_singleton]; omega
  have adds : ∀ (xs : List D) (v : D) (ys : List D), xs.length ≤ 1000 → ys.length ≤ 1000 → addD (.tup xs) (.tup [v]) h = .ok (.tup (xs ++ [v])) h ∧ addD (.tup (xs ++ [v])) (.tup ys) h = .ok (.tup (xs ++ [v] ++ ys)) h := fun xs v ys h1 h2 => ⟨add_tup (by simp; omega), add_tup (by simp; omega)⟩
  have c4 : ∀ a b : Option Int, (cutG P a b).length ≤ 1000 := fun a b => by have := cut_lenX (xs := P) (a := a) (b := b); omega
  rcases (by omega : c % 8 < 3 ∨ (3 ≤ c % 8 ∧ c % 8 < 6) ∨ 6 ≤ c % 8) with w | w | w
  · obtain ⟨v, hv, e⟩ := law_wrong14 (c := c / 8 / 4) (h := h)
    obtain ⟨a1, a2⟩ := adds (cutG P none (some (c / 8 % 4))) v (cutG P (some (c / 8 % 4 + 1)) none) (c4 _ _) (c4 _ _)
    refine fin _ (put (some (c / 8 % 4)) (some (c / 8 % 4 + 1)) v (hv.mono (by omega) (by omega))) ?_
    simp [-add_tup, b__law_bent, w, e, a1, a2]
  · obtain ⟨ns, hns, hl, hix⟩ : ∃ ns : List Int, (∀ n ∈ ns, 0 ≤ n ∧ n ≤ 1000000) ∧ ns.length ≤ 8 ∧ ixD (.tup P) (.int (1 + c / 8 % 3)) h = .ok (iT ns) h := by
      have hrow : rowOf h (.tup P) = some [D.int s.ph, iT s.ws, iT s.busy, iT s.last] := by rw [hp]; rfl
      rcases (by omega : c / 8 % 3 = 0 ∨ c / 8 % 3 = 1 ∨ c / 8 % 3 = 2) with z | z | z
      · exact ⟨s.ws, q2, q3, by rw [z]; exact x_ix_row hrow rfl⟩
      · exact ⟨s.busy, q4, by omega, by rw [z]; exact x_ix_row hrow rfl⟩
      · exact ⟨s.last, q6, by omega, by rw [z]; exact x_ix_row hrow rfl⟩
    obtain ⟨v, hv, e⟩ := law_wrong14 (c := c / 8 / 32) (h := h)
    have hln : lenD [iT ns] h = .ok (.int ns.length) h := len_iT
    generalize hpl : c / 8 / 3 % ((ns.length : Int) + 1) = pl
    have hmo : modD (.int (c / 8 / 3)) (.int ((ns.length : Int) + 1)) h = .ok (.int pl) h := by
      rw [← hpl]
      have : (0 : Int) < (ns.length : Int) + 1 := by omega
      generalize (ns.length : Int) + 1 = L at *
      simp [this]
    have k4 : ∀ a b : Option Int, (cutG ns a b).length ≤ 8 := fun a b => by have := cut_lenX (xs := ns) (a := a) (b := b); omega
    have a1 : addD (iT (cutG ns none (some pl))) (.tup [v]) h = .ok (.tup ((cutG ns none (some pl)).map D.int ++ [v])) h := add_tup (by have := k4 none (some pl); simp; omega)
    have a2 : addD (.tup ((cutG ns none (some pl)).map D.int ++ [v])) (iT (cutG ns (some (pl + c % 2)) none)) h = .ok (.tup ((cutG ns none (some pl)).map D.int ++ [v] ++ (cutG ns (some (pl + c % 2)) none).map D.int)) h := add_tup (by
      have := k4 none (some pl)
      have := k4 (some (pl + c % 2)) none
      simp; omega)
    have sr : Sm 2000 5 (.tup ((cutG ns none (some pl)).map D.int ++ [v] ++ (cutG ns (some (pl + c % 2)) none).map D.int)) := by
      have ki : ∀ (a b : Option Int) (x : D), x ∈ (cutG ns a b).map D.int → Sm 100 3 x := fun a b x hx => by
        obtain ⟨n, hn, rfl⟩ := List.mem_map.mp hx
        have := hns n (cut_mem hn)
        exact (Sm.int (small_big (by omega))).mono (by omega) (by omega)
      refine (Sm.tup (M := 100) (k := 3) 17 (fun x hx => ?_) ?_).mono (by omega) (by omega)
      · simp only [List.mem_append, List.mem_singleton] at hx
        rcases hx with (hx | rfl) | hx
        · exact ki _ _ x hx
        · exact hv
        · exact ki _ _ x hx
      · have := k4 none (some pl)
        have := k4 (some (pl + c % 2)) none
        simp; omega
    have ko := put (some (1 + c / 8 % 3)) (some (2 + c / 8 % 3)) _ sr
    generalize hrow2 : D.tup ((cutG ns none (some pl)).map D.int ++ [v] ++ (cutG ns (some (pl + c % 2)) none).map D.int) = row2 at *
    generalize D.tup ((cutG ns none (some pl)).map D.int ++ [v]) = row1 at *
    obtain ⟨b1, b2⟩ := adds (cutG P none (some (1 + c / 8 % 3))) row2 (cutG P (some (2 + c / 8 % 3)) none) (c4 _ _) (c4 _ _)
    refine fin _ ko ?_
    have w1 : ¬ c % 8 < 3 := by omega
    subst hpl
    simp [-add_tup, b__law_bent, w1, w.2, hix, hln, hmo, e, a1, a2, b1, b2]
  · have w1 : ¬ c % 8 < 3 := by omega
    have w2 : ¬ c % 8 < 6 := by omega
    let T : List D := [.tup (cutG P none (some 3)), .tup (P ++ [.tup []]), .tup P.reverse, .tup [.tup P], .non, .int 5, .str "", .dic [] [], .tup [], .tup (cutG P (some 1) none ++ cutG P none (some 1))]
    obtain ⟨x, hx, hix⟩ := ix_any (h := h) (d := .lst T) (xs := T) (i := c / 8 % 10) rfl (by omega) (by show c / 8 % 10 < 10; omega)
    have sP : Sm 36 2 (.tup P) := (Sm.tup (M := 8) (k := 1) 4 hP (by omega)).mono (by omega) (by omega)
    have se : Sm 0 1 (.tup []) := ⟨rfl, Nat.le_refl _, Nat.le_refl _⟩
    have sm : Sm 20000 8 x := by
      simp only [T, List.mem_cons, List.not_mem_nil, or_false] at hx
      rcases hx with rfl | rfl | rfl | rfl | rfl | rfl | rfl | rfl | rfl | rfl
      · exact (Sm.tup (M := 8) (k := 1) 4 (fun y hy => hP y (cut_mem hy)) (by have := cut_lenX (xs := P) (a := none) (b := some 3); omega)).mono (by omega) (by omega)
      · refine (Sm.tup (M := 8) (k := 1) 5 (fun y hy => ?_) (by simp; omega)).mono (by omega) (by omega)
        rcases List.mem_append.mp hy with hy | hy
        · exact hP y hy
        · obtain rfl : y = .tup [] := by simpa using hy
          exact se.mono (by omega) (by omega)
      · exact (Sm.tup (M := 8) (k := 1) 4 (fun y hy => hP y (List.mem_reverse.mp hy)) (by simp; omega)).mono (by omega) (by omega)
      · refine (Sm.tup (M := 36) (k := 2) 1 (fun y hy => ?_) (by simp)).mono (by omega) (by omega)
        obtain rfl : y = .tup P := by simpa using hy
        exact sP
      · exact ⟨rfl, by decide, by decide⟩
      · exact (Sm.int (small_big (by omega))).mono (by omega) (by omega)
      · exact ⟨by decide +kernel, by decide, by decide⟩
      · exact ⟨rfl, by decide, by decide⟩
      · exact se.mono (by omega) (by omega)
      · refine (Sm.tup (M := 8) (k := 1) 8 (fun y hy => ?_) ?_).mono (by omega) (by omega)
        · rcases List.mem_append.mp hy with hy | hy
          · exact hP y (cut_mem hy)
          · exact hP y (cut_mem hy)
        · have := cut_lenX (xs := P) (a := some 1) (b := none)
          have := cut_lenX (xs := P) (a := none) (b := some 1)
          simp; omega
    refine fin x sm ?_
    have a1 : addD (.tup P) (.tup [.tup []]) h = .ok (.tup (P ++ [.tup []])) h := add_tup (by simp; omega)
    have a2 : addD (.tup (cutG P (some 1) none)) (.tup (cutG P none (some 1))) h = .ok (.tup (cutG P (some 1) none ++ cutG P none (some 1))) h := add_tup (by
      have := c4 (some 1) none
      have := c4 none (some 1)
      omega)
    have hr : ∀ s0 : Ss, s0[0]? = some (some (.tup P)) → eRev (eVar 0) (negD (eC (.int 1))) s0 h = .ok (.tup P.reverse) h := fun s0 h0 => x_rev (by simp [h0]) rfl
    have hix' : ixD (.lst [.tup (cutG P none (some 3)), .tup (P ++ [.tup []]), .tup P.reverse, .tup [.tup P], .non, .int 5, .str "", .dic [] [], .tup [], .tup (cutG P (some 1) none ++ cutG P none (some 1))]) (.int (c / 8 % 10)) h = .ok x h := hix
    generalize D.tup P.reverse = PR at *
    generalize D.tup (P ++ [.tup []]) = PA at *
    generalize hPB : D.tup (cutG P (some 1) none ++ cutG P none (some 1)) = PB at *
    have s1 : slD false (.tup P) (some 1) none h = .ok (.tup (cutG P (some 1) none)) h := sl_tup
    have s2 : slD false (.tup P) none (some 1) h = .ok (.tup (cutG P none (some 1))) h := sl_tup
    have s3 : slD false (.tup P) none (some 3) h = .ok (.tup (cutG P none (some 3))) h := sl_tup
    generalize D.tup (cutG P (some 1) none) = P1 at *
    generalize D.tup (cutG P none (some 1)) = P2 at *
    generalize D.tup (cutG P none (some 3)) = P3 at *
    have hr0 := hr [some (.tup P), some (.int c), some (.int (c % 8)), some (.int (c / 8)), some (.int (c / 8 % 4)), none, none] rfl
    simp [-add_tup, -sl_tup, b__law_bent, w1, w2, a1, a2, s1, s2, s3, hr0, hix']

end WD
namespace WD
open PySem PySem.Spec PyProof.Rows L2
theorem no14_sub : subX "NoTask" "DaysError" = true ∧ subX "NoTask" "ValueError" = true ∧ subX "NoTask" "NoStand" = false ∧ subX "NoTask" "NoTask" = true := by decide +kernel
theorem law_no_task14 {e : D} {h : Hs} (he : F_asked_task [e] h = .err ⟨"NoTask", none⟩ h) : F__law_no_task [e] h = .ok (.bl true) h := by
  obtain ⟨s1, s2, s3, s4⟩ := no14_sub
  have f1 : F_first_stand [e] h = .err ⟨"NoTask", none⟩ h := by simp [F_first_stand, b_first_stand, he]
  have f2 : F_is_stand [e, .tup [.int 0, .tup [], .tup [], .tup []]] h = .err ⟨"NoTask", none⟩ h := by simp [F_is_stand, b_is_stand, he]
  have r1 : F__law_is_refused [e, .bl true] h = .ok (.bl true) h := by
    simp [F__law_is_refused, b__law_is_refused, sTry, f1, s1, s2, s3, s4, unset]
  have r2 : F__law_is_refused [e, .bl false] h = .ok (.bl true) h := by
    simp [F__law_is_refused, b__law_is_refused, sTry, f2, s1, s2, s3, s4, unset]
  simp [F__law_no_task, b__law_no_task, r1, r2]
def no14 (t : Tk) : List D :=
  let N := iT t.ns; let W := D.int t.hands; let O := iT t.off; let L := iT t.lg; let P := D.tup (t.tied.map prD)
  [.non, .int 0, .str "task", .tup [], .tup [N, W, O, L], .tup [N, W, O, L, P, .tup []], .lst [t.D], .dic [] [], .tup [iT (t.ns ++ [41]), W, O, L, P],
   .tup [N, .int 3, O, L, P], .tup [N, W, .tup [], L, P], .tup [N, W, O, .tup [.int t.ns.length], P], .tup [N, W, O, L, .tup [.tup [.int 0, .int t.ns.length]]]]
theorem no14_no {t : Tk} {h : Hs} (ht : t.Ok) : ∀ e ∈ no14 t, F_asked_task [e] h = .err ⟨"NoTask", none⟩ h := by
  have h28 := ht.few
  have hT : ∀ xs, rowOf h (.tup (t.tied.map prD)) = some xs → xs.length ≤ 100000 := fun xs e => by
    have : xs = t.tied.map prD := by cases e; rfl
    rw [this, List.length_map]; omega
  have hp1 : ∀ (d : D) xs, rowOf h (.tup [d]) = some xs → xs.length ≤ 100000 := fun d xs e => by cases e; simp
  have rn : ((rowOf h (iT t.ns)).getD []).length = t.ns.length := by simp
  intro e he
  simp only [no14, List.mem_cons, List.not_mem_nil, or_false] at he
  rcases he with rfl | rfl | rfl | rfl | rfl | rfl | rfl | rfl | rfl | rfl | rfl | rfl | rfl
  · exact task_len fun xs q => by cases q
  · exact task_len fun xs q => by cases q
  · exact task_len fun xs q => by cases q
  · exact task_len fun xs q => by cases q; simp
  · exact task_len fun xs q => by cases q; simp
  · exact task_len fun xs q => by cases q; simp
  · exact task_len fun xs q => by cases q; simp
  · exact task_len fun xs q => by cases q
  · exact bad5 (by rw [isTask5]; have : isNums h (iT (t.ns ++ [41])) = false := by simp [isNums]
                   rw [this]; rfl) hT
  · exact bad5 (by rw [isTask5]; have : isW 1 2 (.int 3) = false := rfl
                   rw [this]; simp) hT
  · exact bad5 (by rw [isTask5]; have : isOff h (.tup []) = false := rfl
                   rw [this]; simp) hT
  · exact bad5 (by
      rw [isTask5, rn]
      have : isRis h 0 ((t.ns.length : Int) - 1) (.tup [.int t.ns.length]) = false := by
        show risL 0 _ [.int t.ns.length] = false
        simp [risL]; omega
      rw [this]; simp) hT
  · exact bad5 (by
      rw [isTask5, rn]
      have : arePairs h t.ns.length (.tup [.tup [.int 0, .int t.ns.length]]) = false := by
        simp [arePairs, isPair, risL]; omega
      rw [this]; simp) (hp1 _)
theorem law_no_tasks14 {t : Tk} {h : Hs} (ht : t.Ok) : F__law_no_tasks [t.D] h = .ok (.lst (no14 t)) h := by
  have h8 := ht.num.1
  obtain ⟨i0, i1, i2, i3, i4⟩ := ix_tk' t h
  have ln : lenD [iT t.ns] h = .ok (.int t.ns.length) h := len_iT
  have s4 : slD false t.D none (some 4) h = .ok (.tup [iT t.ns, .int t.hands, iT t.off, iT t.lg]) h := rfl
  have s1 : slD false t.D (some 1) none h = .ok (.tup [.int t.hands, iT t.off, iT t.lg, .tup (t.tied.map prD)]) h := rfl
  have s2 : slD false t.D (some 2) none h = .ok (.tup [iT t.off, iT t.lg, .tup (t.tied.map prD)]) h := rfl
  have s3 : slD false t.D (some 3) none h = .ok (.tup [iT t.lg, .tup (t.tied.map prD)]) h := rfl
  have p2 : slD false t.D none (some 2) h = .ok (.tup [iT t.ns, .int t.hands]) h := rfl
  have p3 : slD false t.D none (some 3) h = .ok (.tup [iT t.ns, .int t.hands, iT t.off]) h := rfl
  have a0 : addD t.D (.tup [.tup []]) h = .ok (.tup [iT t.ns, .int t.hands, iT t.off, iT t.lg, .tup (t.tied.map prD), .tup []]) h := add_tup (xs := [iT t.ns, .int t.hands, iT t.off, iT t.lg, .tup (t.tied.map prD)]) (ys := [.tup []]) (by simp)
  have a1 : addD (iT t.ns) (.tup [.int 41]) h = .ok (iT (t.ns ++ [41])) h := add_iT (xs := t.ns) (ys := [41]) (by simp; omega)
  have hT : (D.tup (t.tied.map prD)).und h.length = true := by
    have := und_qD h.length (.row (t.tied.map prQ))
    rw [qD, qDL_prs] at this; exact this
  have hD := und_tk t h.length
  have hx : exitT h (.lst (no14 t)) h = .ok (.lst (no14 t)) h := exitT_same (by
    simp only [no14, und_lst, undL_cons, undL_nil, und_tup, und_iT, und_int, und_non, und_str, Bool.and_true, Bool.and_self]
    simp only [und_tup] at hT
    simp [hT, hD, D.und])
  unfold no14 at hx ⊢
  dsimp only at hx ⊢
  generalize iT (t.ns ++ [41]) = Y2 at *
  generalize D.tup (t.tied.map prD) = PP at *
  generalize iT t.ns = NN at *
  generalize iT t.off = OO at *
  generalize iT t.lg = LL at *
  generalize t.D = TT at *
  simp [F__law_no_tasks, b__law_no_tasks, i0, i4, ln, s1, s2, s3, s4, p2, p3, a0, a1, hx]
theorem first_stand14 {t : Tk} {td : D} {h : Hs} (ht : t.Ok) (ed : vq h 3 td = some t.Q) : F_first_stand [td] h = .ok (Sd.mk 0 t.ns [] []).D h := by
  obtain ⟨i0, i1, i2, i3, i4⟩ := ix_tk' t h
  have hat := F_asked_task_eq ed (by omega) ht
  have hx := exitT_same (h := h) (und_sd (Sd.mk 0 t.ns [] []) h.length)
  have hD : (Sd.mk 0 t.ns [] []).D = .tup [.int 0, iT t.ns, .tup [], .tup []] := rfl
  rw [hD] at hx ⊢
  simp [F_first_stand, b_first_stand, F_first_of, b_first_of, hat, i0, hx]
theorem k14_cell {ns0 : List Int} {n : Nat} {t : Tk} {c : Int} {f : D} {H : Hs} (ht : t.Ok) (K : Dk n H) : ∃ H2 : Hs, Dk n H2 ∧
    k_law_5 [some (.scr (ns0.map D.int)), some (.loc n), some t.D, some f, none, some (.int c), none, none, none, none] H = .nx [some (.scr (ns0.map D.int)), some (.loc n), some t.D, some f, none, none, none, none, none, none] H2 := by
  obtain ⟨s, H1, w1, k1, ok, e1⟩ := law_made_eq K ht
  generalize hav : (if c < 0 then -c else c) = v
  obtain ⟨x, sx, e2⟩ := law_bent14 (c := v) (h := H1) ht ok
  have ss := Sm.sd ht ok
  have l1 := ss.lists (by omega) (h := H1)
  have l2 := sx.lists (by omega) (h := H1)
  have told : ∀ (d : D) {M k : Nat}, Sm M k d → M ≤ 100000 → k ≤ 60 → F__law_told [t.D, d] H1 = .ok (.bl true) H1 := fun d M k sm hM hk => law_told_eq ht tkRow_D (vq_tk t H1) sm hM hk
  have t1 := told _ ss (by omega) (by omega)
  have t2 := told _ sx (by omega) (by omega)
  have t3 := told _ ss.tL (by omega) (by omega)
  have t4 := told _ sx.tL (by omega) (by omega)
  have hf := for_same (f := eLst false (aCons (eVar 7) (aCons (eVar 8) (aCons (eCall 1 (F__law_lists 45) (aCons (eVar 7) aNil)) (aCons (eCall 1 (F__law_lists 45) (aCons (eVar 8) aNil)) aNil))))) (g := gVar 9) (b := k_law_5_2) (s := [some (.scr (ns0.map D.int)), some (.loc n), some t.D, some f, none, some (.int c), none, some s.D, some x, none]) (h := H1) (d := .lst [s.D, x, tL s.D, tL x]) (xs := [s.D, x, tL s.D, tL x]) (by simp [l1, l2]) rfl fun y hy => by
    simp only [List.mem_cons, List.not_mem_nil, or_false] at hy
    refine ⟨_, rfl, ?_⟩
    rcases hy with rfl | rfl | rfl | rfl
    · simp [t1]
    · simp [t2]
    · simp [t3]
    · simp [t4]
  have hn := law_no_tasks14 (h := H1) ht
  obtain ⟨e, he, hix⟩ := ix_any (h := H1) (d := .lst (no14 t)) (xs := no14 t) (i := v / 8 % 13) rfl (by omega) (by show v / 8 % 13 < 13; omega)
  have hr := law_no_task14 (no14_no (h := H1) ht e he)
  refine ⟨H1, k1, ?_⟩
  generalize D.lst (no14 t) = NT at *
  simp [e1, hav, e2, hf, hn, hix, hr]
theorem k14_cells {ns0 : List Int} {n : Nat} {t : Tk} {f : D} (ht : t.Ok) : ∀ (cs : List Int) (H : Hs), Dk n H → ∃ H2 : Hs, Dk n H2 ∧
    loopS (gVar 5) k_law_5 (cs.map D.int) [some (.scr (ns0.map D.int)), some (.loc n), some t.D, some f, none, none, none, none, none, none] H = .nx [some (.scr (ns0.map D.int)), some (.loc n), some t.D, some f, none, none, none, none, none, none] H2
  | [], H, K => ⟨H, K, rfl⟩
  | c :: cs, H, K => by
    obtain ⟨H1, k1, e1⟩ := k14_cell (ns0 := ns0) (c := c) (f := f) ht K
    obtain ⟨H2, k2, e2⟩ := k14_cells (ns0 := ns0) (f := f) ht cs H1 k1
    exact ⟨H2, k2, by rw [List.map_cons]; exact (loop_nx (s1 := [some (.scr (ns0.map D.int)), some (.loc n), some t.D, some f, none, some (.int c), none, none, none, none]) rfl e1).trans e2⟩
theorem law_pure : ∀ ns : List Int, ns.length ≤ 63 → ∃ h, F_law [.scr (ns.map D.int)] [] = .ok (.bl true) h := by
  intro ns _
  obtain ⟨dk1, l1, e1⟩ := F_draws_eq (ns := ns) (at_ := 5) (many := 480) (g := []) (by omega) (by omega)
  obtain ⟨dk2, l2, e2⟩ := F_draws_eq (ns := ns) (at_ := 0) (many := 120) (g := [.lst (dk1.map D.int)]) (by omega) (by omega)
  have ha := x_addLv (h := [.lst (dk1.map D.int), .lst (dk2.map D.int)]) (x := .loc 0) (y := .loc 1) (xs := dk1.map D.int) (ys := dk2.map D.int) rfl rfl (by rw [List.length_map, List.length_map]; omega)
  have K : Dk 2 [.lst (dk1.map D.int), .lst (dk2.map D.int), .lst (dk1.map D.int ++ dk2.map D.int)] := ⟨dk1 ++ dk2, by rw [List.map_append]; exact locAt_end (g := [.lst (dk1.map D.int), .lst (dk2.map D.int)]) (t := [])⟩
  have a1 : ((5 : Nat) : Int) = 5 := rfl
  have a2 : ((480 : Nat) : Int) = 480 := rfl
  have a3 : ((0 : Nat) : Int) = 0 := rfl
  have a4 : ((120 : Nat) : Int) = 120 := rfl
  rw [a1, a2] at e1
  rw [a3, a4] at e2
  generalize hSC : D.scr (ns.map D.int) = SC at *
  obtain ⟨t, H1, w1, k1, ht, _, _, e3⟩ := law_task_eq (most := 100000) K (by omega)
  obtain ⟨i0, i1, i2, i3, i4⟩ := ix_tk' t H1
  have hsd : (Sd.mk 0 t.ns [] []).D = .tup [.int 0, iT t.ns, .tup [], .tup []] := rfl
  have ok := first_ok ht
  have ss := Sm.sd ht ok
  have lt : ∀ G : Hs, F__law_lists 45 [t.D] G = .ok t.L G := fun G => lists_tk
  have ls : ∀ G : Hs, F__law_lists 45 [(Sd.mk 0 t.ns [] []).D] G = .ok (tL (Sd.mk 0 t.ns [] []).D) G := fun G => ss.lists (by omega)
  obtain ⟨z, hz, hr⟩ := ss.repr (by omega) (by omega)
  have hez : eqD true (.str z) (.str z) H1 = .ok (.bl false) H1 := eq_strx (n := true) hz
  have f1 := first_stand14 (h := H1) ht (vq_tk t H1)
  have f2 := first_stand14 (h := H1) ht (vq_tkL t H1)
  have t1 := law_told_eq (h := H1) ht tkRow_D (vq_tk t H1) ss (by omega) (by omega)
  have t2 := law_told_eq (h := H1) ht tkRow_L (vq_tkL t H1) ss.tL (by omega) (by omega)
  have hf3 := for_same (f := eLst false (aCons (eVar 2) (aCons (eCall 1 (F__law_lists 45) (aCons (eVar 2) aNil)) aNil))) (g := gVar 4) (b := k_law_3) (s := [some SC, some (.loc 2), some t.D, some (Sd.mk 0 t.ns [] []).D, none, none, none, none, none, none]) (h := H1) (d := .lst [t.D, t.L]) (xs := [t.D, t.L]) (by simp [lt]) rfl fun y hy => by
    simp only [List.mem_cons, List.not_mem_nil, or_false] at hy
    refine ⟨_, rfl, ?_⟩
    rcases hy with rfl | rfl
    · simp [f1, hr, hez]
    · simp [f2, hr, hez]
  have lsH := ls H1
  have ltH := lt H1
  have hcell : ∃ vs : List Int, vs.length = 7 ∧ eComp false [6] (iRng2 (aCons (eC (.int 33)) (aCons (eC (.int 40)) aNil))) (gVar 6) tYesF (eCall 2 F__law_cell (aCons (eVar 0) (aCons (eVar 6) aNil))) [some SC, some (.loc 2), some t.D, some (Sd.mk 0 t.ns [] []).D, none, none, none, none, none, none] H1 = .ok (.lst (vs.map D.int)) H1 := by
    have hcv : ∀ j : Nat, ∃ v : Int, j ≤ 100 → F__law_cell [SC, .int j] H1 = .ok (.int v) H1 := fun j => by
      by_cases hj : j ≤ 100
      · obtain ⟨v, hv⟩ := F_cell_eq (ns := ns) (k := j) (h := H1) (by omega)
        exact ⟨v, fun _ => by rw [← hSC]; exact hv⟩
      · exact ⟨0, fun q => absurd q hj⟩
    obtain ⟨cv, hcw⟩ : ∃ cv : Nat → Int, ∀ j : Nat, j ≤ 100 → F__law_cell [SC, .int j] H1 = .ok (.int (cv j)) H1 := ⟨fun j => (hcv j).choose, fun j hj => (hcv j).choose_spec hj⟩
    clear hcv
    have hit := Itr.rng2 (f := aCons (eC (.int 33)) (aCons (eC (.int 40)) aNil)) (s := [some SC, some (.loc 2), some t.D, some (Sd.mk 0 t.ns [] []).D, none, none, none, none, none, none]) (h := H1) (h1 := H1) (m := 33) (n := 40) rfl (by omega) (by omega) (by omega) (by omega)
    have er : (rgI 33 (40 - 33 : Int).toNat).map D.int = (List.range' 33 7).map fun (j : Nat) => D.int j := rfl
    rw [er] at hit
    refine ⟨(List.range' 33 7).map cv, by simp, ?_⟩
    rw [comp_map (em := fun (j : Nat) => D.int j) (fun j => D.int (cv j)) hit fun j hj => ?_]
    · simp [Function.comp_def]
    · rw [List.mem_range'_1] at hj
      have hq := hcw j (by omega)
      exact ⟨_, rfl, by simp [hq]⟩
  obtain ⟨vs, hvl, hcv⟩ := hcell
  have hsl : slD false SC (some 40) (some 60) H1 = .ok (.lst ((cutG ns (some 40) (some 60)).map D.int)) H1 := by
    rw [← hSC, ← cutG_map]; rfl
  have hadd : addD (.lst (vs.map D.int)) (.lst ((cutG ns (some 40) (some 60)).map D.int)) H1 = .ok (.lst ((vs ++ cutG ns (some 40) (some 60)).map D.int)) H1 := by
    have hl : (cutG ns (some 40) (some 60)).length ≤ 20 := by
      rw [cut_lohi (by omega) (by omega), List.length_take]; omega
    rw [add_lst (by simp; omega), List.map_append]
  obtain ⟨H2, k2, e5⟩ := k14_cells (ns0 := ns) (f := (Sd.mk 0 t.ns [] []).D) ht (vs ++ cutG ns (some 40) (some 60)) H1 k1
  rw [hSC] at e5
  have hf := (for_lst (f := eBin addD (eComp false [6] (iRng2 (aCons (eC (.int 33)) (aCons (eC (.int 40)) aNil))) (gVar 6) tYesF (eCall 2 F__law_cell (aCons (eVar 0) (aCons (eVar 6) aNil)))) (eSl false (eVar 0) (oSome (eC (.int 40))) (oSome (eC (.int 60))))) (g := gVar 5) (b := k_law_5) (s := [some SC, some (.loc 2), some t.D, some (Sd.mk 0 t.ns [] []).D, none, none, none, none, none, none]) (h := H1) (h1 := H1) (xs := (vs ++ cutG ns (some 40) (some 60)).map D.int) (by simp only [x_bin, hcv, R.bind_ok]; simp only [x_sl, x_var]; simp [hsl, hadd])).trans e5
  rw [hsd] at hf3 hf t1 t2 lsH
  generalize hFS : tL (D.tup [.int 0, iT t.ns, .tup [], .tup []]) = FL at *
  generalize hX : k_law_5 = X at *
  generalize D.lst ((vs ++ cutG ns (some 40) (some 60)).map D.int) = CC at *
  refine ⟨[], ?_⟩
  have hb : b_law [some SC, none, none, none, none, none, none, none, none, none] [] = .rt (.bl true) H2 := by
    subst hX
    simp [b_law, e1, e2, ha, e3, i0, hf3, t1, t2, lsH, ltH, hf]
  simp only [F_law, x_run, List.length_cons, List.length_nil]
  simp only [Nat.zero_add, Nat.reduceAdd, if_true, List.map_cons, List.map_nil, Nat.reduceSub, List.replicate, List.cons_append, List.nil_append, hb]
  exact exitT_app (h := []) (d := .bl true) (t := H2) rfl

end WD
namespace WD
open PySem PySem.Spec PyProof.Rows L2
theorem law_sp {K : PySem.W.Frag} (pure : ∀ ns : List Int, ns.length ≤ 63 → ∃ h, F_law [.scr (ns.map D.int)] [] = .ok (.bl true) h) (H : Hp) (a : Addr) (ns : List Int) (hl : ns.length ≤ 63) (hO : Only H) (hS : SqL K H a (ns.map V.int)) : spL K F_law [.ref a] H (fun v _ => v = .bl true) fun _ _ _ => False := by
  obtain ⟨h, e⟩ := pure ns hl
  have key : ∀ g : Hp, Same g H → (∀ b o, g b = some o → SzO o) → SqL K g a (ns.map V.int) → spL K F_law [.ref a] H (fun v _ => v = .bl true) fun _ _ _ => False := fun g hg hz hs => by
    refine ⟨rfl, (g, fun _ => none), [], [.scr (ns.map D.int)], [], ⟨hg, hz, fun _ _ e => (nomatch e), fun _ _ e => (nomatch e), rfl, .nil, fun _ h => (nomatch h), fun n a o e => by simp at e⟩, ⟨.ref a, [], rfl, ⟨a, _, rfl, hs, .of_ints ns⟩, rfl⟩, ?_⟩
    rw [e]
    intro v H' G' ms' _ _ _ i
    exact i
  have one : ∀ u, H a = some u → SzO u → SqL K (fun b => if b = a then some u else none) a (ns.map V.int) → spL K F_law [.ref a] H (fun v _ => v = .bl true) fun _ _ _ => False := fun u hu hz hs => by
    refine key _ (fun b o e => ?_) (fun b o e => ?_) hs
    · split at e
      · rename_i hb; cases e; rw [hb]; exact hu
      · cases e
    · split at e
      · cases e; exact hz
      · cases e
  have len : (ns.map V.int).length ≤ sizeLine := by rw [List.length_map]; exact Nat.le_trans hl (by decide)
  rcases hS with (q | ⟨o, q⟩) | q
  · exact one _ q len (.inl (.inl (if_pos rfl)))
  · exact one _ q len (.inl (.inr ⟨o, if_pos rfl⟩))
  · exact key (fun _ => none) (fun _ _ e => (nomatch e)) (fun _ _ e => (nomatch e)) (.inr q)
end WD
open PySem PySem.W PyProof.Rows
set_option maxHeartbeats 0 in
theorem PySem.Challenge.cw_withindays_k14_stands_told_holds : PySem.Challenge.rw_withindays_k14_stands_told.Holds := by
  w_on; o_law; k_head; (case hw => w_witness2)
  k_fill
  refine WD.walkG (l := PySem.Challenge.rw_withindays_k14_stands_told) (n := 63) (k := 54) (x := "_law_script") (sp := fun w => WD.spL _ WD.F_law) rfl (by decide) rfl ⟨⟨rfl, by decide, by decide⟩, rfl⟩ (fun w h Y => PySem.W.kIn_of Y) ?F (fun _ H a ns hl hO hS => WD.law_sp WD.law_pure H a ns hl hO hS)
  case F =>
    intro w mg fa h KX G hmg
    refine' WD.all_mk KX G hmg ?a0 ?l0 ?c0 ?k0 ?a1 ?l1 ?c1 ?k1 ?a2 ?l2 ?c2 ?k2 ?a3 ?l3 ?c3 ?k3 ?a4 ?l4 ?c4 ?k4 ?a5 ?l5 ?c5 ?k5 ?a6 ?l6 ?c6 ?k6 ?a7 ?l7 ?c7 ?k7 ?a8 ?l8 ?c8 ?k8 ?a9 ?l9 ?c9 ?k9 ?a10 ?l10 ?c10 ?k10 ?a11 ?l11 ?c11 ?k11 ?a12 ?l12 ?c12 ?k12 ?a13 ?l13 ?c13 ?k13 ?a14 ?l14 ?c14 ?k14 ?a15 ?l15 ?c15 ?k15 ?a16 ?l16 ?c16 ?k16 ?a17 ?l17 ?c17 ?k17 ?a18 ?l18 ?c18 ?k18 ?a19 ?l19 ?c19 ?k19 ?a20 ?l20 ?c20 ?k20 ?a21 ?l21 ?c21 ?k21 ?a22 ?l22 ?c22 ?k22 ?a23 ?l23 ?c23 ?k23 ?a24 ?l24 ?c24 ?k24 ?a25 ?l25 ?c25 ?k25 ?a26 ?l26 ?c26 ?k26 ?a27 ?l27 ?c27 ?k27 ?a28 ?l28 ?c28 ?k28 ?a29 ?l29 ?c29 ?k29 ?a30 ?l30 ?c30 ?k30 ?a31 ?l31 ?c31 ?k31 ?a32 ?l32 ?c32 ?k32 ?a33 ?l33 ?c33 ?k33 ?a34 ?l34 ?c34 ?k34 ?a35 ?l35 ?c35 ?k35 ?z_ValueError ?z_abs ?z_bool ?z_int ?z_isinstance ?z_len ?z_list ?z_max ?z_range ?z_repr ?z_set ?z_sorted ?z_sum ?z_tuple ?xa_DaysError ?xa_NoTask ?xq_NoTask ?xk_NoTask ?xb_NoTask ?xt_NoTask ?xa_NoStand ?ehg_NoTask ?ehk_NoTask ?ehs_NoTask ?ehd_NoTask ?eha_NoTask ?ehn_NoTask ?eht_NoTask ?ehm_NoTask ?m_NoTask_NoTask ?k_NoTask_DaysError ?k_NoTask_NoStand ?k_NoTask_ValueError ?cc_GREATEST ?cc_MOST_HANDS ?cc_MOST_OFF ?cc_MOST_THINGS ?cc_PARTS
    (case a0 => k_is); (case l0 => k_is); (case c0 => k_is); (case k0 => k_is); (case a1 => k_is); (case l1 => k_is); (case c1 => k_is); (case k1 => k_is); (case a2 => k_is); (case l2 => k_is); (case c2 => k_is); (case k2 => k_is); (case a3 => k_is); (case l3 => k_is); (case c3 => k_is); (case k3 => k_is); (case a4 => k_is); (case l4 => k_is); (case c4 => k_is); (case k4 => k_is); (case a5 => k_is); (case l5 => k_is); (case c5 => k_is); (case k5 => k_is); (case a6 => k_is); (case l6 => k_is); (case c6 => k_is); (case k6 => k_is); (case a7 => k_is); (case l7 => k_is); (case c7 => k_is); (case k7 => k_is); (case a8 => k_is); (case l8 => k_is); (case c8 => k_is); (case k8 => k_is); (case a9 => k_is); (case l9 => k_is); (case c9 => k_is); (case k9 => k_is); (case a10 => k_is); (case l10 => k_is); (case c10 => k_is); (case k10 => k_is); (case a11 => k_is); (case l11 => k_is); (case c11 => k_is); (case k11 => k_is); (case a12 => k_is); (case l12 => k_is); (case c12 => k_is); (case k12 => k_is); (case a13 => k_is); (case l13 => k_is); (case c13 => k_is); (case k13 => k_is); (case a14 => k_is); (case l14 => k_is); (case c14 => k_is); (case k14 => k_is); (case a15 => k_is); (case l15 => k_is); (case c15 => k_is); (case k15 => k_is); (case a16 => k_is); (case l16 => k_is); (case c16 => k_is); (case k16 => k_is); (case a17 => k_is); (case l17 => k_is); (case c17 => k_is); (case k17 => k_is); (case a18 => k_is); (case l18 => k_is); (case c18 => k_is); (case k18 => k_is); (case a19 => k_is); (case l19 => k_is); (case c19 => k_is); (case k19 => k_is); (case a20 => k_is); (case l20 => k_is); (case c20 => k_is); (case k20 => k_is); (case a21 => k_is); (case l21 => k_is); (case c21 => k_is); (case k21 => k_is); (case a22 => k_is); (case l22 => k_is); (case c22 => k_is); (case k22 => k_is); (case a23 => k_is); (case l23 => k_is); (case c23 => k_is); (case k23 => k_is); (case a24 => k_is); (case l24 => k_is); (case c24 => k_is); (case k24 => k_is); (case a25 => k_is); (case l25 => k_is); (case c25 => k_is); (case k25 => k_is); (case a26 => k_is); (case l26 => k_is); (case c26 => k_is); (case k26 => k_is); (case a27 => k_is); (case l27 => k_is); (case c27 => k_is); (case k27 => k_is); (case a28 => k_is); (case l28 => k_is); (case c28 => k_is); (case k28 => k_is); (case a29 => k_is); (case l29 => k_is); (case c29 => k_is); (case k29 => k_is); (case a30 => k_is); (case l30 => k_is); (case c30 => k_is); (case k30 => k_is); (case a31 => k_is); (case l31 => k_is); (case c31 => k_is); (case k31 => k_is); (case a32 => k_is); (case l32 => k_is); (case c32 => k_is); (case k32 => k_is); (case a33 => k_is); (case l33 => k_is); (case c33 => k_is); (case k33 => k_is); (case a34 => k_is); (case l34 => k_is); (case c34 => k_is); (case k34 => k_is); (case a35 => k_is); (case l35 => k_is); (case c35 => k_is); (case k35 => k_is); (case z_ValueError => k_is); (case z_abs => k_is); (case z_bool => k_is); (case z_int => k_is); (case z_isinstance => k_is); (case z_len => k_is); (case z_list => k_is); (case z_max => k_is); (case z_range => k_is); (case z_repr => k_is); (case z_set => k_is); (case z_sorted => k_is); (case z_sum => k_is); (case z_tuple => k_is); (case xa_DaysError => k_is); (case xa_NoTask => k_is); (case xq_NoTask => k_exc); (case xk_NoTask => k_is); (case xb_NoTask => k_is); (case xt_NoTask => k_is); (case xa_NoStand => k_is); (case ehg_NoTask => k_is); (case ehk_NoTask => k_is); (case ehs_NoTask => k_is); (case ehd_NoTask => k_is); (case eha_NoTask => k_is); (case ehn_NoTask => k_is); (case eht_NoTask => k_is); (case ehm_NoTask => k_is); (case m_NoTask_NoTask => kts_exm); (case k_NoTask_DaysError => kit_is); (case k_NoTask_NoStand => kit_is); (case k_NoTask_ValueError => kit_is); (case cc_GREATEST => k_is); (case cc_MOST_HANDS => k_is); (case cc_MOST_OFF => k_is); (case cc_MOST_THINGS => k_is); (case cc_PARTS => k_is)
