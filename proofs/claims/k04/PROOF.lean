import PyProof.Rows.All
import Wide.All
import OpenK.AllK
import Wide.FinOn
import HandS.ForMost
import HandS.ForExc
import HandS.IsInst
import HandS.ExcIs
import HandS.ExcField
import HandS.Zip
import HandS.TupAny
import HandS.TupMul
import HandS.Wide
import KE.KTupSum
import HandS.Dict
import KE.GoesEnum
import PySem.Challenge.RW_withindays_k04_days_and_rings_told
set_option Elab.async false
set_option linter.all false
set_option autoImplicit false
set_option maxRecDepth 100000
set_option maxHeartbeats 4000000
namespace WD
open PySem PySem.Spec PyProof.Rows L2

inductive D where
  | non | bl (b : Bool) | int (i : Int) | str (x : Str)
  | tup (xs : List D) | lst (xs : List D) | scr (xs : List D) | dic (ks : List Key) (xs : List D) | loc (n : Nat)
/-- a changeable thing -/
inductive O where
  | lst (xs : List D)
abbrev Hs : Type := List O
/-- an error: its class's name, its one field -/
structure Xn where
  name : Str
  val : Option (Str × D) := none

/-- the still part of the heap, and what is kept aside -/
abbrev GG : Type := Hp × Hp
structure GLe (G G' : GG) : Prop where
  le : Same G.1 G'.1
  fr : G'.2 = G.2
theorem GLe.refl (G : GG) : GLe G G := ⟨Same.refl _, rfl⟩
theorem GLe.trans {G G1 G2 : GG} (a : GLe G G1) (b : GLe G1 G2) : GLe G G2 := ⟨a.le.trans b.le, b.fr.trans a.fr⟩
def gupd (G : GG) (p : Addr) (o : HO) : GG := (upd G.1 p o, G.2)
mutual
def Is (K : PySem.W.Frag) (G : GG) (ms : List Addr) : D → V → Prop
  | .non, v => v = .non
  | .bl b, v => v = .bl b
  | .int i, v => v = .int i
  | .str x, v => v = .str x
  | .tup xs, v => ∃ a vs, v = .ref a ∧ G.1 a = some (.tup vs) ∧ IsL K G ms xs vs
  | .lst xs, v => ∃ a vs, v = .ref a ∧ G.1 a = some (.lst vs) ∧ IsL K G ms xs vs
  | .scr xs, v => ∃ a vs, v = .ref a ∧ SqL K G.1 a vs ∧ IsL K G ms xs vs
  | .dic ks xs, v => ∃ a vs, v = .ref a ∧ G.1 a = some (.dK (ks.zip vs)) ∧ ks.length = vs.length ∧ IsL K G ms xs vs
  | .loc n, v => ∃ a, ms[n]? = some a ∧ v = .ref a
def IsL (K : PySem.W.Frag) (G : GG) (ms : List Addr) : List D → List V → Prop
  | [], vs => vs = []
  | x :: xs, vs => ∃ v r, vs = v :: r ∧ Is K G ms x v ∧ IsL K G ms xs r
end
section
variable {K : PySem.W.Frag} {G G' : GG} {H : Hp} {ms ms' : List Addr}
theorem Same.sqT {H H' : Hp} {a : Addr} {xs : List V} (e : Same H H') (h : SqT K H a xs) : SqT K H' a xs := by
  rcases h with (h | ⟨o, h⟩) | h
  · exact .inl (.inl (e _ _ h))
  · exact .inl (.inr ⟨o, e _ _ h⟩)
  · exact .inr h
theorem pre_get {n : Nat} {a : Addr} (p : ms <+: ms') (h : ms[n]? = some a) : ms'[n]? = some a := by
  obtain ⟨t, rfl⟩ := p
  have hl : n < ms.length := by
    rcases Nat.lt_or_ge n ms.length with q | q
    · exact q
    · rw [List.getElem?_eq_none q] at h; cases h
  rw [List.getElem?_append_left hl]; exact h
mutual
theorem Is.mono' (e : Same G.1 G'.1) (p : ms <+: ms') : ∀ (d : D) (v : V), Is K G ms d v → Is K G' ms' d v
  | .non, _, h => h
  | .bl _, _, h => h
  | .int _, _, h => h
  | .str _, _, h => h
  | .tup xs, v, h => by
    obtain ⟨a, vs, h1, h2, h3⟩ := h
    exact ⟨a, vs, h1, e _ _ h2, IsL.mono' e p xs vs h3⟩
  | .lst xs, v, h => by
    obtain ⟨a, vs, h1, h2, h3⟩ := h
    exact ⟨a, vs, h1, e _ _ h2, IsL.mono' e p xs vs h3⟩
  | .scr xs, v, h => by
    obtain ⟨a, vs, h1, h2, h3⟩ := h
    exact ⟨a, vs, h1, e.seq h2, IsL.mono' e p xs vs h3⟩
  | .dic ks xs, v, h => by
    obtain ⟨a, vs, h1, h2, hl, h3⟩ := h
    exact ⟨a, vs, h1, e _ _ h2, hl, IsL.mono' e p xs vs h3⟩
  | .loc n, v, h => by
    obtain ⟨a, h1, h2⟩ := h
    exact ⟨a, pre_get p h1, h2⟩
theorem IsL.mono' (e : Same G.1 G'.1) (p : ms <+: ms') : ∀ (xs : List D) (vs : List V), IsL K G ms xs vs → IsL K G' ms' xs vs
  | [], _, h => h
  | x :: xs, vs, h => by
    obtain ⟨v, r, h1, h2, h3⟩ := h
    exact ⟨v, r, h1, Is.mono' e p x v h2, IsL.mono' e p xs r h3⟩
end
theorem Is.mono (e : GLe G G') (p : ms <+: ms') (d : D) (v : V) (h : Is K G ms d v) : Is K G' ms' d v := Is.mono' e.le p d v h
theorem IsL.mono (e : GLe G G') (p : ms <+: ms') (xs : List D) (vs : List V) (h : IsL K G ms xs vs) : IsL K G' ms' xs vs := IsL.mono' e.le p xs vs h
theorem IsL.length : ∀ {xs : List D} {vs : List V}, IsL K G ms xs vs → xs.length = vs.length
  | [], _, h => by cases h; rfl
  | x :: xs, _, h => by
    obtain ⟨v, r, rfl, _, h3⟩ := h
    simp [IsL.length h3]
theorem IsL.get : ∀ {xs : List D} {vs : List V} {i : Nat} {d : D}, IsL K G ms xs vs → xs[i]? = some d → ∃ v, vs[i]? = some v ∧ Is K G ms d v
  | [], _, _, _, _, e => by simp at e
  | x :: xs, _, 0, d, h, e => by
    obtain ⟨v, r, rfl, h2, h3⟩ := h
    simp at e; subst e
    exact ⟨v, rfl, h2⟩
  | x :: xs, _, i + 1, d, h, e => by
    obtain ⟨v, r, rfl, h2, h3⟩ := h
    obtain ⟨w, q1, q2⟩ := IsL.get (i := i) h3 (by simpa using e)
    exact ⟨w, by simpa using q1, q2⟩
theorem IsL.getV : ∀ {xs : List D} {vs : List V} {i : Nat} {v : V}, IsL K G ms xs vs → vs[i]? = some v → ∃ d, xs[i]? = some d ∧ Is K G ms d v
  | [], _, _, _, h, e => by cases h; simp at e
  | x :: xs, _, 0, v, h, e => by
    obtain ⟨w, r, rfl, h2, h3⟩ := h
    simp at e; subst e
    exact ⟨x, rfl, h2⟩
  | x :: xs, _, i + 1, v, h, e => by
    obtain ⟨w, r, rfl, h2, h3⟩ := h
    obtain ⟨d, q1, q2⟩ := IsL.getV (i := i) h3 (by simpa using e)
    exact ⟨d, by simpa using q1, q2⟩
theorem IsL.append : ∀ {xs ys : List D} {vs ws : List V}, IsL K G ms xs vs → IsL K G ms ys ws → IsL K G ms (xs ++ ys) (vs ++ ws)
  | [], _, _, _, h, q => by cases h; exact q
  | x :: xs, _, _, _, h, q => by
    obtain ⟨v, r, rfl, h2, h3⟩ := h
    exact ⟨v, _, rfl, h2, IsL.append h3 q⟩
theorem IsL.take : ∀ {xs : List D} {vs : List V} (n : Nat), IsL K G ms xs vs → IsL K G ms (xs.take n) (vs.take n)
  | _, _, 0, _ => by simp [IsL]
  | [], _, n + 1, h => by cases h; simp [IsL]
  | x :: xs, _, n + 1, h => by
    obtain ⟨v, r, rfl, h2, h3⟩ := h
    exact ⟨v, _, rfl, h2, IsL.take n h3⟩
theorem IsL.drop : ∀ {xs : List D} {vs : List V} (n : Nat), IsL K G ms xs vs → IsL K G ms (xs.drop n) (vs.drop n)
  | _, _, 0, h => h
  | [], _, n + 1, h => by cases h; simp [IsL]
  | x :: xs, _, n + 1, h => by
    obtain ⟨v, r, rfl, h2, h3⟩ := h
    exact IsL.drop n h3
theorem IsL.one {d : D} {v : V} (h : Is K G ms d v) : IsL K G ms [d] [v] := ⟨v, [], rfl, h, rfl⟩
theorem IsL.rev : ∀ {xs : List D} {vs : List V}, IsL K G ms xs vs → IsL K G ms xs.reverse vs.reverse
  | [], _, h => by cases h; simp [IsL]
  | x :: xs, _, h => by
    obtain ⟨v, r, rfl, h2, h3⟩ := h
    rw [List.reverse_cons, List.reverse_cons]
    exact (IsL.rev h3).append (.one h2)
theorem IsL.set : ∀ {xs : List D} {vs : List V} {d : D} {v : V} (i : Nat), IsL K G ms xs vs → Is K G ms d v → IsL K G ms (xs.set i d) (vs.set i v)
  | [], _, _, _, _, h, _ => by cases h; simp [IsL]
  | x :: xs, _, d, v, 0, h, q => by
    obtain ⟨w, r, rfl, h2, h3⟩ := h
    exact ⟨v, r, rfl, q, h3⟩
  | x :: xs, _, d, v, i + 1, h, q => by
    obtain ⟨w, r, rfl, h2, h3⟩ := h
    exact ⟨w, _, rfl, h2, IsL.set i h3 q⟩
theorem IsL.dropLast {xs : List D} {vs : List V} (h : IsL K G ms xs vs) : IsL K G ms xs.dropLast vs.dropLast := by
  rw [List.dropLast_eq_take, List.dropLast_eq_take, h.length]
  exact h.take _
theorem IsL.rep {xs : List D} {vs : List V} (h : IsL K G ms xs vs) : ∀ k : Nat, IsL K G ms (List.replicate k xs).flatten (List.replicate k vs).flatten
  | 0 => by simp [IsL]
  | k + 1 => by
    rw [List.replicate_succ, List.replicate_succ, List.flatten_cons, List.flatten_cons]
    exact h.append (IsL.rep h k)
theorem IsL.ints : ∀ {ns : List Int} {vs : List V}, IsL K G ms (ns.map D.int) vs → vs = ns.map V.int
  | [], _, h => h
  | n :: ns, _, h => by
    obtain ⟨v, r, rfl, h2, h3⟩ := h
    rw [IsL.ints h3]; cases h2; rfl
theorem IsL.of_ints : ∀ (ns : List Int), IsL K G ms (ns.map D.int) (ns.map V.int)
  | [] => rfl
  | n :: ns => ⟨_, _, rfl, rfl, IsL.of_ints ns⟩
theorem IsL.bls : ∀ {ns : List Bool} {vs : List V}, IsL K G ms (ns.map D.bl) vs → vs = ns.map V.bl
  | [], _, h => h
  | n :: ns, _, h => by
    obtain ⟨v, r, rfl, h2, h3⟩ := h
    rw [IsL.bls h3]; cases h2; rfl
end

def ObjIs (K : PySem.W.Frag) (G : GG) (ms : List Addr) (H : Hp) (a : Addr) : O → Prop
  | .lst xs => ∃ vs, H a = some (.lst vs) ∧ IsL K G ms xs vs ∧ xs.length ≤ sizeLine
def SzO : HO → Prop
  | .lst vs => vs.length ≤ sizeLine
  | .tup vs => vs.length ≤ sizeLine
  | .frz _ u => SzO u
  | _ => True
structure Hh (K : PySem.W.Frag) (G : GG) (ms : List Addr) (h : Hs) (H : Hp) : Prop where
  sub : Same G.1 H
  gsz : ∀ a o, G.1 a = some o → SzO o
  frm : Same G.2 H
  frd : ∀ a o, G.2 a = some o → G.1 a = none ∧ a ∉ ms
  len : ms.length = h.length
  nd : ms.Nodup
  dis : ∀ a ∈ ms, G.1 a = none
  obj : ∀ (n : Nat) (a : Addr) (o : O), ms[n]? = some a → h[n]? = some o → ObjIs K G ms H a o
section
variable {K : PySem.W.Frag} {G G' : GG} {H H' : Hp} {ms ms' : List Addr} {h h' : Hs}
theorem Hh.at (x : Hh K G ms h H) {n : Nat} {xs : List D} (e : h[n]? = some (.lst xs)) : ∃ a vs, ms[n]? = some a ∧ H a = some (.lst vs) ∧ IsL K G ms xs vs := by
  have hl : n < h.length := by
    rcases Nat.lt_or_ge n h.length with q | q
    · exact q
    · rw [List.getElem?_eq_none q] at e; cases e
  have hm : n < ms.length := by rw [x.len]; exact hl
  obtain ⟨vs, h1, h2, _⟩ := x.obj n ms[n] _ (List.getElem?_eq_getElem hm) e
  exact ⟨ms[n], vs, List.getElem?_eq_getElem hm, h1, h2⟩
theorem Hh.atz (x : Hh K G ms h H) {n : Nat} {xs : List D} (e : h[n]? = some (.lst xs)) : xs.length ≤ sizeLine := by
  have hl : n < h.length := by
    rcases Nat.lt_or_ge n h.length with q | q
    · exact q
    · rw [List.getElem?_eq_none q] at e; cases e
  have hm : n < ms.length := by rw [x.len]; exact hl
  obtain ⟨vs, h1, h2, h3⟩ := x.obj n ms[n] _ (List.getElem?_eq_getElem hm) e
  exact h3
theorem Hh.some_at (x : Hh K G ms h H) {n : Nat} {a : Addr} (e : ms[n]? = some a) : ∃ vs, H a = some (.lst vs) := by
  have hm : n < ms.length := by
    rcases Nat.lt_or_ge n ms.length with q | q
    · exact q
    · rw [List.getElem?_eq_none q] at e; cases e
  have hl : n < h.length := by rw [← x.len]; exact hm
  have q := x.obj n a h[n] e (List.getElem?_eq_getElem hl)
  cases ho : h[n] with
  | lst xs => rw [ho] at q; obtain ⟨vs, q1, _, _⟩ := q; exact ⟨vs, q1⟩
theorem Hh.ne (x : Hh K G ms h H) {a p : Addr} (ha : a ∈ ms) (hp : H p = none) : a ≠ p := by
  obtain ⟨n, hn⟩ := List.getElem?_of_mem ha
  obtain ⟨vs, q⟩ := x.some_at hn
  exact ne_of_none q hp
theorem ObjIs.mono' {o : O} {a : Addr} (e : Same G.1 G'.1) (p : ms <+: ms') (q : ObjIs K G ms H a o) (hh : H' a = H a) : ObjIs K G' ms' H' a o := by
  cases o with
  | lst xs =>
    obtain ⟨vs, h1, h2, h3⟩ := q
    exact ⟨vs, by rw [hh]; exact h1, IsL.mono' e p _ _ h2, h3⟩
theorem ObjIs.mono {o : O} {a : Addr} (e : GLe G G') (p : ms <+: ms') (q : ObjIs K G ms H a o) (hh : H' a = H a) : ObjIs K G' ms' H' a o := q.mono' e.le p hh
theorem same_upd {H : Hp} {p : Addr} {o : HO} (h : H p = none) : Same H (upd H p o) := fun b x e => by
  rw [upd_ne (ne_of_none e h)]
  exact e
theorem Hh.gnone (x : Hh K G ms h H) {p : Addr} (hp : H p = none) : G.1 p = none := x.sub.free hp
theorem Hh.fnone (x : Hh K G ms h H) {p : Addr} (hp : H p = none) : G.2 p = none := x.frm.free hp
theorem gle_upd {p : Addr} {o : HO} (h : G.1 p = none) : GLe G (gupd G p o) := ⟨same_upd h, rfl⟩
theorem pre_refl (l : List Addr) : l <+: l := ⟨[], by simp⟩
theorem upd_some {H : Hp} {p a : Addr} {o u : HO} (hp : H p = none) (e : H a = some u) : upd H p o a = some u := by
  rw [upd_ne (ne_of_none e hp)]; exact e
/-- a new still object -/
theorem Hh.still (x : Hh K G ms h H) {p : Addr} {o : HO} (hp : H p = none) (hz : SzO o) : Hh K (gupd G p o) ms h (upd H p o) := by
  have eg : GLe G (gupd G p o) := gle_upd (x.gnone hp)
  refine ⟨fun a u e => ?_, fun a u e => ?_, fun a u e => upd_some hp (x.frm a u e), fun a u e => ⟨?_, (x.frd a u e).2⟩, x.len, x.nd, fun a ha => ?_, fun n a u e1 e2 => ?_⟩
  · by_cases hz : a = p
    · subst hz
      have e : upd G.1 a o a = some u := e
      rw [upd_same] at e ⊢; exact e
    · have e : upd G.1 p o a = some u := e
      rw [upd_ne hz] at e ⊢; exact x.sub a u e
  · by_cases hq : a = p
    · subst hq
      have e : upd G.1 a o a = some u := e
      rw [upd_same] at e; cases e; exact hz
    · have e : upd G.1 p o a = some u := e
      rw [upd_ne hq] at e; exact x.gsz a u e
  · show upd G.1 p o a = none
    rw [upd_ne (ne_of_none (x.frm a u e) hp)]; exact (x.frd a u e).1
  · show upd G.1 p o a = none
    rw [upd_ne (x.ne ha hp)]; exact x.dis a ha
  · exact (x.obj n a u e1 e2).mono eg (pre_refl _) (upd_ne (x.ne (List.mem_of_getElem? e1) hp))
/-- a new changeable list -/
theorem Hh.alloc (x : Hh K G ms h H) {p : Addr} {xs : List D} {vs : List V} (hp : H p = none) (hx : IsL K G ms xs vs) (hz : xs.length ≤ sizeLine) : Hh K G (ms ++ [p]) (h ++ [.lst xs]) (upd H p (.lst vs)) := by
  have pp : ms <+: ms ++ [p] := ⟨[p], rfl⟩
  refine ⟨fun a u e => upd_some hp (x.sub a u e), x.gsz, fun a u e => upd_some hp (x.frm a u e), fun a u e => ⟨(x.frd a u e).1, fun hm => ?_⟩, by simp [x.len], ?_, fun a ha => ?_, fun n a u e1 e2 => ?_⟩
  · rcases List.mem_append.mp hm with q | q
    · exact (x.frd a u e).2 q
    · have : a = p := by simpa using q
      exact ne_of_none (x.frm a u e) hp this
  · refine List.nodup_append.mpr ⟨x.nd, by simp, fun a ha b hb => ?_⟩
    have : b = p := by simpa using hb
    subst this
    exact x.ne ha hp
  · rcases List.mem_append.mp ha with q | q
    · exact x.dis a q
    · have : a = p := by simpa using q
      subst this; exact x.gnone hp
  · by_cases hn : n < ms.length
    · rw [List.getElem?_append_left hn] at e1
      rw [List.getElem?_append_left (by rw [← x.len]; exact hn)] at e2
      exact (x.obj n a u e1 e2).mono (GLe.refl _) pp (upd_ne (x.ne (List.mem_of_getElem? e1) hp))
    · have hn' : n = ms.length := by
        have hl : n < (ms ++ [p]).length := by
          rcases Nat.lt_or_ge n (ms ++ [p]).length with q | q
          · exact q
          · rw [List.getElem?_eq_none q] at e1; cases e1
        simp at hl; omega
      subst hn'
      simp at e1
      rw [x.len] at e2
      simp at e2
      subst e1 e2
      exact ⟨vs, upd_same, IsL.mono (GLe.refl _) pp _ _ hx, hz⟩
/-- a list changed -/
theorem Hh.write (x : Hh K G ms h H) {n : Nat} {a : Addr} {xs : List D} {vs : List V} (e : ms[n]? = some a) (hx : IsL K G ms xs vs) (hz : xs.length ≤ sizeLine) : Hh K G ms (h.set n (.lst xs)) (upd H a (.lst vs)) := by
  have ha := List.mem_of_getElem? e
  have hg : G.1 a = none := x.dis a ha
  refine ⟨fun b u q => ?_, x.gsz, fun b u q => ?_, x.frd, by simp [x.len], x.nd, x.dis, fun m b u e1 e2 => ?_⟩
  · rw [upd_ne (fun z => by rw [z, hg] at q; cases q)]; exact x.sub b u q
  · rw [upd_ne (fun z => (x.frd b u q).2 (by rw [z]; exact ha))]; exact x.frm b u q
  · by_cases hm : m = n
    · subst hm
      rw [e] at e1; cases e1
      have hl : m < h.length := by
        rcases Nat.lt_or_ge m ms.length with q | q
        · rw [← x.len]; exact q
        · rw [List.getElem?_eq_none q] at e; cases e
      rw [List.getElem?_set_self hl] at e2
      cases e2
      exact ⟨vs, upd_same, hx, hz⟩
    · rw [List.getElem?_set_ne (Ne.symm hm)] at e2
      have hne : b ≠ a := fun z => hm (nd_ix x.nd e1 (by rw [z]; exact e))
      exact (x.obj m b u e1 e2).mono (GLe.refl _) (pre_refl _) (upd_ne hne)
def fupd (G : GG) (p : Addr) (o : HO) : GG := (G.1, upd G.2 p o)
theorem Hh.frame (x : Hh K G ms h H) {p : Addr} {o : HO} (hp : H p = none) : Hh K (fupd G p o) ms h (upd H p o) := by
  refine ⟨fun a u e => upd_some hp (x.sub a u e), x.gsz, fun a u e => ?_, fun a u e => ?_, x.len, x.nd, x.dis, fun n a u e1 e2 => ?_⟩
  · by_cases hz : a = p
    · subst hz
      have e : upd G.2 a o a = some u := e
      rw [upd_same] at e ⊢; exact e
    · have e : upd G.2 p o a = some u := e
      rw [upd_ne hz] at e ⊢; exact x.frm a u e
  · by_cases hz : a = p
    · subst hz; exact ⟨x.gnone hp, fun hm => x.ne hm hp rfl⟩
    · have e : upd G.2 p o a = some u := e
      rw [upd_ne hz] at e; exact x.frd a u e
  · exact ObjIs.mono' (G := G) (q := x.obj n a u e1 e2) (e := Same.refl G.1) (p := pre_refl _) (hh := upd_ne (x.ne (List.mem_of_getElem? e1) hp))
theorem Hh.reframe (x : Hh K G ms h H) {p : Addr} {o o' : HO} (hp : G.2 p = some o) : Hh K (fupd G p o') ms h (upd H p o') := by
  obtain ⟨g0, m0⟩ := x.frd p o hp
  refine ⟨fun a u e => ?_, x.gsz, fun a u e => ?_, fun a u e => ?_, x.len, x.nd, x.dis, fun n a u e1 e2 => ?_⟩
  · rw [upd_ne (fun z => by have e : G.1 a = some u := e; rw [z, g0] at e; cases e)]; exact x.sub a u e
  · by_cases hz : a = p
    · subst hz
      have e : upd G.2 a o' a = some u := e
      rw [upd_same] at e ⊢; exact e
    · have e : upd G.2 p o' a = some u := e
      rw [upd_ne hz] at e ⊢; exact x.frm a u e
  · by_cases hz : a = p
    · subst hz; exact ⟨g0, m0⟩
    · have e : upd G.2 p o' a = some u := e
      rw [upd_ne hz] at e; exact x.frd a u e
  · exact ObjIs.mono' (G := G) (q := x.obj n a u e1 e2) (e := Same.refl G.1) (p := pre_refl _) (hh := upd_ne fun z => m0 (by rw [← z]; exact List.mem_of_getElem? e1))
/-- what was kept aside becomes still; the rest aside as F -/
theorem Hh.thaw (x : Hh K G ms h H) {p : Addr} {o : HO} {F : Hp} (hp : G.2 p = some o) (hF : ∀ a u, F a = some u → a ≠ p ∧ G.2 a = some u) (hz : SzO o) : Hh K (upd G.1 p o, F) ms h H := by
  obtain ⟨g0, m0⟩ := x.frd p o hp
  refine ⟨fun a u e => ?_, fun a u e => ?_, fun a u e => x.frm a u (hF a u e).2, fun a u e => ⟨?_, (x.frd a u (hF a u e).2).2⟩, x.len, x.nd, fun a ha => ?_, fun n a u e1 e2 => ?_⟩
  · by_cases hz : a = p
    · subst hz
      have e : upd G.1 a o a = some u := e
      rw [upd_same] at e; cases e; exact x.frm a _ hp
    · have e : upd G.1 p o a = some u := e
      rw [upd_ne hz] at e; exact x.sub a u e
  · by_cases hq : a = p
    · subst hq
      have e : upd G.1 a o a = some u := e
      rw [upd_same] at e; cases e; exact hz
    · have e : upd G.1 p o a = some u := e
      rw [upd_ne hq] at e; exact x.gsz a u e
  · show upd G.1 p o a = none
    rw [upd_ne (hF a u e).1]; exact (x.frd a u (hF a u e).2).1
  · show upd G.1 p o a = none
    rw [upd_ne (fun z => m0 (by rw [← z]; exact ha))]; exact x.dis a ha
  · exact (x.obj n a u e1 e2).mono' (same_upd g0) (pre_refl _) rfl
/-- .. becomes changeable -/
theorem Hh.adopt (x : Hh K G ms h H) {p : Addr} {xs : List D} {vs : List V} {F : Hp} (hp : G.2 p = some (.lst vs)) (hF : ∀ a u, F a = some u → a ≠ p ∧ G.2 a = some u) (hx : IsL K G ms xs vs) (hz : xs.length ≤ sizeLine) : Hh K (G.1, F) (ms ++ [p]) (h ++ [.lst xs]) H := by
  obtain ⟨g0, m0⟩ := x.frd p _ hp
  have pp : ms <+: ms ++ [p] := ⟨[p], rfl⟩
  refine ⟨x.sub, x.gsz, fun a u e => x.frm a u (hF a u e).2, fun a u e => ⟨(x.frd a u (hF a u e).2).1, fun hm => ?_⟩, by simp [x.len], ?_, fun a ha => ?_, fun n a u e1 e2 => ?_⟩
  · rcases List.mem_append.mp hm with q | q
    · exact (x.frd a u (hF a u e).2).2 q
    · exact (hF a u e).1 (by simpa using q)
  · refine List.nodup_append.mpr ⟨x.nd, by simp, fun a ha b hb => ?_⟩
    have : b = p := by simpa using hb
    subst this
    exact fun z => m0 (by rw [← z]; exact ha)
  · rcases List.mem_append.mp ha with q | q
    · exact x.dis a q
    · have : a = p := by simpa using q
      subst this; exact g0
  · by_cases hn : n < ms.length
    · rw [List.getElem?_append_left hn] at e1
      rw [List.getElem?_append_left (by rw [← x.len]; exact hn)] at e2
      exact ObjIs.mono' (G := G) (q := x.obj n a u e1 e2) (e := Same.refl G.1) (p := pp) (hh := rfl)
    · have hn' : n = ms.length := by
        have hl : n < (ms ++ [p]).length := by
          rcases Nat.lt_or_ge n (ms ++ [p]).length with q | q
          · exact q
          · rw [List.getElem?_eq_none q] at e1; cases e1
        simp at hl; omega
      subst hn'
      simp at e1
      rw [x.len] at e2
      simp at e2
      subst e1 e2
      exact ⟨vs, x.frm _ _ hp, IsL.mono' (G := G) (G' := (G.1, F)) (Same.refl G.1) pp _ _ hx, hz⟩
end
end WD
namespace WD
open PySem PySem.Spec PyProof.Rows L2

inductive R (α : Type) where
  | ok (a : α) (h : Hs)
  | err (x : Xn) (h : Hs)
  | bad
def R.bind {α β : Type} (r : R α) (k : α → Hs → R β) : R β := match r with
  | .ok a h => k a h
  | .err x h => .err x h
  | .bad => .bad
@[simp] theorem R.bind_ok {α β : Type} (a : α) (h : Hs) (k : α → Hs → R β) : (R.ok a h).bind k = k a h := rfl
@[simp] theorem R.bind_err {α β : Type} (x : Xn) (h : Hs) (k : α → Hs → R β) : (R.err x h).bind k = .err x h := rfl
@[simp] theorem R.bind_bad {α β : Type} (k : α → Hs → R β) : (R.bad : R α).bind k = .bad := rfl
abbrev Ss : Type := List (Option D)
abbrev FE : Type := Ss → Hs → R D
abbrev FA : Type := Ss → Hs → R (List D)
abbrev FT : Type := Ss → Hs → R Bool
inductive RS where
  | nx (s : Ss) (h : Hs)
  | rt (d : D) (h : Hs)
  | bk (s : Ss) (h : Hs)
  | ct (s : Ss) (h : Hs)
  | er (x : Xn) (s : Ss) (h : Hs)
  | bad
abbrev FS : Type := Ss → Hs → RS

def clsV (mg : Str → Option Value) (x : Xn) : Value := (mg x.name).getD .none
/-- the error's own dict -/
def XIs (K : PySem.W.Frag) (G : GG) (ms : List Addr) (H : Hp) (x : Xn) (d : Option Addr) : Prop :=
  match x.val with
  | none => d = none
  | some (f, e) => ∃ a v, d = some a ∧ H a = some (.xd [(f, v)]) ∧ Is K G ms e v
section
variable (X : Cx) (W : WX)
/-- what is wanted behind a step -/
def Post {α β : Type} (K : PySem.W.Frag) (mg : Str → Option Value) (E : XK) (G : GG) (ms : List Addr) (I : GG → List Addr → α → β → Prop) (r : R α) (Q : β → Hp → Prop) : Prop :=
  match r with
  | .ok a h' => ∀ b H' G' ms', GLe G G' → ms <+: ms' → Hh K G' ms' h' H' → I G' ms' a b → Q b H'
  | .err x h' => ∀ H' G' ms' d, GLe G G' → ms <+: ms' → Hh K G' ms' h' H' → XIs K G' ms' H' x d → E (clsV mg x) d H'
  | .bad => False
/-- the slots -/
structure Sl (K : PySem.W.Frag) (G : GG) (ms : List Addr) (pin : List (Nat × V)) (s : Ss) (σ : L2.St) : Prop where
  len : s.length = σ.length
  get : ∀ (i : Nat) (d : D), s[i]? = some (some d) → ∃ v, σ[i]? = some (some v) ∧ Is K G ms d v
  pin : ∀ p ∈ pin, σ[p.1]? = some (some p.2)
def rdE (pin : List (Nat × V)) (f : FE) : TE := fun σ H Q => ∃ G ms s h, Hh X.K G ms h H ∧ Sl X.K G ms pin s σ ∧ Post X.K X.mg (fun c d H => W c d σ H) G ms (Is X.K) (f s h) Q
def rdA (pin : List (Nat × V)) (f : FA) : TA := fun σ H Q => ∃ G ms s h, Hh X.K G ms h H ∧ Sl X.K G ms pin s σ ∧ Post X.K X.mg (fun c d H => W c d σ H) G ms (IsL X.K) (f s h) Q
def rdT (pin : List (Nat × V)) (f : FT) : TT := fun σ H Q => ∃ G ms s h, Hh X.K G ms h H ∧ Sl X.K G ms pin s σ ∧ Post X.K X.mg (fun c d H => W c d σ H) G ms (fun _ _ (a b : Bool) => a = b) (f s h) Q
def PostS (K : PySem.W.Frag) (mg : Str → Option Value) (pin : List (Nat × V)) (σ : L2.St) (G : GG) (ms : List Addr) (r : RS) (D : Ends) : Prop :=
  match r with
  | .nx s' h' => ∀ σ' H' G' ms', GLe G G' → ms <+: ms' → Hh K G' ms' h' H' → Sl K G' ms' pin s' σ' → D.nx σ' H'
  | .rt d h' => ∀ v H' G' ms', GLe G G' → ms <+: ms' → Hh K G' ms' h' H' → Is K G' ms' d v → D.rt v H'
  | .bk s' h' => ∀ σ' H' G' ms', GLe G G' → ms <+: ms' → Hh K G' ms' h' H' → Sl K G' ms' pin s' σ' → D.bk σ' H'
  | .ct s' h' => ∀ σ' H' G' ms', GLe G G' → ms <+: ms' → Hh K G' ms' h' H' → Sl K G' ms' pin s' σ' → D.ct σ' H'
  | .er x s' h' => ∀ σ' H' G' ms' d, GLe G G' → ms <+: ms' → Hh K G' ms' h' H' → Sl K G' ms' pin s' σ' → XIs K G' ms' H' x d → W (clsV mg x) d σ' H'
  | .bad => False
def rdS (pin : List (Nat × V)) (f : FS) : TS := fun D σ H => ∃ G ms s h, Hh X.K G ms h H ∧ Sl X.K G ms pin s σ ∧ PostS W X.K X.mg pin σ G ms (f s h) D
end
/-- the judgements -/
abbrev VE (X : Cx) (W : WX) (pin : List (Nat × V)) (e : Expr) (f : FE) : Prop := PE X e (rdE X W pin f)
abbrev VT (X : Cx) (W : WX) (pin : List (Nat × V)) (e : Expr) (f : FT) : Prop := PT X e (rdT X W pin f)
abbrev VW (X : Cx) (W : WX) (pin : List (Nat × V)) (e : Expr) (f : FT) : Prop := PW X e (rdT X W pin f)
abbrev VA (X : Cx) (W : WX) (pin : List (Nat × V)) (es : List Expr) (f : FA) : Prop := PA X es (rdA X W pin f)
abbrev VS (X : Cx) (W : WX) (pin : List (Nat × V)) (st : Stmt) (f : FS) : Prop := PS X st (rdS X W pin f)
abbrev VSs (X : Cx) (W : WX) (pin : List (Nat × V)) (st : List Stmt) (f : FS) : Prop := PSs X st (rdS X W pin f)
/-- weaker readings -/
theorem pe_imp {X : Cx} {e : Expr} {t t' : TE} (h : PE X e t) (q : ∀ σ H Q, t' σ H Q → t σ H Q) : PE X e t' := ⟨fun pins s σ H Q I w => h.run pins s σ H Q I (q _ _ _ w)⟩
theorem pt_imp {X : Cx} {e : Expr} {t t' : TT} (h : PT X e t) (q : ∀ σ H Q, t' σ H Q → t σ H Q) : PT X e t' := ⟨fun pins s σ H Q I w => h.run pins s σ H Q I (q _ _ _ w)⟩
theorem pw_imp {X : Cx} {e : Expr} {t t' : TT} (h : PW X e t) (q : ∀ σ H Q, t' σ H Q → t σ H Q) : PW X e t' := ⟨fun wh pins s σ H Q I w => h.run wh pins s σ H Q I (q _ _ _ w)⟩
theorem pa_imp {X : Cx} {e : List Expr} {t t' : TA} (h : PA X e t) (q : ∀ σ H Q, t' σ H Q → t σ H Q) : PA X e t' := ⟨fun pos pins s σ H Q I w => h.run pos pins s σ H Q I (q _ _ _ w)⟩
theorem ps_imp {X : Cx} {e : Stmt} {t t' : TS} (h : PS X e t) (q : ∀ D σ H, t' D σ H → t D σ H) : PS X e t' := ⟨fun pins s σ H D I w => h.run pins s σ H D I (q _ _ _ w)⟩
theorem pss_imp {X : Cx} {e : List Stmt} {t t' : TS} (h : PSs X e t) (q : ∀ D σ H, t' D σ H → t D σ H) : PSs X e t' := ⟨fun pins s σ H D I w => h.run pins s σ H D I (q _ _ _ w)⟩

section
variable {X : Cx} {W : WX} {pin : List (Nat × V)} {K : PySem.W.Frag} {mg : Str → Option Value} {E : XK} {G G' : GG} {ms ms' : List Addr}
theorem Sl.mono {s : Ss} {σ : L2.St} (x : Sl K G ms pin s σ) (e : GLe G G') (p : ms <+: ms') : Sl K G' ms' pin s σ :=
  ⟨x.len, fun i d q => by obtain ⟨v, h1, h2⟩ := x.get i d q; exact ⟨v, h1, Is.mono e p d v h2⟩, x.pin⟩
theorem pre_trans {a b c : List Addr} (h : a <+: b) (q : b <+: c) : a <+: c := List.IsPrefix.trans h q
theorem Post.mono {α β : Type} {I : GG → List Addr → α → β → Prop} {r : R α} {Q : β → Hp → Prop} (x : Post K mg E G ms I r Q) (e : GLe G G') (p : ms <+: ms') : Post K mg E G' ms' I r Q := by
  cases r with
  | ok a h' => exact fun b H' G2 ms2 h1 h2 => x b H' G2 ms2 (e.trans h1) (pre_trans p h2)
  | err y h' => exact fun H' G2 ms2 d h1 h2 => x H' G2 ms2 d (e.trans h1) (pre_trans p h2)
  | bad => exact x
theorem Post.imp {α β : Type} {I : GG → List Addr → α → β → Prop} {r : R α} {Q Q' : β → Hp → Prop} (x : Post K mg E G ms I r Q) (f : ∀ b H, Q b H → Q' b H) : Post K mg E G ms I r Q' := by
  cases r with
  | ok a h' => exact fun b H' G2 ms2 h1 h2 h3 h4 => f _ _ (x b H' G2 ms2 h1 h2 h3 h4)
  | err y h' => exact x
  | bad => exact x
/-- one step, then another: the second starts where the first has come to -/
theorem Post.bind {α β γ δ : Type} {I : GG → List Addr → α → γ → Prop} {J : GG → List Addr → β → δ → Prop} {r : R α} {k : α → Hs → R β} {Q : δ → Hp → Prop} {Q' : γ → Hp → Prop}
    (x : Post K mg E G ms J (r.bind k) Q)
    (f : ∀ a h1 b H1 G1 ms1, GLe G G1 → ms <+: ms1 → Hh K G1 ms1 h1 H1 → I G1 ms1 a b → Post K mg E G1 ms1 J (k a h1) Q → Q' b H1) : Post K mg E G ms I r Q' := by
  cases r with
  | ok a h' => exact fun b H' G2 ms2 h1 h2 h3 h4 => f a h' b H' G2 ms2 h1 h2 h3 h4 (Post.mono (r := k a h') x h1 h2)
  | err y h' => exact x
  | bad => exact x
theorem Post.fin {α β : Type} {I : GG → List Addr → α → β → Prop} {a : α} {b : β} {h : Hs} {H : Hp} {Q : β → Hp → Prop} (x : Post K mg E G ms I (.ok a h) Q) (hh : Hh K G ms h H) (q : I G ms a b) : Q b H :=
  x b H G ms (GLe.refl _) (pre_refl _) hh q
theorem Post.fin2 {α β : Type} {I : GG → List Addr → α → β → Prop} {a : α} {b : β} {h : Hs} {H : Hp} {Q : β → Hp → Prop} (x : Post K mg E G ms I (.ok a h) Q) (e : GLe G G') (p : ms <+: ms') (hh : Hh K G' ms' h H) (q : I G' ms' a b) : Q b H :=
  x b H G' ms' e p hh q

def eVar (i : Nat) : FE := fun s h => match s[i]? with
  | some (some d) => .ok d h
  | _ => .bad
theorem ve_var (i : Nat) {x : Str} {pos : Pos} (hN : X.N[i]? = some x := by rfl) (hv : Vis X.env.scope x := by first | exact Or.inl rfl | exact Or.inr (Or.inl rfl) | exact Or.inr (Or.inr rfl)) (hd : (x == ("__debug__" : Str)) = false := by decide)
    (hcd : (x == ("__classdict__" : Str)) = false := by decide) : VE X W pin (.Name x pos) (eVar i) := by
  refine pe_imp (pe_var hN hv hd hcd) fun σ H Q ⟨G, ms, s, h, hh, sl, q⟩ => ?_
  unfold eVar at q
  split at q
  · rename_i d e
    obtain ⟨v, e1, e2⟩ := sl.get i d e
    exact ⟨v, e1, q.fin hh e2⟩
  · exact q.elim
def eC (d : D) : FE := fun _ h => .ok d h
theorem ve_int {i : Int} {j : Nat} {pos : Pos} : VE X W pin (.Constant (.int i) j pos) (eC (.int i)) := pe_imp pe_int fun σ H Q ⟨G, ms, s, h, hh, sl, q⟩ => Post.fin (b := V.int i) q hh rfl
theorem ve_bl {i : Bool} {j : Nat} {pos : Pos} : VE X W pin (.Constant (.bool i) j pos) (eC (.bl i)) := pe_imp pe_bl fun σ H Q ⟨G, ms, s, h, hh, sl, q⟩ => Post.fin (b := V.bl i) q hh rfl
theorem ve_str {i : Str} {j : Nat} {pos : Pos} : VE X W pin (.Constant (.str i) j pos) (eC (.str i)) := pe_imp pe_str fun σ H Q ⟨G, ms, s, h, hh, sl, q⟩ => Post.fin (b := V.str i) q hh rfl
theorem ve_non {j : Nat} {pos : Pos} : VE X W pin (.Constant .none j pos) (eC .non) := pe_imp pe_non fun σ H Q ⟨G, ms, s, h, hh, sl, q⟩ => Post.fin (b := V.non) q hh rfl
/-- a constant of the module, an int -/
theorem ve_globI {x : Str} {i : Int} {t : Tok} {pos : Pos} (hg : Gl X x) (hm : X.mg x = some (.int i t)) (hd : (x == ("__debug__" : Str)) = false := by decide) : VE X W pin (.Name x pos) (eC (.int i)) :=
  pe_imp (pe_glob (v := .int i) hg hm ⟨t, rfl⟩ hd) fun σ H Q ⟨G, ms, s, h, hh, sl, q⟩ => Post.fin (b := V.int i) q hh rfl

def aNil : FA := fun _ h => .ok [] h
def aCons (f : FE) (r : FA) : FA := fun s h => (f s h).bind fun d h1 => (r s h1).bind fun ds h2 => .ok (d :: ds) h2
theorem va_nil : VA X W pin [] aNil := pa_imp pa_nil fun σ H Q ⟨G, ms, s, h, hh, sl, q⟩ => Post.fin (b := ([] : List V)) q hh rfl
theorem va_cons {e : Expr} {es : List Expr} {f : FE} {r : FA} (h1 : VE X W pin e f) (h2 : VA X W pin es r) (hs : starEach (e :: es) X.env = (false, eval e X.env) :: starEach es X.env := by rfl) : VA X W pin (e :: es) (aCons f r) := by
  refine pa_imp (pa_cons h1 h2 hs) fun σ H Q ⟨G, ms, s, h, hh, sl, q⟩ => ?_
  refine ⟨G, ms, s, h, hh, sl, q.bind fun d h1 v H1 G1 ms1 e1 p1 hh1 i1 q1 => ?_⟩
  refine ⟨G1, ms1, s, h1, hh1, sl.mono e1 p1, q1.bind fun ds h2 vs H2 G2 ms2 e2 p2 hh2 i2 q2 => ?_⟩
  exact q2.fin hh2 ⟨v, vs, rfl, Is.mono e2 p2 _ _ i1, i2⟩

def rd2 (K : PySem.W.Frag) (g : D → D → Hs → R D) : R2 := fun x y H Q => ∃ G ms h a b, Hh K G ms h H ∧ Is K G ms a x ∧ Is K G ms b y ∧ Post K (fun _ => none) (fun _ _ _ => False) G ms (Is K) (g a b h) Q
def OpD (X : Cx) (f : Value → Value → Sem Value) (g : D → D → Hs → R D) : Prop := OpR X f (rd2 X.K g)
/-- an operation gives no error -/
def calm2 (g : D → D → Hs → R D) : D → D → Hs → R D := fun a b h => match g a b h with
  | .ok d h' => .ok d h'
  | _ => .bad
def eBin (g : D → D → Hs → R D) (fa fb : FE) : FE := fun s h => (fa s h).bind fun a h1 => (fb s h1).bind fun b h2 => calm2 g a b h2
theorem calm_post {g : D → D → Hs → R D} {a b : D} {h : Hs} {Q : VK} (q : Post K mg E G ms (Is K) (calm2 g a b h) Q) : Post K (fun _ => none) (fun _ _ _ => False) G ms (Is K) (g a b h) Q := by
  unfold calm2 at q
  cases e : g a b h with
  | ok d h' => rw [e] at q; exact q
  | err x h' => rw [e] at q; exact q.elim
  | bad => rw [e] at q; exact q.elim
theorem op_read {g : D → D → Hs → R D} {fa fb : FE} {σ : L2.St} {H : Hp} {Q : VK} (h : rdE X W pin (eBin g fa fb) σ H Q) : tOp (rd2 X.K g) (rdE X W pin fa) (rdE X W pin fb) σ H Q := by
  obtain ⟨G, ms, s, h, hh, sl, q⟩ := h
  refine ⟨G, ms, s, h, hh, sl, q.bind fun a h1 x H1 G1 ms1 e1 p1 hh1 i1 q1 => ?_⟩
  refine ⟨G1, ms1, s, h1, hh1, sl.mono e1 p1, q1.bind fun b h2 y H2 G2 ms2 e2 p2 hh2 i2 q2 => ?_⟩
  exact ⟨G2, ms2, h2, a, b, hh2, Is.mono e2 p2 _ _ i1, i2, calm_post q2⟩
theorem ve_bin {op : Operator} {g : D → D → Hs → R D} {a b : Expr} {fa fb : FE} {pos : Pos} (ho : OpD X (binaryOp op) g) (ha : VE X W pin a fa) (hb : VE X W pin b fb) : VE X W pin (.BinOp a op b pos) (eBin g fa fb) :=
  pe_imp (pe_op ho ha hb) fun _ _ _ h => op_read h
theorem ve_cmp {op : CmpOp} {g : D → D → Hs → R D} {a b : Expr} {fa fb : FE} {pos : Pos} (ho : OpD X (compareOp op) g) (ha : VE X W pin a fa) (hb : VE X W pin b fb) (hm : behindInMarks op b = false := by first | exact nomark _ | rfl) : VE X W pin (.Compare a [op] [b] pos) (eBin g fa fb) :=
  pe_imp (pe_cmpR ho ha hb hm) fun _ _ _ h => op_read h
/-- a truth -/
def truth (r : R D) : R Bool := r.bind fun d h => match d with
  | .bl b => .ok b h
  | _ => .bad
def tV (f : FE) : FT := fun s h => truth (f s h)
theorem test_read {f : FE} {σ : L2.St} {H : Hp} {Q : Bool → Hp → Prop} (h : rdT X W pin (tV f) σ H Q) : rdE X W pin f σ H fun x H' => ∃ k, x = .bl k ∧ Q k H' := by
  obtain ⟨G, ms, s, h, hh, sl, q⟩ := h
  refine ⟨G, ms, s, h, hh, sl, Post.bind q fun a h1 x H1 G1 ms1 e1 p1 hh1 i1 q1 => ?_⟩
  cases a with
  | bl b => cases i1; exact ⟨b, rfl, q1.fin hh1 rfl⟩
  | _ => exact q1.elim
theorem vt_val {e : Expr} {f : FE} (h : VE X W pin e f) (he : ∀ whole, isTrue e X.env whole = (do let v ← whole; standAt e.pos; holding [v] (truthy v)) := by intro _; rfl) : VT X W pin e (tV f) :=
  pt_imp (pt_val h he) fun _ _ _ h => test_read h
theorem vt_cmp {op : CmpOp} {g : D → D → Hs → R D} {a b : Expr} {fa fb : FE} {pos : Pos} (ho : OpD X (compareOp op) g) (ha : VE X W pin a fa) (hb : VE X W pin b fb) (hm : behindInMarks op b = false := by first | exact nomark _ | rfl) : VT X W pin (.Compare a [op] [b] pos) (tV (eBin g fa fb)) := by
  refine pt_imp (pt_cmpR ho ha hb hm) fun σ H Q h => ?_
  exact op_read (test_read h)
end
end WD
namespace WD
open PySem PySem.Spec PyProof.Rows L2
section
variable {X : Cx} {W : WX} {pin : List (Nat × V)} {K : PySem.W.Frag} {mg : Str → Option Value} {E : XK} {G G' : GG} {ms ms' : List Addr} {pos : Pos} {a b c : Expr} {rest : List Expr}
def tNotF (f : FT) : FT := fun s h => (f s h).bind fun b h1 => .ok (!b) h1
def tAndF (f g : FT) : FT := fun s h => (f s h).bind fun b h1 => if b = true then g s h1 else .ok false h1
def tOrF (f g : FT) : FT := fun s h => (f s h).bind fun b h1 => if b = true then .ok true h1 else g s h1
theorem vt_not {f : FT} (h : VT X W pin a f) : VT X W pin (.UnaryOp .Not a pos) (tNotF f) := by
  refine pt_imp (pt_not h) fun σ H Q ⟨G, ms, s, h, hh, sl, q⟩ => ?_
  exact ⟨G, ms, s, h, hh, sl, Post.bind q fun d h1 x H1 G1 ms1 e1 p1 hh1 i1 q1 => q1.fin hh1 (by rw [i1])⟩
theorem vw_and1 {f : FT} (h : VT X W pin a f) : VW X W pin (.BoolOp .And [a] pos) f := pw_and1 h
theorem vw_or1 {f : FT} (h : VT X W pin a f) : VW X W pin (.BoolOp .Or [a] pos) f := pw_or1 h
theorem vw_and {f g : FT} (ha : VT X W pin a f) (hb : VW X W pin (.BoolOp .And (b :: rest) pos) g) : VW X W pin (.BoolOp .And (a :: b :: rest) pos) (tAndF f g) := by
  refine pw_imp (pw_and ha hb) fun σ H Q ⟨G, ms, s, h, hh, sl, q⟩ => ?_
  refine ⟨G, ms, s, h, hh, sl, Post.bind q fun d h1 x H1 G1 ms1 e1 p1 hh1 i1 q1 => ?_⟩
  subst i1
  cases d with
  | true => exact ⟨G1, ms1, s, h1, hh1, sl.mono e1 p1, q1⟩
  | false => exact q1.fin hh1 rfl
theorem vw_or {f g : FT} (ha : VT X W pin a f) (hb : VW X W pin (.BoolOp .Or (b :: rest) pos) g) : VW X W pin (.BoolOp .Or (a :: b :: rest) pos) (tOrF f g) := by
  refine pw_imp (pw_or ha hb) fun σ H Q ⟨G, ms, s, h, hh, sl, q⟩ => ?_
  refine ⟨G, ms, s, h, hh, sl, Post.bind q fun d h1 x H1 G1 ms1 e1 p1 hh1 i1 q1 => ?_⟩
  subst i1
  cases d with
  | false => exact ⟨G1, ms1, s, h1, hh1, sl.mono e1 p1, q1⟩
  | true => exact q1.fin hh1 rfl
theorem vt_w {e : Expr} {f : FT} (h : VW X W pin e f) : VT X W pin e f := PW.pt h
/-- .. as values -/
def eAndF (fa fb : FE) : FE := fun s h => (truth (fa s h)).bind fun k h1 => if k = true then fb s h1 else .ok (.bl false) h1
def eOrF (fa fb : FE) : FE := fun s h => (truth (fa s h)).bind fun k h1 => if k = true then .ok (.bl true) h1 else fb s h1
def eNotF (fa : FE) : FE := fun s h => (truth (fa s h)).bind fun k h1 => .ok (.bl (!k)) h1
def eIfF (t : FT) (fa fb : FE) : FE := fun s h => (t s h).bind fun k h1 => if k = true then fa s h1 else fb s h1
theorem Post.truth {r : R D} {β : Type} {γ : Type} {J : GG → List Addr → γ → β → Prop} {k : Bool → Hs → R γ} {Q : β → Hp → Prop} {Q' : VK} (x : Post K mg E G ms J ((truth r).bind k) Q)
    (f : ∀ c h1 H1 G1 ms1, GLe G G1 → ms <+: ms1 → Hh K G1 ms1 h1 H1 → Post K mg E G1 ms1 J (k c h1) Q → Q' (.bl c) H1) : Post K mg E G ms (Is K) r Q' := by
  cases r with
  | ok d h1 =>
    cases d with
    | bl c =>
      intro v H1 G1 ms1 e1 p1 hh1 i1
      cases i1
      exact f c h1 H1 G1 ms1 e1 p1 hh1 (Post.mono (r := k c h1) x e1 p1)
    | _ => exact x.elim
  | err y h1 => exact x
  | bad => exact x
theorem ve_one {op : BoolOp} {f : FE} (h : VE X W pin a f) : VE X W pin (.BoolOp op [a] pos) f := pe_one h
theorem ve_and {fa fb : FE} (ha : VE X W pin a fa) (hb : VE X W pin (.BoolOp .And (b :: rest) pos) fb) : VE X W pin (.BoolOp .And (a :: b :: rest) pos) (eAndF fa fb) := by
  refine pe_imp (pe_and ha hb) fun σ H Q ⟨G, ms, s, h, hh, sl, q⟩ => ?_
  refine ⟨G, ms, s, h, hh, sl, Post.truth q fun c h1 H1 G1 ms1 e1 p1 hh1 q1 => ⟨c, rfl, ?_⟩⟩
  cases c with
  | true => exact ⟨G1, ms1, s, h1, hh1, sl.mono e1 p1, q1⟩
  | false => exact q1.fin hh1 rfl
theorem ve_or {fa fb : FE} (ha : VE X W pin a fa) (hb : VE X W pin (.BoolOp .Or (b :: rest) pos) fb) : VE X W pin (.BoolOp .Or (a :: b :: rest) pos) (eOrF fa fb) := by
  refine pe_imp (pe_or ha hb) fun σ H Q ⟨G, ms, s, h, hh, sl, q⟩ => ?_
  refine ⟨G, ms, s, h, hh, sl, Post.truth q fun c h1 H1 G1 ms1 e1 p1 hh1 q1 => ⟨c, rfl, ?_⟩⟩
  cases c with
  | false => exact ⟨G1, ms1, s, h1, hh1, sl.mono e1 p1, q1⟩
  | true => exact q1.fin hh1 rfl
theorem ve_not {fa : FE} (ha : VE X W pin a fa) : VE X W pin (.UnaryOp .Not a pos) (eNotF fa) := by
  refine pe_imp (pe_not ha) fun σ H Q ⟨G, ms, s, h, hh, sl, q⟩ => ?_
  exact ⟨G, ms, s, h, hh, sl, Post.truth q fun c h1 H1 G1 ms1 e1 p1 hh1 q1 => ⟨c, rfl, q1.fin hh1 rfl⟩⟩
theorem ve_if {t : FT} {fa fb : FE} (hc : VT X W pin c t) (ha : VE X W pin a fa) (hb : VE X W pin b fb) : VE X W pin (.IfExp c a b pos) (eIfF t fa fb) := by
  refine pe_imp (pe_ifExp hc ha hb) fun σ H Q ⟨G, ms, s, h, hh, sl, q⟩ => ?_
  refine ⟨G, ms, s, h, hh, sl, Post.bind q fun d h1 x H1 G1 ms1 e1 p1 hh1 i1 q1 => ?_⟩
  subst i1
  cases d with
  | true => exact ⟨G1, ms1, s, h1, hh1, sl.mono e1 p1, q1⟩
  | false => exact ⟨G1, ms1, s, h1, hh1, sl.mono e1 p1, q1⟩
/-- a < b < c -/
def eChain (g g' : D → D → Hs → R D) (fa fb fc : FE) : FE := fun s h => (fa s h).bind fun x h1 => (fb s h1).bind fun y h2 => (truth (calm2 g x y h2)).bind fun k h3 => if k = true then (fc s h3).bind fun z h4 => calm2 g' y z h4 else .ok (.bl false) h3
theorem chain_read {g g' : D → D → Hs → R D} {fa fb fc : FE} {σ : L2.St} {H : Hp} {Q : VK} (h : rdE X W pin (eChain g g' fa fb fc) σ H Q) : tChain (rd2 X.K g) (rd2 X.K g') (rdE X W pin fa) (rdE X W pin fb) (rdE X W pin fc) σ H Q := by
  obtain ⟨G, ms, s, h, hh, sl, q⟩ := h
  refine ⟨G, ms, s, h, hh, sl, Post.bind q fun x h1 xv H1 G1 ms1 e1 p1 hh1 i1 q1 => ?_⟩
  refine ⟨G1, ms1, s, h1, hh1, sl.mono e1 p1, Post.bind q1 fun y h2 yv H2 G2 ms2 e2 p2 hh2 i2 q2 => ?_⟩
  refine ⟨G2, ms2, h2, x, y, hh2, Is.mono e2 p2 _ _ i1, i2, calm_post (Post.truth q2 fun k h3 H3 G3 ms3 e3 p3 hh3 q3 => ⟨k, rfl, ?_⟩)⟩
  cases k with
  | false => exact q3.fin hh3 rfl
  | true =>
    refine ⟨G3, ms3, s, h3, hh3, ((sl.mono e1 p1).mono e2 p2).mono e3 p3, Post.bind q3 fun z h4 zv H4 G4 ms4 e4 p4 hh4 i4 q4 => ?_⟩
    exact ⟨G4, ms4, h4, y, z, hh4, Is.mono (e3.trans e4) (pre_trans p3 p4) _ _ i2, i4, calm_post q4⟩
theorem ve_chain {op op' : CmpOp} {g g' : D → D → Hs → R D} {fa fb fc : FE} (ho : OpD X (compareOp op) g) (ho' : OpD X (compareOp op') g') (ha : VE X W pin a fa) (hb : VE X W pin b fb) (hc : VE X W pin c fc)
    (hm : lastMarks [op, op'] [b, c] = false := by with_unfolding_all rfl) : VE X W pin (.Compare a [op, op'] [b, c] pos) (eChain g g' fa fb fc) :=
  pe_imp (pe_chain ho ho' ha hb hc hm) fun _ _ _ h => chain_read h
theorem vt_chain {op op' : CmpOp} {g g' : D → D → Hs → R D} {fa fb fc : FE} (ho : OpD X (compareOp op) g) (ho' : OpD X (compareOp op') g') (ha : VE X W pin a fa) (hb : VE X W pin b fb) (hc : VE X W pin c fc)
    (hm : lastMarks [op, op'] [b, c] = false := by with_unfolding_all rfl) : VT X W pin (.Compare a [op, op'] [b, c] pos) (tV (eChain g g' fa fb fc)) :=
  pt_imp (pt_chain ho ho' ha hb hc hm) fun _ _ _ h => chain_read (test_read h)

def RS.ofR (s : Ss) (r : R D) (k : D → Hs → RS) : RS := match r with
  | .ok d h => k d h
  | .err x h => .er x s h
  | .bad => .bad
@[simp] theorem RS.ofR_ok (s : Ss) (d : D) (h : Hs) (k : D → Hs → RS) : RS.ofR s (.ok d h) k = k d h := rfl
@[simp] theorem RS.ofR_err (s : Ss) (x : Xn) (h : Hs) (k : D → Hs → RS) : RS.ofR s (.err x h) k = .er x s h := rfl
@[simp] theorem RS.ofR_bad (s : Ss) (k : D → Hs → RS) : RS.ofR s .bad k = .bad := rfl
def sNext : FS := fun s h => .nx s h
def sSeq (f g : FS) : FS := fun s h => match f s h with
  | .nx s' h' => g s' h'
  | r => r
def sIf (t : FT) (f g : FS) : FS := fun s h => match t s h with
  | .ok k h1 => if k = true then f s h1 else g s h1
  | .err x h1 => .er x s h1
  | .bad => .bad
def sSet (i : Nat) (f : FE) : FS := fun s h => RS.ofR s (f s h) fun d h1 => .nx (s.set i (some d)) h1
def sRet (f : FE) : FS := fun s h => RS.ofR s (f s h) fun d h1 => .rt d h1
def sExpr (f : FE) : FS := fun s h => RS.ofR s (f s h) fun _ h1 => .nx s h1
def sBreak : FS := fun s h => .bk s h
def sCont : FS := fun s h => .ct s h
theorem PostS.mono {σ σ' : L2.St} {r : RS} {D : Ends} (x : PostS W K mg pin σ G ms r D) (e : GLe G G') (p : ms <+: ms') : PostS W K mg pin σ' G' ms' r D := by
  cases r with
  | nx s h => exact fun σ' H' G2 ms2 h1 h2 => x σ' H' G2 ms2 (e.trans h1) (pre_trans p h2)
  | rt d h => exact fun v H' G2 ms2 h1 h2 => x v H' G2 ms2 (e.trans h1) (pre_trans p h2)
  | bk s h => exact fun σ' H' G2 ms2 h1 h2 => x σ' H' G2 ms2 (e.trans h1) (pre_trans p h2)
  | ct s h => exact fun σ' H' G2 ms2 h1 h2 => x σ' H' G2 ms2 (e.trans h1) (pre_trans p h2)
  | er y s h => exact fun σ' H' G2 ms2 d h1 h2 => x σ' H' G2 ms2 d (e.trans h1) (pre_trans p h2)
  | bad => exact x
/-- an expression, then a statement's end -/
theorem PostS.ofR {σ : L2.St} {s : Ss} {r : R D} {k : D → Hs → RS} {D0 : Ends} {Q' : VK} (sl : Sl K G ms pin s σ) (x : PostS W K mg pin σ G ms (RS.ofR s r k) D0)
    (f : ∀ d h1 v H1 G1 ms1, GLe G G1 → ms <+: ms1 → Hh K G1 ms1 h1 H1 → Is K G1 ms1 d v → PostS W K mg pin σ G1 ms1 (k d h1) D0 → Q' v H1) : Post K mg (fun c d H => W c d σ H) G ms (Is K) r Q' := by
  cases r with
  | ok d h' => exact fun v H' G2 ms2 h1 h2 h3 h4 => f d h' v H' G2 ms2 h1 h2 h3 h4 (PostS.mono (r := k d h') x h1 h2)
  | err y h' => exact fun H' G2 ms2 d h1 h2 h3 h4 => x σ H' G2 ms2 d h1 h2 h3 (sl.mono h1 h2) h4
  | bad => exact x
theorem vss_nil : VSs X W pin [] sNext := pss_imp pss_nil fun D σ H ⟨G, ms, s, h, hh, sl, q⟩ => q σ H G ms (GLe.refl _) (pre_refl _) hh sl
theorem vss_one {st : Stmt} {f : FS} (h : VS X W pin st f) : VSs X W pin [st] f := pss_one h
theorem vss_cons {st : Stmt} {r : List Stmt} {f g : FS} (h1 : VS X W pin st f) (h2 : VSs X W pin r g) : VSs X W pin (st :: r) (sSeq f g) := by
  refine pss_imp (pss_cons h1 h2) fun D σ H ⟨G, ms, s, h, hh, sl, q⟩ => ⟨G, ms, s, h, hh, sl, ?_⟩
  unfold sSeq at q
  cases e : f s h with
  | nx s' h' =>
    rw [e] at q
    exact fun σ' H' G2 ms2 h1 h2 h3 h4 => ⟨G2, ms2, s', h', h3, h4, PostS.mono (r := g s' h') q h1 h2⟩
  | rt d h' => rw [e] at q; exact q
  | bk s' h' => rw [e] at q; exact q
  | ct s' h' => rw [e] at q; exact q
  | er y s' h' => rw [e] at q; exact q
  | bad => rw [e] at q; exact q
theorem vs_pass : VS X W pin (.Pass pos) sNext := ps_imp ps_pass fun D σ H ⟨G, ms, s, h, hh, sl, q⟩ => q σ H G ms (GLe.refl _) (pre_refl _) hh sl
theorem vs_break : VS X W pin (.Break pos) sBreak := ps_imp ps_break fun D σ H ⟨G, ms, s, h, hh, sl, q⟩ => q σ H G ms (GLe.refl _) (pre_refl _) hh sl
theorem vs_cont : VS X W pin (.Continue pos) sCont := ps_imp ps_continue fun D σ H ⟨G, ms, s, h, hh, sl, q⟩ => q σ H G ms (GLe.refl _) (pre_refl _) hh sl
theorem vs_expr {e : Expr} {f : FE} (he : VE X W pin e f) (hs : swapsWith e none pos.line X.env = pure false := by rfl) : VS X W pin (.Expr e pos) (sExpr f) := by
  refine ps_imp (ps_expr he hs) fun D σ H ⟨G, ms, s, h, hh, sl, q⟩ => ⟨G, ms, s, h, hh, sl, PostS.ofR sl q fun d h1 v H1 G1 ms1 e1 p1 hh1 i1 q1 => ?_⟩
  exact q1 σ H1 G1 ms1 (GLe.refl _) (pre_refl _) hh1 (sl.mono e1 p1)
theorem vs_ret {e : Expr} {f : FE} (he : VE X W pin e f) : VS X W pin (.Return (some e) pos) (sRet f) := by
  refine ps_imp (ps_ret he) fun D σ H ⟨G, ms, s, h, hh, sl, q⟩ => ⟨G, ms, s, h, hh, sl, PostS.ofR sl q fun d h1 v H1 G1 ms1 e1 p1 hh1 i1 q1 => ?_⟩
  exact q1 v H1 G1 ms1 (GLe.refl _) (pre_refl _) hh1 i1
theorem vs_if {ya na : List Stmt} {t : FT} {f g : FS} (hc : VT X W pin c t) (ha : VSs X W pin ya f) (hb : VSs X W pin na g) : VS X W pin (.If c ya na pos) (sIf t f g) := by
  refine ps_imp (ps_if hc ha hb) fun D σ H ⟨G, ms, s, h, hh, sl, q⟩ => ⟨G, ms, s, h, hh, sl, ?_⟩
  unfold sIf at q
  cases e : t s h with
  | ok k h1 =>
    rw [e] at q
    intro b H1 G1 ms1 e1 p1 hh1 i1
    subst i1
    cases k with
    | true => exact ⟨G1, ms1, s, h1, hh1, sl.mono e1 p1, PostS.mono (r := f s h1) q e1 p1⟩
    | false => exact ⟨G1, ms1, s, h1, hh1, sl.mono e1 p1, PostS.mono (r := g s h1) q e1 p1⟩
  | err y h1 =>
    rw [e] at q
    exact fun H' G2 ms2 d h1 h2 h3 h4 => q σ H' G2 ms2 d h1 h2 h3 (sl.mono h1 h2) h4
  | bad => rw [e] at q; exact q
/-- free of the pinned slots -/
def NotPin (pin : List (Nat × V)) (i : Nat) : Prop := ∀ p ∈ pin, p.1 ≠ i
theorem notPin_nil {i : Nat} : NotPin [] i := fun _ h => nomatch h
theorem Sl.set {s : Ss} {σ : L2.St} {i : Nat} {d : D} {v : V} (x : Sl K G ms pin s σ) (q : Is K G ms d v) (np : NotPin pin i) : Sl K G ms pin (s.set i (some d)) (σ.set i (some v)) := by
  refine ⟨by simp [x.len], fun j d' e => ?_, fun p hp => ?_⟩
  · by_cases hj : j = i
    · subst hj
      have hl : j < s.length := by
        rcases Nat.lt_or_ge j s.length with z | z
        · exact z
        · rw [List.getElem?_eq_none (by simpa using z)] at e; cases e
      rw [List.getElem?_set_self hl] at e
      cases e
      exact ⟨v, List.getElem?_set_self (by rw [← x.len]; exact hl), q⟩
    · rw [List.getElem?_set_ne (Ne.symm hj)] at e ⊢
      exact x.get j d' e
  · rw [List.getElem?_set_ne (Ne.symm (np p hp))]
    exact x.pin p hp
theorem vs_set (i : Nat) {x : Str} {e : Expr} {f : FE} {pos' : Pos} (hN : X.N.Nodup) (he : VE X W pin e f) (hi : X.N[i]? = some x := by rfl) (hx : Loc X.env.scope x := by first | exact Or.inl rfl | exact Or.inr rfl) (np : NotPin pin i := by first | exact notPin_nil | decide)
    (hs : swapsWith e (some (.Name x pos')) pos.line X.env = pure false := by rfl) (hf : X.fn x = true ∨ X.env.scope.names.lookup x = some .local := by first | exact .inl rfl | exact .inr rfl | assumption) : VS X W pin (.Assign [.Name x pos'] e pos) (sSet i f) := by
  refine ps_imp (ps_set hN hi hx he hs hf) fun D σ H ⟨G, ms, s, h, hh, sl, q⟩ => ⟨G, ms, s, h, hh, sl, PostS.ofR sl q fun d h1 v H1 G1 ms1 e1 p1 hh1 i1 q1 => ?_⟩
  exact q1 _ H1 G1 ms1 (GLe.refl _) (pre_refl _) hh1 ((sl.mono e1 p1).set i1 np)
end
end WD
namespace L2
open PySem PySem.Spec PyProof.Rows
set_option maxHeartbeats 400000 in
theorem tuple_mulS (l : Addr) (items : Array Value) (n : Nat) (dd : Option Addr) (sl : Array (Option Value)) (x : Int) (u : Tok) (c0 : (decide (x < -(2 ^ 63)) || decide (x ≥ 2 ^ 63)) = false) (c1 : (items.isEmpty || x == 1) = true) :
    Meets (Builtin.«tuple.__mul__» ⟨[.ref l, .int x u], []⟩) (fun _ R s => s.heap.get? l = some { cls := .type "tuple", dict := dd, data := .seq items n, slots := sl } ∧
      R (.ok (.ret (Value.ref l))) s) :=
  .of_wp fun prog w A R s h => by
    obtain ⟨hp, g, d, tk, os⟩ := s
    obtain ⟨hl, h⟩ := h
    have f1 := AutoSeq1.idx_int
    wp_walk using wpAny_loadPart' hl
    repeat (first
      | (refine wpAny_ite_false (decide_eq_false (by rw [c0]; exact Bool.false_ne_true)) ?_; wp_walk using wpAny_loadPart' hl)
      | (refine wpAny_ite_true (decide_eq_true (by rw [c1])) ?_; wp_walk using wpAny_loadPart' hl))
    exact ⟨_, rfl, h⟩
set_option maxHeartbeats 400000 in
theorem tuple_mulZ (l : Addr) (items : Array Value) (n : Nat) (dd : Option Addr) (sl : Array (Option Value)) (x : Int) (u : Tok) (c0 : (decide (x < -(2 ^ 63)) || decide (x ≥ 2 ^ 63)) = false) (c1 : (items.isEmpty || x == 1) = false) (c2 : (decide (x ≤ 0) || items.isEmpty) = true) :
    Meets (Builtin.«tuple.__mul__» ⟨[.ref l, .int x u], []⟩) (fun _ R s => s.heap.get? l = some { cls := .type "tuple", dict := dd, data := .seq items n, slots := sl } ∧
      R (.ok (.ret (Value.ref s.heap.objs.size))) { s with heap := s.heap.push { cls := Value.type "tuple", data := Data.seq #[] }, toks := s.toks }) :=
  .of_wp fun prog w A R s h => by
    obtain ⟨hp, g, d, tk, os⟩ := s
    obtain ⟨hl, h⟩ := h
    have f1 := AutoSeq1.idx_int
    wp_walk using wpAny_loadPart' hl
    repeat (first
      | (refine wpAny_ite_false (decide_eq_false (by rw [c0]; exact Bool.false_ne_true)) ?_; wp_walk using wpAny_loadPart' hl)
      | (refine wpAny_ite_false (decide_eq_false (by rw [c1]; exact Bool.false_ne_true)) ?_; wp_walk using wpAny_loadPart' hl)
      | (refine wpAny_ite_true (decide_eq_true (by rw [c2])) ?_; wp_walk using wpAny_loadPart' hl))
    exact ⟨_, rfl, h⟩
def rRepT2 (K : PySem.W.Frag) : R2 := fun x y H Q => ∃ l k xs, x = .ref l ∧ y = .int k ∧ SqT K H l xs ∧ -(2 ^ 63) ≤ k ∧ k < 2 ^ 63 ∧ xs.length * k.toNat ≤ sizeLine ∧ ((xs = [] ∨ k = 1) → Q (.ref l) H) ∧ (xs ≠ [] → k ≠ 1 → ∀ p, H p = none → Q (.ref p) (upd H p (.tup (List.replicate k.toNat xs).flatten)))
section
variable {X : Cx}
theorem op_repT2 : OpR X (binaryOp .Mult) (rRepT2 X.K) := by
  intro pins s σ H x y v u Q I rx ry h
  obtain ⟨l, k, xs, rfl, rfl, hT, h1, h2, hz, qs, qn⟩ := h
  cases rx
  obtain ⟨t, rfl⟩ := ry
  obtain ⟨its, r, ⟨⟨cls, dd, data, sl⟩, ho, hc, n, hd⟩, hs⟩ := I.tuple hT
  simp only at hc hd
  subst hc hd
  have hle : its.length = xs.length := r.length.symm
  have hsz0 : its.toArray.size = xs.length := by rw [List.size_toArray, hle]
  have c0 : (decide (k < -(2 ^ 63)) || decide (k ≥ 2 ^ 63)) = false := by
    rw [decide_eq_false (by omega), decide_eq_false (by omega)] <;> rfl
  have isE : its.toArray.isEmpty = decide (xs = []) := by
    cases its with
    | nil => 
      have : xs = [] := List.eq_nil_of_length_eq_zero hle.symm
      subst this; rfl
    | cons a b =>
      have : xs ≠ [] := fun e => by subst e; cases hle
      rw [decide_eq_false this]; rfl
  by_cases hsame : xs = [] ∨ k = 1
  · have c1 : (its.toArray.isEmpty || k == 1) = true := by
      rw [isE]
      rcases hsame with e | e
      · rw [decide_eq_true e]; rfl
      · subst e; simp
    refine wpAny_binaryOp_repeat_ref (T := "tuple") (U := "int") (by decide) ⟨_, ho, rfl⟩ (fun s' => typeIs_int s' k t) noFill_tuple_mul F.fills_int_mul F.slot_int_rmul repeat_tuple F.slot_int_index.lookup
      (call_meets F.slot_int_rmul (typeIs_int s k t) F.entry_int_rmul (F.args_int_rmul_2 _ _) (int_rmul_tuple k t l its.toArray n dd sl)
        ⟨ho, rfl, ⟨_, ho, rfl⟩, call_meets F.slot_tuple_mul ⟨_, ho, rfl⟩ F.entry_tuple_mul (F.args_tuple_mul_2 _ _) (tuple_mulS l its.toArray n dd sl k t c0 c1) ⟨ho, ?_⟩⟩)
    exact ⟨.ref l, H, I, rfl, qs hsame⟩
  · have hne : xs ≠ [] := fun e => hsame (.inl e)
    have hk1 : k ≠ 1 := fun e => hsame (.inr e)
    have q := qn hne hk1
    have c1 : (its.toArray.isEmpty || k == 1) = false := by
      rw [isE, decide_eq_false hne, Bool.false_or]
      exact beq_eq_false_iff_ne.mpr hk1
    by_cases hk : k ≤ 0
    · have c2 : (decide (k ≤ 0) || its.toArray.isEmpty) = true := by
        rw [decide_eq_true hk]; rfl
      refine wpAny_binaryOp_repeat_ref (T := "tuple") (U := "int") (by decide) ⟨_, ho, rfl⟩ (fun s' => typeIs_int s' k t) noFill_tuple_mul F.fills_int_mul F.slot_int_rmul repeat_tuple F.slot_int_index.lookup
        (call_meets F.slot_int_rmul (typeIs_int s k t) F.entry_int_rmul (F.args_int_rmul_2 _ _) (int_rmul_tuple k t l its.toArray n dd sl)
          ⟨ho, rfl, ⟨_, ho, rfl⟩, call_meets F.slot_tuple_mul ⟨_, ho, rfl⟩ F.entry_tuple_mul (F.args_tuple_mul_2 _ _) (tuple_mulZ l its.toArray n dd sl k t c0 c1 c2) ⟨ho, ?_⟩⟩)
      have e0 : (List.replicate k.toNat xs).flatten = [] := by rw [Int.toNat_of_nonpos hk]; rfl
      rw [e0] at q
      refine ⟨.ref s.heap.objs.size, _, I.laid (t' := s.toks) (o := .tup []) (fun b ob q => Heap.get?_push_of_some _ q) (Nat.le_refl _) ?_, rfl, q _ (I.hok.fresh (Nat.le_refl _))⟩
      exact ⟨Nat.zero_le _, _, .nil, IsTup.new _ _⟩
    · have hn : its ≠ [] := fun e => by rw [e] at hle; exact hne (List.eq_nil_of_length_eq_zero hle.symm)
      have c2 : (decide (k ≤ 0) || its.toArray.isEmpty) = false := by
        rw [isE, decide_eq_false hne, Bool.or_false]
        exact decide_eq_false hk
      have hm : ((its.toArray.size : Nat) : Int) * k ≤ 16777216 := by
        rw [hsz0]
        have e1 : ((xs.length : Nat) : Int) * k = ((xs.length * k.toNat : Nat) : Int) := by
          rw [Int.natCast_mul, Int.toNat_of_nonneg (by omega)]
        rw [e1]
        have : xs.length * k.toNat ≤ 16777216 := hz
        omega
      have flen : (List.replicate k.toNat its).flatten.length ≤ sizeLine := by
        rw [PyProof.Rows.lm_len_rep_flat, hle, Nat.mul_comm]
        exact hz
      have c4 : Builtin.Tuple.tupleTooMany (((its.toArray.size : Nat) : Int) * k) = false := by
        unfold Builtin.Tuple.tupleTooMany
        rw [sizeLine_eq]
        exact decide_eq_false (by omega)
      refine wpAny_binaryOp_repeat_ref (T := "tuple") (U := "int") (by decide) ⟨_, ho, rfl⟩ (fun s' => typeIs_int s' k t) noFill_tuple_mul F.fills_int_mul F.slot_int_rmul repeat_tuple F.slot_int_index.lookup
        (call_meets F.slot_int_rmul (typeIs_int s k t) F.entry_int_rmul (F.args_int_rmul_2 _ _) (int_rmul_tuple k t l its.toArray n dd sl)
          ⟨ho, rfl, ⟨_, ho, rfl⟩, call_meets F.slot_tuple_mul ⟨_, ho, rfl⟩ F.entry_tuple_mul (F.args_tuple_mul_2 _ _) (tuple_mulW l its.toArray n dd sl k t c0 c1 c2 (by omega) c4 (by rw [size_rep, List.size_toArray]; exact flen)) ⟨ho, ?_⟩⟩)
      rw [size_rep]
      refine ⟨.ref s.heap.objs.size, _, I.laid (t' := s.toks) (o := .tup (List.replicate k.toNat xs).flatten) (fun b ob q => Heap.get?_push_of_some _ q) (Nat.le_refl _) ?_, rfl, q _ (I.hok.fresh (Nat.le_refl _))⟩
      exact ⟨by rw [PyProof.Rows.lm_len_rep_flat, Nat.mul_comm]; exact hz, _, r.rep k.toNat, IsTup.new _ _⟩
end
end L2
namespace WD
open PySem PySem.Spec PyProof.Rows L2
def O.items : O → Option (List D)
  | .lst xs => some xs
def locAt (h : Hs) (n : Nat) : Option (List D) := (h[n]?).bind O.items
theorem locAt_some {h : Hs} {n : Nat} {xs : List D} (e : locAt h n = some xs) : h[n]? = some (.lst xs) := by
  unfold locAt at e
  cases q : h[n]? with
  | none => rw [q] at e; cases e
  | some o =>
    rw [q] at e
    cases o with
    | lst ys => cases e; rfl
theorem locAt_of {h : Hs} {n : Nat} {xs : List D} (e : h[n]? = some (.lst xs)) : locAt h n = some xs := by
  unfold locAt; rw [e]; rfl
def lstX (h : Hs) : D → Option (List D)
  | .lst xs => some xs
  | .loc n => locAt h n
  | _ => none
def lstOf (h : Hs) : D → Option (List D)
  | .scr xs => some xs
  | d => lstX h d
def rowOf (h : Hs) : D → Option (List D)
  | .tup xs => some xs
  | d => lstOf h d
section
variable {X : Cx} {W : WX} {pin : List (Nat × V)} {K : PySem.W.Frag} {mg : Str → Option Value} {E : XK} {G G' : GG} {H : Hp} {ms ms' : List Addr} {h : Hs} {pos : Pos} {a b c : Expr} {rest : List Expr}
theorem Hh.listX (hh : Hh K G ms h H) {d : D} {v : V} {xs : List D} (i : Is K G ms d v) (e : lstX h d = some xs) : ∃ a vs, v = .ref a ∧ H a = some (.lst vs) ∧ IsL K G ms xs vs := by
  cases d with
  | lst ys =>
    cases e
    obtain ⟨a, vs, h1, h2, h3⟩ := i
    exact ⟨a, vs, h1, hh.sub _ _ h2, h3⟩
  | loc n =>
    obtain ⟨a, h1, h2⟩ := i
    obtain ⟨a', vs, q1, q2, q3⟩ := hh.at (locAt_some e)
    rw [h1] at q1; cases q1
    exact ⟨a, vs, h2, q2, q3⟩
  | _ => cases e
theorem Hh.list (hh : Hh K G ms h H) {d : D} {v : V} {xs : List D} (i : Is K G ms d v) (e : lstOf h d = some xs) : ∃ a vs, v = .ref a ∧ SqL K H a vs ∧ IsL K G ms xs vs := by
  cases d with
  | scr ys =>
    cases e
    obtain ⟨a, vs, h1, h2, h3⟩ := i
    exact ⟨a, vs, h1, hh.sub.seq h2, h3⟩
  | _ =>
    obtain ⟨a, vs, h1, h2, h3⟩ := hh.listX i e
    exact ⟨a, vs, h1, .of h2, h3⟩
theorem Hh.tuple (hh : Hh K G ms h H) {v : V} {xs : List D} (i : Is K G ms (.tup xs) v) : ∃ a vs, v = .ref a ∧ SqT K H a vs ∧ IsL K G ms xs vs := by
  obtain ⟨a, vs, h1, h2, h3⟩ := i
  exact ⟨a, vs, h1, .of (hh.sub _ _ h2), h3⟩
theorem Hh.row (hh : Hh K G ms h H) {d : D} {v : V} {xs : List D} (i : Is K G ms d v) (e : rowOf h d = some xs) : ∃ a vs, v = .ref a ∧ (SqL K H a vs ∨ SqT K H a vs) ∧ IsL K G ms xs vs := by
  cases d with
  | tup ys =>
    cases e
    obtain ⟨a, vs, h1, h2, h3⟩ := hh.tuple i
    exact ⟨a, vs, h1, .inr h2, h3⟩
  | _ =>
    obtain ⟨a, vs, h1, h2, h3⟩ := hh.list i e
    exact ⟨a, vs, h1, .inl h2, h3⟩
theorem Hh.rowz (hh : Hh K G ms h H) {d : D} {v : V} {xs : List D} (i : Is K G ms d v) (e : rowOf h d = some xs) : xs.length ≤ sizeLine := by
  cases d with
  | tup ys =>
    cases e
    obtain ⟨a, vs, h1, h2, h3⟩ := i
    rw [h3.length]; exact hh.gsz _ _ h2
  | lst ys =>
    cases e
    obtain ⟨a, vs, h1, h2, h3⟩ := i
    rw [h3.length]; exact hh.gsz _ _ h2
  | scr ys =>
    cases e
    obtain ⟨a, vs, h1, h2, h3⟩ := i
    rw [h3.length]
    rcases h2 with (h2 | ⟨o, h2⟩) | ⟨o, its, n, _, _, _, _, hz, hv⟩
    · exact hh.gsz _ _ h2
    · exact hh.gsz _ _ h2
    · rw [hv.length, Array.length_toList]; exact hz
  | loc n => exact hh.atz (locAt_some e)
  | _ => cases e
/-- a new still list, tuple: the end of a step -/
theorem Post.newT {xs : List D} {vs : List V} {Q : VK} {p : Addr} (q : Post K mg E G ms (Is K) (.ok (.tup xs) h) Q) (hh : Hh K G ms h H) (i : IsL K G ms xs vs) (hz : xs.length ≤ sizeLine) (hp : H p = none) : Q (.ref p) (upd H p (.tup vs)) := by
  have eg : GLe G (gupd G p (.tup vs)) := gle_upd (hh.gnone hp)
  exact q.fin2 eg (pre_refl _) (hh.still hp (show vs.length ≤ sizeLine by rw [← i.length]; exact hz)) ⟨p, vs, rfl, upd_same, IsL.mono eg (pre_refl _) _ _ i⟩
/-- a list that comes to be: still (false) or changeable (true) -/
def newL (m : Bool) (xs : List D) (h : Hs) : R D := if m = true then .ok (.loc h.length) (h ++ [.lst xs]) else .ok (.lst xs) h
theorem Post.newL {m : Bool} {xs : List D} {vs : List V} {Q : VK} {p : Addr} (q : Post K mg E G ms (Is K) (newL m xs h) Q) (hh : Hh K G ms h H) (i : IsL K G ms xs vs) (hz : xs.length ≤ sizeLine) (hp : H p = none) : Q (.ref p) (upd H p (.lst vs)) := by
  cases m with
  | false =>
    have eg : GLe G (gupd G p (.lst vs)) := gle_upd (hh.gnone hp)
    exact Post.fin2 (a := D.lst xs) q eg (pre_refl _) (hh.still hp (show vs.length ≤ sizeLine by rw [← i.length]; exact hz)) ⟨p, vs, rfl, upd_same, IsL.mono eg (pre_refl _) _ _ i⟩
  | true =>
    refine Post.fin2 (a := D.loc h.length) q (GLe.refl _) ⟨[p], rfl⟩ (hh.alloc hp i hz) ⟨p, ?_, rfl⟩
    rw [← hh.len]
    simp

def eTup (f : FA) : FE := fun s h => (f s h).bind fun ds h1 => if ds.length ≤ sizeLine then .ok (.tup ds) h1 else .bad
def eLst (m : Bool) (f : FA) : FE := fun s h => (f s h).bind fun ds h1 => if ds.length ≤ sizeLine then newL m ds h1 else .bad
theorem ve_tup {es : List Expr} {f : FA} {x1 : Nat} (h : VA X W pin es f) : VE X W pin (.Tuple es x1 pos) (eTup f) := by
  refine pe_imp (pe_tup h) fun σ H Q ⟨G, ms, s, h, hh, sl, q⟩ => ⟨G, ms, s, h, hh, sl, Post.bind q fun ds h1 vs H1 G1 ms1 e1 p1 hh1 i1 q1 => ?_⟩
  by_cases hz : ds.length ≤ sizeLine
  · rw [if_pos hz] at q1
    exact ⟨by rw [← i1.length]; exact hz, fun p hp => q1.newT hh1 i1 hz hp⟩
  · rw [if_neg hz] at q1; exact q1.elim
theorem ve_lst (m : Bool) {es : List Expr} {f : FA} (h : VA X W pin es f) : VE X W pin (.List es pos) (eLst m f) := by
  refine pe_imp (pe_lst h) fun σ H Q ⟨G, ms, s, h, hh, sl, q⟩ => ⟨G, ms, s, h, hh, sl, Post.bind q fun ds h1 vs H1 G1 ms1 e1 p1 hh1 i1 q1 => ?_⟩
  by_cases hz : ds.length ≤ sizeLine
  · rw [if_pos hz] at q1
    exact ⟨by rw [← i1.length]; exact hz, fun p hp => q1.newL hh1 i1 hz hp⟩
  · rw [if_neg hz] at q1; exact q1.elim

theorem len_rep {α : Type} (xs : List α) (k : Nat) : (List.replicate k xs).flatten.length = k * xs.length := by
  induction k with
  | zero => simp
  | succ k ih => rw [List.replicate_succ, List.flatten_cons, List.length_append, ih, Nat.succ_mul, Nat.add_comm]
theorem rep_small {k : Int} {n : Nat} (h1 : k ≤ 1000) (h2 : n ≤ 1000) : k.toNat * n ≤ sizeLine := by
  have : k.toNat ≤ 1000 := by omega
  calc k.toNat * n ≤ 1000 * 1000 := Nat.mul_le_mul this h2
    _ ≤ sizeLine := by decide
def addD : D → D → Hs → R D
  | .int i, .int j, h => .ok (.int (i + j)) h
  | .str x, .str y, h => if x.length + y.length ≤ sizeLine then .ok (.str (x ++ y)) h else .bad
  | .tup xs, .tup ys, h => if xs.length + ys.length ≤ sizeLine then .ok (.tup (xs ++ ys)) h else .bad
  | x, y, h => match lstX h x, lstX h y with
    | some xs, some ys => if xs.length + ys.length ≤ sizeLine then .ok (.lst (xs ++ ys)) h else .bad
    | _, _ => .bad
theorem cat_ok {x y : V} {da db : D} {xs ys : List D} {Q : VK} (hh : Hh K G ms h H) (ia : Is K G ms da x) (ib : Is K G ms db y) (ea : lstX h da = some xs) (eb : lstX h db = some ys)
    (q : Post K mg E G ms (Is K) (if xs.length + ys.length ≤ sizeLine then .ok (.lst (xs ++ ys)) h else .bad) Q) : rCat x y H Q := by
  obtain ⟨l, vs, rfl, h2, h3⟩ := hh.listX ia ea
  obtain ⟨l', ws, rfl, k2, k3⟩ := hh.listX ib eb
  by_cases hz : xs.length + ys.length ≤ sizeLine
  · rw [if_pos hz] at q
    exact ⟨l, l', vs, ws, rfl, rfl, h2, k2, by rw [← h3.length, ← k3.length]; exact hz, fun p hp => Post.newL (m := false) q hh (h3.append k3) (by rw [List.length_append]; exact hz) hp⟩
  · rw [if_neg hz] at q; exact q.elim
theorem od_add : OpD X (binaryOp .Add) addD := by
  intro pins s σ H x y v u Q I rx ry ⟨G, ms, h, da, db, hh, ia, ib, q⟩
  unfold addD at q
  split at q
  · cases ia; cases ib
    exact op_add pins s σ H _ _ v u Q I rx ry ⟨_, _, rfl, rfl, q.fin hh rfl⟩
  · cases ia; cases ib
    split at q
    · rename_i hz
      exact op_add_str pins s σ H _ _ v u Q I rx ry ⟨_, _, rfl, rfl, hz, q.fin hh rfl⟩
    · exact q.elim
  · rename_i xs ys
    split at q
    · rename_i hz
      obtain ⟨l, vs, rfl, h2, h3⟩ := hh.tuple ia
      obtain ⟨l', ws, rfl, k2, k3⟩ := hh.tuple ib
      refine op_catA pins s σ H _ _ v u Q I rx ry ⟨l, l', vs, ws, rfl, rfl, h2, k2, by rw [← h3.length, ← k3.length]; exact hz, fun e0 => ?_, fun _ e0 => ?_, fun _ _ p hp => q.newT hh (h3.append k3) (by rw [List.length_append]; exact hz) hp⟩
      · subst e0
        have : xs = [] := by
          have hl := h3.length
          exact List.length_eq_zero_iff.mp (by simpa using hl)
        subst this
        exact q.fin hh ib
      · subst e0
        have : ys = [] := by
          have hl := k3.length
          exact List.length_eq_zero_iff.mp (by simpa using hl)
        subst this
        rw [List.append_nil] at q
        exact q.fin hh ia
    · exact q.elim
  · split at q
    · rename_i xs ys e1 e2
      exact op_cat pins s σ H _ _ v u Q I rx ry (cat_ok hh ia ib e1 e2 q)
    · exact q.elim
def subD : D → D → Hs → R D
  | .int i, .int j, h => .ok (.int (i - j)) h
  | _, _, _ => .bad
theorem od_sub : OpD X (binaryOp .Sub) subD := by
  intro pins s σ H x y v u Q I rx ry ⟨G, ms, h, da, db, hh, ia, ib, q⟩
  unfold subD at q
  split at q
  · cases ia; cases ib
    exact op_sub pins s σ H _ _ v u Q I rx ry ⟨_, _, rfl, rfl, q.fin hh rfl⟩
  · exact q.elim
def smallI (i : Int) : Prop := -(2 ^ 64) < i ∧ i < 2 ^ 64
def repOk (k : Int) (n : Nat) : Prop := -(2 ^ 63) ≤ k ∧ k < 2 ^ 63 ∧ n * k.toNat ≤ sizeLine
def divOk0 (j : Int) : Prop := 0 < j ∧ j.natAbs.log2 < 9000
def powOk (i j : Int) : Prop := 0 ≤ j ∧ j ≤ 1000000 ∧ i.natAbs < 2 ^ 64
open Classical in
noncomputable def mulD : D → D → Hs → R D
  | .int i, .int j, h => if smallI i ∨ smallI j then .ok (.int (i * j)) h else .bad
  | .lst xs, .int k, h => if repOk k xs.length then .ok (.lst (List.replicate k.toNat xs).flatten) h else .bad
  | .tup xs, .int k, h => if repOk k xs.length then .ok (.tup (List.replicate k.toNat xs).flatten) h else .bad
  | _, _, _ => .bad
theorem od_mul : OpD X (binaryOp .Mult) mulD := by
  intro pins s σ H x y v u Q I rx ry ⟨G, ms, h, da, db, hh, ia, ib, q⟩
  unfold mulD at q
  split at q
  · cases ia; cases ib
    split at q
    · rename_i hz
      exact op_mul pins s σ H _ _ v u Q I rx ry ⟨_, _, rfl, rfl, hz, q.fin hh rfl⟩
    · exact q.elim
  · rename_i xs k
    cases ib
    split at q
    · rename_i hz
      obtain ⟨l, vs, rfl, h2, h3⟩ := hh.listX ia rfl
      exact op_rep pins s σ H _ _ v u Q I rx ry ⟨l, k, vs, rfl, rfl, h2, hz.1, hz.2.1, by rw [← h3.length]; exact hz.2.2, fun p hp => Post.newL (m := false) q hh (h3.rep _) (by rw [len_rep]; rw [Nat.mul_comm]; exact hz.2.2) hp⟩
    · exact q.elim
  · rename_i xs k
    cases ib
    split at q
    · rename_i hz
      obtain ⟨l, vs, rfl, h2, h3⟩ := hh.tuple ia
      refine op_repT2 pins s σ H _ _ v u Q I rx ry ⟨l, k, vs, rfl, rfl, h2, hz.1, hz.2.1, by rw [← h3.length]; exact hz.2.2, fun e0 => ?_, fun _ _ p hp => q.newT hh (h3.rep _) (by rw [len_rep]; rw [Nat.mul_comm]; exact hz.2.2) hp⟩
      rcases e0 with e0 | e0
      · subst e0
        have : xs = [] := List.length_eq_zero_iff.mp (by simpa using h3.length)
        subst this
        have e1 : (List.replicate k.toNat ([] : List D)).flatten = [] := by simp
        rw [e1] at q
        exact q.fin hh ia
      · subst e0
        have e1 : (List.replicate (1 : Int).toNat xs).flatten = xs := by simp
        rw [e1] at q
        exact q.fin hh ia
    · exact q.elim
  · exact q.elim
open Classical in
noncomputable def fdivD : D → D → Hs → R D
  | .int i, .int j, h => if divOk0 j then .ok (.int (i / j)) h else .bad
  | _, _, _ => .bad
theorem od_fdiv : OpD X (binaryOp .FloorDiv) fdivD := by
  intro pins s σ H x y v u Q I rx ry ⟨G, ms, h, da, db, hh, ia, ib, q⟩
  unfold fdivD at q
  split at q
  · cases ia; cases ib
    split at q
    · rename_i hz
      exact op_fdivW pins s σ H _ _ v u Q I rx ry ⟨_, _, rfl, rfl, hz, q.fin hh rfl⟩
    · exact q.elim
  · exact q.elim
def modD : D → D → Hs → R D
  | .int i, .int j, h => if 0 < j then .ok (.int (i % j)) h else .bad
  | _, _, _ => .bad
theorem od_mod : OpD X (binaryOp .Mod) modD := by
  intro pins s σ H x y v u Q I rx ry ⟨G, ms, h, da, db, hh, ia, ib, q⟩
  unfold modD at q
  split at q
  · cases ia; cases ib
    split at q
    · rename_i hz
      exact op_mod pins s σ H _ _ v u Q I rx ry ⟨_, _, rfl, rfl, hz, q.fin hh rfl⟩
    · exact q.elim
  · exact q.elim
open Classical in
noncomputable def powD : D → D → Hs → R D
  | .int i, .int j, h => if powOk i j then .ok (.int (i ^ j.toNat)) h else .bad
  | _, _, _ => .bad
theorem od_pow : OpD X (binaryOp .Pow) powD := by
  intro pins s σ H x y v u Q I rx ry ⟨G, ms, h, da, db, hh, ia, ib, q⟩
  unfold powD at q
  split at q
  · cases ia; cases ib
    split at q
    · rename_i hz
      exact op_pow pins s σ H _ _ v u Q I rx ry ⟨_, _, rfl, rfl, hz, q.fin hh rfl⟩
    · exact q.elim
  · exact q.elim
/-- -a -/
def negD (fa : FE) : FE := fun s h => (fa s h).bind fun d h1 => match d with
  | .int i => .ok (.int (-i)) h1
  | _ => .bad
theorem ve_neg {fa : FE} (ha : VE X W pin a fa) : VE X W pin (.UnaryOp .USub a pos) (negD fa) := by
  refine pe_imp (pe_un un_neg ha) fun σ H Q ⟨G, ms, s, h, hh, sl, q⟩ => ⟨G, ms, s, h, hh, sl, Post.bind q fun d h1 v H1 G1 ms1 e1 p1 hh1 i1 q1 => ?_⟩
  cases d with
  | int i => cases i1; exact ⟨i, rfl, q1.fin hh1 rfl⟩
  | _ => exact q1.elim

def cmpI (p : Int → Int → Bool) : D → D → Hs → R D
  | .int i, .int j, h => .ok (.bl (p i j)) h
  | _, _, _ => .bad
theorem od_cmpI {op : CmpOp} {p : Int → Int → Bool} (r : OpR X (compareOp op) (rI0 fun i j => .bl (p i j))) : OpD X (compareOp op) (cmpI p) := by
  intro pins s σ H x y v u Q I rx ry ⟨G, ms, h, da, db, hh, ia, ib, q⟩
  unfold cmpI at q
  split at q
  · cases ia; cases ib
    exact r pins s σ H _ _ v u Q I rx ry ⟨_, _, rfl, rfl, q.fin hh rfl⟩
  · exact q.elim
abbrev ltD := cmpI fun i j => decide (i < j)
abbrev leD := cmpI fun i j => decide (i ≤ j)
abbrev gtD := cmpI fun i j => decide (j < i)
abbrev geD := cmpI fun i j => decide (j ≤ i)
theorem od_lt : OpD X (compareOp .Lt) ltD := od_cmpI op_lt
theorem od_le : OpD X (compareOp .LtE) leD := od_cmpI op_le
theorem od_gt : OpD X (compareOp .Gt) gtD := od_cmpI op_gt
theorem od_ge : OpD X (compareOp .GtE) geD := od_cmpI op_ge
/-- is None -/
def D.isNon : D → Bool
  | .non => true
  | _ => false
def isNonD (n : Bool) : D → D → Hs → R D
  | d, .non, h => .ok (.bl (if n = true then !d.isNon else d.isNon)) h
  | _, _, _ => .bad
theorem is_non {d : D} {v : V} (i : Is K G ms d v) : decide (v = .non) = d.isNon := by
  cases d with
  | non => cases i; rfl
  | bl _ => cases i; rfl
  | int _ => cases i; rfl
  | str _ => cases i; rfl
  | tup _ => obtain ⟨_, _, rfl, _⟩ := i; rfl
  | lst _ => obtain ⟨_, _, rfl, _⟩ := i; rfl
  | scr _ => obtain ⟨_, _, rfl, _⟩ := i; rfl
  | dic _ _ => obtain ⟨_, _, rfl, _⟩ := i; rfl
  | loc _ => obtain ⟨_, _, rfl⟩ := i; rfl
theorem od_is : OpD X (compareOp .Is) (isNonD false) := by
  intro pins s σ H x y v u Q I rx ry ⟨G, ms, h, da, db, hh, ia, ib, q⟩
  unfold isNonD at q
  split at q
  · cases ib
    refine op_isN pins s σ H _ _ v u Q I rx ry ⟨rfl, ?_⟩
    rw [is_non ia]
    exact q.fin hh rfl
  · exact q.elim
theorem od_isnot : OpD X (compareOp .IsNot) (isNonD true) := by
  intro pins s σ H x y v u Q I rx ry ⟨G, ms, h, da, db, hh, ia, ib, q⟩
  unfold isNonD at q
  split at q
  · cases ib
    refine op_notN pins s σ H _ _ v u Q I rx ry ⟨rfl, ?_⟩
    rw [is_non ia]
    exact q.fin hh rfl
  · exact q.elim
end
end WD
namespace WD
open PySem PySem.Spec PyProof.Rows L2
def toP (h : Hs) : Nat → D → Option PyData
  | 0, d => match d with
    | .non => some .none
    | .bl b => some (.bool b)
    | .int i => some (.int i)
    | .str x => if PyData.strOk x = true then some (.str x) else none
    | _ => none
  | n + 1, d => match d with
    | .non => some .none
    | .bl b => some (.bool b)
    | .int i => some (.int i)
    | .str x => if PyData.strOk x = true then some (.str x) else none
    | .tup xs => (xs.mapM (toP h n)).map PyData.tuple
    | d => match lstOf h d with
      | some xs => (xs.mapM (toP h n)).map PyData.list
      | none => none
theorem mapM_cons_some {α β : Type} {f : α → Option β} {x : α} {xs : List α} {r : List β} (e : (x :: xs).mapM f = some r) : ∃ y ys, f x = some y ∧ xs.mapM f = some ys ∧ r = y :: ys := by
  rw [List.mapM_cons] at e
  cases h1 : f x with
  | none => rw [h1] at e; cases e
  | some y =>
    rw [h1] at e
    cases h2 : xs.mapM f with
    | none => rw [h2] at e; cases e
    | some ys =>
      rw [h2] at e
      cases e
      exact ⟨y, ys, rfl, rfl, rfl⟩
theorem mapM_all {α : Type} {f : α → Option PyData} (n : Nat) (hf : ∀ x p, f x = some p → p.canLay0 = true ∧ p.depth ≤ n) : ∀ {xs : List α} {ps : List PyData}, xs.mapM f = some ps → PyData.canLayAll0 ps = true ∧ PyData.depthAll ps ≤ n
  | [], ps, e => by
    have : ps = [] := by cases e; rfl
    subst this
    exact ⟨by simp [PyData.canLayAll0], by simp [PyData.depthAll]⟩
  | x :: xs, ps, e => by
    obtain ⟨y, ys, h1, h2, rfl⟩ := mapM_cons_some e
    obtain ⟨q1, q2⟩ := mapM_all n hf h2
    obtain ⟨r1, r2⟩ := hf x y h1
    exact ⟨by simp [PyData.canLayAll0, r1, q1], by simp only [PyData.depthAll]; omega⟩
theorem toP_ok (h : Hs) : ∀ (n : Nat) (d : D) (p : PyData), toP h n d = some p → p.canLay0 = true ∧ p.depth ≤ n
  | 0, d, p, e => by
    cases d <;> simp only [toP] at e
    case str =>
      split at e
      · rename_i hs
        cases e; exact ⟨by simp [PyData.canLay0, hs], by simp [PyData.depth]⟩
      · cases e
    all_goals first | (cases e; done) | (cases e; exact ⟨by simp [PyData.canLay0], by simp [PyData.depth]⟩)
  | n + 1, d, p, e => by
    have lists : ∀ d, (match lstOf h d with | some xs => (xs.mapM (toP h n)).map PyData.list | none => none) = some p → p.canLay0 = true ∧ p.depth ≤ n + 1 := fun d e => by
      split at e
      · rename_i xs _
        cases q : xs.mapM (toP h n) with
        | none => rw [q] at e; cases e
        | some ps =>
          rw [q] at e; cases e
          obtain ⟨q1, q2⟩ := mapM_all n (toP_ok h n) q
          exact ⟨by simp [PyData.canLay0, q1], by simp only [PyData.depth]; omega⟩
      · cases e
    cases d with
    | non => cases e; exact ⟨by simp [PyData.canLay0], by simp [PyData.depth]⟩
    | bl b => cases e; exact ⟨by simp [PyData.canLay0], by simp [PyData.depth]⟩
    | int i => cases e; exact ⟨by simp [PyData.canLay0], by simp [PyData.depth]⟩
    | str x =>
      simp only [toP] at e
      split at e
      · rename_i hs
        cases e; exact ⟨by simp [PyData.canLay0, hs], by simp [PyData.depth]⟩
      · cases e
    | tup xs =>
      simp only [toP] at e
      cases q : xs.mapM (toP h n) with
      | none => rw [q] at e; cases e
      | some ps =>
        rw [q] at e; cases e
        obtain ⟨q1, q2⟩ := mapM_all n (toP_ok h n) q
        exact ⟨by simp [PyData.canLay0, q1], by simp only [PyData.depth]; omega⟩
    | lst xs => exact lists (.lst xs) e
    | scr xs => exact lists (.scr xs) e
    | loc m => exact lists (.loc m) e
    | dic ks xs => exact lists (.dic ks xs) e
section
variable {X : Cx} {W : WX} {pin : List (Nat × V)} {K : PySem.W.Frag} {mg : Str → Option Value} {E : XK} {G G' : GG} {H : Hp} {ms ms' : List Addr} {h : Hs} {pos : Pos} {a b c : Expr} {rest : List Expr}
theorem dpAll_of {n : Nat} (hf : ∀ d v p, Is K G ms d v → toP h n d = some p → Dp K H v p) : ∀ {xs : List D} {vs : List V} {ps : List PyData}, IsL K G ms xs vs → xs.mapM (toP h n) = some ps → DpAll K H vs ps
  | [], _, ps, i, e => by
    cases i
    have : ps = [] := by cases e; rfl
    subst this
    exact .nil
  | x :: xs, _, ps, i, e => by
    obtain ⟨v, r, rfl, i1, i2⟩ := i
    obtain ⟨y, ys, h1, h2, rfl⟩ := mapM_cons_some e
    exact .cons (hf x v y i1 h1) (dpAll_of hf i2 h2)
theorem dp_of (hh : Hh K G ms h H) : ∀ (n : Nat) (d : D) (v : V) (p : PyData), Is K G ms d v → toP h n d = some p → Dp K H v p
  | 0, d, v, p, i, e => by
    cases d <;> simp only [toP] at e
    case non => cases e; cases i; exact .non
    case bl => cases e; cases i; exact .bl _
    case int => cases e; cases i; exact .int _
    case str =>
      split at e
      · cases e; cases i; exact .str _
      · cases e
    all_goals cases e
  | n + 1, d, v, p, i, e => by
    have lists : ∀ d, Is K G ms d v → (match lstOf h d with | some xs => (xs.mapM (toP h n)).map PyData.list | none => none) = some p → Dp K H v p := fun d i e => by
      split at e
      · rename_i xs hx
        cases q : xs.mapM (toP h n) with
        | none => rw [q] at e; cases e
        | some ps =>
          rw [q] at e; cases e
          obtain ⟨a, vs, rfl, h2, h3⟩ := hh.list i hx
          exact .lst h2 (dpAll_of (dp_of hh n) h3 q)
      · cases e
    cases d with
    | non => cases e; cases i; exact .non
    | bl b => cases e; cases i; exact .bl _
    | int j => cases e; cases i; exact .int _
    | str x =>
      simp only [toP] at e
      split at e
      · cases e; cases i; exact .str _
      · cases e
    | tup xs =>
      simp only [toP] at e
      cases q : xs.mapM (toP h n) with
      | none => rw [q] at e; cases e
      | some ps =>
        rw [q] at e; cases e
        obtain ⟨a, vs, rfl, h2, h3⟩ := hh.tuple i
        exact .tup h2 (dpAll_of (dp_of hh n) h3 q)
    | lst xs => exact lists (.lst xs) i e
    | scr xs => exact lists (.scr xs) i e
    | loc m => exact lists (.loc m) i e
    | dic ks xs => exact lists (.dic ks xs) i e
def eqD (n : Bool) : D → D → Hs → R D := fun x y h => match toP h 64 x, toP h 64 y with
  | some p, some q => .ok (.bl (if n = true then !PyData.eqv p q else PyData.eqv p q)) h
  | _, _ => match lstX h x, lstX h y with
    | some xs, some ys => if n = false ∧ xs.length ≠ ys.length then .ok (.bl false) h else .bad
    | _, _ => .bad
theorem shaped_of {n : Nat} {d : D} {p : PyData} (e : toP h n d = some p) (hn : n ≤ 64) : SeqAt.shaped p = true := by
  obtain ⟨q1, q2⟩ := toP_ok h n d p e
  unfold SeqAt.shaped
  rw [q1, Bool.true_and]
  exact decide_eq_true (by omega)
theorem od_eq (hu : X.A.units + 64 < cLine) : OpD X (compareOp .Eq) (eqD false) := by
  intro pins s σ H x y v u Q I rx ry ⟨G, ms, h, da, db, hh, ia, ib, q⟩
  unfold eqD at q
  split at q
  · rename_i p r e1 e2
    exact op_eqD hu pins s σ H _ _ v u Q I rx ry ⟨p, r, dp_of hh _ _ _ _ ia e1, dp_of hh _ _ _ _ ib e2, shaped_of e1 (Nat.le_refl _), shaped_of e2 (Nat.le_refl _), q.fin hh rfl⟩
  · split at q
    · rename_i xs ys e1 e2
      split at q
      · rename_i hn
        obtain ⟨a, vs, rfl, a2, a3⟩ := hh.listX ia e1
        obtain ⟨b, ws, rfl, b2, b3⟩ := hh.listX ib e2
        cases (show v = Value.ref a from rx)
        cases (show u = Value.ref b from ry)
        obtain ⟨_, its, n1, p1, l1, g1⟩ := I.lstM a2
        obtain ⟨_, jts, n2, p2, l2, g2⟩ := I.lstM b2
        refine SeqAt.eq_list_lengthsAt (PySem.IsL.isList g1) (PySem.IsL.isList g2) ?_ (by omega) ⟨.bl false, H, I, rfl, q.fin hh rfl⟩
        have z1 := a3.length
        have z2 := b3.length
        have z3 := hn.2
        simp
        omega
      · exact q.elim
    · exact q.elim
theorem od_ne (hu : X.A.units + 64 < cLine) : OpD X (compareOp .NotEq) (eqD true) := by
  intro pins s σ H x y v u Q I rx ry ⟨G, ms, h, da, db, hh, ia, ib, q⟩
  unfold eqD at q
  split at q
  · rename_i p r e1 e2
    exact op_neD hu pins s σ H _ _ v u Q I rx ry ⟨p, r, dp_of hh _ _ _ _ ia e1, dp_of hh _ _ _ _ ib e2, shaped_of e1 (Nat.le_refl _), shaped_of e2 (Nat.le_refl _), q.fin hh rfl⟩
  · split at q
    · simp at q
      exact q.elim
    · exact q.elim

def flatD : D → Bool
  | .non => true
  | .bl _ => true
  | .int _ => true
  | .str _ => true
  | _ => false
def eqF : D → D → Bool
  | .non, .non => true
  | .bl a, .bl b => a == b
  | .bl a, .int b => (if a then 1 else 0) == b
  | .int a, .bl b => a == (if b then 1 else 0)
  | .int a, .int b => a == b
  | .str a, .str b => a == b
  | _, _ => false
theorem flat_of {d : D} {v : V} (i : Is K G ms d v) (f : flatD d = true) : flatV v = true := by
  cases d <;> first | (cases i; rfl) | cases f
theorem eqF_of {d e : D} {v w : V} (i : Is K G ms d v) (j : Is K G ms e w) (f : flatD d = true) (g : flatD e = true) : eqV v w = eqF d e := by
  cases d <;> first | (cases f; done) | (cases i; cases e <;> first | (cases g; done) | (cases j; rfl))
theorem anyF {x : D} {v : V} (i : Is K G ms x v) (f : flatD x = true) : ∀ {xs : List D} {vs : List V}, IsL K G ms xs vs → xs.all flatD = true → vs.all flatV = true ∧ inV v vs = xs.any fun y => eqF y x
  | [], _, h, _ => by cases h; exact ⟨rfl, rfl⟩
  | d :: xs, _, h, g => by
    obtain ⟨w, r, rfl, h2, h3⟩ := h
    simp only [List.all_cons, Bool.and_eq_true] at g
    obtain ⟨q1, q2⟩ := anyF i f h3 g.2
    refine ⟨by simp [flat_of h2 g.1, q1], ?_⟩
    show (eqV w v || inV v r) = _
    rw [List.any_cons, q2, eqF_of h2 i g.1 f]
def inD (n : Bool) : D → D → Hs → R D := fun x y h => match rowOf h y with
  | some xs => if flatD x = true ∧ xs.all flatD = true then .ok (.bl (if n = true then !(xs.any fun y => eqF y x) else xs.any fun y => eqF y x)) h else .bad
  | none => .bad
theorem od_in : OpD X (compareOp .In) (inD false) := by
  intro pins s σ H x y v u Q I rx ry ⟨G, ms, h, da, db, hh, ia, ib, q⟩
  unfold inD at q
  split at q
  · rename_i xs e
    split at q
    · rename_i hf
      obtain ⟨p, vs, rfl, h2, h3⟩ := hh.row ib e
      obtain ⟨f1, f2⟩ := anyF ia hf.1 h3 hf.2
      refine op_in_seq pins s σ H _ _ v u Q I rx ry ⟨p, vs, rfl, h2, flat_of ia hf.1, f1, ?_⟩
      rw [f2]
      exact q.fin hh rfl
    · exact q.elim
  · exact q.elim
theorem od_notin : OpD X (compareOp .NotIn) (inD true) := by
  intro pins s σ H x y v u Q I rx ry ⟨G, ms, h, da, db, hh, ia, ib, q⟩
  unfold inD at q
  split at q
  · rename_i xs e
    split at q
    · rename_i hf
      obtain ⟨p, vs, rfl, h2, h3⟩ := hh.row ib e
      obtain ⟨f1, f2⟩ := anyF ia hf.1 h3 hf.2
      refine op_notIn_seq pins s σ H _ _ v u Q I rx ry ⟨p, vs, rfl, h2, flat_of ia hf.1, f1, ?_⟩
      rw [f2]
      exact q.fin hh rfl
    · exact q.elim
  · exact q.elim

def rdC (K : PySem.W.Frag) (g : List D → Hs → R D) : List V → Hp → VK → Prop := fun xs H Q => ∃ G ms h ds, Hh K G ms h H ∧ IsL K G ms ds xs ∧ Post K (fun _ => none) (fun _ _ _ => False) G ms (Is K) (g ds h) Q
def CallD (X : Cx) (f : Value) (g : List D → Hs → R D) : Prop := CallR X f (rdC X.K g)
def calm1 (r : R D) : R D := match r with
  | .ok d h' => .ok d h'
  | _ => .bad
theorem calm1_post {r : R D} {Q : VK} (q : Post K mg E G ms (Is K) (calm1 r) Q) : Post K (fun _ => none) (fun _ _ _ => False) G ms (Is K) r Q := by
  cases r with
  | ok d h' => exact q
  | err x h' => exact q.elim
  | bad => exact q.elim
def eB (g : List D → Hs → R D) (f : FA) : FE := fun s h => (f s h).bind fun ds h1 => calm1 (g ds h1)
theorem ve_callB {id : String} {x : Str} {e : Expr} {es : List Expr} {g : List D → Hs → R D} {f : FA} {p : Pos} (hc : CallD X (.builtin id) g) (hg : Gl X x) (hm : X.mg x = none) (hv : bootBuiltins x = some (.builtin id)) (ha : VA X W pin (e :: es) f) (hn : x ≠ "__name__" := by decide) (hdb : (x == ("__debug__" : Str)) = false := by decide)
    (he : starEach (e :: es) X.env = (false, eval e X.env) :: starEach es X.env := by rfl) (hpl : (backTo pos (starEach es X.env)).any (·.1) = false := by rfl) : VE X W pin (.Call (.Name x p) (e :: es) [] pos) (eB g f) := by
  refine pe_imp (pe_callB hc hg hm hv ha hn hdb he hpl) fun σ H Q ⟨G, ms, s, h, hh, sl, q⟩ => ⟨G, ms, s, h, hh, sl, Post.bind q fun ds h1 vs H1 G1 ms1 e1 p1 hh1 i1 q1 => ?_⟩
  exact ⟨G1, ms1, h1, ds, hh1, i1, calm1_post q1⟩
theorem ve_callTy {id : String} {x : Str} {e : Expr} {es : List Expr} {g : List D → Hs → R D} {f : FA} {p : Pos} (hc : CallD X (.type id) g) (hg : Gl X x) (hm : X.mg x = none) (hv : bootBuiltins x = some (.type id)) (ha : VA X W pin (e :: es) f) (hn : x ≠ "__name__" := by decide) (hdb : (x == ("__debug__" : Str)) = false := by decide)
    (he : starEach (e :: es) X.env = (false, eval e X.env) :: starEach es X.env := by rfl) (hpl : (backTo pos (starEach es X.env)).any (·.1) = false := by rfl) : VE X W pin (.Call (.Name x p) (e :: es) [] pos) (eB g f) := by
  refine pe_imp (pe_callTy hc hg hm hv ha hn hdb he hpl) fun σ H Q ⟨G, ms, s, h, hh, sl, q⟩ => ⟨G, ms, s, h, hh, sl, Post.bind q fun ds h1 vs H1 G1 ms1 e1 p1 hh1 i1 q1 => ?_⟩
  exact ⟨G1, ms1, h1, ds, hh1, i1, calm1_post q1⟩
theorem isL1 {ds : List D} {d : D} {vs : List V} (i : IsL K G ms [d] vs) : ∃ v, vs = [v] ∧ Is K G ms d v := by
  obtain ⟨v, r, rfl, i1, i2⟩ := i
  cases i2
  exact ⟨v, rfl, i1⟩
theorem isL2 {d e : D} {vs : List V} (i : IsL K G ms [d, e] vs) : ∃ v w, vs = [v, w] ∧ Is K G ms d v ∧ Is K G ms e w := by
  obtain ⟨v, r, rfl, i1, w, r2, rfl, i2, i3⟩ := i
  cases i3
  exact ⟨v, w, rfl, i1, i2⟩
def lenD : List D → Hs → R D
  | [.str x], h => if x.length ≤ sizeLine then .ok (.int x.length) h else .bad
  | [d], h => match rowOf h d with
    | some xs => .ok (.int xs.length) h
    | none => .bad
  | _, _ => .bad
theorem cd_len : CallD X (.builtin "len") lenD := by
  intro pins s σ H xs us Q I r ⟨G, ms, h, ds, hh, i, q⟩
  unfold lenD at q
  split at q
  · obtain ⟨v, rfl, i1⟩ := isL1 (ds := []) i
    cases i1
    split at q
    · rename_i hz
      exact call_len_str pins s σ H _ us Q I r ⟨_, rfl, hz, q.fin hh rfl⟩
    · exact q.elim
  · obtain ⟨v, rfl, i1⟩ := isL1 (ds := []) i
    split at q
    · rename_i ys e
      obtain ⟨p, vs, rfl, h2, h3⟩ := hh.row i1 e
      refine call_len_seq pins s σ H _ us Q I r ⟨p, vs, rfl, h2, ?_⟩
      rw [← h3.length]
      exact q.fin hh rfl
    · exact q.elim
  · exact q.elim
/-- isinstance -/
def tyO : Option O → String
  | some (.lst _) => "list"
  | none => "NoneType"
def tyD (h : Hs) : D → String
  | .non => "NoneType"
  | .bl _ => "bool"
  | .int _ => "int"
  | .str _ => "str"
  | .tup _ => "tuple"
  | .lst _ => "list"
  | .scr _ => "list"
  | .loc n => tyO h[n]?
  | .dic _ _ => "dict"
def tysD : List String := ["NoneType", "bool", "int", "str", "tuple", "list", "dict"]
def clsD : List String := ["int", "bool", "str", "list", "tuple", "dict"]
def isSub (t n : String) : Bool := t == n || (t == "bool" && n == "int")
theorem kit_tab : ∀ t ∈ tysD, ∀ n ∈ clsD, kitB t n = some (isSub t n) := by decide +kernel
theorem tyD_mem {d : D} : tyD h d ∈ tysD := by
  cases d with
  | loc n =>
    show tyO h[n]? ∈ tysD
    cases h[n]? with
    | none => simp [tyO, tysD]
    | some o => cases o with
      | lst xs => simp [tyO, tysD]
  | _ => simp [tyD, tysD]
theorem tyX_of (hh : Hh K G ms h H) {d : D} {v : V} (i : Is K G ms d v) : TyX K H v (.type (tyD h d)) := by
  cases d with
  | non => cases i; exact .base .non
  | bl b => cases i; exact .base (.bl _)
  | int j => cases i; exact .base (.int _)
  | str x => cases i; exact .base (.str _)
  | tup xs =>
    obtain ⟨a, vs, rfl, h2, _⟩ := hh.tuple i
    rcases h2 with (h2 | ⟨o, h2⟩) | ⟨o, its, n, hk, hc, _⟩
    · exact .base (.tup h2)
    · exact .fTuple h2
    · exact .kTuple hk hc
  | lst xs =>
    obtain ⟨a, vs, rfl, h2, _⟩ := hh.listX i rfl
    exact .base (.lst h2)
  | scr xs =>
    obtain ⟨a, vs, rfl, h2, _⟩ := hh.list i rfl
    rcases h2 with (h2 | ⟨o, h2⟩) | ⟨o, its, n, hk, hc, _⟩
    · exact .base (.lst h2)
    · exact .base (.frz h2)
    · exact .kList hk hc
  | loc m =>
    obtain ⟨a, h1, rfl⟩ := i
    have hl : m < h.length := by rw [← hh.len]; exact (List.getElem?_eq_some_iff.mp h1).1
    have q := hh.obj m a h[m] h1 (List.getElem?_eq_getElem hl)
    show TyX K H (V.ref a) (.type (tyO h[m]?))
    rw [List.getElem?_eq_getElem hl]
    cases ho : h[m] with
    | lst xs =>
      rw [ho] at q
      obtain ⟨vs, h2, _⟩ := q
      exact .base (.lst h2)
  | dic ks xs =>
    obtain ⟨a, vs, rfl, h2, _⟩ := i
    exact .base (.dK (hh.sub _ _ h2))
def eIsi (ns : List String) (f : FE) : FE := fun s h => (f s h).bind fun d h1 => .ok (.bl (ns.any fun n => isSub (tyD h1 d) n)) h1
theorem kitAny_of {t : String} (ht : t ∈ tysD) : ∀ {ns : List String}, (∀ n ∈ ns, n ∈ clsD) → PySem.W.kitAny K (.type t) (ns.map Value.type) = some (ns.any fun n => isSub t n)
  | [], _ => rfl
  | n :: ns, h => by
    have e := kit_tab t ht n (h n List.mem_cons_self)
    refine kitAny_cons (kit_ty e) (fun hb => ?_) fun hb => ?_
    · rw [List.any_cons, hb, Bool.false_or]
      exact kitAny_of ht fun m hm => h m (List.mem_cons_of_mem _ hm)
    · rw [List.any_cons, hb, Bool.true_or]
theorem ve_isi {n : String} {x : Str} {e : Expr} {f : FE} {p p2 : Pos} (he : VE X W pin e f) (hg : Gl X "isinstance") (hm : X.mg "isinstance" = none) (hg2 : Gl X x) (hm2 : X.mg x = none) (hv2 : bootBuiltins x = some (.type n)) (hn : n ∈ clsD) (hnn : x ≠ "__name__" := by decide) (hd : (x == ("__debug__" : Str)) = false := by decide)
    (hs : starEach [e, .Name x p2] X.env = (false, eval e X.env) :: starEach [.Name x p2] X.env := by rfl) (hs2 : starEach [.Name x p2] X.env = (false, eval (.Name x p2) X.env) :: starEach [] X.env := by rfl)
    (hpl : (backTo pos (starEach [.Name x p2] X.env)).any (·.1) = false := by rfl) : VE X W pin (.Call (.Name "isinstance" p) [e, .Name x p2] [] pos) (eIsi [n] f) := by
  refine pe_imp (pe_callB call_isi hg hm (by decide +kernel) (pa_cons he (pa_cons (pe_bltn (v := .ty n) hg2 hm2 hv2 rfl hnn hd) pa_nil hs2) hs) (by decide) (by decide) hs hpl) fun σ H Q ⟨G, ms, s, h, hh, sl, q⟩ => ⟨G, ms, s, h, hh, sl, Post.bind q fun d h1 v H1 G1 ms1 e1 p1 hh1 i1 q1 => ?_⟩
  refine ⟨v, _, _, _, _, rfl, .ty n, tyX_of hh1 i1, kit_ty (kit_tab _ tyD_mem n hn), ?_⟩
  have := q1.fin (b := V.bl ([n].any fun n => isSub (tyD h1 d) n)) hh1 rfl
  simpa using this
theorem ve_isiT {n n' : String} {x x' : Str} {e : Expr} {f : FE} {p p2 p3 p4 : Pos} {kk : Nat} (he : VE X W pin e f) (hg : Gl X "isinstance") (hm : X.mg "isinstance" = none) (hg2 : Gl X x) (hm2 : X.mg x = none) (hv2 : bootBuiltins x = some (.type n)) (hg3 : Gl X x') (hm3 : X.mg x' = none) (hv3 : bootBuiltins x' = some (.type n')) (hn : n ∈ clsD) (hn' : n' ∈ clsD)
    (hnn : x ≠ "__name__" := by decide) (hd : (x == ("__debug__" : Str)) = false := by decide) (hnn' : x' ≠ "__name__" := by decide) (hd' : (x' == ("__debug__" : Str)) = false := by decide)
    (hs : starEach [e, .Tuple [.Name x p2, .Name x' p3] kk p4] X.env = (false, eval e X.env) :: starEach [.Tuple [.Name x p2, .Name x' p3] kk p4] X.env := by rfl) (hs2 : starEach [.Tuple [.Name x p2, .Name x' p3] kk p4] X.env = (false, eval (.Tuple [.Name x p2, .Name x' p3] kk p4) X.env) :: starEach [] X.env := by rfl)
    (hs3 : starEach [.Name x p2, .Name x' p3] X.env = (false, eval (.Name x p2) X.env) :: starEach [.Name x' p3] X.env := by rfl) (hs4 : starEach [.Name x' p3] X.env = (false, eval (.Name x' p3) X.env) :: starEach [] X.env := by rfl)
    (hpl : (backTo pos (starEach [.Tuple [.Name x p2, .Name x' p3] kk p4] X.env)).any (·.1) = false := by rfl) : VE X W pin (.Call (.Name "isinstance" p) [e, .Tuple [.Name x p2, .Name x' p3] kk p4] [] pos) (eIsi [n, n'] f) := by
  refine pe_imp (pe_callB call_isiT hg hm (by decide +kernel) (pa_cons he (pa_cons (pe_tup (pa_cons (pe_bltn (v := .ty n) hg2 hm2 hv2 rfl hnn hd) (pa_cons (pe_bltn (v := .ty n') hg3 hm3 hv3 rfl hnn' hd') pa_nil hs4) hs3)) pa_nil hs2) hs) (by decide) (by decide) hs hpl) fun σ H Q ⟨G, ms, s, h, hh, sl, q⟩ => ⟨G, ms, s, h, hh, sl, Post.bind q fun d h1 v H1 G1 ms1 e1 p1 hh1 i1 q1 => ?_⟩
  refine ⟨(by decide : 2 ≤ sizeLine), fun pp hp => ?_⟩
  have hn2 : ∀ m ∈ [n, n'], m ∈ clsD := by
    intro m hm
    rcases List.mem_cons.mp hm with rfl | hm
    · exact hn
    · rcases List.mem_cons.mp hm with rfl | hm
      · exact hn'
      · exact nomatch hm
  have hh2 := hh1.still (o := .tup [.ty n, .ty n']) hp (by decide : 2 ≤ sizeLine)
  have eg : GLe G1 (gupd G1 pp (.tup [.ty n, .ty n'])) := gle_upd (hh1.gnone hp)
  refine ⟨v, pp, [.ty n, .ty n'], _, [.type n, .type n'], _, rfl, upd_same, .cons (.ty n) (.cons (.ty n') .nil), tyX_of hh2 (Is.mono eg (pre_refl _) _ _ i1), kitAny_of tyD_mem hn2, ?_⟩
  exact q1.fin2 (b := V.bl ([n, n'].any fun n => isSub (tyD h1 d) n)) eg (pre_refl _) hh2 rfl
end
end WD
namespace WD
open PySem PySem.Spec PyProof.Rows L2
def intsOf : List D → Option (List Int)
  | [] => some []
  | .int i :: r => match intsOf r with
    | some ns => some (i :: ns)
    | none => none
  | _ => none
theorem intsOf_eq : ∀ {ds : List D} {ns : List Int}, intsOf ds = some ns → ds = ns.map D.int
  | [], ns, e => by cases e; rfl
  | d :: ds, ns, e => by
    cases d with
    | int i =>
      unfold intsOf at e
      split at e
      · rename_i ns' e'
        cases e
        rw [intsOf_eq e']; rfl
      · cases e
    | _ => simp [intsOf] at e
@[simp] theorem intsOf_map : ∀ (ns : List Int), intsOf (ns.map D.int) = some ns
  | [] => rfl
  | n :: ns => by simp [intsOf, intsOf_map ns]
def bolsOf : List D → Option (List Bool)
  | [] => some []
  | .bl i :: r => match bolsOf r with
    | some ns => some (i :: ns)
    | none => none
  | _ => none
theorem bolsOf_eq : ∀ {ds : List D} {ns : List Bool}, bolsOf ds = some ns → ds = ns.map D.bl
  | [], ns, e => by cases e; rfl
  | d :: ds, ns, e => by
    cases d with
    | bl i =>
      unfold bolsOf at e
      split at e
      · rename_i ns' e'
        cases e
        rw [bolsOf_eq e']; rfl
      · cases e
    | _ => simp [bolsOf] at e
@[simp] theorem bolsOf_map : ∀ (ns : List Bool), bolsOf (ns.map D.bl) = some ns
  | [] => rfl
  | n :: ns => by simp [bolsOf, bolsOf_map ns]
section
variable {X : Cx} {W : WX} {pin : List (Nat × V)} {K : PySem.W.Frag} {mg : Str → Option Value} {E : XK} {G G' : GG} {H : Hp} {ms ms' : List Addr} {h : Hs} {pos : Pos} {a b c : Expr} {rest : List Expr}
theorem cr_sumT (hc : X.calm = true) : CallR X (.builtin "sum") (fun vs H Q => ∃ (a : Addr) (ns : List Int), vs = [V.ref a] ∧ SqT X.K H a (ns.map V.int) ∧ Q (.int ns.sum) H) := by
  intro pins s σ H vs us Q I r h
  obtain ⟨a, ns, rfl, hs, q⟩ := h
  obtain ⟨its, rv, hl, _⟩ := I.tuple hs
  rw [Vals.ref1 r]
  have hi : IntsAre its ns := rv.ints
  obtain ⟨xs, e⟩ := hi.allInts.items
  have hn : numsOf (intItems xs).toList = ns := by rw [← e]; exact hi.numsOf
  have hl2 : s.heap.IsTuple a (intItems xs) := by rw [← e]; exact hl
  refine PySem.W.ktm_sumG (I.ok.hd hc) hl2 fun h' tk t' hk => ⟨.int _, H, I.kept hk, ⟨_, rfl⟩, ?_⟩
  rw [nums_intItems] at hn
  rw [preSum_eq, List.take_of_length_le (by simp), hn]
  exact q
def sumD : List D → Hs → R D
  | [d], h => match rowOf h d with
    | some xs => match intsOf xs with
      | some ns => .ok (.int ns.sum) h
      | none => .bad
    | none => .bad
  | _, _ => .bad
theorem cd_sum (hc : X.calm = true) : CallD X (.builtin "sum") sumD := by
  intro pins s σ H xs us Q I r ⟨G, ms, h, ds, hh, i, q⟩
  unfold sumD at q
  split at q
  · obtain ⟨v, rfl, i1⟩ := isL1 (ds := []) i
    split at q
    · rename_i ys e
      split at q
      · rename_i ns e2
        obtain ⟨p, vs, rfl, h2, h3⟩ := hh.row i1 e
        rw [intsOf_eq e2] at h3
        rw [h3.ints] at h2
        rcases h2 with h2 | h2
        · exact cr_sum hc pins s σ H _ us Q I r ⟨p, ns, rfl, h2, q.fin hh rfl⟩
        · exact cr_sumT hc pins s σ H _ us Q I r ⟨p, ns, rfl, h2, q.fin hh rfl⟩
      · exact q.elim
    · exact q.elim
  · exact q.elim
def maxL : List Int → Int
  | [] => 0
  | n :: ns => ns.foldl (fun a b => if b > a then b else a) n
def minL : List Int → Int
  | [] => 0
  | n :: ns => ns.foldl (fun a b => if b < a then b else a) n
theorem foldl_max : ∀ (ns : List Int) (n : Int), n ≤ ns.foldl (fun a b => if b > a then b else a) n ∧ (∀ m ∈ ns, m ≤ ns.foldl (fun a b => if b > a then b else a) n) ∧ (ns.foldl (fun a b => if b > a then b else a) n = n ∨ ns.foldl (fun a b => if b > a then b else a) n ∈ ns)
  | [], n => ⟨Int.le_refl _, fun _ h => (nomatch h), .inl rfl⟩
  | m :: ns, n => by
    obtain ⟨h1, h2, h3⟩ := foldl_max ns (if m > n then m else n)
    rw [List.foldl_cons]
    refine ⟨?_, fun k hk => ?_, ?_⟩
    · refine Int.le_trans ?_ h1; split <;> omega
    · rcases List.mem_cons.mp hk with rfl | hk
      · refine Int.le_trans ?_ h1; split <;> omega
      · exact h2 k hk
    · rcases h3 with h3 | h3
      · rw [h3]
        split
        · exact .inr List.mem_cons_self
        · exact .inl rfl
      · exact .inr (List.mem_cons_of_mem _ h3)
theorem foldl_min : ∀ (ns : List Int) (n : Int), ns.foldl (fun a b => if b < a then b else a) n ≤ n ∧ (∀ m ∈ ns, ns.foldl (fun a b => if b < a then b else a) n ≤ m) ∧ (ns.foldl (fun a b => if b < a then b else a) n = n ∨ ns.foldl (fun a b => if b < a then b else a) n ∈ ns)
  | [], n => ⟨Int.le_refl _, fun _ h => (nomatch h), .inl rfl⟩
  | m :: ns, n => by
    obtain ⟨h1, h2, h3⟩ := foldl_min ns (if m < n then m else n)
    rw [List.foldl_cons]
    refine ⟨?_, fun k hk => ?_, ?_⟩
    · refine Int.le_trans h1 ?_; split <;> omega
    · rcases List.mem_cons.mp hk with rfl | hk
      · refine Int.le_trans h1 ?_; split <;> omega
      · exact h2 k hk
    · rcases h3 with h3 | h3
      · rw [h3]
        split
        · exact .inr List.mem_cons_self
        · exact .inl rfl
      · exact .inr (List.mem_cons_of_mem _ h3)
theorem maxL_is {ns : List Int} {m : Int} (hm : m ∈ ns) (hl : ∀ y ∈ ns, y ≤ m) : m = maxL ns := by
  cases ns with
  | nil => cases hm
  | cons n ns =>
    obtain ⟨h1, h2, h3⟩ := foldl_max ns n
    have hu : maxL (n :: ns) ≤ m := by
      rcases h3 with h3 | h3
      · show ns.foldl _ n ≤ m; rw [h3]; exact hl n List.mem_cons_self
      · exact hl _ (List.mem_cons_of_mem _ h3)
    have hd : m ≤ maxL (n :: ns) := by
      rcases List.mem_cons.mp hm with rfl | hm
      · exact h1
      · exact h2 m hm
    omega
theorem minL_is {ns : List Int} {m : Int} (hm : m ∈ ns) (hl : ∀ y ∈ ns, m ≤ y) : m = minL ns := by
  cases ns with
  | nil => cases hm
  | cons n ns =>
    obtain ⟨h1, h2, h3⟩ := foldl_min ns n
    have hu : m ≤ minL (n :: ns) := by
      rcases h3 with h3 | h3
      · show m ≤ ns.foldl _ n; rw [h3]; exact hl n List.mem_cons_self
      · exact hl _ (List.mem_cons_of_mem _ h3)
    have hd : minL (n :: ns) ≤ m := by
      rcases List.mem_cons.mp hm with rfl | hm
      · exact h1
      · exact h2 m hm
    omega
def maxD : List D → Hs → R D
  | [.int i, .int j], h => .ok (.int (if j > i then j else i)) h
  | [d], h => match rowOf h d with
    | some xs => match intsOf xs with
      | some ns => if 0 < ns.length then .ok (.int (maxL ns)) h else .bad
      | none => .bad
    | none => .bad
  | _, _ => .bad
def minD : List D → Hs → R D
  | [.int i, .int j], h => .ok (.int (if j < i then j else i)) h
  | [d], h => match rowOf h d with
    | some xs => match intsOf xs with
      | some ns => if 0 < ns.length then .ok (.int (minL ns)) h else .bad
      | none => .bad
    | none => .bad
  | _, _ => .bad
def rMaxT (K : PySem.W.Frag) (lt : Int → Int → Prop) : List V → Hp → VK → Prop := fun vs H Q => ∃ (a : Addr) (ns : List Int), vs = [V.ref a] ∧ SqT K H a (ns.map V.int) ∧ 0 < ns.length ∧ ∀ m, m ∈ ns → (∀ y, y ∈ ns → lt y m) → Q (.int m) H
theorem iter_tupI {prog : Program} {w : World} {A : Around} {E : Value → Shared → Prop} {s : Shared} {t : Addr} {its : Array Value} {Q : Value → Shared → Prop} (ht : s.heap.IsTuple t its)
    (h : ∀ s2 : Shared, s2 = { s with heap := s.heap.push { cls := .type "tuple_iterator", data := .fields #[.ref t, .int 0 0] } } → (s2.heap.IsTupleIter s.heap.objs.size t 0 ∧ s2.heap.IsTuple t its) → (∀ b ∈ [s.heap.objs.size, t], b < s2.heap.objs.size) → t ≠ s.heap.objs.size → Q (.ref s.heap.objs.size) s2) :
    wpAny (model prog w) A (pyIter (.ref t)) Q E s := by
  have hlt : t < s.heap.objs.size := by obtain ⟨_, e, _⟩ := ht; exact Heap.lt_size e
  refine wpAny_pyIter_tuple ht (h _ rfl ⟨⟨_, Heap.get?_push_size _ rfl, rfl, rfl⟩, ht.at fun o e => Heap.get?_push_of_some _ e⟩ (fun b hb => ?_) (Nat.ne_of_lt hlt))
  show b < (s.heap.push _).objs.size
  rw [Heap.size_push]
  rcases (show b = s.heap.objs.size ∨ b = t by simpa using hb) with rfl | rfl
  · exact Nat.lt_succ_self _
  · exact Nat.lt_succ_of_lt hlt
theorem cr_maxT (hc : X.calm = true) : CallR X (.builtin "max") (rMaxT X.K fun y m => y ≤ m) := by
  intro pins s σ H vs us Q I r h
  obtain ⟨a, ns, rfl, hs, hne, q⟩ := h
  obtain ⟨its, rv, hl, _⟩ := I.tuple hs
  rw [Vals.ref1 r]
  obtain ⟨xs, e⟩ := rv.ints.allInts.items
  have hn : numsOf (intItems xs).toList = ns := by rw [← e]; exact rv.ints.numsOf
  rw [nums_intItems] at hn
  subst hn
  rw [e] at hl
  have hsz : 0 < xs.size := by simpa using hne
  refine call_max_walk (iter_tupI hl fun s2 e2 st hfp hne2 => ?_)
  subst e2
  refine ⟨_, _, _, _, _, _, _, rfl, Walks.tuple (A := X.A.in1) (I.ok.hd hc) _ a hne2 (intItems xs), st, hfp, by simpa [intItems] using hsz, CmpOf.ints_gt (numAt xs) (fun _ _ => intItems_at), fun v h' tk hP hk => ?_⟩
  obtain ⟨t, rfl⟩ := intItems_at hP
  obtain ⟨h1, h2⟩ := argBest_gt (numAt xs) (xs.size - 1)
  have hz : (intItems xs).size = xs.size := by simp [intItems]
  rw [hz] at hP ⊢
  refine ⟨.int _, H, I.kept (t' := tk) fun b o e => hk b o (fun z => absurd (Heap.lt_size e) (by rw [List.mem_singleton.mp z]; exact Nat.lt_irrefl _)) (Heap.get?_push_of_some _ e), ⟨_, rfl⟩, q _ ?_ fun y hy => ?_⟩
  · rw [numAt_eq]; exact PySem.getD_mem (by rw [List.length_map, Array.length_toList]; omega)
  · obtain ⟨j, hj, rfl⟩ := mem_getD hy
    rw [List.length_map, Array.length_toList] at hj
    rw [← numAt_eq]; exact h2 j (by omega)
theorem cr_minT (hc : X.calm = true) : CallR X (.builtin "min") (rMaxT X.K fun y m => m ≤ y) := by
  intro pins s σ H vs us Q I r h
  obtain ⟨a, ns, rfl, hs, hne, q⟩ := h
  obtain ⟨its, rv, hl, _⟩ := I.tuple hs
  rw [Vals.ref1 r]
  obtain ⟨xs, e⟩ := rv.ints.allInts.items
  have hn : numsOf (intItems xs).toList = ns := by rw [← e]; exact rv.ints.numsOf
  rw [nums_intItems] at hn
  subst hn
  rw [e] at hl
  have hsz : 0 < xs.size := by simpa using hne
  refine call_min_walk (iter_tupI hl fun s2 e2 st hfp hne2 => ?_)
  subst e2
  refine ⟨_, _, _, _, _, _, _, rfl, Walks.tuple (A := X.A.in1) (I.ok.hd hc) _ a hne2 (intItems xs), st, hfp, by simpa [intItems] using hsz, CmpOf.ints_lt (numAt xs) (fun _ _ => intItems_at), fun v h' tk hP hk => ?_⟩
  obtain ⟨t, rfl⟩ := intItems_at hP
  obtain ⟨h1, h2⟩ := argBest_lt (numAt xs) (xs.size - 1)
  have hz : (intItems xs).size = xs.size := by simp [intItems]
  rw [hz] at hP ⊢
  refine ⟨.int _, H, I.kept (t' := tk) fun b o e => hk b o (fun z => absurd (Heap.lt_size e) (by rw [List.mem_singleton.mp z]; exact Nat.lt_irrefl _)) (Heap.get?_push_of_some _ e), ⟨_, rfl⟩, q _ ?_ fun y hy => ?_⟩
  · rw [numAt_eq]; exact PySem.getD_mem (by rw [List.length_map, Array.length_toList]; omega)
  · obtain ⟨j, hj, rfl⟩ := mem_getD hy
    rw [List.length_map, Array.length_toList] at hj
    rw [← numAt_eq]; exact h2 j (by omega)
theorem cd_max (hc : X.calm = true) : CallD X (.builtin "max") maxD := by
  intro pins s σ H xs us Q I r ⟨G, ms, h, ds, hh, i, q⟩
  unfold maxD at q
  split at q
  · obtain ⟨v, w, rfl, i1, i2⟩ := isL2 i
    cases i1; cases i2
    exact call_max2 hc pins s σ H _ us Q I r ⟨_, _, rfl, q.fin hh rfl⟩
  · obtain ⟨v, rfl, i1⟩ := isL1 (ds := []) i
    split at q
    · rename_i ys e
      split at q
      · rename_i ns e2
        split at q
        · rename_i hl
          obtain ⟨p, vs, rfl, h2, h3⟩ := hh.row i1 e
          rw [intsOf_eq e2] at h3
          rw [h3.ints] at h2
          rcases h2 with h2 | h2
          · exact cr_max hc pins s σ H _ us Q I r ⟨p, ns, rfl, h2, hl, fun m h1 h2 => by rw [maxL_is h1 h2]; exact q.fin hh rfl⟩
          · exact cr_maxT hc pins s σ H _ us Q I r ⟨p, ns, rfl, h2, hl, fun m h1 h2 => by rw [maxL_is h1 h2]; exact q.fin hh rfl⟩
        · exact q.elim
      · exact q.elim
    · exact q.elim
  · exact q.elim
theorem cd_min (hc : X.calm = true) : CallD X (.builtin "min") minD := by
  intro pins s σ H xs us Q I r ⟨G, ms, h, ds, hh, i, q⟩
  unfold minD at q
  split at q
  · obtain ⟨v, w, rfl, i1, i2⟩ := isL2 i
    cases i1; cases i2
    exact call_min2 hc pins s σ H _ us Q I r ⟨_, _, rfl, q.fin hh rfl⟩
  · obtain ⟨v, rfl, i1⟩ := isL1 (ds := []) i
    split at q
    · rename_i ys e
      split at q
      · rename_i ns e2
        split at q
        · rename_i hl
          obtain ⟨p, vs, rfl, h2, h3⟩ := hh.row i1 e
          rw [intsOf_eq e2] at h3
          rw [h3.ints] at h2
          rcases h2 with h2 | h2
          · exact cr_min hc pins s σ H _ us Q I r ⟨p, ns, rfl, h2, hl, fun m h1 h2 => by rw [minL_is h1 h2]; exact q.fin hh rfl⟩
          · exact cr_minT hc pins s σ H _ us Q I r ⟨p, ns, rfl, h2, hl, fun m h1 h2 => by rw [minL_is h1 h2]; exact q.fin hh rfl⟩
        · exact q.elim
      · exact q.elim
    · exact q.elim
  · exact q.elim
def allD (any : Bool) : List D → Hs → R D
  | [d], h => match lstOf h d with
    | some xs => match bolsOf xs with
      | some ns => .ok (.bl (if any = true then ns.any id else ns.all id)) h
      | none => .bad
    | none => .bad
  | _, _ => .bad
theorem cd_all (hc : X.calm = true) : CallD X (.builtin "all") (allD false) := by
  intro pins s σ H xs us Q I r ⟨G, ms, h, ds, hh, i, q⟩
  unfold allD at q
  split at q
  · obtain ⟨v, rfl, i1⟩ := isL1 (ds := []) i
    split at q
    · rename_i ys e
      split at q
      · rename_i ns e2
        obtain ⟨p, vs, rfl, h2, h3⟩ := hh.list i1 e
        rw [bolsOf_eq e2] at h3
        rw [h3.bls] at h2
        exact cr_all hc pins s σ H _ us Q I r ⟨p, ns, rfl, h2, q.fin hh rfl⟩
      · exact q.elim
    · exact q.elim
  · exact q.elim
theorem cd_any (hc : X.calm = true) : CallD X (.builtin "any") (allD true) := by
  intro pins s σ H xs us Q I r ⟨G, ms, h, ds, hh, i, q⟩
  unfold allD at q
  split at q
  · obtain ⟨v, rfl, i1⟩ := isL1 (ds := []) i
    split at q
    · rename_i ys e
      split at q
      · rename_i ns e2
        obtain ⟨p, vs, rfl, h2, h3⟩ := hh.list i1 e
        rw [bolsOf_eq e2] at h3
        rw [h3.bls] at h2
        exact cr_any hc pins s σ H _ us Q I r ⟨p, ns, rfl, h2, q.fin hh rfl⟩
      · exact q.elim
    · exact q.elim
  · exact q.elim
def intD : List D → Hs → R D
  | [.int i], h => .ok (.int i) h
  | [.bl k], h => .ok (.int (if k = true then 1 else 0)) h
  | _, _ => .bad
theorem cd_int : CallD X (.type "int") intD := by
  intro pins s σ H xs us Q I r ⟨G, ms, h, ds, hh, i, q⟩
  unfold intD at q
  split at q
  · obtain ⟨v, rfl, i1⟩ := isL1 (ds := []) i
    cases i1
    exact call_int1 pins s σ H _ us Q I r (.inl ⟨_, rfl, q.fin hh rfl⟩)
  · obtain ⟨v, rfl, i1⟩ := isL1 (ds := []) i
    cases i1
    exact call_int1 pins s σ H _ us Q I r (.inr ⟨_, rfl, q.fin hh rfl⟩)
  · exact q.elim
def listD (m : Bool) : List D → Hs → R D
  | [d], h => match rowOf h d with
    | some xs => newL m xs h
    | none => .bad
  | _, _ => .bad
theorem cd_list (m : Bool) : CallD X (.type "list") (listD m) := by
  intro pins s σ H xs us Q I r ⟨G, ms, h, ds, hh, i, q⟩
  unfold listD at q
  split at q
  · obtain ⟨v, rfl, i1⟩ := isL1 (ds := []) i
    split at q
    · rename_i ys e
      obtain ⟨p, vs, rfl, h2, h3⟩ := hh.row i1 e
      exact call_list_of pins s σ H _ us Q I r ⟨p, vs, rfl, h2, fun l hl => q.newL hh h3 (hh.rowz i1 e) hl⟩
    · exact q.elim
  · exact q.elim
def tupleD : List D → Hs → R D
  | [d], h => match rowOf h d with
    | some xs => .ok (.tup xs) h
    | none => .bad
  | _, _ => .bad
theorem cd_tuple : CallD X (.type "tuple") tupleD := by
  intro pins s σ H xs us Q I r ⟨G, ms, h, ds, hh, i, q⟩
  unfold tupleD at q
  split at q
  · rename_i d
    obtain ⟨v, rfl, i1⟩ := isL1 (ds := []) i
    split at q
    · rename_i ys e
      have lists : ∀ p vs, v = V.ref p → SqL X.K H p vs → IsL X.K G ms ys vs → wpAny (model X.prog X.w) X.A (call (.type "tuple") us) (EP X pins σ Q) X.xe s := fun p vs e1 h2 h3 => by
        subst e1
        exact call_tuple_of pins s σ H _ us Q I r ⟨p, vs, rfl, .inl ⟨h2, fun l hl => q.newT hh h3 (hh.rowz i1 e) hl⟩⟩
      cases d with
      | tup zs =>
        cases e
        obtain ⟨p, vs, rfl, h2, h3⟩ := hh.tuple i1
        exact call_tuple_of pins s σ H _ us Q I r ⟨p, vs, rfl, .inr ⟨h2, q.fin hh i1⟩⟩
      | _ =>
        obtain ⟨p, vs, e1, h2, h3⟩ := hh.list i1 e
        exact lists p vs e1 h2 h3
    · exact q.elim
  · exact q.elim
end
end WD
namespace WD
open PySem PySem.Spec PyProof.Rows L2
section
variable {X : Cx} {W : WX} {pin : List (Nat × V)} {K : PySem.W.Frag} {mg : Str → Option Value} {E : XK} {G G' : GG} {H : Hp} {ms ms' : List Addr} {h : Hs} {pos : Pos} {a b c : Expr} {rest : List Expr}
def rdM (K : PySem.W.Frag) (g : D → List D → Hs → R D) : V → List V → Hp → VK → Prop := fun x xs H Q => ∃ G ms h d ds, Hh K G ms h H ∧ Is K G ms d x ∧ IsL K G ms ds xs ∧ Post K (fun _ => none) (fun _ _ _ => False) G ms (Is K) (g d ds h) Q
def MtD (X : Cx) (id : String) (g : D → List D → Hs → R D) : Prop := MtR X id (rdM X.K g)
/-- o.m(..), o a list -/
def eML (g : D → List D → Hs → R D) (fo : FE) (fa : FA) : FE := fun s h => (fo s h).bind fun d h1 => match lstOf h1 d with
  | some _ => (fa s h1).bind fun ds h2 => calm1 (g d ds h2)
  | none => .bad
theorem ve_ml {o e : Expr} {es : List Expr} {name : Str} {apos cpos : Pos} {id : String} {g : D → List D → Hs → R D} {fo : FE} {fa : FA} (slot : Slot "list" name id) (hty : typeOf (.builtin id) = pure (.type "method_descriptor")) (hm : MtD X id g) (ho : VE X W pin o fo) (ha : VA X W pin (e :: es) fa)
    (hbase : attributeBase o name X.env (eval o X.env) = eval o X.env := by rfl)
    (hfew : ((backTo cpos (starEach (e :: es) X.env)).all (fun x => !x.1) && (backToKw cpos (keywordEach [] X.env)).all (fun x => x.1.isSome)
      && decide ((e :: es).length + ([] : List Keyword).length + (if ([] : List Keyword).isEmpty then 0 else 1) < 30)) = true := by rfl)
    (hline : (apos.endLine == cpos.line) = true := by rfl) (hs : starEach (e :: es) X.env = (false, eval e X.env) :: starEach es X.env := by rfl) (hplain : (backTo cpos (starEach es X.env)).any (·.1) = false := by rfl) :
    VE X W pin (.Call (.Attribute o name apos) (e :: es) [] cpos) (eML g fo fa) := by
  refine pe_imp (pe_bm PySem.F.plainAttrs_list slot hty hm ho ha hbase hfew hline hs hplain) fun σ H Q ⟨G, ms, s, h, hh, sl, q⟩ => ⟨G, ms, s, h, hh, sl, Post.bind q fun d h1 v H1 G1 ms1 e1 p1 hh1 i1 q1 => ?_⟩
  split at q1
  · rename_i xs hx
    obtain ⟨p, vs, rfl, h2, h3⟩ := hh1.list i1 hx
    refine ⟨.inl ⟨rfl, vs, h2⟩, G1, ms1, s, h1, hh1, sl.mono e1 p1, Post.bind q1 fun ds h2 ws H2 G2 ms2 e2 p2 hh2 i2 q2 => ?_⟩
    exact ⟨G2, ms2, h2, d, ds, hh2, Is.mono e2 p2 _ _ i1, i2, calm1_post q2⟩
  · exact q1.elim
theorem ve_ml0 {o : Expr} {name : Str} {apos cpos : Pos} {id : String} {g : D → List D → Hs → R D} {fo : FE} (slot : Slot "list" name id) (hty : typeOf (.builtin id) = pure (.type "method_descriptor")) (hm : MtD X id g) (ho : VE X W pin o fo)
    (hbase : attributeBase o name X.env (eval o X.env) = eval o X.env := by rfl) (hline : (apos.endLine == cpos.line) = true := by rfl) :
    VE X W pin (.Call (.Attribute o name apos) [] [] cpos) (eML g fo aNil) := by
  refine pe_imp (pe_bm0 PySem.F.plainAttrs_list slot hty hm ho hbase hline) fun σ H Q ⟨G, ms, s, h, hh, sl, q⟩ => ⟨G, ms, s, h, hh, sl, Post.bind q fun d h1 v H1 G1 ms1 e1 p1 hh1 i1 q1 => ?_⟩
  split at q1
  · rename_i xs hx
    obtain ⟨p, vs, rfl, h2, h3⟩ := hh1.list i1 hx
    exact ⟨.inl ⟨rfl, vs, h2⟩, G1, ms1, h1, d, [], hh1, i1, rfl, calm1_post q1⟩
  · exact q1.elim
/-- a list that may be changed is read, and changed -/
theorem Hh.locW (hh : Hh K G ms h H) {n : Nat} {v : V} {xs : List D} (i : Is K G ms (.loc n) v) (e : locAt h n = some xs) : ∃ a vs, v = .ref a ∧ ms[n]? = some a ∧ H a = some (.lst vs) ∧ IsL K G ms xs vs := by
  obtain ⟨a, h1, h2⟩ := i
  obtain ⟨a', vs, q1, q2, q3⟩ := hh.at (locAt_some e)
  rw [h1] at q1; cases q1
  exact ⟨a, vs, h2, h1, q2, q3⟩
theorem Post.wrote {n : Nat} {d : D} {v : V} {p : Addr} {xs : List D} {vs : List V} {Q : VK} (q : Post K mg E G ms (Is K) (.ok d (h.set n (.lst xs))) Q) (hh : Hh K G ms h H) (e : ms[n]? = some p) (hx : IsL K G ms xs vs) (hz : xs.length ≤ sizeLine) (i : Is K G ms d v) : Q v (upd H p (.lst vs)) :=
  q.fin (hh.write e hx hz) i
def appendD : D → List D → Hs → R D
  | .loc n, [d], h => match locAt h n with
    | some xs => if xs.length < sizeLine then .ok .non (h.set n (.lst (xs ++ [d]))) else .bad
    | none => .bad
  | _, _, _ => .bad
theorem md_append : MtD X "list.append" appendD := by
  intro pins s σ H x xs v us Q I rx rs ⟨G, ms, h, d, ds, hh, i, il, q⟩
  unfold appendD at q
  split at q
  · obtain ⟨w, rfl, i1⟩ := isL1 (ds := []) il
    split at q
    · rename_i ys e
      split at q
      · rename_i hz
        obtain ⟨p, vs, rfl, h1, h2, h3⟩ := hh.locW i e
        exact mt_append pins s σ H _ _ v us Q I rx rs ⟨p, vs, w, rfl, rfl, h2, by rw [← h3.length]; exact hz, q.wrote hh h1 (h3.append (.one i1)) (by rw [List.length_append]; exact hz) rfl⟩
      · exact q.elim
    · exact q.elim
  · exact q.elim
def popD : D → List D → Hs → R D
  | .loc n, [], h => match locAt h n with
    | some xs => match xs.getLast? with
      | some d => .ok d (h.set n (.lst xs.dropLast))
      | none => .bad
    | none => .bad
  | _, _, _ => .bad
theorem md_pop : MtD X "list.pop" popD := by
  intro pins s σ H x xs v us Q I rx rs ⟨G, ms, h, d, ds, hh, i, il, q⟩
  unfold popD at q
  split at q
  · cases il
    split at q
    · rename_i ys e
      split at q
      · rename_i d e2
        obtain ⟨p, vs, rfl, h1, h2, h3⟩ := hh.locW i e
        rw [List.getLast?_eq_getElem?] at e2
        obtain ⟨w, k1, k2⟩ := h3.get e2
        exact mt_pop pins s σ H _ _ v us Q I rx rs ⟨p, vs, w, rfl, rfl, h2, by rw [← h3.length]; exact k1, q.wrote hh h1 h3.dropLast (by rw [List.length_dropLast]; exact Nat.le_trans (Nat.sub_le _ _) (hh.atz (locAt_some e))) k2⟩
      · exact q.elim
    · exact q.elim
  · exact q.elim
def reverseD : D → List D → Hs → R D
  | .loc n, [], h => match locAt h n with
    | some xs => .ok .non (h.set n (.lst xs.reverse))
    | none => .bad
  | _, _, _ => .bad
theorem md_reverse : MtD X "list.reverse" reverseD := by
  intro pins s σ H x xs v us Q I rx rs ⟨G, ms, h, d, ds, hh, i, il, q⟩
  unfold reverseD at q
  split at q
  · cases il
    split at q
    · rename_i ys e
      obtain ⟨p, vs, rfl, h1, h2, h3⟩ := hh.locW i e
      exact mt_reverse pins s σ H _ _ v us Q I rx rs ⟨p, vs, rfl, rfl, h2, q.wrote hh h1 h3.rev (by rw [List.length_reverse]; exact hh.atz (locAt_some e)) rfl⟩
    · exact q.elim
  · exact q.elim
def clearD : D → List D → Hs → R D
  | .loc n, [], h => match locAt h n with
    | some _ => .ok .non (h.set n (.lst []))
    | none => .bad
  | _, _, _ => .bad
theorem md_clear : MtD X "list.clear" clearD := by
  intro pins s σ H x xs v us Q I rx rs ⟨G, ms, h, d, ds, hh, i, il, q⟩
  unfold clearD at q
  split at q
  · cases il
    split at q
    · rename_i ys e
      obtain ⟨p, vs, rfl, h1, h2, h3⟩ := hh.locW i e
      exact mt_clear pins s σ H _ _ v us Q I rx rs ⟨p, vs, rfl, rfl, h2, Post.wrote (vs := ([] : List V)) q hh h1 rfl (Nat.zero_le _) rfl⟩
    · exact q.elim
  · exact q.elim
def extendD : D → List D → Hs → R D
  | .loc n, [d], h => match locAt h n, lstX h d with
    | some xs, some ys => if xs.length + ys.length ≤ sizeLine then .ok .non (h.set n (.lst (xs ++ ys))) else .bad
    | _, _ => .bad
  | _, _, _ => .bad
theorem md_extend : MtD X "list.extend" extendD := by
  intro pins s σ H x xs v us Q I rx rs ⟨G, ms, h, d, ds, hh, i, il, q⟩
  unfold extendD at q
  split at q
  · obtain ⟨w, rfl, i1⟩ := isL1 (ds := []) il
    split at q
    · rename_i ys zs e e2
      split at q
      · rename_i hz
        obtain ⟨p, vs, rfl, h1, h2, h3⟩ := hh.locW i e
        obtain ⟨p2, ws, rfl, k2, k3⟩ := hh.listX i1 e2
        exact mt_extend pins s σ H _ _ v us Q I rx rs ⟨p, p2, vs, ws, rfl, rfl, h2, k2, by rw [← h3.length, ← k3.length]; exact hz, q.wrote hh h1 (h3.append k3) (by rw [List.length_append]; exact hz) rfl⟩
      · exact q.elim
    · exact q.elim
  · exact q.elim

def ixD : D → D → Hs → R D
  | .str x, .int i, h => if x.length ≤ sizeLine then (match atI x.cps.toList i with
    | some c => .ok (.str ⟨#[c]⟩) h
    | none => .bad) else .bad
  | d, .int i, h => match rowOf h d with
    | some xs => match atI xs i with
      | some e => .ok e h
      | none => .bad
    | none => .bad
  | _, _, _ => .bad
theorem atI_is {xs : List D} {vs : List V} {i : Int} {d : D} (il : IsL K G ms xs vs) (e : atI xs i = some d) : ∃ v, atI vs i = some v ∧ Is K G ms d v := by
  unfold atI at e
  cases q : ixN xs.length i with
  | none => rw [q] at e; cases e
  | some j =>
    rw [q] at e
    obtain ⟨v, h1, h2⟩ := il.get (show xs[j]? = some d from e)
    refine ⟨v, ?_, h2⟩
    unfold atI
    rw [← il.length, q]
    exact h1
theorem id_ix : IxR X (rd2 X.K ixD) := by
  intro value slice pins s σ H x y v u Q I rx ry ⟨G, ms, h, da, db, hh, ia, ib, q⟩ hs
  unfold ixD at q
  split at q
  · cases ia; cases ib
    split at q
    · rename_i hz
      split at q
      · rename_i c e
        exact ix_seq value slice pins s σ H _ _ v u Q I rx ry (.inr (.inr ⟨_, _, _, rfl, rfl, hz, e, q.fin hh rfl⟩)) hs
      · exact q.elim
    · exact q.elim
  · cases ib
    split at q
    · rename_i xs e
      split at q
      · rename_i d e2
        obtain ⟨p, vs, rfl, h2, h3⟩ := hh.row ia e
        obtain ⟨w, k1, k2⟩ := atI_is h3 e2
        rcases h2 with h2 | h2
        · exact ix_seq value slice pins s σ H _ _ v u Q I rx ry (.inl ⟨p, vs, _, w, rfl, rfl, h2, k1, q.fin hh k2⟩) hs
        · exact ix_seq value slice pins s σ H _ _ v u Q I rx ry (.inr (.inl ⟨p, vs, _, w, rfl, rfl, h2, k1, q.fin hh k2⟩)) hs
      · exact q.elim
    · exact q.elim
  · exact q.elim
theorem ve_ix {fa fb : FE} (ha : VE X W pin a fa) (hb : VE X W pin b fb) (hs : PlainIx b := by exact fun _ _ => rfl) : VE X W pin (.Subscript a b pos) (eBin ixD fa fb) :=
  pe_imp (pe_ix id_ix ha hb hs) fun _ _ _ h => op_read h
def cutD (xs : List D) (lo hi : Option Int) : List D := (xs.drop (HT.sIx xs.length 0 lo)).take (HT.sIx xs.length xs.length hi - HT.sIx xs.length 0 lo)
theorem cut_is {xs : List D} {vs : List V} {lo hi : Option Int} (i : IsL K G ms xs vs) : IsL K G ms (cutD xs lo hi) (cutV vs lo hi) := by
  unfold cutD cutV
  rw [i.length]
  exact (i.drop _).take _
theorem cut_len (xs : List D) (lo hi : Option Int) : (cutD xs lo hi).length ≤ xs.length := by
  unfold cutD
  rw [List.length_take, List.length_drop]
  omega
theorem row_of_lst {d : D} {xs : List D} (e : lstOf h d = some xs) : rowOf h d = some xs := by
  cases d <;> first | exact e | cases e
def FO : Type := Ss → Hs → R (Option Int)
def oNone : FO := fun _ h => .ok none h
def oSome (f : FE) : FO := fun s h => (f s h).bind fun d h1 => match d with
  | .int i => .ok (some i) h1
  | _ => .bad
def rdO (X : Cx) (W : WX) (pin : List (Nat × V)) (f : FO) : TO := fun σ H Q => ∃ G ms s h, Hh X.K G ms h H ∧ Sl X.K G ms pin s σ ∧ Post X.K X.mg (fun c d H => W c d σ H) G ms (fun _ _ (a b : Option Int) => a = b) (f s h) Q
theorem po_imp {e : Option Expr} {t t' : TO} (h : PO X e t) (q : ∀ σ H Q, t' σ H Q → t σ H Q) : PO X e t' := ⟨fun pins s σ H Q I w => h.run pins s σ H Q I (q _ _ _ w)⟩
abbrev VO (X : Cx) (W : WX) (pin : List (Nat × V)) (e : Option Expr) (f : FO) : Prop := PO X e (rdO X W pin f)
theorem vo_none : VO X W pin none oNone := po_imp po_none fun σ H Q ⟨G, ms, s, h, hh, sl, q⟩ => Post.fin (b := (none : Option Int)) q hh rfl
theorem vo_some {e : Expr} {f : FE} (h : VE X W pin e f) : VO X W pin (some e) (oSome f) := by
  refine po_imp (po_some h) fun σ H Q ⟨G, ms, s, h, hh, sl, q⟩ => ⟨G, ms, s, h, hh, sl, Post.bind q fun d h1 v H1 G1 ms1 e1 p1 hh1 i1 q1 => ?_⟩
  cases d with
  | int i => cases i1; exact ⟨i, rfl, q1.fin hh1 rfl⟩
  | _ => exact q1.elim
def slD (m : Bool) (d : D) (lo hi : Option Int) (h : Hs) : R D := match d with
  | .tup xs => .ok (.tup (cutD xs lo hi)) h
  | d => match lstOf h d with
    | some xs => newL m (cutD xs lo hi) h
    | none => .bad
def eSl (m : Bool) (f : FE) (fl fh : FO) : FE := fun s h => (f s h).bind fun d h1 => (fl s h1).bind fun lo h2 => (fh s h2).bind fun hi h3 => slD m d lo hi h3
theorem whole_cut {xs : List D} {lo hi : Option Int} (h : HT.sIx xs.length 0 lo = 0 ∧ HT.sIx xs.length xs.length hi = xs.length) : cutD xs lo hi = xs := by
  unfold cutD
  rw [h.1, h.2, List.drop_zero, Nat.sub_zero, List.take_length]
theorem ve_slice (m : Bool) {e : Expr} {lo hi : Option Expr} {f : FE} {fl fh : FO} {p2 : Pos} (he : VE X W pin e f) (hl : VO X W pin lo fl) (hu : VO X W pin hi fh) : VE X W pin (.Subscript e (.Slice lo hi none p2) pos) (eSl m f fl fh) := by
  refine pe_imp (pe_slice (sl_list.or sl_tupA) he hl hu) fun σ H Q ⟨G, ms, s, h, hh, sl, q⟩ => ⟨G, ms, s, h, hh, sl, Post.bind q fun d h1 v H1 G1 ms1 e1 p1 hh1 i1 q1 => ?_⟩
  refine ⟨G1, ms1, s, h1, hh1, sl.mono e1 p1, Post.bind q1 fun l h2 l' H2 G2 ms2 e2 p2 hh2 i2 q2 => ?_⟩
  subst i2
  refine ⟨G2, ms2, s, h2, hh2, (sl.mono e1 p1).mono e2 p2, Post.bind q2 fun u h3 u' H3 G3 ms3 e3 p3 hh3 i3 q3 => ?_⟩
  subst i3
  have i4 := Is.mono (e2.trans e3) (pre_trans p2 p3) _ _ i1
  unfold slD at q3
  split at q3
  · rename_i xs
    obtain ⟨p, vs, rfl, k2, k3⟩ := hh3.tuple i4
    refine .inr ⟨p, vs, rfl, k2, fun hw => ?_, fun _ p hp => q3.newT hh3 (cut_is k3) (Nat.le_trans (cut_len _ _ _) (hh3.rowz i4 rfl)) hp⟩
    rw [← k3.length] at hw
    rw [whole_cut hw] at q3
    exact q3.fin hh3 i4
  · split at q3
    · rename_i xs hx
      obtain ⟨p, vs, rfl, k2, k3⟩ := hh3.list i4 hx
      exact .inl ⟨p, vs, rfl, k2, fun p hp => q3.newL hh3 (cut_is k3) (Nat.le_trans (cut_len _ _ _) (hh3.rowz i4 (row_of_lst hx))) hp⟩
    · exact q3.elim
def setD (o i v : D) (h : Hs) : Option Hs := match o, i with
  | .loc n, .int k => match locAt h n with
    | some xs => match ixN xs.length k with
      | some j => some (h.set n (.lst (xs.set j v)))
      | none => none
    | none => none
  | _, _ => none
def sItem (fo fi fe : FE) : FS := fun s h => RS.ofR s (fe s h) fun v h1 => RS.ofR s (fo s h1) fun o h2 => RS.ofR s (fi s h2) fun i h3 => match setD o i v h3 with
  | some h4 => .nx s h4
  | none => .bad
theorem vs_item {o i e : Expr} {fo fi fe : FE} {pos' : Pos} (he : VE X W pin e fe) (ho : VE X W pin o fo) (hi : VE X W pin i fi)
    (ha : ∀ v, assign (.Subscript o i pos') X.env v = (do
      let ov ← holding [v] (eval o X.env)
      let iv ← holding [v, ov] (eval i X.env)
      standAt pos'
      holding [v, ov, iv] (setItem ov iv v)
      release [v, ov, iv] []) := by intro _; rfl)
    (hs : swapsWithSole [.Subscript o i pos'] e pos.line X.env = pure false := by rfl) (hw : swappedStores [.Subscript o i pos'] e X.env = pure none := by rfl)
    (h1 : (assignEach [.Subscript o i pos'] X.env).map (·.2) = [assign (.Subscript o i pos') X.env] := by rfl) : VS X W pin (.Assign [.Subscript o i pos'] e pos) (sItem fo fi fe) := by
  refine ps_imp (ps_asg he (pg_sub ho hi set_list ha) hs hw h1) fun D σ H ⟨G, ms, s, h, hh, sl, q⟩ => ⟨G, ms, s, h, hh, sl, PostS.ofR sl q fun dv h1 v H1 G1 ms1 e1 p1 hh1 i1 q1 => ?_⟩
  refine ⟨G1, ms1, s, h1, hh1, sl.mono e1 p1, PostS.ofR (sl.mono e1 p1) q1 fun od h2 ov H2 G2 ms2 e2 p2 hh2 i2 q2 => ?_⟩
  refine ⟨G2, ms2, s, h2, hh2, (sl.mono e1 p1).mono e2 p2, PostS.ofR ((sl.mono e1 p1).mono e2 p2) q2 fun id h3 iv H3 G3 ms3 e3 p3 hh3 i3 q3 => ?_⟩
  split at q3
  · rename_i h4 es
    have i1' := Is.mono (e2.trans e3) (pre_trans p2 p3) _ _ i1
    have i2' := Is.mono e3 p3 _ _ i2
    unfold setD at es
    split at es
    · rename_i n k
      split at es
      · rename_i xs ex
        split at es
        · rename_i j ej
          cases es
          cases i3
          obtain ⟨p, vs, rfl, k1, k2, k3⟩ := hh3.locW i2' ex
          refine ⟨p, vs, k, j, rfl, rfl, k2, by rw [← k3.length]; exact ej, ?_⟩
          exact q3 σ _ G3 ms3 (GLe.refl _) (pre_refl _) (hh3.write k1 (k3.set j i1') (by rw [List.length_set]; exact hh3.atz (locAt_some ex))) (((sl.mono e1 p1).mono e2 p2).mono e3 p3)
        · cases es
      · cases es
    · cases es
  · exact q3.elim
def ipAddD : D → D → Hs → R D
  | .int i, .int j, h => .ok (.int (i + j)) h
  | _, _, _ => .bad
def ipSubD : D → D → Hs → R D
  | .int i, .int j, h => .ok (.int (i - j)) h
  | _, _, _ => .bad
/-- x += e: ints -/
def sAug (i : Nat) (g : D → D → Hs → R D) (f : FE) : FS := fun s h => match s[i]? with
  | some (some x) => RS.ofR s (f s h) fun y h1 => RS.ofR s (calm2 g x y h1) fun z h2 => .nx (s.set i (some z)) h2
  | _ => .bad
def PIpD (X : Cx) (op : Operator) (g : D → D → Hs → R D) : Prop := PIp X op (rd2 X.K g)
theorem vs_aug (i : Nat) {x : Str} {e : Expr} {f : FE} {op : Operator} {g : D → D → Hs → R D} {pos' : Pos} (hN : X.N.Nodup) (he : VE X W pin e f) (ho : PIpD X op g) (hi : X.N[i]? = some x := by rfl) (hx : Loc X.env.scope x := by first | exact Or.inl rfl | exact Or.inr rfl) (np : NotPin pin i := by first | exact notPin_nil | decide)
    (hf : X.fn x = true ∨ X.env.scope.names.lookup x = some .local := by first | exact .inl rfl | exact .inr rfl | assumption) : VS X W pin (.AugAssign (.Name x pos') op e pos) (sAug i g f) := by
  refine ps_imp (ps_aug hN hi hx he ho hf) fun D σ H ⟨G, ms, s, h, hh, sl, q⟩ => ?_
  unfold sAug at q
  split at q
  · rename_i x ex
    obtain ⟨v, k1, k2⟩ := sl.get i x ex
    refine ⟨v, k1, G, ms, s, h, hh, sl, PostS.ofR sl q fun y h1 w H1 G1 ms1 e1 p1 hh1 i1 q1 => ?_⟩
    refine ⟨G1, ms1, h1, x, y, hh1, Is.mono e1 p1 _ _ k2, i1, calm_post (PostS.ofR (sl.mono e1 p1) q1 fun z h2 zv H2 G2 ms2 e2 p2 hh2 i2 q2 => ?_)⟩
    exact q2 _ H2 G2 ms2 (GLe.refl _) (pre_refl _) hh2 (((sl.mono e1 p1).mono e2 p2).set i2 np)
  · exact q.elim
theorem ip_addD : PIpD X .Add ipAddD := by
  intro pins s σ H x y v u Q I rx ry ⟨G, ms, h, da, db, hh, ia, ib, q⟩
  unfold ipAddD at q
  split at q
  · cases ia; cases ib
    exact ip_add pins s σ H _ _ v u Q I rx ry ⟨_, _, rfl, rfl, q.fin hh rfl⟩
  · exact q.elim
theorem ip_subD : PIpD X .Sub ipSubD := by
  intro pins s σ H x y v u Q I rx ry ⟨G, ms, h, da, db, hh, ia, ib, q⟩
  unfold ipSubD at q
  split at q
  · cases ia; cases ib
    exact ip_sub pins s σ H _ _ v u Q I rx ry ⟨_, _, rfl, rfl, q.fin hh rfl⟩
  · exact q.elim
end
end WD
namespace WD
open PySem PySem.Spec PyProof.Rows L2
abbrev Tg : Type := D → Ss → Hs → Option Ss
def gVar (i : Nat) : Tg := fun d s _ => some (s.set i (some d))
def unp : List Tg → List D → Ss → Hs → Option Ss
  | [], [], s, _ => some s
  | g :: gs, d :: ds, s, h => match g d s h with
    | some s' => unp gs ds s' h
    | none => none
  | _, _, _, _ => none
def gUn (gs : List Tg) : Tg := fun d s h => match rowOf h d with
  | some xs => unp gs xs s h
  | none => none
/-- σ' is σ but for the slots vs -/
structure But (vs : List Nat) (σ σ' : L2.St) : Prop where
  len : σ'.length = σ.length
  out : ∀ j, j ∉ vs → σ'[j]? = σ[j]?
theorem But.refl {vs : List Nat} {σ : L2.St} : But vs σ σ := ⟨rfl, fun _ _ => rfl⟩
theorem But.trans {vs : List Nat} {σ σ1 σ2 : L2.St} (a : But vs σ σ1) (b : But vs σ1 σ2) : But vs σ σ2 := ⟨b.len.trans a.len, fun j hj => (b.out j hj).trans (a.out j hj)⟩
section
variable (X : Cx) (pin : List (Nat × V))
def rdG (vs : List Nat) (g : Tg) : TG := fun v σ H Q => ∃ G ms s h d, Hh X.K G ms h H ∧ Sl X.K G ms pin s σ ∧ Is X.K G ms d v ∧ match g d s h with
  | some s' => ∀ σ', But vs σ σ' → Sl X.K G ms pin s' σ' → Q σ' H
  | none => False
def rdGs (vs : List Nat) (gs : List Tg) : TGs := fun ws σ H Q => ∃ G ms s h ds, Hh X.K G ms h H ∧ Sl X.K G ms pin s σ ∧ IsL X.K G ms ds ws ∧ match unp gs ds s h with
  | some s' => ∀ σ', But vs σ σ' → Sl X.K G ms pin s' σ' → Q σ' H
  | none => False
end
abbrev VG (X : Cx) (pin : List (Nat × V)) (vs : List Nat) (e : Expr) (g : Tg) : Prop := PG X e (rdG X pin vs g)
abbrev VGs (X : Cx) (pin : List (Nat × V)) (vs : List Nat) (es : List Expr) (gs : List Tg) : Prop := PGs X es (rdGs X pin vs gs)
section
variable {X : Cx} {W : WX} {pin : List (Nat × V)} {K : PySem.W.Frag} {mg : Str → Option Value} {E : XK} {G G' : GG} {H : Hp} {ms ms' : List Addr} {h : Hs} {pos : Pos} {a b c : Expr} {rest : List Expr} {vs : List Nat}
theorem pg_imp {e : Expr} {t t' : TG} (h : PG X e t) (q : ∀ v σ H Q, t' v σ H Q → t v σ H Q) : PG X e t' := ⟨fun pins s σ H v u Q I r w => h.run pins s σ H v u Q I r (q _ _ _ _ w)⟩
theorem pgs_imp {e : List Expr} {t t' : TGs} (h : PGs X e t) (q : ∀ v σ H Q, t' v σ H Q → t v σ H Q) : PGs X e t' := ⟨fun pins s σ H v u Q I r w => h.run pins s σ H v u Q I r (q _ _ _ _ w)⟩
theorem vg_name (i : Nat) {x : Str} (hN : X.N.Nodup) (hi : X.N[i]? = some x := by rfl) (hx : Loc X.env.scope x := by first | exact Or.inl rfl | exact Or.inr rfl) (np : NotPin pin i := by first | exact notPin_nil | decide) (hv : i ∈ vs := by decide)
    (hf : X.fn x = true ∨ X.env.scope.names.lookup x = some .local := by first | exact .inl rfl | exact .inr rfl | assumption) : VG X pin vs (.Name x pos) (gVar i) := by
  refine pg_imp (pg_name hN hi hx hf) fun v σ H Q ⟨G, ms, s, h, d, hh, sl, i1, q⟩ => ?_
  refine q _ ⟨by simp, fun j hj => ?_⟩ (sl.set i1 np)
  rw [List.getElem?_set_ne]
  exact fun z => hj (z ▸ hv)
theorem vgs_nil : VGs X pin vs [] [] := by
  refine pgs_imp pgs_nil fun v σ H Q ⟨G, ms, s, h, d, hh, sl, i1, q⟩ => ?_
  cases d with
  | nil => cases i1; exact ⟨rfl, q σ .refl sl⟩
  | cons _ _ => exact q.elim
theorem vgs_cons {e : Expr} {es : List Expr} {g : Tg} {gs : List Tg} (h1 : VG X pin vs e g) (h2 : VGs X pin vs es gs)
    (hs : (assignEach (e :: es) X.env).map (·.2) = assign e X.env :: (assignEach es X.env).map (·.2) := by rfl) : VGs X pin vs (e :: es) (g :: gs) := by
  refine pgs_imp (pgs_cons h1 h2 hs) fun ws σ H Q ⟨G, ms, s, h, ds, hh, sl, i1, q⟩ => ?_
  cases ds with
  | nil => exact q.elim
  | cons d ds =>
    obtain ⟨v, r, rfl, i2, i3⟩ := i1
    refine ⟨v, r, rfl, G, ms, s, h, d, hh, sl, i2, ?_⟩
    unfold unp at q
    cases e1 : g d s h with
    | none => rw [e1] at q; exact q
    | some s' =>
      rw [e1] at q
      intro σ' b' sl'
      refine ⟨G, ms, s', h, ds, hh, sl', i3, ?_⟩
      dsimp only at q
      cases e2 : unp gs ds s' h with
      | none => rw [e2] at q; exact q
      | some s2 =>
        rw [e2] at q
        exact fun σ2 b2 sl2 => q σ2 (b'.trans b2) sl2
theorem PG.or {e : Expr} {t t' : TG} (h : PG X e t) (h' : PG X e t') : PG X e (fun v σ H Q => t v σ H Q ∨ t' v σ H Q) := ⟨fun pins s σ H v u Q I r w => by
  rcases w with w | w
  · exact h.run pins s σ H v u Q I r w
  · exact h'.run pins s σ H v u Q I r w⟩
theorem unp_len : ∀ {gs : List Tg} {ds : List D} {s s' : Ss} {h : Hs}, unp gs ds s h = some s' → ds.length = gs.length
  | [], [], _, _, _, _ => rfl
  | [], _ :: _, _, _, _, e => by cases e
  | _ :: _, [], _, _, _, e => by cases e
  | g :: gs, d :: ds, s, s', h, e => by
    unfold unp at e
    split at e
    · simp [unp_len e]
    · cases e
theorem vg_un {es : List Expr} {k : Nat} {gs : List Tg} (hc : X.calm = true) (h : VGs X pin vs es gs)
    (hn : (assignEach es X.env).length = gs.length := by rfl) (hst : (assignEach es X.env).findIdx? (·.1) = none := by rfl) : VG X pin vs (.Tuple es k pos) (gUn gs) := by
  refine pg_imp (PG.or (pg_lst hc h hn hst) (pg_tup hc h hn hst)) fun v σ H Q ⟨G, ms, s, h, d, hh, sl, i1, q⟩ => ?_
  unfold gUn at q
  cases er : rowOf h d with
  | none => rw [er] at q; exact q.elim
  | some xs =>
    rw [er] at q
    dsimp only at q
    obtain ⟨p, ws, rfl, h2, h3⟩ := hh.row i1 er
    have hl : ws.length = gs.length := by
      rw [← h3.length]
      cases e2 : unp gs xs s h with
      | none => rw [e2] at q; exact q.elim
      | some s' => exact unp_len e2
    rcases h2 with h2 | h2
    · exact .inl ⟨p, ws, rfl, h2, hl, G, ms, s, h, xs, hh, sl, h3, q⟩
    · exact .inr ⟨p, ws, rfl, h2, hl, G, ms, s, h, xs, hh, sl, h3, q⟩
/-- a, b = e -/
def sUn (g : Tg) (f : FE) : FS := fun s h => RS.ofR s (f s h) fun d h1 => match g d s h1 with
  | some s' => .nx s' h1
  | none => .bad
theorem vs_un {tg e : Expr} {f : FE} {g : Tg} (he : VE X W pin e f) (hg : VG X pin vs tg g) (hs : swapsWithSole [tg] e pos.line X.env = pure false := by rfl) (hw : swappedStores [tg] e X.env = pure none := by rfl)
    (h1 : (assignEach [tg] X.env).map (·.2) = [assign tg X.env] := by rfl) : VS X W pin (.Assign [tg] e pos) (sUn g f) := by
  refine ps_imp (ps_asg he hg hs hw h1) fun D σ H ⟨G, ms, s, h, hh, sl, q⟩ => ⟨G, ms, s, h, hh, sl, PostS.ofR sl q fun d h1 v H1 G1 ms1 e1 p1 hh1 i1 q1 => ?_⟩
  refine ⟨G1, ms1, s, h1, d, hh1, sl.mono e1 p1, i1, ?_⟩
  cases e2 : g d s h1 with
  | none => rw [e2] at q1; exact q1
  | some s' =>
    rw [e2] at q1
    exact fun σ' _ sl' => q1 σ' H1 G1 ms1 (GLe.refl _) (pre_refl _) hh1 sl'
/-- a, b = x, y -/
def sPar (i j : Nat) (f : FA) : FS := fun s h => match f s h with
  | .ok [x, y] h1 => .nx ((s.set i (some x)).set j (some y)) h1
  | .ok _ _ => .bad
  | .err x h1 => .er x s h1
  | .bad => .bad
theorem vs_par (i j : Nat) {x y : Str} {f : FA} {px py pt : Pos} {kt k2 : Nat} {pt2 : Pos} (hc : X.calm = true) (hN : X.N.Nodup) (ha : VA X W pin [a, b] f) (hi : X.N[i]? = some x := by rfl) (hj : X.N[j]? = some y := by rfl) (hij : i ≠ j := by decide)
    (hx : X.env.scope.names.lookup x = some .local := by rfl) (hy : X.env.scope.names.lookup y = some .local := by rfl) (np : NotPin pin i := by first | exact notPin_nil | decide) (np2 : NotPin pin j := by first | exact notPin_nil | decide)
    (hw : swappedStores [.Tuple [.Name x px, .Name y py] kt pt] (.Tuple [a, b] k2 pt2) X.env = pure (some [x, y]) := by rfl)
    (hs : swapsWithSole [.Tuple [.Name x px, .Name y py] kt pt] (.Tuple [a, b] k2 pt2) pos.line X.env = pure false := by rfl) :
    VS X W pin (.Assign [.Tuple [.Name x px, .Name y py] kt pt] (.Tuple [a, b] k2 pt2) pos) (sPar i j f) := by
  refine ps_imp (ps_par hc hN hi hj hij hx hy ha hw hs) fun D σ H ⟨G, ms, s, h, hh, sl, q⟩ => ⟨G, ms, s, h, hh, sl, ?_⟩
  unfold sPar at q
  cases e : f s h with
  | bad => rw [e] at q; exact q
  | err z h1 => rw [e] at q; exact fun H' G2 ms2 d h1 h2 h3 h4 => q σ H' G2 ms2 d h1 h2 h3 (sl.mono h1 h2) h4
  | ok ds h1 =>
    rw [e] at q
    intro ws H1 G1 ms1 e1 p1 hh1 i1
    match ds, i1, q with
    | [x, y], i1, q =>
      obtain ⟨v, w, rfl, j1, j2⟩ := isL2 i1
      exact ⟨v, w, rfl, q _ H1 G1 ms1 e1 p1 hh1 (((sl.mono e1 p1).set j1 np).set j2 np2)⟩
    | [], _, q => exact q.elim
    | [_], _, q => exact q.elim
    | _ :: _ :: _ :: _, _, q => exact q.elim

inductive It0 where
  | seq (ds : List D)
  | rng (lo : Int) (n : Nat)
  | loc (n : Nat)
abbrev FI : Type := Ss → Hs → R It0
/-- J yields ds, wherever the still part has grown -/
def Yields (K : PySem.W.Frag) (J : It) (G0 : GG) (ms0 : List Addr) (ds : List D) : Prop := ∀ (i : Nat) (h : Hs) (G : GG) (ms : List Addr) (H : Hp), Hh K G ms h H → Same G0.1 G.1 → ms0 <+: ms →
  (∀ d, ds[i]? = some d → J.go i H ∧ ∀ x H', J.yld i H x H' → ∃ G', GLe G G' ∧ Hh K G' ms h H' ∧ Is K G' ms d x) ∧ (ds.length = i → J.stop i H)
def ItIs (K : PySem.W.Frag) (G : GG) (ms : List Addr) : It0 → It → Prop
  | .seq ds, J => Yields K J G ms ds ∧ ds.length ≤ sizeLine
  | .rng lo n, J => J = Itr lo n
  | .loc n, J => ∃ a, ms[n]? = some a ∧ J = Itl K a
def rdI (X : Cx) (W : WX) (pin : List (Nat × V)) (f : FI) : TI := fun σ H R => ∃ G ms s h, Hh X.K G ms h H ∧ Sl X.K G ms pin s σ ∧ Post X.K X.mg (fun c d H => W c d σ H) G ms (ItIs X.K) (f s h) R
abbrev VI (X : Cx) (W : WX) (pin : List (Nat × V)) (tg e : Expr) (f : FI) : Prop := PI X tg e (rdI X W pin f)
theorem pi_imp {tg e : Expr} {t t' : TI} (h : PI X tg e t) (q : ∀ σ H Q, t' σ H Q → t σ H Q) : PI X tg e t' := ⟨fun pins s σ H Q I w => h.run pins s σ H Q I (q _ _ _ w)⟩
/-- a list or a tuple -/
def iSeq (K : PySem.W.Frag) (tl : TE) : TI := fun σ H R => tl σ H fun x H1 => ∃ a, x = .ref a ∧ (((∃ xs, SqL K H1 a xs) ∧ R (Itl K a) H1) ∨ ((∃ xs, SqT K H1 a xs) ∧ R (Itt K a) H1))
theorem pi_seq {tg l : Expr} {tl : TE} (hl : PE X l tl) : PI X tg l (iSeq X.K tl) := by
  refine ⟨fun pins s σ H R I h => ?_⟩
  refine thn (hl.run pins s σ H _ I h) fun v s1 ⟨x, H1, I1, r1, q1⟩ => ?_
  obtain ⟨a, e, ⟨⟨xs, hq⟩, q⟩ | ⟨⟨xs, hq⟩, q⟩⟩ := q1
  · subst e
    cases r1
    obtain ⟨its, rv, p, hz⟩ := I1.list hq
    refine wpAny_pyIter_list p.isList ?_
    refine ⟨s1.heap.objs.size, [s1.heap.objs.size], _, _, H1, rfl, I1.kept (t' := s1.toks) fun b o e => Heap.get?_push_of_some _ e, turn_list a _, ⟨_, Heap.get?_push_size _ rfl, rfl, rfl⟩, fun b hb => ?_, q⟩
    have e : b = s1.heap.objs.size := by simpa using hb
    subst e
    exact I1.fpOk (Nat.le_refl _) (I1.hok.fresh (Nat.le_refl _))
  · subst e
    cases r1
    obtain ⟨its, rv, p, hz⟩ := I1.tuple hq
    refine wpAny_pyIter_tuple (show s1.heap.IsTuple a its.toArray from p) ?_
    refine ⟨s1.heap.objs.size, [s1.heap.objs.size], _, _, H1, rfl, I1.kept (t' := s1.toks) fun b o e => Heap.get?_push_of_some _ e, turn_tuple a _, ⟨_, Heap.get?_push_size _ rfl, rfl, rfl⟩, fun b hb => ?_, q⟩
    have e : b = s1.heap.objs.size := by simpa using hb
    subst e
    exact I1.fpOk (Nat.le_refl _) (I1.hok.fresh (Nat.le_refl _))
theorem yields_list {a : Addr} {ds : List D} {ws : List V} (q : SqL K G.1 a ws) (i : IsL K G ms ds ws) : Yields K (Itl K a) G ms ds := fun j h G' ms' H hh e p => by
  have q' : SqL K H a ws := hh.sub.seq (e.seq q)
  have i' := IsL.mono' e p _ _ i
  refine ⟨fun d hd => ?_, fun hl => ⟨ws, q', by rw [← i.length]; exact Nat.le_of_eq hl⟩⟩
  obtain ⟨v, h1, h2⟩ := i'.get hd
  refine ⟨⟨ws, v, q', h1⟩, fun x H' ⟨e1, e2⟩ => ?_⟩
  subst e1
  have := e2 ws q'
  rw [h1] at this
  cases this
  exact ⟨G', .refl _, hh, h2⟩
theorem yields_tup {a : Addr} {ds : List D} {ws : List V} (q : SqT K G.1 a ws) (i : IsL K G ms ds ws) : Yields K (Itt K a) G ms ds := fun j h G' ms' H hh e p => by
  have q' : SqT K H a ws := Same.sqT hh.sub (Same.sqT e q)
  have i' := IsL.mono' e p _ _ i
  refine ⟨fun d hd => ?_, fun hl => ⟨ws, q', by rw [← i.length]; exact Nat.le_of_eq hl⟩⟩
  obtain ⟨v, h1, h2⟩ := i'.get hd
  refine ⟨⟨ws, v, q', h1⟩, fun x H' ⟨e1, e2⟩ => ?_⟩
  subst e1
  have := e2 ws q'
  rw [h1] at this
  cases this
  exact ⟨G', .refl _, hh, h2⟩
def iRow (f : FE) : FI := fun s h => (f s h).bind fun d h1 => match d with
  | .tup xs => .ok (.seq xs) h1
  | .lst xs => .ok (.seq xs) h1
  | .scr xs => .ok (.seq xs) h1
  | .loc n => if n < h1.length then .ok (.loc n) h1 else .bad
  | _ => .bad
theorem vi_row {tg e : Expr} {f : FE} (he : VE X W pin e f) : VI X W pin tg e (iRow f) := by
  refine pi_imp (pi_seq he) fun σ H R ⟨G, ms, s, h, hh, sl, q⟩ => ⟨G, ms, s, h, hh, sl, Post.bind q fun d h1 v H1 G1 ms1 e1 p1 hh1 i1 q1 => ?_⟩
  cases d with
  | tup xs =>
    obtain ⟨a, ws, rfl, k1, k2⟩ := id i1
    exact ⟨a, rfl, .inr ⟨⟨ws, .of (hh1.sub _ _ k1)⟩, q1.fin hh1 ⟨yields_tup (.of k1) k2, hh1.rowz i1 rfl⟩⟩⟩
  | lst xs =>
    obtain ⟨a, ws, rfl, k1, k2⟩ := id i1
    exact ⟨a, rfl, .inl ⟨⟨ws, .of (hh1.sub _ _ k1)⟩, q1.fin hh1 ⟨yields_list (.of k1) k2, hh1.rowz i1 rfl⟩⟩⟩
  | scr xs =>
    obtain ⟨a, ws, rfl, k1, k2⟩ := id i1
    exact ⟨a, rfl, .inl ⟨⟨ws, hh1.sub.seq k1⟩, q1.fin hh1 ⟨yields_list k1 k2, hh1.rowz i1 rfl⟩⟩⟩
  | loc n =>
    dsimp only at q1
    split at q1
    · obtain ⟨a, k1, rfl⟩ := i1
      obtain ⟨ws, k2⟩ := hh1.some_at k1
      exact ⟨a, rfl, .inl ⟨⟨ws, .of k2⟩, q1.fin hh1 ⟨a, k1, rfl⟩⟩⟩
    · exact q1.elim
  | _ => exact q1.elim
/-- range -/
def rgL (lo : Int) (n : Nat) : List D := (List.range n).map fun (i : Nat) => D.int (lo + i)
theorem rgL_get {lo : Int} {n i : Nat} {d : D} (h : (rgL lo n)[i]? = some d) : i < n ∧ d = .int (lo + i) := by
  unfold rgL at h
  rw [List.getElem?_map] at h
  cases q : (List.range n)[i]? with
  | none => rw [q] at h; cases h
  | some j =>
    rw [q] at h
    have hi : i < n := by
      rcases Nat.lt_or_ge i n with z | z
      · exact z
      · rw [List.getElem?_eq_none (by simpa using z)] at q; cases q
    rw [List.getElem?_range hi] at q
    cases q
    exact ⟨hi, (Option.some.inj h).symm⟩
theorem yields_range {lo : Int} {n : Nat} : Yields K (Itr lo n) G ms (rgL lo n) := fun j h G' ms' H hh e p => by
  refine ⟨fun d hd => ?_, fun hl => ?_⟩
  · obtain ⟨hi, rfl⟩ := rgL_get hd
    exact ⟨hi, fun x H' ⟨e1, e2⟩ => by subst e1 e2; exact ⟨G', .refl _, hh, rfl⟩⟩
  · have : (rgL lo n).length = n := by unfold rgL; simp
    rw [this] at hl
    exact Nat.le_of_eq hl
def r62 (i : Int) : Prop := -(2 ^ 62) ≤ i ∧ i < 2 ^ 62
open Classical in
noncomputable def iRng1 (f : FA) : FI := fun s h => (f s h).bind fun ds h1 => match ds with
  | [.int j] => if r62 j then .ok (.rng 0 j.toNat) h1 else .bad
  | _ => .bad
open Classical in
noncomputable def iRng2 (f : FA) : FI := fun s h => (f s h).bind fun ds h1 => match ds with
  | [.int i, .int j] => if r62 i ∧ r62 j then .ok (.rng i (j - i).toNat) h1 else .bad
  | _ => .bad
theorem vi_range1 {tg e : Expr} {f : FA} {p : Pos} (hg : Gl X "range") (hm : X.mg "range" = none) (ha : VA X W pin [e] f) (hs : starEach [e] X.env = [(false, eval e X.env)] := by rfl) : VI X W pin tg (.Call (.Name "range" p) [e] [] pos) (iRng1 f) := by
  refine pi_imp (pi_range1 hg hm ha hs) fun σ H R ⟨G, ms, s, h, hh, sl, q⟩ => ⟨G, ms, s, h, hh, sl, Post.bind q fun ds h1 ws H1 G1 ms1 e1 p1 hh1 i1 q1 => ?_⟩
  split at q1
  · obtain ⟨v, rfl, j1⟩ := isL1 (ds := []) i1
    cases j1
    split at q1
    · rename_i hz
      exact ⟨_, rfl, hz.1, hz.2, q1.fin hh1 rfl⟩
    · exact q1.elim
  · exact q1.elim
theorem vi_range2 {tg e e' : Expr} {f : FA} {p : Pos} (hg : Gl X "range") (hm : X.mg "range" = none) (ha : VA X W pin [e, e'] f) (hs : starEach [e, e'] X.env = [(false, eval e X.env), (false, eval e' X.env)] := by rfl) (hs2 : starEach [e'] X.env = [(false, eval e' X.env)] := by rfl) :
    VI X W pin tg (.Call (.Name "range" p) [e, e'] [] pos) (iRng2 f) := by
  refine pi_imp (pi_range2 hg hm ha hs hs2) fun σ H R ⟨G, ms, s, h, hh, sl, q⟩ => ⟨G, ms, s, h, hh, sl, Post.bind q fun ds h1 ws H1 G1 ms1 e1 p1 hh1 i1 q1 => ?_⟩
  split at q1
  · obtain ⟨v, w, rfl, j1, j2⟩ := isL2 i1
    cases j1; cases j2
    split at q1
    · rename_i hz
      exact ⟨_, _, rfl, ⟨hz.1.1, hz.1.2, hz.2.1, hz.2.2⟩, q1.fin hh1 rfl⟩
    · exact q1.elim
  · exact q1.elim
end
end WD
namespace WD
open PySem PySem.Spec PyProof.Rows L2
/-- behind a turn -/
def afterT (r : RS) (k : Ss → Hs → RS) : RS := match r with
  | .nx s h => k s h
  | .ct s h => k s h
  | .bk s h => .nx s h
  | .rt d h => .rt d h
  | .er x s h => .er x s h
  | .bad => .bad
def loopS (g : Tg) (b : FS) : List D → FS
  | [], s, h => .nx s h
  | d :: ds, s, h => match g d s h with
    | some s' => afterT (b s' h) (loopS g b ds)
    | none => .bad
def loopL (g : Tg) (b : FS) (n : Nat) : Nat → Nat → FS
  | 0, _, _, _ => .bad
  | f + 1, i, s, h => match locAt h n with
    | some xs => match xs[i]? with
      | some d => (match g d s h with
        | some s' => afterT (b s' h) (loopL g b n f (i + 1))
        | none => .bad)
      | none => .nx s h
    | none => .bad
def sFor (fi : FI) (g : Tg) (b : FS) : FS := fun s h => match fi s h with
  | .ok (.seq ds) h1 => loopS g b ds s h1
  | .ok (.rng lo n) h1 => loopS g b (rgL lo n) s h1
  | .ok (.loc n) h1 => match locAt h1 n with
    | some xs => loopL g b n (xs.length + 1) 0 s h1
    | none => .bad
  | .err x h1 => .er x s h1
  | .bad => .bad
section
variable {X : Cx} {W : WX} {pin : List (Nat × V)} {K : PySem.W.Frag} {mg : Str → Option Value} {E : XK} {G G' : GG} {H : Hp} {ms ms' : List Addr} {h : Hs} {pos : Pos} {a b c : Expr} {rest : List Expr} {vs : List Nat}
theorem after_post {σ σ' : L2.St} {r : RS} {k : Ss → Hs → RS} {D0 : Ends} {N : L2.St → Hp → Prop} (q : PostS W K mg pin σ G ms (afterT r k) D0)
    (hN : ∀ s1 h1 σ1 H1 G1 ms1, GLe G G1 → ms <+: ms1 → Hh K G1 ms1 h1 H1 → Sl K G1 ms1 pin s1 σ1 → PostS W K mg pin σ1 G1 ms1 (k s1 h1) D0 → N σ1 H1) : PostS W K mg pin σ' G ms r { D0 with nx := N, ct := N, bk := D0.nx } := by
  cases r with
  | nx s1 h1 => exact fun σ1 H1 G1 ms1 e1 p1 hh1 sl1 => hN s1 h1 σ1 H1 G1 ms1 e1 p1 hh1 sl1 (PostS.mono (r := k s1 h1) q e1 p1)
  | ct s1 h1 => exact fun σ1 H1 G1 ms1 e1 p1 hh1 sl1 => hN s1 h1 σ1 H1 G1 ms1 e1 p1 hh1 sl1 (PostS.mono (r := k s1 h1) q e1 p1)
  | bk s1 h1 => exact q
  | rt d h1 => exact q
  | er x s1 h1 => exact q
  | bad => exact q
theorem vs_for {tg iter : Expr} {body : List Stmt} {fi : FI} {g : Tg} {f : FS} (hp : PassesOwn (model X.prog X.w) X.A X.env X.xe) (hc : X.calm = true) (hi : VI X W pin tg iter fi) (hg : VG X pin vs tg g) (hb : VSs X W pin body f)
    (hs : ∀ x, foldedSetIterable iter X.env x = pure x := by intro _; rfl) : VS X W pin (.For tg iter body [] pos) (sFor fi g f) := by
  refine ps_imp (ps_for hp hc hi hg hb hs) fun D σ H ⟨G, ms, s, h, hh, sl, q⟩ => ⟨G, ms, s, h, hh, sl, ?_⟩
  unfold sFor at q
  cases e : fi s h with
  | bad => rw [e] at q; exact q
  | err z h1 => rw [e] at q; exact fun H' G2 ms2 d h1 h2 h3 h4 => q σ H' G2 ms2 d h1 h2 h3 (sl.mono h1 h2) h4
  | ok it h1 =>
    rw [e] at q
    intro J H1 G1 ms1 e1 p1 hh1 ij
    have seqs : ∀ ds, Yields X.K J G1 ms1 ds → PostS W X.K X.mg pin σ G ms (loopS g f ds s h1) D →
        (∃ WW : Nat → Nat → L2.St → Hp → Prop, (∃ m, WW 0 m σ H1) ∧ ∀ i m σ H, WW i m σ H → (J.stop i H ∧ D.nx σ H) ∨ (J.go i H ∧ ∃ N : L2.St → Hp → Prop, (∀ σ' H', N σ' H' → ∃ m', m' < m ∧ WW (i + 1) m' σ' H') ∧
          ∀ x H', J.yld i H x H' → rdG X pin vs g x σ H' fun σ2 H2 => rdS X W pin f { D with nx := N, ct := N, bk := D.nx } σ2 H2)) := fun ds ij q => by
      refine ⟨fun i m σ' H' => ∃ G2 ms2 s2 h2, Hh X.K G2 ms2 h2 H' ∧ Sl X.K G2 ms2 pin s2 σ' ∧ GLe G1 G2 ∧ ms1 <+: ms2 ∧ (m = ds.length - i ∧ i ≤ ds.length) ∧ PostS W X.K X.mg pin σ' G2 ms2 (loopS g f (ds.drop i) s2 h2) D,
        ⟨ds.length, G1, ms1, s, h1, hh1, sl.mono e1 p1, .refl _, pre_refl _, ⟨by simp, Nat.zero_le _⟩, PostS.mono (r := loopS g f ds s h1) q e1 p1⟩, ?_⟩
      rintro i m σ2 H2 ⟨G2, ms2, s2, h2, hh2, sl2, e2, p2, ⟨rfl, hle⟩, q2⟩
      by_cases hi : i < ds.length
      · have hd : ds.drop i = ds[i] :: ds.drop (i + 1) := List.drop_eq_getElem_cons hi
        rw [hd] at q2
        obtain ⟨hgo, hy⟩ := (ij i h2 G2 ms2 H2 hh2 e2.le p2).1 ds[i] (List.getElem?_eq_getElem hi)
        refine .inr ⟨hgo, fun σ' H' => ∃ G3 ms3 s3 h3, Hh X.K G3 ms3 h3 H' ∧ Sl X.K G3 ms3 pin s3 σ' ∧ GLe G1 G3 ∧ ms1 <+: ms3 ∧ PostS W X.K X.mg pin σ' G3 ms3 (loopS g f (ds.drop (i + 1)) s3 h3) D, ?_, ?_⟩
        · rintro σ' H' ⟨G3, ms3, s3, h3, k1, k2, k3, k4, k5⟩
          exact ⟨ds.length - (i + 1), by omega, G3, ms3, s3, h3, k1, k2, k3, k4, ⟨rfl, hi⟩, k5⟩
        · intro x H' y
          obtain ⟨G3, e3, hh3, i3⟩ := hy x H' y
          refine ⟨G3, ms2, s2, h2, ds[i], hh3, sl2.mono e3 (pre_refl _), i3, ?_⟩
          unfold loopS at q2
          cases eg : g ds[i] s2 h2 with
          | none => rw [eg] at q2; exact q2
          | some s3 =>
            rw [eg] at q2
            intro σ3 _ sl3
            refine ⟨G3, ms2, s3, h2, hh3, sl3, after_post (PostS.mono (r := afterT (f s3 h2) (loopS g f (ds.drop (i + 1)))) (σ' := σ3) q2 e3 (pre_refl _)) ?_⟩
            exact fun s4 h4 σ4 H4 G4 ms4 e4 p4 hh4 sl4 q4 => ⟨G4, ms4, s4, h4, hh4, sl4, (e2.trans e3).trans e4, pre_trans p2 p4, q4⟩
      · rw [List.drop_eq_nil_of_le (by omega)] at q2
        exact .inl ⟨(ij i h2 G2 ms2 H2 hh2 e2.le p2).2 (by omega), q2 σ2 H2 G2 ms2 (.refl _) (pre_refl _) hh2 sl2⟩
    cases it with
    | seq ds => exact seqs ds ij.1 q
    | rng lo n =>
      cases ij
      exact seqs (rgL lo n) yields_range q
    | loc n =>
      obtain ⟨ad, ha, rfl⟩ := ij
      dsimp only at q
      cases el : locAt h1 n with
      | none => rw [el] at q; exact q.elim
      | some xs =>
        rw [el] at q
        dsimp only at q
        refine ⟨fun i m σ' H' => ∃ G2 ms2 s2 h2, Hh X.K G2 ms2 h2 H' ∧ Sl X.K G2 ms2 pin s2 σ' ∧ GLe G1 G2 ∧ ms1 <+: ms2 ∧ PostS W X.K X.mg pin σ' G2 ms2 (loopL g f n m i s2 h2) D,
          ⟨xs.length + 1, G1, ms1, s, h1, hh1, sl.mono e1 p1, .refl _, pre_refl _, PostS.mono (r := loopL g f n (xs.length + 1) 0 s h1) q e1 p1⟩, ?_⟩
        rintro i m σ2 H2 ⟨G2, ms2, s2, h2, hh2, sl2, e2, p2, q2⟩
        cases m with
        | zero => exact q2.elim
        | succ m =>
          unfold loopL at q2
          cases el2 : locAt h2 n with
          | none => rw [el2] at q2; exact q2.elim
          | some ys =>
            rw [el2] at q2
            dsimp only at q2
            obtain ⟨ad', ws, k1, k2, k3⟩ := hh2.at (locAt_some el2)
            rw [pre_get p2 ha] at k1
            cases k1
            have hq : SqL X.K H2 ad ws := .of k2
            cases ey : ys[i]? with
            | none =>
              rw [ey] at q2
              refine .inl ⟨⟨ws, hq, ?_⟩, q2 σ2 H2 G2 ms2 (.refl _) (pre_refl _) hh2 sl2⟩
              rw [← k3.length]
              exact List.getElem?_eq_none_iff.mp ey
            | some d =>
              rw [ey] at q2
              dsimp only at q2
              obtain ⟨v, j1, j2⟩ := k3.get ey
              refine .inr ⟨⟨ws, v, hq, j1⟩, fun σ' H' => ∃ G3 ms3 s3 h3, Hh X.K G3 ms3 h3 H' ∧ Sl X.K G3 ms3 pin s3 σ' ∧ GLe G1 G3 ∧ ms1 <+: ms3 ∧ PostS W X.K X.mg pin σ' G3 ms3 (loopL g f n m (i + 1) s3 h3) D, ?_, ?_⟩
              · rintro σ' H' ⟨G3, ms3, s3, h3, k1, k2, k3, k4, k5⟩
                exact ⟨m, by omega, G3, ms3, s3, h3, k1, k2, k3, k4, k5⟩
              · rintro x H' ⟨rfl, y⟩
                have := y ws hq
                rw [j1] at this
                cases this
                refine ⟨G2, ms2, s2, h2, d, hh2, sl2, j2, ?_⟩
                cases eg : g d s2 h2 with
                | none => rw [eg] at q2; exact q2
                | some s3 =>
                  rw [eg] at q2
                  dsimp only at q2
                  intro σ3 _ sl3
                  refine ⟨G2, ms2, s3, h2, hh2, sl3, after_post (σ' := σ3) q2 ?_⟩
                  exact fun s4 h4 σ4 H4 G4 ms4 e4 p4 hh4 sl4 q4 => ⟨G4, ms4, s4, h4, hh4, sl4, e2.trans e4, pre_trans p2 p4, q4⟩
end
def whileF (t : FT) (b : FS) : Nat → FS
  | 0, _, _ => .bad
  | n + 1, s, h => match t s h with
    | .ok k h1 => if k = true then afterT (b s h1) (whileF t b n) else .nx s h1
    | .err x h1 => .er x s h1
    | .bad => .bad
open Classical in
noncomputable def sWhile (t : FT) (b : FS) : FS := fun s h => if q : ∃ n, whileF t b n s h ≠ .bad then whileF t b (Classical.choose q) s h else .bad
theorem afterT_bad {r : RS} {k k' : Ss → Hs → RS} (hk : ∀ s h, k s h ≠ .bad → k' s h = k s h) (h : afterT r k ≠ .bad) : afterT r k' = afterT r k := by
  cases r with
  | nx s h1 => exact hk s h1 h
  | ct s h1 => exact hk s h1 h
  | _ => rfl
theorem whileF_mono {t : FT} {b : FS} : ∀ {n m : Nat} {s : Ss} {h : Hs}, n ≤ m → whileF t b n s h ≠ .bad → whileF t b m s h = whileF t b n s h
  | 0, _, _, _, _, h => absurd rfl h
  | n + 1, 0, _, _, hl, _ => absurd hl (by omega)
  | n + 1, m + 1, s, h, hl, hn => by
    unfold whileF at hn ⊢
    cases e : t s h with
    | bad => rfl
    | err x h1 => rfl
    | ok k h1 =>
      rw [e] at hn
      dsimp only at hn ⊢
      cases k with
      | false => rfl
      | true =>
        rw [if_pos rfl] at hn ⊢
        exact afterT_bad (fun s h q => whileF_mono (by omega) q) hn
theorem sWhile_eq {t : FT} {b : FS} {n : Nat} {s : Ss} {h : Hs} {r : RS} (e : whileF t b n s h = r) (hr : r ≠ .bad) : sWhile t b s h = r := by
  have q : ∃ n, whileF t b n s h ≠ .bad := ⟨n, by rw [e]; exact hr⟩
  unfold sWhile
  rw [dif_pos q]
  have h1 := Classical.choose_spec q
  rcases Nat.le_total (Classical.choose q) n with hl | hl
  · rw [← whileF_mono hl h1, e]
  · rw [whileF_mono hl (by rw [e]; exact hr), e]
theorem sWhile_run {t : FT} {b : FS} {s : Ss} {h : Hs} : sWhile t b s h = .bad ∨ ∃ n, whileF t b n s h = sWhile t b s h := by
  unfold sWhile
  split
  · exact .inr ⟨_, rfl⟩
  · exact .inl rfl
section
variable {X : Cx} {W : WX} {pin : List (Nat × V)} {pos : Pos} {c : Expr}
theorem vs_while {body : List Stmt} {t : FT} {f : FS} (hp : PassesOwn (model X.prog X.w) X.A X.env X.xe) (hc : VT X W pin c t) (hb : VSs X W pin body f) : VS X W pin (.While c body [] pos) (sWhile t f) := by
  refine ps_imp (ps_while hp hc hb) fun D σ H ⟨G, ms, s, h, hh, sl, q⟩ => ?_
  rcases sWhile_run (t := t) (b := f) (s := s) (h := h) with e | ⟨n, e⟩
  · rw [e] at q; exact q.elim
  · rw [← e] at q
    refine ⟨fun m σ' H' => ∃ G2 ms2 s2 h2, Hh X.K G2 ms2 h2 H' ∧ Sl X.K G2 ms2 pin s2 σ' ∧ PostS W X.K X.mg pin σ' G2 ms2 (whileF t f m s2 h2) D, ⟨n, G, ms, s, h, hh, sl, q⟩, ?_⟩
    rintro m σ2 H2 ⟨G2, ms2, s2, h2, hh2, sl2, q2⟩
    cases m with
    | zero => exact q2.elim
    | succ m =>
      refine ⟨G2, ms2, s2, h2, hh2, sl2, ?_⟩
      unfold whileF at q2
      cases et : t s2 h2 with
      | bad => rw [et] at q2; exact q2
      | err x h3 => rw [et] at q2; exact fun H' G3 ms3 d h1 h2 h3 h4 => q2 σ2 H' G3 ms3 d h1 h2 h3 (sl2.mono h1 h2) h4
      | ok k h3 =>
        rw [et] at q2
        dsimp only at q2
        intro k' H3 G3 ms3 e3 p3 hh3 ek
        subst ek
        cases k with
        | false => exact q2 σ2 H3 G3 ms3 e3 p3 hh3 (sl2.mono e3 p3)
        | true =>
          rw [if_pos rfl] at q2 ⊢
          refine ⟨fun σ' H' => ∃ G4 ms4 s4 h4, Hh X.K G4 ms4 h4 H' ∧ Sl X.K G4 ms4 pin s4 σ' ∧ PostS W X.K X.mg pin σ' G4 ms4 (whileF t f m s4 h4) D, fun σ' H' hw => ⟨m, by omega, hw⟩, G3, ms3, s2, h3, hh3, sl2.mono e3 p3, ?_⟩
          refine after_post (PostS.mono (σ' := σ2) (r := afterT (f s2 h3) (whileF t f m)) q2 e3 p3) ?_
          exact fun s4 h4 σ4 H4 G4 ms4 e4 p4 hh4 sl4 q4 => ⟨G4, ms4, s4, h4, hh4, sl4, q4⟩
end
end WD
namespace WD
open PySem PySem.Spec PyProof.Rows L2
def wipeS (s : Ss) : List Nat → Ss
  | [] => s
  | v :: vs => (wipeS s vs).set v none
theorem wipeS_length (s : Ss) : ∀ vs : List Nat, (wipeS s vs).length = s.length
  | [] => rfl
  | v :: vs => by unfold wipeS; rw [List.length_set, wipeS_length s vs]
theorem wipeS_some {s : Ss} {i : Nat} {x : D} : ∀ {vs : List Nat}, (wipeS s vs)[i]? = some (some x) → s[i]? = some (some x) ∧ i ∉ vs
  | [], h => ⟨h, by simp⟩
  | v :: vs, h => by
    unfold wipeS at h
    by_cases hi : v = i
    · subst hi
      by_cases hv : v < (wipeS s vs).length
      · rw [List.getElem?_set_self hv] at h; cases h
      · rw [List.getElem?_eq_none (by simpa using hv)] at h; cases h
    · rw [List.getElem?_set_ne hi] at h
      obtain ⟨h1, h2⟩ := wipeS_some h
      exact ⟨h1, by simp only [List.mem_cons, not_or]; exact ⟨fun e => hi e.symm, h2⟩⟩
theorem wipe_in {σ : L2.St} {i : Nat} : ∀ {vs : List Nat}, i ∈ vs → (wipe σ vs)[i]? = if i < σ.length then some none else none
  | [], h => (nomatch h)
  | v :: vs, h => by
    unfold wipe
    by_cases hi : v = i
    · subst hi
      by_cases hv : v < σ.length
      · rw [if_pos hv, List.getElem?_set_self (by rw [wipe_length]; exact hv)]
      · rw [if_neg hv, List.getElem?_eq_none (by rw [List.length_set, wipe_length]; omega)]
    · rw [List.getElem?_set_ne hi]
      exact wipe_in (by rcases List.mem_cons.mp h with e | e; exact absurd e.symm hi; exact e)
theorem wipe_but {σ σ2 : L2.St} {vs : List Nat} (b : But vs (wipe σ vs) σ2) : wipe σ2 vs = wipe σ vs := by
  have hl : σ2.length = σ.length := by rw [b.len, wipe_length]
  apply List.ext_getElem?
  intro j
  by_cases hj : j ∈ vs
  · rw [wipe_in hj, wipe_in hj, hl]
  · rw [wipe_out hj, b.out j hj]
def quiet {α : Type} (r : R α) : R α := match r with
  | .ok d h' => .ok d h'
  | _ => .bad
/-- one turn -/
def stepC (g : Tg) (tt : FT) (te : FE) (s : Ss) (d : D) (h : Hs) (no : Hs → R D) (yes : D → Hs → R D) : R D := match g d s h with
  | none => .bad
  | some s2 => (quiet (tt s2 h)).bind fun b h3 => if b = true then (quiet (te s2 h3)).bind fun y h4 => yes y h4 else no h3
def compA (g : Tg) (tt : FT) (te : FE) (s : Ss) (k : List D → Hs → R D) : List D → List D → Hs → R D
  | [], acc, h => k acc h
  | d :: ds, acc, h => stepC g tt te s d h (fun h3 => compA g tt te s k ds acc h3) fun y h4 => compA g tt te s k ds (acc ++ [y]) h4
def compL (g : Tg) (tt : FT) (te : FE) (s : Ss) (n : Nat) (k : List D → Hs → R D) : Nat → Nat → List D → Hs → R D
  | 0, _, _, _ => .bad
  | f + 1, i, acc, h => match locAt h n with
    | none => .bad
    | some xs => match xs[i]? with
      | none => k acc h
      | some d => stepC g tt te s d h (fun h3 => compL g tt te s n k f (i + 1) acc h3) fun y h4 => compL g tt te s n k f (i + 1) (acc ++ [y]) h4
def eComp (m : Bool) (vs : List Nat) (fi : FI) (g : Tg) (tt : FT) (te : FE) : FE := fun s h => (fi s h).bind fun it h1 => match it with
  | .seq ds => compA g tt te (wipeS s vs) (newL m) ds [] h1
  | .rng lo n => if n ≤ sizeLine then compA g tt te (wipeS s vs) (newL m) (rgL lo n) [] h1 else .bad
  | .loc n => match locAt h1 n with
    | some xs => compL g tt te (wipeS s vs) n (newL m) (xs.length + 1) 0 [] h1
    | none => .bad
def tYesF : FT := fun _ h => .ok true h
abbrev VTs (X : Cx) (W : WX) (pin : List (Nat × V)) (es : List Expr) (f : FT) : Prop := PTs X es (rdT X W pin f)
abbrev W0 : WX := fun _ _ _ _ => False
section
variable {X : Cx} {W : WX} {pin : List (Nat × V)} {K : PySem.W.Frag} {mg : Str → Option Value} {E : XK} {G G' : GG} {H : Hp} {ms ms' : List Addr} {h : Hs} {pos : Pos} {c : Expr} {vs : List Nat}
theorem vts_nil : VTs X W pin [] tYesF := ⟨fun pins s σ H Q I ⟨G, ms, s', h, hh, sl, q⟩ => pts_nil.run pins s σ H Q I (Post.fin (b := true) q hh rfl)⟩
theorem vts_one {f : FT} (h : VT X W pin c f) : VTs X W pin [c] f := pts_one h
theorem Sl.mono' {s : Ss} {σ : L2.St} (x : Sl K G ms pin s σ) (e : Same G.1 G'.1) (p : ms <+: ms') : Sl K G' ms' pin s σ :=
  ⟨x.len, fun i d q => by obtain ⟨v, h1, h2⟩ := x.get i d q; exact ⟨v, h1, Is.mono' e p d v h2⟩, x.pin⟩
theorem Sl.wipe {s : Ss} {σ : L2.St} (x : Sl K G ms pin s σ) : Sl K G ms [] (wipeS s vs) (L2.wipe σ vs) := by
  refine ⟨by rw [wipeS_length, wipe_length]; exact x.len, fun i d e => ?_, fun _ h => (nomatch h)⟩
  obtain ⟨h1, h2⟩ := wipeS_some e
  obtain ⟨v, k1, k2⟩ := x.get i d h1
  exact ⟨v, by rw [wipe_out h2]; exact k1, k2⟩
/-- a turn of a comprehension over the list at D -/
theorem comp_turn {Xb : Cx} (eK : Xb.K = X.K) {g : Tg} {tt : FT} {te : FE} {s : Ss} {σ : L2.St} {d : D} {x : V} {h2 : Hs} {G1 G3 : GG} {ms1 ms2 : List Addr} {H2 : Hp} {Dd : Addr} {acc : List D} {ws : List V} {Q : VK} {no : Hs → R D} {yes : D → Hs → R D} {Nx : Hp → Prop}
    (hh : Hh X.K G3 ms2 h2 H2) (sl : Sl X.K G3 ms2 [] (wipeS s vs) (L2.wipe σ vs)) (i : Is X.K G3 ms2 d x) (e1 : Same G1.1 G3.1) (p1 : ms1 <+: ms2) (ef : G3.2 = upd G1.2 Dd (.lst ws)) (ia : IsL X.K G3 ms2 acc ws) (hz : acc.length < sizeLine)
    (q : Post X.K mg E G1 ms1 (Is X.K) (stepC g tt te (wipeS s vs) d h2 no yes) Q)
    (hno : ∀ h5 G5 ms5 H5, Hh X.K G5 ms5 h5 H5 → Same G1.1 G5.1 → ms1 <+: ms5 → G5.2 = upd G1.2 Dd (.lst ws) → IsL X.K G5 ms5 acc ws → Post X.K mg E G1 ms1 (Is X.K) (no h5) Q → Nx H5)
    (hyes : ∀ y v h5 G5 ms5 H5, Hh X.K G5 ms5 h5 H5 → Same G1.1 G5.1 → ms1 <+: ms5 → G5.2 = upd G1.2 Dd (.lst (ws ++ [v])) → IsL X.K G5 ms5 (acc ++ [y]) (ws ++ [v]) → Post X.K mg E G1 ms1 (Is X.K) (yes y h5) Q → Nx H5) :
    rdG Xb [] vs g x (L2.wipe σ vs) H2 fun σ2 H2 => L2.wipe σ2 vs = L2.wipe σ vs ∧ rdT Xb W0 [] tt σ2 H2 fun b H3 =>
      if b = true then rdE Xb W0 [] te σ2 H3 fun y H4 => ∃ acc, H4 Dd = some (.lst acc) ∧ acc.length < sizeLine ∧ Nx (upd H4 Dd (.lst (acc ++ [y]))) else Nx H3 := by
  unfold stepC at q
  refine ⟨G3, ms2, wipeS s vs, h2, d, by rw [eK]; exact hh, by rw [eK]; exact sl, by rw [eK]; exact i, ?_⟩
  cases eg : g d (wipeS s vs) h2 with
  | none => rw [eg] at q; exact q.elim
  | some s2 =>
    rw [eg] at q
    dsimp only at q
    intro σ2 b2 sl2
    refine ⟨wipe_but b2, G3, ms2, s2, h2, by rw [eK]; exact hh, sl2, ?_⟩
    cases et : tt s2 h2 with
    | bad => rw [et] at q; exact q.elim
    | err z h3 => rw [et] at q; exact q.elim
    | ok b h3 =>
      rw [et] at q
      dsimp only [quiet, R.bind] at q
      intro b' H3 G4 ms4 e4 p4 hh4 eb
      subst eb
      rw [eK] at hh4 sl2
      cases b with
      | false => exact hno h3 G4 ms4 H3 hh4 (e1.trans e4.le) (pre_trans p1 p4) (e4.fr.trans ef) (IsL.mono e4 p4 _ _ ia) q
      | true =>
        rw [if_pos rfl] at q ⊢
        refine ⟨G4, ms4, s2, h3, by rw [eK]; exact hh4, by rw [eK]; exact sl2.mono e4 p4, ?_⟩
        cases ee : te s2 h3 with
        | bad => rw [ee] at q; exact q.elim
        | err z h4 => rw [ee] at q; exact q.elim
        | ok y h4 =>
          rw [ee] at q
          dsimp only [quiet, R.bind] at q
          intro v H4 G5 ms5 e5 p5 hh5 iy
          rw [eK] at hh5 iy
          have ef5 : G5.2 = upd G1.2 Dd (.lst ws) := (e5.fr.trans e4.fr).trans ef
          have hD : G5.2 Dd = some (.lst ws) := by rw [ef5, upd_same]
          refine ⟨ws, hh5.frm _ _ hD, by rw [← ia.length]; exact hz, ?_⟩
          have ia5 := IsL.mono (e4.trans e5) (pre_trans p4 p5) _ _ ia
          refine hyes y v h4 (fupd G5 Dd (.lst (ws ++ [v]))) ms5 _ (hh5.reframe hD) ((e1.trans e4.le).trans e5.le) (pre_trans p1 (pre_trans p4 p5)) ?_ ?_ q
          · show upd G5.2 Dd _ = _
            rw [ef5, upd_upd]
          · exact IsL.mono' (G := G5) (G' := fupd G5 Dd (.lst (ws ++ [v]))) (Same.refl G5.1) (pre_refl _) _ _ (ia5.append (.one iy))
/-- the end of a comprehension -/
theorem comp_end {m : Bool} {G1 G2 : GG} {ms1 ms2 : List Addr} {h2 : Hs} {H2 : Hp} {Dd : Addr} {acc : List D} {ws : List V} {Q : VK}
    (hh : Hh K G2 ms2 h2 H2) (e1 : Same G1.1 G2.1) (p1 : ms1 <+: ms2) (ef : G2.2 = upd G1.2 Dd (.lst ws)) (hF : G1.2 Dd = none) (ia : IsL K G2 ms2 acc ws) (hz : acc.length ≤ sizeLine)
    (q : Post K mg E G1 ms1 (Is K) (newL m acc h2) Q) : Q (.ref Dd) H2 := by
  have hD : G2.2 Dd = some (.lst ws) := by rw [ef, upd_same]
  obtain ⟨g0, m0⟩ := hh.frd _ _ hD
  have hFF : ∀ a u, G1.2 a = some u → a ≠ Dd ∧ G2.2 a = some u := fun a u e => by
    have hne : a ≠ Dd := fun z => by rw [z, hF] at e; cases e
    exact ⟨hne, by rw [ef, upd_ne hne]; exact e⟩
  cases m with
  | false =>
    refine Post.fin2 (a := D.lst acc) (G' := (upd G2.1 Dd (.lst ws), G1.2)) q ⟨e1.trans (same_upd g0), rfl⟩ p1 (hh.thaw hD hFF (show ws.length ≤ sizeLine by rw [← ia.length]; exact hz)) ?_
    exact ⟨Dd, ws, rfl, upd_same, IsL.mono' (G := G2) (same_upd g0) (pre_refl _) _ _ ia⟩
  | true =>
    refine Post.fin2 (a := D.loc h2.length) (G' := (G2.1, G1.2)) (ms' := ms2 ++ [Dd]) q ⟨e1, rfl⟩ (pre_trans p1 ⟨[Dd], rfl⟩) (hh.adopt hD hFF ia hz) ⟨Dd, ?_, rfl⟩
    rw [← hh.len]
    simp
theorem comp_read (m : Bool) {fi : FI} {g : Tg} {tt : FT} {te : FE} {σ : L2.St} {H : Hp} {Q : VK} (hq : rdE X W pin (eComp m vs fi g tt te) σ H Q) : tLc (rdI X W pin fi) (rdG X [] vs g) (rdT X W0 [] tt) (rdE X W0 [] te) vs σ H Q := by
  obtain ⟨G, ms, s, h, hh, sl, q⟩ := hq
  refine ⟨G, ms, s, h, hh, sl, Post.bind q fun it h1 J H1 G1 ms1 e1 p1 hh1 ij q1 => ?_⟩
  intro Dd hD
  have hF := hh1.fnone hD
  have hh2 : Hh X.K (fupd G1 Dd (.lst [])) ms1 h1 (upd H1 Dd (.lst [])) := hh1.frame hD
  have seqs : ∀ ds, Yields X.K J G1 ms1 ds → ds.length ≤ sizeLine → Post X.K X.mg (fun c d H => W c d σ H) G1 ms1 (Is X.K) (compA g tt te (wipeS s vs) (newL m) ds [] h1) Q →
      (∃ WW : Nat → Nat → Hp → Prop, (∃ m, WW 0 m (upd H1 Dd (.lst []))) ∧ ∀ i m H, WW i m H →
        (J.stop i H ∧ Q (.ref Dd) H) ∨ (J.go i H ∧ ∃ Nx : Hp → Prop, (∀ H', Nx H' → ∃ m', m' < m ∧ WW (i + 1) m' H') ∧ ∀ x H', J.yld i H x H' → rdG X [] vs g x (L2.wipe σ vs) H' fun σ2 H2 => L2.wipe σ2 vs = L2.wipe σ vs ∧ rdT X W0 [] tt σ2 H2 fun b H3 =>
          if b = true then rdE X W0 [] te σ2 H3 fun y H4 => ∃ acc, H4 Dd = some (.lst acc) ∧ acc.length < sizeLine ∧ Nx (upd H4 Dd (.lst (acc ++ [y]))) else Nx H3)) := fun ds ij hlen q => by
    refine ⟨fun i m' H' => ∃ G2 ms2 h2 acc ws, Hh X.K G2 ms2 h2 H' ∧ Same G1.1 G2.1 ∧ ms1 <+: ms2 ∧ G2.2 = upd G1.2 Dd (.lst ws) ∧ IsL X.K G2 ms2 acc ws ∧ acc.length ≤ i ∧ i ≤ ds.length ∧ m' = ds.length - i ∧
        Post X.K X.mg (fun c d H => W c d σ H) G1 ms1 (Is X.K) (compA g tt te (wipeS s vs) (newL m) (ds.drop i) acc h2) Q,
      ⟨ds.length, _, ms1, h1, [], [], hh2, Same.refl _, pre_refl _, rfl, rfl, Nat.le_refl _, Nat.zero_le _, by simp, q⟩, ?_⟩
    rintro i m' H' ⟨G2, ms2, h2, acc, ws, k1, k2, k3, k4, k5, k6, k7, rfl, k8⟩
    by_cases hi : i < ds.length
    · have hd : ds.drop i = ds[i] :: ds.drop (i + 1) := List.drop_eq_getElem_cons hi
      rw [hd] at k8
      obtain ⟨hgo, hy⟩ := (ij i h2 G2 ms2 H' k1 k2 k3).1 ds[i] (List.getElem?_eq_getElem hi)
      refine .inr ⟨hgo, fun H' => ∃ G2 ms2 h2 acc ws, Hh X.K G2 ms2 h2 H' ∧ Same G1.1 G2.1 ∧ ms1 <+: ms2 ∧ G2.2 = upd G1.2 Dd (.lst ws) ∧ IsL X.K G2 ms2 acc ws ∧ acc.length ≤ i + 1 ∧
        Post X.K X.mg (fun c d H => W c d σ H) G1 ms1 (Is X.K) (compA g tt te (wipeS s vs) (newL m) (ds.drop (i + 1)) acc h2) Q, ?_, ?_⟩
      · rintro H' ⟨G2, ms2, h2, acc, ws, k1, k2, k3, k4, k5, k6, k8⟩
        exact ⟨ds.length - (i + 1), by omega, G2, ms2, h2, acc, ws, k1, k2, k3, k4, k5, k6, hi, rfl, k8⟩
      · intro x H3 y
        obtain ⟨G3, e3, hh3, i3⟩ := hy x H3 y
        have hs3 : Sl X.K G3 ms2 [] (wipeS s vs) (L2.wipe σ vs) := (Sl.wipe (vs := vs) ((sl.mono e1 p1).mono' k2 k3)).mono e3 (pre_refl _)
        refine comp_turn rfl hh3 hs3 i3 (k2.trans e3.le) k3 (e3.fr.trans k4) (IsL.mono e3 (pre_refl _) _ _ k5) (by omega) k8 ?_ ?_
        · exact fun h5 G5 ms5 H5 a1 a2 a3 a4 a5 a6 => ⟨G5, ms5, h5, acc, ws, a1, a2, a3, a4, a5, by omega, a6⟩
        · exact fun y v h5 G5 ms5 H5 a1 a2 a3 a4 a5 a6 => ⟨G5, ms5, h5, acc ++ [y], ws ++ [v], a1, a2, a3, a4, a5, by rw [List.length_append]; simp; omega, a6⟩
    · rw [List.drop_eq_nil_of_le (by omega)] at k8
      refine .inl ⟨(ij i h2 G2 ms2 H' k1 k2 k3).2 (by omega), ?_⟩
      exact comp_end k1 k2 k3 k4 hF k5 (by omega) k8
  cases it with
  | seq ds => exact seqs ds ij.1 ij.2 q1
  | rng lo n =>
    cases ij
    dsimp only at q1
    split at q1
    · rename_i hz
      exact seqs (rgL lo n) yields_range (by unfold rgL; simpa using hz) q1
    · exact q1.elim
  | loc n =>
    obtain ⟨ad, ha, rfl⟩ := ij
    dsimp only at q1
    cases el : locAt h1 n with
    | none => rw [el] at q1; exact q1.elim
    | some xs =>
      rw [el] at q1
      dsimp only at q1
      refine ⟨fun i m' H' => ∃ G2 ms2 h2 acc ws, Hh X.K G2 ms2 h2 H' ∧ Same G1.1 G2.1 ∧ ms1 <+: ms2 ∧ G2.2 = upd G1.2 Dd (.lst ws) ∧ IsL X.K G2 ms2 acc ws ∧ (acc.length ≤ i ∧ acc.length ≤ sizeLine) ∧
          Post X.K X.mg (fun c d H => W c d σ H) G1 ms1 (Is X.K) (compL g tt te (wipeS s vs) n (newL m) m' i acc h2) Q,
        ⟨xs.length + 1, _, ms1, h1, [], [], hh2, Same.refl _, pre_refl _, rfl, rfl, ⟨Nat.le_refl _, Nat.zero_le _⟩, q1⟩, ?_⟩
      rintro i m' H' ⟨G2, ms2, h2, acc, ws, k1, k2, k3, k4, k5, k6, k8⟩
      cases m' with
      | zero => exact k8.elim
      | succ m' =>
        unfold compL at k8
        cases el2 : locAt h2 n with
        | none => rw [el2] at k8; exact k8.elim
        | some ys =>
          rw [el2] at k8
          dsimp only at k8
          obtain ⟨ad', zs, j1, j2, j3⟩ := k1.at (locAt_some el2)
          have hyz := k1.atz (locAt_some el2)
          rw [pre_get k3 ha] at j1
          cases j1
          have hq : SqL X.K H' ad zs := .of j2
          cases ey : ys[i]? with
          | none =>
            rw [ey] at k8
            dsimp only at k8
            refine .inl ⟨⟨zs, hq, ?_⟩, comp_end k1 k2 k3 k4 hF k5 k6.2 k8⟩
            rw [← j3.length]
            exact List.getElem?_eq_none_iff.mp ey
          | some d =>
            rw [ey] at k8
            dsimp only at k8
            have hiy : i < ys.length := (List.getElem?_eq_some_iff.mp ey).1
            obtain ⟨v, n1, n2⟩ := j3.get ey
            refine .inr ⟨⟨zs, v, hq, n1⟩, fun H' => ∃ G2 ms2 h2 acc ws, Hh X.K G2 ms2 h2 H' ∧ Same G1.1 G2.1 ∧ ms1 <+: ms2 ∧ G2.2 = upd G1.2 Dd (.lst ws) ∧ IsL X.K G2 ms2 acc ws ∧ (acc.length ≤ i + 1 ∧ acc.length ≤ sizeLine) ∧
              Post X.K X.mg (fun c d H => W c d σ H) G1 ms1 (Is X.K) (compL g tt te (wipeS s vs) n (newL m) m' (i + 1) acc h2) Q, fun H' hw => ⟨m', by omega, hw⟩, ?_⟩
            rintro x H3 ⟨rfl, y⟩
            have := y zs hq
            rw [n1] at this
            cases this
            have hs3 : Sl X.K G2 ms2 [] (wipeS s vs) (L2.wipe σ vs) := Sl.wipe (vs := vs) ((sl.mono e1 p1).mono' k2 k3)
            refine comp_turn rfl k1 hs3 n2 k2 k3 k4 k5 (Nat.lt_of_le_of_lt k6.1 (Nat.lt_of_lt_of_le hiy hyz)) k8 ?_ ?_
            · exact fun h5 G5 ms5 H5 a1 a2 a3 a4 a5 a6 => ⟨G5, ms5, h5, acc, ws, a1, a2, a3, a4, a5, ⟨by omega, k6.2⟩, a6⟩
            · exact fun y v h5 G5 ms5 H5 a1 a2 a3 a4 a5 a6 => ⟨G5, ms5, h5, acc ++ [y], ws ++ [v], a1, a2, a3, a4, a5, ⟨by rw [List.length_append]; simp; omega, by rw [List.length_append]; exact Nat.le_trans (Nat.add_le_add_right k6.1 1) (Nat.le_trans hiy hyz)⟩, a6⟩
theorem ve_comp (m : Bool) {elt tg iter : Expr} {ifs : List Expr} {scope : Scope} (own : List (Str × Nat)) {fi : FI} {g : Tg} {tt : FT} {te : FE} (hc : X.calm = true) (hN : X.N.Nodup) (hi : VI X W pin tg iter fi) (ok : BlkOk X.N X.env.scope scope own)
    (hg : ∀ (s : Shared) (H : Hp) (C : Addr) (cl : List (Str × Addr)) (fp : List Addr), VG (X.blk s H scope (compEnvC scope cl C X.env) fp) [] (own.map (·.2)) tg g) (ht : ∀ (s : Shared) (H : Hp) (C : Addr) (cl : List (Str × Addr)) (fp : List Addr), VTs (X.blk s H scope (compEnvC scope cl C X.env) fp) W0 [] ifs tt)
    (he : ∀ (s : Shared) (H : Hp) (C : Addr) (cl : List (Str × Addr)) (fp : List Addr), VE (X.blk s H scope (compEnvC scope cl C X.env) fp) W0 [] elt te) (hs : ∀ x, foldedSetIterable iter X.env x = pure x := by intro _; rfl) :
    VE X W pin (.ListComp elt [⟨tg, iter, ifs, 0⟩] scope pos) (eComp m (own.map (·.2)) fi g tt te) :=
  pe_imp (pe_lc (g := rdG X [] (own.map (fun (p : Str × Nat) => p.2)) g) (tt := rdT X W0 [] tt) (te := rdE X W0 [] te) hc hN hi ok hg ht he hs) fun σ H Q q => comp_read m q
theorem vs_setComp (m : Bool) (i : Nat) {y : Str} {py : Pos} {elt tg iter : Expr} {ifs : List Expr} {scope : Scope} {spos : Pos} (own : List (Str × Nat)) {fi : FI} {g : Tg} {tt : FT} {te : FE} (hc : X.calm = true) (hN : X.N.Nodup) (hi : VI X W pin tg iter fi) (ok : BlkOk X.N X.env.scope scope own)
    (hg : ∀ (s : Shared) (H : Hp) (C : Addr) (cl : List (Str × Addr)) (fp : List Addr), VG (X.blk s H scope (compEnvC scope cl C X.env) fp) [] (own.map (·.2)) tg g) (ht : ∀ (s : Shared) (H : Hp) (C : Addr) (cl : List (Str × Addr)) (fp : List Addr), VTs (X.blk s H scope (compEnvC scope cl C X.env) fp) W0 [] ifs tt)
    (he : ∀ (s : Shared) (H : Hp) (C : Addr) (cl : List (Str × Addr)) (fp : List Addr), VE (X.blk s H scope (compEnvC scope cl C X.env) fp) W0 [] elt te)
    (hy : X.N[i]? = some y := by rfl) (hyl : X.env.scope.names.lookup y = some .local := by rfl) (np : NotPin pin i := by first | exact notPin_nil | decide)
    (hsw : swapsWith (.ListComp elt [⟨tg, iter, ifs, 0⟩] scope pos) (some (.Name y py)) spos.line X.env = pure true := by exact sw_true rfl rfl rfl (by decide +kernel)) (hs : ∀ x, foldedSetIterable iter X.env x = pure x := by intro _; rfl) :
    VS X W pin (.Assign [.Name y py] (.ListComp elt [⟨tg, iter, ifs, 0⟩] scope pos) spos) (sSet i (eComp m (own.map (·.2)) fi g tt te)) := by
  refine ps_imp (ps_setLc (g := rdG X [] (own.map (fun (p : Str × Nat) => p.2)) g) (tt := rdT X W0 [] tt) (te := rdE X W0 [] te) hc hN hy hyl hsw hi ok hg ht he hs) fun D σ H ⟨G, ms, s, h, hh, sl, q⟩ => ?_
  refine comp_read m ⟨G, ms, s, h, hh, sl, PostS.ofR sl q fun d h1 v H1 G1 ms1 e1 p1 hh1 i1 q1 => ?_⟩
  exact q1 _ H1 G1 ms1 (GLe.refl _) (pre_refl _) hh1 ((sl.mono e1 p1).set i1 np)
end
end WD
namespace WD
open PySem PySem.Spec PyProof.Rows L2
mutual
def D.und (n : Nat) : D → Bool
  | .tup xs => undL n xs
  | .lst xs => undL n xs
  | .scr xs => undL n xs
  | .dic _ xs => undL n xs
  | .loc m => decide (m < n)
  | _ => true
def undL (n : Nat) : List D → Bool
  | [] => true
  | x :: xs => x.und n && undL n xs
end
def O.und (n : Nat) : O → Bool
  | .lst xs => undL n xs
section
variable {K : PySem.W.Frag} {mg : Str → Option Value} {E : XK} {G G' : GG} {H : Hp} {ms ms' : List Addr} {h h' : Hs}
theorem get_cut {n : Nat} {a : Addr} (p : ms <+: ms') (h : ms'[n]? = some a) (hn : n < ms.length) : ms[n]? = some a := by
  obtain ⟨t, rfl⟩ := p
  rw [List.getElem?_append_left hn] at h; exact h
theorem lt_of_get {α : Type} {l : List α} {n : Nat} {a : α} (h : l[n]? = some a) : n < l.length := by
  rcases Nat.lt_or_ge n l.length with q | q
  · exact q
  · rw [List.getElem?_eq_none q] at h; cases h
mutual
theorem Is.cut (p : ms <+: ms') : ∀ (d : D) (v : V), Is K G ms' d v → d.und ms.length = true → Is K G ms d v
  | .non, _, h, _ => h
  | .bl _, _, h, _ => h
  | .int _, _, h, _ => h
  | .str _, _, h, _ => h
  | .tup xs, v, h, b => by
    obtain ⟨a, vs, h1, h2, h3⟩ := h
    exact ⟨a, vs, h1, h2, IsL.cut p xs vs h3 (by simpa [D.und] using b)⟩
  | .lst xs, v, h, b => by
    obtain ⟨a, vs, h1, h2, h3⟩ := h
    exact ⟨a, vs, h1, h2, IsL.cut p xs vs h3 (by simpa [D.und] using b)⟩
  | .scr xs, v, h, b => by
    obtain ⟨a, vs, h1, h2, h3⟩ := h
    exact ⟨a, vs, h1, h2, IsL.cut p xs vs h3 (by simpa [D.und] using b)⟩
  | .dic ks xs, v, h, b => by
    obtain ⟨a, vs, h1, h2, hl, h3⟩ := h
    exact ⟨a, vs, h1, h2, hl, IsL.cut p xs vs h3 (by simpa [D.und] using b)⟩
  | .loc n, v, h, b => by
    obtain ⟨a, h1, h2⟩ := h
    exact ⟨a, get_cut p h1 (by simpa [D.und] using b), h2⟩
theorem IsL.cut (p : ms <+: ms') : ∀ (xs : List D) (vs : List V), IsL K G ms' xs vs → undL ms.length xs = true → IsL K G ms xs vs
  | [], _, h, _ => h
  | x :: xs, vs, h, b => by
    obtain ⟨v, r, h1, h2, h3⟩ := h
    simp only [undL, Bool.and_eq_true] at b
    exact ⟨v, r, h1, Is.cut p x v h2 b.1, IsL.cut p xs r h3 b.2⟩
end
mutual
theorem Is.und : ∀ (d : D) (v : V), Is K G ms d v → d.und ms.length = true
  | .non, _, _ => rfl
  | .bl _, _, _ => rfl
  | .int _, _, _ => rfl
  | .str _, _, _ => rfl
  | .tup xs, v, h => by
    obtain ⟨a, vs, h1, h2, h3⟩ := h
    simpa [D.und] using IsL.und xs vs h3
  | .lst xs, v, h => by
    obtain ⟨a, vs, h1, h2, h3⟩ := h
    simpa [D.und] using IsL.und xs vs h3
  | .scr xs, v, h => by
    obtain ⟨a, vs, h1, h2, h3⟩ := h
    simpa [D.und] using IsL.und xs vs h3
  | .dic ks xs, v, h => by
    obtain ⟨a, vs, h1, h2, hl, h3⟩ := h
    simpa [D.und] using IsL.und xs vs h3
  | .loc n, v, h => by
    obtain ⟨a, h1, h2⟩ := h
    simpa [D.und] using lt_of_get h1
theorem IsL.und : ∀ (xs : List D) (vs : List V), IsL K G ms xs vs → undL ms.length xs = true
  | [], _, _ => rfl
  | x :: xs, vs, h => by
    obtain ⟨v, r, h1, h2, h3⟩ := h
    simp only [undL, Bool.and_eq_true]
    exact ⟨Is.und x v h2, IsL.und xs r h3⟩
end
theorem Hh.und (x : Hh K G ms h H) {i : Nat} {o : O} (e : h[i]? = some o) : o.und ms.length = true := by
  have hm : i < ms.length := by rw [x.len]; exact lt_of_get e
  have q := x.obj i ms[i] o (List.getElem?_eq_getElem hm) e
  cases o with
  | lst xs =>
    obtain ⟨vs, h1, h2, _⟩ := q
    exact IsL.und xs vs h2
theorem Hh.trunc (x : Hh K G ms' h' H) (p : ms <+: ms') (hb : ∀ (i : Nat) (o : O), i < ms.length → h'[i]? = some o → o.und ms.length = true) : Hh K G ms (h'.take ms.length) H := by
  have hl : ms.length ≤ ms'.length := p.length_le
  have sub : ∀ a ∈ ms, a ∈ ms' := fun a ha => p.subset ha
  refine ⟨x.sub, x.gsz, x.frm, fun a o e => ⟨(x.frd a o e).1, fun hm => (x.frd a o e).2 (sub a hm)⟩, ?_, ?_, fun a ha => x.dis a (sub a ha), fun n a o e1 e2 => ?_⟩
  · rw [List.length_take, ← x.len]; omega
  · obtain ⟨t, rfl⟩ := p
    exact (List.nodup_append.mp x.nd).1
  · have hn := lt_of_get e1
    rw [List.getElem?_take_of_lt hn] at e2
    have q := x.obj n a o (pre_get p e1) e2
    have b := hb n o hn e2
    cases o with
    | lst xs =>
      obtain ⟨vs, h1, h2, h3⟩ := q
      exact ⟨vs, h1, IsL.cut p _ _ h2 b, h3⟩
theorem Hh.ice (x : Hh K G ms h H) {a : Addr} {o : HO} (e : H a = some o) (g1 : G.1 a = none) (g2 : G.2 a = none) (nm : a ∉ ms) (hz : SzO o) : Hh K (gupd G a o) ms h H := by
  refine ⟨fun b u q => ?_, fun b u q => ?_, x.frm, fun b u q => ⟨?_, (x.frd b u q).2⟩, x.len, x.nd, fun b hb => ?_, fun n b u e1 e2 => (x.obj n b u e1 e2).mono (gle_upd g1) (pre_refl _) rfl⟩
  · by_cases hq : b = a
    · subst hq
      have q : upd G.1 b o b = some u := q
      rw [upd_same] at q; cases q; exact e
    · have q : upd G.1 a o b = some u := q
      rw [upd_ne hq] at q; exact x.sub b u q
  · by_cases hq : b = a
    · subst hq
      have q : upd G.1 b o b = some u := q
      rw [upd_same] at q; cases q; exact hz
    · have q : upd G.1 a o b = some u := q
      rw [upd_ne hq] at q; exact x.gsz b u q
  · show upd G.1 a o b = none
    rw [upd_ne (fun z => by have q : G.2 b = some u := q; rw [z, g2] at q; cases q)]; exact (x.frd b u q).1
  · show upd G.1 a o b = none
    rw [upd_ne (fun z => nm (by rw [← z]; exact hb))]; exact x.dis b hb
end
inductive Md where
  | trunc | keep | move
def TruncOk (n : Nat) (h h' : Hs) : Prop := ∀ (i : Nat) (o : O), i < n → h'[i]? = some o → h[i]? = some o ∨ o.und n = true
def frz1 (n : Nat) (h' : Hs) (d : D) : Option D := if d.und n = true then some d else match d with
  | .loc m => match locAt h' m with
    | some xs => if undL n xs = true then some (.lst xs) else none
    | none => none
  | _ => none
open Classical in
noncomputable def exitT (h : Hs) (d : D) (h' : Hs) : R D := if TruncOk h.length h h' then (match frz1 h.length h' d with
  | some d' => .ok d' (h'.take h.length)
  | none => .bad) else .bad
open Classical in
noncomputable def exitM (h : Hs) (m : Nat) (h' : Hs) : R D := if TruncOk h.length h h' ∧ h.length ≤ m then (match locAt h' m with
  | some xs => if undL h.length xs = true then .ok (.loc h.length) (h'.take h.length ++ [.lst xs]) else .bad
  | none => .bad) else .bad
noncomputable def exitF (md : Md) (h : Hs) (d : D) (h' : Hs) : R D := match md with
  | .keep => .ok d h'
  | .trunc => exitT h d h'
  | .move => match d with
    | .loc m => exitM h m h'
    | _ => exitT h d h'
open Classical in
noncomputable def exitX (h : Hs) (x : Xn) (h' : Hs) : R D := if TruncOk h.length h h' ∧ (∀ f d, x.val = some (f, d) → d.und h.length = true) then .err x (h'.take h.length) else .bad
noncomputable def runF (n N : Nat) (md : Md) (b : FS) : List D → Hs → R D := fun ds h => if ds.length = n then (match b (ds.map some ++ List.replicate (N - n) none) h with
  | .nx _ h' => exitF md h .non h'
  | .rt d h' => exitF md h d h'
  | .er x _ h' => exitX h x h'
  | _ => .bad) else .bad
/-- a def's promise: it does what g says -/
def spF (K : PySem.W.Frag) (mg : Str → Option Value) (n : Nat) (g : List D → Hs → R D) : Sp := fun vs H Q E => vs.length = n ∧ ∃ G ms ds h, Hh K G ms h H ∧ IsL K G ms ds vs ∧ Post K mg E G ms (Is K) (g ds h) Q
section
variable {K : PySem.W.Frag} {mg : Str → Option Value} {E : XK} {G G' : GG} {H H' : Hp} {ms ms' : List Addr} {h h' : Hs}
theorem trunc_ok (x : Hh K G ms h H) (x' : Hh K G' ms' h' H') (p : ms <+: ms') (t : TruncOk h.length h h') : Hh K G' ms (h'.take h.length) H' := by
  rw [← x.len] at t ⊢
  refine x'.trunc p fun i o hi e => ?_
  rcases t i o hi e with q | q
  · exact x.und q
  · exact q
theorem exitT_post {d : D} {v : V} {Q : VK} (x : Hh K G ms h H) (e : GLe G G') (p : ms <+: ms') (x' : Hh K G' ms' h' H') (i : Is K G' ms' d v) (q : Post K mg E G ms (Is K) (exitT h d h') Q) : Q v H' := by
  unfold exitT at q
  split at q
  · rename_i t
    have xt := trunc_ok x x' p t
    unfold frz1 at q
    split at q
    · rename_i d' ed
      split at ed
      · rename_i hb
        cases ed
        exact q.fin2 e (pre_refl _) xt (Is.cut p _ _ i (by rw [x.len]; exact hb))
      · split at ed
        · rename_i m hb
          split at ed
          · rename_i xs ex
            split at ed
            · rename_i hx
              cases ed
              obtain ⟨a, vs, e1, e2, e3, e4⟩ := x'.locW i ex
              subst e1
              have g1 := x'.dis a (List.mem_of_getElem? e2)
              have g2 : G'.2 a = none := by
                cases z : G'.2 a with
                | none => rfl
                | some u => exact absurd (List.mem_of_getElem? e2) (x'.frd a u z).2
              have nm : a ∉ ms := fun hm => by
                obtain ⟨j, hj⟩ := List.getElem?_of_mem hm
                have := nd_ix x'.nd (pre_get p hj) e2
                subst this
                exact hb (by simpa [D.und, x.len] using lt_of_get hj)
              refine q.fin2 (e.trans (gle_upd g1)) (pre_refl _) (xt.ice e3 g1 g2 nm (show vs.length ≤ sizeLine by rw [← e4.length]; exact x'.atz (locAt_some ex))) ⟨a, vs, rfl, upd_same, ?_⟩
              exact IsL.mono (gle_upd g1) (pre_refl _) _ _ (IsL.cut p _ _ e4 (by rw [x.len]; exact hx))
            · cases ed
          · cases ed
        · cases ed
    · exact q.elim
  · exact q.elim
theorem exitM_post {m : Nat} {v : V} {Q : VK} (x : Hh K G ms h H) (e : GLe G G') (p : ms <+: ms') (x' : Hh K G' ms' h' H') (i : Is K G' ms' (.loc m) v) (q : Post K mg E G ms (Is K) (exitM h m h') Q) : Q v H' := by
  unfold exitM at q
  split at q
  · rename_i t
    have xt := trunc_ok x x' p t.1
    split at q
    · rename_i xs ex
      split at q
      · rename_i hx
        obtain ⟨a, vs, e1, e2, e3, e4⟩ := x'.locW i ex
        subst e1
        have e4' := IsL.cut p _ _ e4 (by rw [x.len]; exact hx)
        have hz := x'.atz (locAt_some ex)
        have nm : a ∉ ms := fun hm => by
          obtain ⟨j, hj⟩ := List.getElem?_of_mem hm
          have := nd_ix x'.nd (pre_get p hj) e2
          subst this
          have := lt_of_get hj
          rw [x.len] at this
          omega
        have hl : (h'.take h.length).length = ms.length := xt.len.symm
        have pp : ms <+: ms ++ [a] := ⟨[a], rfl⟩
        refine q.fin2 (ms' := ms ++ [a]) e pp ?_ ⟨a, by rw [← x.len]; simp, rfl⟩
        refine ⟨xt.sub, xt.gsz, xt.frm, fun b u z => ⟨(xt.frd b u z).1, fun hm => ?_⟩, by simp [hl], ?_, fun b hb => ?_, fun n b u e1 e2' => ?_⟩
        · rcases List.mem_append.mp hm with w | w
          · exact (xt.frd b u z).2 w
          · have : b = a := by simpa using w
            subst this
            exact (x'.frd b u z).2 (List.mem_of_getElem? e2)
        · refine List.nodup_append.mpr ⟨xt.nd, by simp, fun b hb c hc => ?_⟩
          have : c = a := by simpa using hc
          subst this
          exact fun z => nm (by rw [← z]; exact hb)
        · rcases List.mem_append.mp hb with w | w
          · exact xt.dis b w
          · have : b = a := by simpa using w
            subst this
            exact x'.dis _ (List.mem_of_getElem? e2)
        · by_cases hn : n < ms.length
          · rw [List.getElem?_append_left hn] at e1
            rw [List.getElem?_append_left (by rw [hl]; exact hn)] at e2'
            exact (xt.obj n b u e1 e2').mono (GLe.refl _) pp rfl
          · have hn' : n = ms.length := by
              have := lt_of_get e1
              simp at this; omega
            subst hn'
            simp at e1
            rw [← hl] at e2'
            simp at e2'
            subst e1 e2'
            exact ⟨vs, e3, IsL.mono (GLe.refl _) pp _ _ e4', hz⟩
      · exact q.elim
    · exact q.elim
  · exact q.elim
theorem exitF_post {md : Md} {d : D} {v : V} {Q : VK} (x : Hh K G ms h H) (e : GLe G G') (p : ms <+: ms') (x' : Hh K G' ms' h' H') (i : Is K G' ms' d v) (q : Post K mg E G ms (Is K) (exitF md h d h') Q) : Q v H' := by
  cases md with
  | keep => exact q.fin2 e p x' i
  | trunc => exact exitT_post x e p x' i q
  | move =>
    cases d with
    | loc m => exact exitM_post x e p x' i q
    | _ => exact exitT_post x e p x' i q
theorem exitX_post {y : Xn} {d : Option Addr} {Q : VK} (x : Hh K G ms h H) (e : GLe G G') (p : ms <+: ms') (x' : Hh K G' ms' h' H') (i : XIs K G' ms' H' y d) (q : Post K mg E G ms (Is K) (exitX h y h') Q) : E (clsV mg y) d H' := by
  unfold exitX at q
  split at q
  · rename_i t
    have xt := trunc_ok x x' p t.1
    refine q H' G' ms d e (pre_refl _) xt ?_
    unfold XIs at i ⊢
    cases ev : y.val with
    | none => rw [ev] at i; exact i
    | some fd =>
      obtain ⟨f, dd⟩ := fd
      rw [ev] at i
      obtain ⟨a, v, k1, k2, k3⟩ := i
      exact ⟨a, v, k1, k2, Is.cut p _ _ k3 (by rw [x.len]; exact t.2 f dd ev)⟩
  · exact q.elim
theorem map_start {N : List Str} {ds : List D} {vs : List V} (i : IsL K G ms ds vs) : Sl K G ms [] (ds.map some ++ List.replicate (N.length - ds.length) none) (start N vs) := by
  unfold L2.start
  have hl := i.length
  refine ⟨by simp [hl], fun j d e => ?_, fun _ h => (nomatch h)⟩
  by_cases hj : j < ds.length
  · rw [List.getElem?_append_left (by simpa using hj), List.getElem?_map] at e
    cases ed : ds[j]? with
    | none => rw [ed] at e; cases e
    | some d' =>
      rw [ed] at e
      cases e
      obtain ⟨v, k1, k2⟩ := i.get ed
      refine ⟨v, ?_, k2⟩
      rw [List.getElem?_append_left (by rw [List.length_map, ← hl]; exact hj), List.getElem?_map, k1]
      rfl
  · rw [List.getElem?_append_right (by simpa using hj)] at e
    have := List.mem_of_getElem? e
    have := List.eq_of_mem_replicate this
    cases this
end
section
variable {P : Program} {w : World} {K : PySem.W.Frag} {mg : Str → Option Value} {base : Heap}
/-- THE RULE for a def -/
theorem fn_ok (md : Md) {x qual : Str} {st : Stmt} {f : Addr} {fd : FuncData} {N ps : List Str} {k : Nat} {b : FS} (F : Fun K x qual st f fd) (S : FnScope N ps (defScope st))
    (hb : ∀ (cdv : Value) (A : Around) (outer : List Env) (s : Shared) (H : Hp) (E : XK), Room k (A.deeper (envOfC qual (defScope st) s.heap.objs.size f cdv)) → VSs (cxOf (L2.CX P w) P w K mg base N qual (defScope st) f cdv A outer s H E) (fun cls d _ H => E cls d H) [] (defBody st) b) :
    FnOk P w K mg base (L2.CX P w) (k + 1) f fd ps (spF K mg ps.length (runF ps.length N.length md b)) := by
  refine F.okX S (fun vs H Q E h => h.1) (fun cdv A outer s H vs Q E hr h => ?_)
  obtain ⟨hl, G, ms, ds, h, hh, i, q⟩ := h
  refine ⟨_, hb cdv A outer s H E hr, G, ms, _, h, hh, map_start (N := N) i, ?_⟩
  have hd : ds.length = ps.length := by rw [i.length]; exact hl
  unfold runF at q
  rw [if_pos hd] at q
  rw [hd]
  cases e : b (ds.map some ++ List.replicate (N.length - ps.length) none) h with
  | nx s' h' =>
    rw [e] at q
    exact fun σ' H' G' ms' e1 p1 hh1 sl1 => exitF_post (d := .non) hh e1 p1 hh1 rfl q
  | rt d h' =>
    rw [e] at q
    exact fun v H' G' ms' e1 p1 hh1 i1 => exitF_post hh e1 p1 hh1 i1 q
  | er y s' h' =>
    rw [e] at q
    exact fun σ' H' G' ms' d e1 p1 hh1 _ i1 => exitX_post hh e1 p1 hh1 i1 q
  | bk s' h' => rw [e] at q; exact q.elim
  | ct s' h' => rw [e] at q; exact q.elim
  | bad => rw [e] at q; exact q.elim
end
section
variable {X : Cx} {W : WX} {pin : List (Nat × V)} {pos p : Pos}
def eCall (n : Nat) (g : List D → Hs → R D) (f : FA) : FE := fun s h => (f s h).bind fun ds h1 => if ds.length = n then g ds h1 else .bad
theorem ve_call {k n : Nat} {f : Addr} {fd : FuncData} {ps : List Str} {x : Str} {e : Expr} {es : List Expr} {g : List D → Hs → R D} {fa : FA} (F : FnOk X.prog X.w X.K X.mg X.base (L2.CX X.prog X.w) k f fd ps (spF X.K X.mg n g)) (hr : Room k X.A) (hg : Gl X x) (hm : X.mg x = some (.ref f)) (hk : PySem.W.keepIn X.K (.ref f) = true) (hb : Binds X.K fd ps []) (tk : Takes X W)
    (ha : VA X W pin (e :: es) fa) (hdb : (x == ("__debug__" : Str)) = false := by decide) (he : starEach (e :: es) X.env = (false, eval e X.env) :: starEach es X.env := by rfl) (hpl : (backTo pos (starEach es X.env)).any (·.1) = false := by rfl) :
    VE X W pin (.Call (.Name x p) (e :: es) [] pos) (eCall n g fa) := by
  refine pe_imp (pe_callS F hr hg hm hk hb (fun σ => passAt tk σ) ha hdb he hpl) fun σ H Q ⟨G, ms, s, h, hh, sl, q⟩ => ⟨G, ms, s, h, hh, sl, Post.bind q fun ds h1 vs H1 G1 ms1 e1 p1 hh1 i1 q1 => ?_⟩
  by_cases hn : ds.length = n
  · rw [if_pos hn] at q1
    exact ⟨by rw [← i1.length]; exact hn, G1, ms1, ds, h1, hh1, i1, q1⟩
  · rw [if_neg hn] at q1; exact q1.elim
end
/-- the law's own promise -/
def spL (K : PySem.W.Frag) (g : List D → Hs → R D) : Sp := fun vs H Q _ => spF K (fun _ => none) 1 g vs H Q fun _ _ _ => False
theorem spL_imp {K : PySem.W.Frag} {mg : Str → Option Value} {g : List D → Hs → R D} {vs : List V} {H : Hp} {Q : VK} {E : XK} (q : spL K g vs H Q E) : spF K mg 1 g vs H Q E := by
  obtain ⟨hl, G, ms, ds, h, hh, i, q⟩ := q
  refine ⟨hl, G, ms, ds, h, hh, i, ?_⟩
  cases e : g ds h with
  | ok d h' => rw [e] at q; exact q
  | err x h' => rw [e] at q; exact fun H' G' ms' d h1 h2 h3 h4 => (q H' G' ms' d h1 h2 h3 h4).elim
  | bad => rw [e] at q; exact q
end WD
namespace WD
open PySem PySem.Spec PyProof.Rows L2
def sRaise (name : Str) : FS := fun s h => .er ⟨name, none⟩ s h
abbrev veBm : List Value := [.type "ValueError", .type "Exception", .type "BaseException", .type "object"]
/-- what is known of an own error's class -/
structure Xc (K : PySem.W.Frag) (mg : Str → Option Value) (x : Str) (C : Addr) : Prop where
  g : mg x = some (.ref C)
  q : PySem.W.excIn K C veBm "ValueError.__new__" = true
  k : PySem.W.keepIn K (.ref C) = true
  b : PySem.W.subIn K (.ref C) (.type "BaseException") = some true
  t : PySem.W.typeIn K (.ref C) = some (.type "type")
section
variable {X : Cx} {W : WX} {pin : List (Nat × V)} {pos : Pos}
theorem pmk_own0 {x : Str} {p : Pos} {C : Addr} (c : Xc X.K X.mg x C) (hg : Gl X x) (hdb : (x == ("__debug__" : Str)) = false := by decide) : PMk X (.Call (.Name x p) [] [] pos) (fun _ H Q => Q (.ref C) none H) := by
  intro pins s σ H Q I h
  refine wpAny_Call_Name_kw (ld_glob I hg c.g ?_ hdb)
  refine PySem.W.callWith_K0 I.kIn c.k ?_
  obtain ⟨bm, N, nm, qn, bs, hdct, sn, sub, ab, col, dd, k0, k1, k2, k3, k5, mN, hC, hN, hni, T⟩ := exc_obj I.kIn c.q
  refine wpAny_call_exc_subT PySem.F.excBase_ValueError T hC hN hni (fun h' e hm => ?_) (Nat.zero_le _)
  exact mk_of I hm (raises_own c.b c.t) h (I.hok.gone hm.new)
theorem vs_raise {x : Str} {p pos' : Pos} {C : Addr} (c : Xc X.K X.mg x C) (hg : Gl X x) (hc : X.calm = true) (tk : Takes X W) (hdb : (x == ("__debug__" : Str)) = false := by decide) : VS X W pin (.Raise (some (.Call (.Name x p) [] [] pos')) none pos) (sRaise x) := by
  refine ps_imp (ps_raise hc tk (pmk_own0 c hg hdb)) fun D σ H ⟨G, ms, s, h, hh, sl, q⟩ => ?_
  have e : clsV X.mg ⟨x, none⟩ = .ref C := by unfold clsV; rw [c.g]; rfl
  have := q σ H G ms none (GLe.refl _) (pre_refl _) hh sl rfl
  rw [e] at this
  exact this
end
/-- every error is a DaysError and a ValueError -/
def subX (y c : Str) : Bool := decide (y = c) || decide (c = "DaysError") || decide (c = "ValueError")
def unset (i : Nat) (r : RS) : RS := match r with
  | .nx s h => .nx (s.set i none) h
  | .bk s h => .bk (s.set i none) h
  | .ct s h => .ct (s.set i none) h
  | .rt d h => .rt d h
  | _ => .bad
def sTry (c : Str) (i : Nat) (names : List Str) (fb : FS) (fs : Str → FS) : FS := fun s h => match fb s h with
  | .er y s' h' => if y.val.isNone = true ∧ y.name ∈ names ∧ i < s'.length then (if subX y.name c = true then unset i (fs y.name (s'.set i none) h') else .er y s' h') else .bad
  | r => r
section
variable {X : Cx} {W : WX} {pin : List (Nat × V)} {pos : Pos} {K : PySem.W.Frag} {G : GG} {ms : List Addr}
theorem Sl.setPin {s : Ss} {σ : L2.St} {i : Nat} {v : V} (x : Sl K G ms pin s σ) (np : NotPin pin i) (hi : i < σ.length) : Sl K G ms ((i, v) :: pin) (s.set i none) (σ.set i (some v)) := by
  refine ⟨by simp [x.len], fun j d e => ?_, fun p hp => ?_⟩
  · by_cases hj : j = i
    · subst hj
      rw [List.getElem?_set_self (by rw [x.len]; exact hi)] at e
      cases e
    · rw [List.getElem?_set_ne (Ne.symm hj)] at e ⊢
      exact x.get j d e
  · rcases List.mem_cons.mp hp with rfl | hp
    · exact List.getElem?_set_self hi
    · rw [List.getElem?_set_ne (Ne.symm (np p hp))]
      exact x.pin p hp
theorem Sl.unPin {s : Ss} {σ : L2.St} {i : Nat} {v : V} (x : Sl K G ms ((i, v) :: pin) s σ) (np : NotPin pin i) : Sl K G ms pin (s.set i none) (σ.set i none) := by
  refine ⟨by simp [x.len], fun j d e => ?_, fun p hp => ?_⟩
  · by_cases hj : j = i
    · subst hj
      have hl := lt_of_get e
      simp at hl
      rw [List.getElem?_set_self hl] at e
      cases e
    · rw [List.getElem?_set_ne (Ne.symm hj)] at e ⊢
      exact x.get j d e
  · rw [List.getElem?_set_ne (Ne.symm (np p hp))]
    exact x.pin p (List.mem_cons_of_mem _ hp)
/-- try: body; except c as n: suite -/
theorem vs_try (i : Nat) (names : List Str) {x n : Str} {body suite : List Stmt} {b0 : Stmt} {np pos' : Pos} {fb : FS} {fs : Str → FS} {C : Addr} (hs : X.stack = X.env :: X.outer) (hf : X.env.frame = some X.env.locals) (hN : X.N.Nodup) (hg : Gl X x) (hm : X.mg x = some (.ref C)) (tk : Takes X W)
    (hex : ∀ y ∈ names, PySem.W.exmOne X.K (clsV X.mg ⟨y, none⟩) (.ref C) = some (subX y x))
    (hb : ∀ (W : WX) (pn : List (Addr × Obj)) (xe : Value → Shared → Prop), Takes (X.tr pn xe) W → PassesOwn (model X.prog X.w) X.A X.env xe → VSs (X.tr pn xe) W pin body fb)
    (hsu : ∀ (a : Addr) (oe : Obj) (y : Str) (pn : List (Addr × Obj)), y ∈ names → Zc (clsV X.mg ⟨y, none⟩) none oe → (∃ vs, oe.data = .fields vs) → VSs (X.suite a ((a, oe) :: pn)) W0 ((i, .ref a) :: pin) (b0 :: suite) (fs y))
    (hi : X.N[i]? = some n := by rfl) (hln : X.env.kindOf n = some .local := by rfl) (npn : NotPin pin i := by first | exact notPin_nil | decide) (hdb : (x == ("__debug__" : Str)) = false := by decide) :
    VS X W pin (.Try body [.ExceptHandler (some (.Name x np)) (some n) (b0 :: suite) pos'] [] [] pos) (sTry x i names fb fs) := by
  refine ⟨fun pins s σ H D I hq => ?_⟩
  have hlen := I.len
  have hil : i < σ.length := by rw [hlen]; exact lt_of_get hi
  refine (ps_try_as (tb := fun W => rdS X W pin fb) (ts := fun a cls d D σ H => ∃ y, y ∈ names ∧ cls = clsV X.mg ⟨y, none⟩ ∧ d = none ∧ rdS X W0 ((i, .ref a) :: pin) (fs y) D σ H) hs hf hN hi hln ⟨hg, hdb, .inl hm⟩ tk hb ?_).run pins s σ H D I ?_
  · intro a oe cls d pn hz hfl
    refine ⟨fun pins s σ H D I hq => ?_⟩
    obtain ⟨y, hy, rfl, rfl, hq⟩ := hq
    exact (hsu a oe y pn hy hz hfl).run pins s σ H D I hq
  · obtain ⟨G, ms, s, h, hh, sl, q⟩ := hq
    refine ⟨G, ms, s, h, hh, sl, ?_⟩
    unfold sTry at q
    cases e : fb s h with
    | nx s' h' => rw [e] at q; exact q
    | rt d h' => rw [e] at q; exact q
    | bk s' h' => rw [e] at q; exact q
    | ct s' h' => rw [e] at q; exact q
    | bad => rw [e] at q; exact q
    | er y s' h' =>
      rw [e] at q
      dsimp only at q
      split at q
      · rename_i hy
        obtain ⟨yn, yv⟩ := y
        have hv : yv = none := by
          cases yv with
          | none => rfl
          | some _ => cases hy.1
        subst hv
        intro σ' H' G' ms' d e1 p1 hh1 sl1 xi
        have hd : d = none := xi
        subst hd
        refine ⟨_, hex yn hy.2.1, fun hbt a ha => ?_, fun hbf => ?_⟩
        · rw [if_pos hbt] at q
          have hl' : i < σ'.length := by
            rw [← sl1.len]; exact hy.2.2
          refine ⟨yn, hy.2.1, rfl, rfl, G', ms', s'.set i none, h', hh1, sl1.setPin npn hl', ?_⟩
          have q' := PostS.mono (σ' := σ'.set i (some (.ref a))) (r := unset i (fs yn (s'.set i none) h')) q e1 p1
          cases er : fs yn (s'.set i none) h' with
          | nx s2 h2 => rw [er] at q'; exact fun σ2 H2 G2 ms2 e2 p2 hh2 sl2 => q' _ H2 G2 ms2 e2 p2 hh2 (sl2.unPin npn)
          | bk s2 h2 => rw [er] at q'; exact fun σ2 H2 G2 ms2 e2 p2 hh2 sl2 => q' _ H2 G2 ms2 e2 p2 hh2 (sl2.unPin npn)
          | ct s2 h2 => rw [er] at q'; exact fun σ2 H2 G2 ms2 e2 p2 hh2 sl2 => q' _ H2 G2 ms2 e2 p2 hh2 (sl2.unPin npn)
          | rt d h2 => rw [er] at q'; exact q'
          | er z s2 h2 => rw [er] at q'; exact q'.elim
          | bad => rw [er] at q'; exact q'
        · rw [if_neg (by rw [hbf]; decide)] at q
          exact q σ' H' G' ms' none e1 p1 hh1 sl1 rfl
      · exact q.elim
/-- isinstance(n, c) of the caught error -/
theorem ve_isE {a Dc : Addr} {oe : Obj} {pn : List (Addr × Obj)} (i : Nat) {n x : Str} {cv : Value} {c : V} {b : Bool} {p p1 p2 : Pos} (C : ExcC X.K Dc) (hz : Zc (.ref Dc) none oe) (hf : ∃ vs, oe.data = .fields vs) (hk : PySem.W.kitOne X.K (.ref Dc) cv = some b) (hcv : ∀ u, RelV c u → u = cv)
    (hx : PE (X.suite a ((a, oe) :: pn)) (.Name x p2) (tC c)) (hp : (i, V.ref a) ∈ pin) (hgi : Gl X "isinstance") (hmi : X.mg "isinstance" = none) (hN : X.N[i]? = some n := by rfl) (hv : Vis X.env.scope n := by first | exact Or.inl rfl | exact Or.inr (Or.inl rfl) | exact Or.inr (Or.inr rfl))
    (hd : (n == ("__debug__" : Str)) = false := by decide) (hcd : (n == ("__classdict__" : Str)) = false := by decide)
    (hs1 : starEach [.Name n p1, .Name x p2] X.env = (false, eval (.Name n p1) X.env) :: starEach [.Name x p2] X.env := by rfl) (hs2 : starEach [.Name x p2] X.env = (false, eval (.Name x p2) X.env) :: starEach [] X.env := by rfl) (hpl : (backTo pos (starEach [.Name x p2] X.env)).any (·.1) = false := by rfl) :
    VE (X.suite a ((a, oe) :: pn)) W pin (.Call (.Name "isinstance" p) [.Name n p1, .Name x p2] [] pos) (eC (.bl b)) := by
  refine pe_imp (pe_callB (call_isE C hz hf) hgi hmi (by decide +kernel) (pa_cons (pe_var (X := X.suite a ((a, oe) :: pn)) (i := i) hN hv hd hcd) (pa_cons hx pa_nil hs2) hs1) (by decide) (by decide) hs1 hpl) fun σ H Q ⟨G, ms, s, h, hh, sl, q⟩ => ?_
  refine ⟨.ref a, sl.pin _ hp, ?_⟩
  exact ⟨c, cv, b, rfl, hcv, hk, Post.fin (b := V.bl b) q hh rfl⟩
end
end WD
namespace WD
open PySem PySem.Spec PyProof.Rows L2
section
variable {X : Cx} {W : WX} {pin : List (Nat × V)} {K : PySem.W.Frag} {mg : Str → Option Value} {E : XK} {G G' : GG} {H : Hp} {ms ms' : List Addr} {h : Hs} {pos : Pos}
theorem Post.newD {ks : List Key} {xs : List D} {vs : List V} {Q : VK} {p : Addr} (q : Post K mg E G ms (Is K) (.ok (.dic ks xs) h) Q) (hh : Hh K G ms h H) (i : IsL K G ms xs vs) (hl : ks.length = vs.length) (hp : H p = none) : Q (.ref p) (upd H p (.dK (ks.zip vs))) := by
  have eg : GLe G (gupd G p (.dK (ks.zip vs))) := gle_upd (hh.gnone hp)
  exact q.fin2 eg (pre_refl _) (hh.still hp trivial) ⟨p, vs, rfl, upd_same, hl, IsL.mono eg (pre_refl _) _ _ i⟩
theorem ve_dict0 : VE X W pin (.Dict [] [] pos) (eC (.dic [] [])) :=
  pe_imp pe_dnewK fun σ H Q ⟨G, ms, s, h, hh, sl, q⟩ p hp => Post.newD (vs := []) q hh rfl rfl hp
theorem upd_upd {H : Hp} {p : Addr} {o o' : HO} : upd (upd H p o) p o' = upd H p o' := by
  funext a
  by_cases hz : a = p
  · subst hz; rw [upd_same, upd_same]
  · rw [upd_ne hz, upd_ne hz, upd_ne hz]
theorem ve_dict1 {i j : Int} {a b : Nat} {p1 p2 : Pos} : VE X W pin (.Dict [some (.Constant (.int i) a p1)] [.Constant (.int j) b p2] pos) (eC (.dic [.inl i] [.int j])) :=
  pe_imp (pe_disp (pps_cons pe_int pe_int pps_nil) rfl rfl (by simp) (by simp)) fun σ H Q ⟨G, ms, s, h, hh, sl, q⟩ p hp => by
    refine ⟨upd_same, [(.inl i, .int j)], rfl, by simp, ?_⟩
    rw [upd_upd]
    exact Post.newD (vs := [.int j]) q hh ⟨_, _, rfl, rfl, rfl⟩ rfl hp
end
end WD
namespace WD
open PySem PySem.Spec PyProof.Rows L2
set_option maxHeartbeats 1000000 in
theorem enum_new1 {v : Value} {o : Obj} {Z : Heap → Prop} (B : Begins v o Z) :
    Meets (Builtin.«enumerate.__new__» ⟨[.type "enumerate", v], []⟩) (fun _ R s => Z s.heap ∧
      R (.ok (.ret (.ref (s.heap.push o).objs.size))) { s with heap := (s.heap.push o).push { cls := .type "enumerate", data := .fields #[.none, .bool false, .ref s.heap.objs.size, rawInt 0, .none, .none] } }) :=
  .of_wp fun prog w A R s h => by
    obtain ⟨hp, gs, dr, tk, os⟩ := s
    obtain ⟨h1, h⟩ := h
    have hsub := sub_enumerate
    have q1 : ∀ {A' : Around} {E : Value → Shared → Prop} {Q : Value → Shared → Prop}, Q (.ref hp.objs.size) ⟨hp.push o, gs, dr, tk, os⟩ → wpAny (model prog w) A' (pyIter v) Q E ⟨hp, gs, dr, tk, os⟩ :=
      fun q => B.iter prog w _ _ ⟨hp, gs, dr, tk, os⟩ _ h1 q
    wp_walk using q1
    refine wpAny_stack_any fun st => wpAny_pure ?_
    split
    · rename_i c _ _ _ _ _
      cases (c == Value.type "enumerate") <;> (wp_walk using q1; exact ⟨_, rfl, h⟩)
    · wp_walk using q1
      exact ⟨_, rfl, h⟩
theorem enum_call1 {prog : Program} {w : World} {A : Around} {E : Value → Shared → Prop} {s : Shared} {v : Value} {o : Obj} {Z : Heap → Prop} {Q : Value → Shared → Prop} (B : Begins v o Z) (h1 : Z s.heap)
    (h : ∀ h', IsEnum h' (s.heap.objs.size + 1) s.heap.objs.size 0 .none → h'.get? s.heap.objs.size = some o → (∀ b o, s.heap.get? b = some o → h'.get? b = some o) → Q (.ref (s.heap.objs.size + 1)) { s with heap := h' }) :
    wpAny (model prog w) A (call (.type "enumerate") [v]) Q E s := by
  refine callType_new F.called_enumerate (by decide) (F.typeCall_enumerate_1 _) (F.newCall_enumerate_1 _) (fun obj => F.args_object_init_2 obj _) F.entry_enumerate_new (enum_new1 B) ⟨h1, ?_⟩
  have hz : (s.heap.push o).objs.size = s.heap.objs.size + 1 := Heap.size_push ..
  show _ ∧ _
  rw [hz]
  have he : IsEnum ((s.heap.push o).push { cls := .type "enumerate", data := .fields #[.none, .bool false, .ref s.heap.objs.size, rawInt 0, .none, .none] }) (s.heap.objs.size + 1) s.heap.objs.size 0 .none := by
    have q := Heap.get?_push_size (s.heap.push o) (o := { cls := .type "enumerate", data := .fields #[.none, .bool false, .ref s.heap.objs.size, rawInt 0, .none, .none] }) rfl
    rw [hz] at q; exact q
  exact ⟨⟨_, he, rfl⟩, h _ he (Heap.get?_push_of_some _ (Heap.get?_push_size _ B.free)) fun b o x => Heap.get?_push_of_some _ (Heap.get?_push_of_some _ x)⟩
/-- the tuple at a, each item in a new pair -/
def IteT (K : PySem.W.Frag) (a : Addr) : It :=
  ⟨fun i H => ∃ (xs : List V) (x : V), SqT K H a xs ∧ xs[i]? = some x, fun i H v H' => ∃ T x, v = .ref T ∧ H T = none ∧ H' = upd H T (.tup [.int (i : Nat), x]) ∧ ∀ xs, SqT K H a xs → xs[i]? = some x, fun i H => ∃ xs : List V, SqT K H a xs ∧ xs.length = i⟩
theorem turn_enumT {P : Program} {w : World} {K : PySem.W.Frag} {elts : List Expr} {kk : Nat} {tpos : Pos} (a e it : Addr) :
    Turn P w K (.Tuple elts kk tpos) (IteT K a) [e, it] e (fun i h => (∃ old, IsEnum h e it ((i : Nat) : Int) old) ∧ h.IsTupleIter it a i ∧ e ≠ it ∧ a ≠ it ∧ a ≠ e) where
  mem := List.mem_cons_self
  obj := fun i h st b hb => by
    obtain ⟨⟨old, he⟩, ⟨o, ho, hc, hd⟩, _⟩ := st
    rcases (show b = e ∨ b = it by simpa using hb) with rfl | rfl
    · exact ⟨_, he, fun v q => nomatch q⟩
    · exact ⟨o, ho, fun v q => by rw [hd] at q; cases q⟩
  keep := fun i h h' st k => let ⟨⟨old, he⟩, hi, hne⟩ := st; ⟨⟨old, k e (by simp) _ he⟩, hi.at fun o q => k it (by simp) o q, hne⟩
  item := by
    intro X hP hw hK hc i pins s σ H E I hf st hg
    subst hP hw hK
    obtain ⟨⟨old, he⟩, hit, hne, hai, hae⟩ := st
    obtain ⟨xs, x, hq, hx⟩ := hg
    obtain ⟨its, rv, p, hz⟩ := I.tuple hq
    obtain ⟨u, hu, ru⟩ := rv.get hx
    have hel : e < s.heap.objs.size := Heap.lt_size he
    have hil : it < s.heap.objs.size := by obtain ⟨_, q, _⟩ := hit; exact Heap.lt_size q
    have hlt : i < its.toArray.size := by
      rcases Nat.lt_or_ge i its.length with z | z
      · simpa using z
      · rw [List.getElem?_eq_none z] at hu; cases hu
    refine wpAny_pyNext_enum_itemC (Draws.tuple (A := X.A.in1) (I.ok.hd hc) it a hai its.toArray) he ⟨hit, p⟩ hlt hne (by simp; exact ⟨hne, Ne.symm hae⟩) fun x' h' tk hPx ho st' hT hsz hk => ?_
    have hxu : x' = u := by
      have h2 : its[i]? = some x' := by simpa using hPx
      rw [hu] at h2
      exact (Option.some.inj h2).symm
    subst hxu
    refine ⟨_, rfl, wpAny_letOwnedTupleGo_enum (s := { s with heap := h', toks := tk + 1 }) ho fun h'' he' sb => ?_⟩
    have hT2 : h''.get? s.heap.objs.size = some { cls := .type "tuple", data := .seq #[.int i tk, x'] } := (sb.2 _ (Nat.ne_of_gt hel)).trans hT
    have new : ObjOk X.prog X.w (upd H s.heap.objs.size (.tup [.int (i : Nat), x])) h'' s.heap.objs.size (.tup [.int (i : Nat), x]) :=
      ⟨show 2 ≤ sizeLine by decide, [.int i tk, x'], .cons ⟨_, rfl⟩ (.cons ru .nil), ⟨_, hT2, rfl, _, rfl⟩⟩
    have I1 : Inv X pins σ (upd H s.heap.objs.size (.tup [.int (i : Nat), x])) { s with heap := h'', toks := tk + 1 } :=
      I.turnedNew (ch := [e, it]) (fun b ob hb q => (sb.2 b (fun z => hb (by simp [z]))).trans (hk b ob (fun z => hb (by simp [z])) (fun z => hb (by simp [z])) q)) hf (Nat.le_refl _) new
    refine ⟨.ref s.heap.objs.size, _, I1, rfl, ⟨_, x, rfl, I.hok.fresh (Nat.le_refl _), rfl, fun ys hy => by rw [I.tuple_inj hy hq]; exact hx⟩, ⟨⟨x', ?_⟩, st'.1.at fun o q => (sb.2 it (Ne.symm hne)).trans q, hne, hai, hae⟩, fun b hb => ?_⟩
    · rw [show ((i + 1 : Nat) : Int) = (i : Int) + 1 by omega]; exact he'
    · have hb' : b < s.heap.objs.size := by
        rcases (show b = e ∨ b = it by simpa using hb) with rfl | rfl
        · exact hel
        · exact hil
      rw [upd_ne (Nat.ne_of_lt hb')]
      exact (hf b hb).1
  done := by
    intro X hP hw hK hc i pins s σ H E I hf st hg
    subst hP hw hK
    obtain ⟨⟨old, he⟩, hit, hne, hai, hae⟩ := st
    obtain ⟨xs, hq, hx⟩ := hg
    obtain ⟨its, rv, p, hz⟩ := I.tuple hq
    obtain ⟨f0, f1, f2, f3, f4, f5⟩ := hf it (by simp)
    have hl : its.toArray.size = i := by have := rv.length; simp; omega
    exact wpAny_pyNext_enum_endD (Draws.tuple (A := X.A.in1) (I.ok.hd hc) it a hai its.toArray) he (by rw [hl]; exact ⟨hit, p⟩) fun h' eb => ⟨rfl, I.turned (t' := s.toks) (fun b o hb q => eb b o hb q) f0 f1 f3 f4 f5⟩
  self := fun A i s Q E st h => let ⟨⟨_, he⟩, _⟩ := st; wpAny_pyIter_enum he h
section
variable {X : Cx} {W : WX} {pin : List (Nat × V)} {K : PySem.W.Frag} {mg : Str → Option Value} {E : XK} {G G' : GG} {H : Hp} {ms ms' : List Addr} {h : Hs} {pos : Pos}
/-- enumerate of a list or a tuple -/
def iEnumA (K : PySem.W.Frag) (ta : TA) : TI := fun σ H R => ta σ H fun vs H1 => ∃ a, vs = [.ref a] ∧ (((∃ xs, SqL K H1 a xs) ∧ R (Ite K a) H1) ∨ ((∃ xs, SqT K H1 a xs) ∧ R (IteT K a) H1))
theorem pi_enumA {e : Expr} {ta : TA} {p tpos : Pos} {elts : List Expr} {kk : Nat} (hg : Gl X "enumerate") (hm : X.mg "enumerate" = none) (ha : PA X [e] ta) (hs : starEach [e] X.env = [(false, eval e X.env)] := by rfl) :
    PI X (.Tuple elts kk tpos) (.Call (.Name "enumerate" p) [e] [] pos) (iEnumA X.K ta) := by
  refine ⟨fun pins s σ H R I h => ?_⟩
  refine Call_ (ld_blt I hg hm boot_enumerate (PyProof.Rows.callWith_type1 (thn (ha.run pos pins s σ H _ I h) fun us s1 ⟨vs, H1, I1, r1, q1⟩ => ?_) hs rfl))
  obtain ⟨a, rfl, q1⟩ := q1
  cases r1 with
  | cons r rr =>
    cases rr
    cases r
    have fp : ∀ b ∈ [s1.heap.objs.size + 1, s1.heap.objs.size], FpOk X pins H1 b := fun b hb => by
      have hle : s1.heap.objs.size ≤ b := by
        rcases (show b = s1.heap.objs.size + 1 ∨ b = s1.heap.objs.size by simpa using hb) with rfl | rfl
        · exact Nat.le_add_right _ _
        · exact Nat.le_refl _
      exact I1.fpOk hle (I1.hok.fresh hle)
    rcases q1 with ⟨⟨xs, hq⟩, q⟩ | ⟨⟨xs, hq⟩, q⟩
    · obtain ⟨its, rv, p', hz⟩ := I1.list hq
      refine call_enumerate_list p'.isList fun h' he hit hsz hk => wpAny_pyIter_enum he ?_
      exact ⟨s1.heap.objs.size + 1, [s1.heap.objs.size + 1, s1.heap.objs.size], _, _, H1, rfl, I1.kept (t' := s1.toks) hk, turn_enum a (s1.heap.objs.size + 1) s1.heap.objs.size, ⟨⟨.none, he⟩, hit, Nat.succ_ne_self _⟩, fp, q⟩
    · obtain ⟨its, rv, p', hz⟩ := I1.tuple hq
      have hal : a < s1.heap.objs.size := by obtain ⟨_, q, _⟩ := p'; exact Heap.lt_size q
      refine enum_call1 (begins_tuple a its.toArray) p' fun h' he hit hk => wpAny_pyIter_enum he ?_
      exact ⟨s1.heap.objs.size + 1, [s1.heap.objs.size + 1, s1.heap.objs.size], _, _, H1, rfl, I1.kept (t' := s1.toks) hk, turn_enumT a (s1.heap.objs.size + 1) s1.heap.objs.size, ⟨⟨.none, he⟩, ⟨_, hit, rfl, rfl⟩, Nat.succ_ne_self _, Nat.ne_of_lt hal, Nat.ne_of_lt (Nat.lt_succ_of_lt hal)⟩, fp, q⟩
def enL : Nat → List D → List D
  | _, [] => []
  | i, d :: ds => .tup [.int (i : Nat), d] :: enL (i + 1) ds
theorem enL_length : ∀ (ds : List D) (i : Nat), (enL i ds).length = ds.length
  | [], _ => rfl
  | d :: ds, i => by simp [enL, enL_length ds]
theorem enL_get : ∀ (ds : List D) (k i : Nat), (enL k ds)[i]? = (ds[i]?).map fun d => .tup [.int ((k + i : Nat)), d]
  | [], k, i => by simp [enL]
  | d :: ds, k, 0 => by simp [enL]
  | d :: ds, k, i + 1 => by
    rw [enL, List.getElem?_cons_succ, List.getElem?_cons_succ, enL_get ds (k + 1) i]
    rw [show k + 1 + i = k + (i + 1) by omega]
theorem pair_new {a b : D} {x y : V} {p : Addr} (hh : Hh K G ms h H) (i1 : Is K G ms a x) (i2 : Is K G ms b y) (hp : H p = none) : ∃ G', GLe G G' ∧ Hh K G' ms h (upd H p (.tup [x, y])) ∧ Is K G' ms (.tup [a, b]) (.ref p) := by
  have eg : GLe G (gupd G p (.tup [x, y])) := gle_upd (hh.gnone hp)
  exact ⟨_, eg, hh.still hp (show 2 ≤ sizeLine by decide), p, [x, y], rfl, upd_same, x, [y], rfl, Is.mono eg (pre_refl _) _ _ i1, y, [], rfl, Is.mono eg (pre_refl _) _ _ i2, rfl⟩
theorem yields_enL {a : Addr} {ds : List D} {ws : List V} (q : SqL K G.1 a ws) (i : IsL K G ms ds ws) : Yields K (Ite K a) G ms (enL 0 ds) := fun j h G' ms' H hh e p => by
  have q' : SqL K H a ws := hh.sub.seq (e.seq q)
  have i' := IsL.mono' e p _ _ i
  refine ⟨fun d hd => ?_, fun hl => ⟨ws, q', by rw [← i.length]; rw [enL_length] at hl; exact Nat.le_of_eq hl⟩⟩
  rw [enL_get] at hd
  cases hx : ds[j]? with
  | none => rw [hx] at hd; cases hd
  | some b =>
    rw [hx] at hd
    cases hd
    obtain ⟨v, h1, h2⟩ := i'.get hx
    refine ⟨⟨ws, v, q', h1⟩, fun x H' ⟨T, x', e1, e2, e3, e4⟩ => ?_⟩
    subst e1 e3
    have := e4 ws q'
    rw [h1] at this
    cases this
    rw [Nat.zero_add]
    exact pair_new hh rfl h2 e2
theorem yields_enT {a : Addr} {ds : List D} {ws : List V} (q : SqT K G.1 a ws) (i : IsL K G ms ds ws) : Yields K (IteT K a) G ms (enL 0 ds) := fun j h G' ms' H hh e p => by
  have q' : SqT K H a ws := Same.sqT hh.sub (Same.sqT e q)
  have i' := IsL.mono' e p _ _ i
  refine ⟨fun d hd => ?_, fun hl => ⟨ws, q', by rw [← i.length]; rw [enL_length] at hl; exact hl⟩⟩
  rw [enL_get] at hd
  cases hx : ds[j]? with
  | none => rw [hx] at hd; cases hd
  | some b =>
    rw [hx] at hd
    cases hd
    obtain ⟨v, h1, h2⟩ := i'.get hx
    refine ⟨⟨ws, v, q', h1⟩, fun x H' ⟨T, x', e1, e2, e3, e4⟩ => ?_⟩
    subst e1 e3
    have := e4 ws q'
    rw [h1] at this
    cases this
    rw [Nat.zero_add]
    exact pair_new hh rfl h2 e2
def iEnumerate (f : FA) : FI := fun s h => (f s h).bind fun ds h1 => match ds with
  | [.tup xs] => .ok (.seq (enL 0 xs)) h1
  | [.lst xs] => .ok (.seq (enL 0 xs)) h1
  | _ => .bad
theorem vi_enumerate {e : Expr} {f : FA} {p tpos : Pos} {elts : List Expr} {kk : Nat} (hg : Gl X "enumerate") (hm : X.mg "enumerate" = none) (ha : VA X W pin [e] f) (hs : starEach [e] X.env = [(false, eval e X.env)] := by rfl) :
    VI X W pin (.Tuple elts kk tpos) (.Call (.Name "enumerate" p) [e] [] pos) (iEnumerate f) := by
  refine pi_imp (pi_enumA hg hm ha hs) fun σ H R ⟨G, ms, s, h, hh, sl, q⟩ => ⟨G, ms, s, h, hh, sl, Post.bind q fun ds h1 ws H1 G1 ms1 e1 p1 hh1 i1 q1 => ?_⟩
  split at q1
  · obtain ⟨v, rfl, j1⟩ := isL1 (ds := []) i1
    obtain ⟨a, us, rfl, k1, k2⟩ := id j1
    exact ⟨a, rfl, .inr ⟨⟨us, .of (hh1.sub _ _ k1)⟩, q1.fin hh1 ⟨yields_enT (.of k1) k2, by rw [enL_length]; exact hh1.rowz j1 rfl⟩⟩⟩
  · obtain ⟨v, rfl, j1⟩ := isL1 (ds := []) i1
    obtain ⟨a, us, rfl, k1, k2⟩ := id j1
    exact ⟨a, rfl, .inl ⟨⟨us, .of (hh1.sub _ _ k1)⟩, q1.fin hh1 ⟨yields_enL (.of k1) k2, by rw [enL_length]; exact hh1.rowz j1 rfl⟩⟩⟩
  · exact q1.elim
/-- zip of two lists or two tuples -/
def zpL : List D → List D → List D
  | x :: xs, y :: ys => .tup [x, y] :: zpL xs ys
  | _, _ => []
theorem zpL_length : ∀ (xs ys : List D), (zpL xs ys).length = min xs.length ys.length
  | [], ys => by simp [zpL]
  | x :: xs, [] => by simp [zpL]
  | x :: xs, y :: ys => by simp [zpL, zpL_length xs ys]
theorem zpL_get : ∀ (xs ys : List D) (i : Nat) (d : D), (zpL xs ys)[i]? = some d → ∃ x y, xs[i]? = some x ∧ ys[i]? = some y ∧ d = .tup [x, y]
  | [], ys, i, d, h => by simp [zpL] at h
  | x :: xs, [], i, d, h => by simp [zpL] at h
  | x :: xs, y :: ys, 0, d, h => by simp [zpL] at h; exact ⟨x, y, rfl, rfl, h.symm⟩
  | x :: xs, y :: ys, i + 1, d, h => by
    simp only [zpL, List.getElem?_cons_succ] at h
    exact zpL_get xs ys i d h
theorem yields_zpL {a b : Addr} {xs ys : List D} {us ws : List V} (q1 : SqL K G.1 a us) (q2 : SqL K G.1 b ws) (i1 : IsL K G ms xs us) (i2 : IsL K G ms ys ws) : Yields K (Itz K a b) G ms (zpL xs ys) := fun j h G' ms' H hh e p => by
  have q1' : SqL K H a us := hh.sub.seq (e.seq q1)
  have q2' : SqL K H b ws := hh.sub.seq (e.seq q2)
  have j1 := IsL.mono' e p _ _ i1
  have j2 := IsL.mono' e p _ _ i2
  refine ⟨fun d hd => ?_, fun hl => ⟨us, ws, q1', q2', by rw [zpL_length, i1.length, i2.length] at hl; omega⟩⟩
  obtain ⟨x, y, hx, hy, rfl⟩ := zpL_get _ _ _ _ hd
  obtain ⟨v, h1, h2⟩ := j1.get hx
  obtain ⟨u, h3, h4⟩ := j2.get hy
  refine ⟨⟨us, ws, v, u, q1', q2', h1, h3⟩, fun z H' ⟨T, x', y', e1, e2, e3, e4, e5⟩ => ?_⟩
  subst e1 e3
  have t1 := e4 us q1'
  have t2 := e5 ws q2'
  rw [h1] at t1
  rw [h3] at t2
  cases t1
  cases t2
  exact pair_new hh h2 h4 e2
theorem yields_zpT {a b : Addr} {xs ys : List D} {us ws : List V} (q1 : SqT K G.1 a us) (q2 : SqT K G.1 b ws) (i1 : IsL K G ms xs us) (i2 : IsL K G ms ys ws) : Yields K (RZ.ItzT K a b) G ms (zpL xs ys) := fun j h G' ms' H hh e p => by
  have q1' : SqT K H a us := Same.sqT hh.sub (Same.sqT e q1)
  have q2' : SqT K H b ws := Same.sqT hh.sub (Same.sqT e q2)
  have j1 := IsL.mono' e p _ _ i1
  have j2 := IsL.mono' e p _ _ i2
  refine ⟨fun d hd => ?_, fun hl => ⟨us, ws, q1', q2', by rw [zpL_length, i1.length, i2.length] at hl; omega⟩⟩
  obtain ⟨x, y, hx, hy, rfl⟩ := zpL_get _ _ _ _ hd
  obtain ⟨v, h1, h2⟩ := j1.get hx
  obtain ⟨u, h3, h4⟩ := j2.get hy
  refine ⟨⟨us, ws, v, u, q1', q2', h1, h3⟩, fun z H' ⟨T, x', y', e1, e2, e3, e4, e5⟩ => ?_⟩
  subst e1 e3
  have t1 := e4 us q1'
  have t2 := e5 ws q2'
  rw [h1] at t1
  rw [h3] at t2
  cases t1
  cases t2
  exact pair_new hh h2 h4 e2
def iZip (f : FA) : FI := fun s h => (f s h).bind fun ds h1 => match ds with
  | [.tup xs, .tup ys] => .ok (.seq (zpL xs ys)) h1
  | [.lst xs, .lst ys] => .ok (.seq (zpL xs ys)) h1
  | _ => .bad
theorem vi_zip {e e2 : Expr} {f : FA} {p tpos : Pos} {elts : List Expr} {kk : Nat} (hg : Gl X "zip") (hm : X.mg "zip" = none) (ha : VA X W pin [e, e2] f)
    (hs : starEach [e, e2] X.env = (false, eval e X.env) :: starEach [e2] X.env := by rfl) (hpl : (backTo pos (starEach [e2] X.env)).any (·.1) = false := by rfl) :
    VI X W pin (.Tuple elts kk tpos) (.Call (.Name "zip" p) [e, e2] [] pos) (iZip f) := by
  refine pi_imp (RZ.pi_zipA hg hm ha hs hpl) fun σ H R ⟨G, ms, s, h, hh, sl, q⟩ => ⟨G, ms, s, h, hh, sl, Post.bind q fun ds h1 ws H1 G1 ms1 e1 p1 hh1 i1 q1 => ?_⟩
  split at q1
  · obtain ⟨v, w, rfl, j1, j2⟩ := isL2 i1
    obtain ⟨a, us, rfl, k1, k2⟩ := id j1
    obtain ⟨b, vs, rfl, l1, l2⟩ := id j2
    exact ⟨a, b, us, vs, rfl, .inr ⟨.of (hh1.sub _ _ k1), .of (hh1.sub _ _ l1), q1.fin hh1 ⟨yields_zpT (.of k1) (.of l1) k2 l2, by rw [zpL_length]; have := hh1.rowz j1 rfl; omega⟩⟩⟩
  · obtain ⟨v, w, rfl, j1, j2⟩ := isL2 i1
    obtain ⟨a, us, rfl, k1, k2⟩ := id j1
    obtain ⟨b, vs, rfl, l1, l2⟩ := id j2
    exact ⟨a, b, us, vs, rfl, .inl ⟨.of (hh1.sub _ _ k1), .of (hh1.sub _ _ l1), q1.fin hh1 ⟨yields_zpL (.of k1) (.of l1) k2 l2, by rw [zpL_length]; have := hh1.rowz j1 rfl; omega⟩⟩⟩
  · exact q1.elim
end
end WD
namespace WD
open PySem PySem.Spec PyProof.Rows L2
def fgS (vs : List Nat) (r : RS) : RS := match r with
  | .nx s h => .nx (wipeS s vs) h
  | .ct s h => .ct (wipeS s vs) h
  | .bk s h => .bk (wipeS s vs) h
  | r => r
/-- forgotten behind -/
def sFa (vs : List Nat) (f : FS) : FS := fun s h => fgS vs (f s h)
/-- forgotten ahead -/
def sFb (vs : List Nat) (f : FS) : FS := fun s h => f (wipeS s vs) h
section
variable {X : Cx} {W : WX} {pin : List (Nat × V)} {K : PySem.W.Frag} {mg : Str → Option Value} {G : GG} {ms : List Addr} {vs : List Nat}
theorem Sl.fgt {s : Ss} {σ : L2.St} (x : Sl K G ms pin s σ) : Sl K G ms pin (wipeS s vs) σ :=
  ⟨by rw [wipeS_length]; exact x.len, fun i d e => x.get i d (wipeS_some e).1, x.pin⟩
theorem vss_fa {st : List Stmt} {f : FS} (h : VSs X W pin st f) : VSs X W pin st (sFa vs f) := by
  refine pss_imp h fun D σ H ⟨G, ms, s, h, hh, sl, q⟩ => ⟨G, ms, s, h, hh, sl, ?_⟩
  unfold sFa fgS at q
  cases e : f s h with
  | nx s' h' => rw [e] at q; exact fun σ' H' G' ms' e1 p1 hh1 sl1 => q σ' H' G' ms' e1 p1 hh1 sl1.fgt
  | ct s' h' => rw [e] at q; exact fun σ' H' G' ms' e1 p1 hh1 sl1 => q σ' H' G' ms' e1 p1 hh1 sl1.fgt
  | bk s' h' => rw [e] at q; exact fun σ' H' G' ms' e1 p1 hh1 sl1 => q σ' H' G' ms' e1 p1 hh1 sl1.fgt
  | rt d h' => rw [e] at q; exact q
  | er x s' h' => rw [e] at q; exact q
  | bad => rw [e] at q; exact q
theorem vs_fa {st : Stmt} {f : FS} (h : VS X W pin st f) : VS X W pin st (sFa vs f) := by
  refine ps_imp h fun D σ H ⟨G, ms, s, h, hh, sl, q⟩ => ⟨G, ms, s, h, hh, sl, ?_⟩
  unfold sFa fgS at q
  cases e : f s h with
  | nx s' h' => rw [e] at q; exact fun σ' H' G' ms' e1 p1 hh1 sl1 => q σ' H' G' ms' e1 p1 hh1 sl1.fgt
  | ct s' h' => rw [e] at q; exact fun σ' H' G' ms' e1 p1 hh1 sl1 => q σ' H' G' ms' e1 p1 hh1 sl1.fgt
  | bk s' h' => rw [e] at q; exact fun σ' H' G' ms' e1 p1 hh1 sl1 => q σ' H' G' ms' e1 p1 hh1 sl1.fgt
  | rt d h' => rw [e] at q; exact q
  | er x s' h' => rw [e] at q; exact q
  | bad => rw [e] at q; exact q
theorem vs_fb {st : Stmt} {f : FS} (h : VS X W pin st f) : VS X W pin st (sFb vs f) := by
  refine ps_imp h fun D σ H ⟨G, ms, s, h, hh, sl, q⟩ => ⟨G, ms, wipeS s vs, h, hh, sl.fgt, q⟩
end
def rgC (lo c : Int) (n : Nat) : List D := (List.range n).map fun (i : Nat) => D.int (lo + (i : Nat) * c)
open Classical in
noncomputable def iRngC (f : FA) : FI := fun s h => (f s h).bind fun ds h1 => match ds with
  | [.int i, .int j, .int c] => if RgC i j c (Builtin.Range.rangeSize i j c).toNat ∧ (Builtin.Range.rangeSize i j c).toNat ≤ sizeLine then .ok (.seq (rgC i c (Builtin.Range.rangeSize i j c).toNat)) h1 else .bad
  | _ => .bad
section
variable {X : Cx} {W : WX} {pin : List (Nat × V)} {K : PySem.W.Frag} {G : GG} {ms : List Addr} {pos : Pos}
theorem rgC_get {lo c : Int} {n i : Nat} {d : D} (h : (rgC lo c n)[i]? = some d) : i < n ∧ d = .int (lo + (i : Nat) * c) := by
  unfold rgC at h
  rw [List.getElem?_map] at h
  by_cases hi : i < n
  · rw [List.getElem?_range hi] at h
    exact ⟨hi, (Option.some.inj h).symm⟩
  · rw [List.getElem?_eq_none (by simpa using hi)] at h; cases h
theorem yields_rgC {lo c : Int} {n : Nat} : Yields K (Itc lo c n) G ms (rgC lo c n) := fun j h G' ms' H hh e p => by
  refine ⟨fun d hd => ?_, fun hl => ?_⟩
  · obtain ⟨hi, rfl⟩ := rgC_get hd
    exact ⟨hi, fun x H' ⟨e1, e2⟩ => by subst e1 e2; exact ⟨G', .refl _, hh, rfl⟩⟩
  · have : (rgC lo c n).length = n := by unfold rgC; simp
    rw [this] at hl
    exact Nat.le_of_eq hl
theorem vi_range3 {tg e e' e'' : Expr} {f : FA} {p : Pos} (hg : Gl X "range") (hm : X.mg "range" = none) (ha : VA X W pin [e, e', e''] f)
    (hs : starEach [e, e', e''] X.env = (false, eval e X.env) :: starEach [e', e''] X.env := by rfl) (hpl : (backTo pos (starEach [e', e''] X.env)).any (·.1) = false := by rfl) : VI X W pin tg (.Call (.Name "range" p) [e, e', e''] [] pos) (iRngC f) := by
  refine pi_imp (pi_range3 hg hm ha hs hpl) fun σ H R ⟨G, ms, s, h, hh, sl, q⟩ => ⟨G, ms, s, h, hh, sl, Post.bind q fun ds h1 ws H1 G1 ms1 e1 p1 hh1 i1 q1 => ?_⟩
  split at q1
  · obtain ⟨v, r, rfl, j1, w, r2, rfl, j2, u, r3, rfl, j3, j4⟩ := i1
    cases j1; cases j2; cases j3; cases j4
    split at q1
    · rename_i hz
      refine ⟨_, _, _, _, rfl, hz.1, q1.fin hh1 ⟨yields_rgC, ?_⟩⟩
      unfold rgC; simpa using hz.2
    · exact q1.elim
  · exact q1.elim
end
theorem plain_call {f : Expr} {a : List Expr} {k : List Keyword} {p : Pos} : PlainIx (.Call f a k p) := fun _ _ => rfl
end WD
namespace WD
open PySem PySem.Spec PyProof.Rows L2
theorem truncOk_app (h t : Hs) : TruncOk h.length h (h ++ t) := fun i o hi e => .inl (by rw [List.getElem?_append_left hi] at e; exact e)
theorem truncOk_refl (h : Hs) : TruncOk h.length h h := fun i o hi e => .inl e
theorem exitT_same {d : D} {h : Hs} (hd : d.und h.length = true) : exitT h d h = .ok d h := by
  unfold exitT; rw [if_pos (truncOk_refl h)]; unfold frz1; rw [if_pos hd]; simp
theorem exitT_app {d : D} {h t : Hs} (hd : d.und h.length = true) : exitT h d (h ++ t) = .ok d h := by
  unfold exitT; rw [if_pos (truncOk_app h t)]; unfold frz1; rw [if_pos hd]; simp
/-- a new list handed back becomes still -/
theorem exitT_frz {h t : Hs} {m : Nat} {xs : List D} (hm : h.length ≤ m) (e : locAt (h ++ t) m = some xs) (hx : undL h.length xs = true) : exitT h (.loc m) (h ++ t) = .ok (.lst xs) h := by
  unfold exitT; rw [if_pos (truncOk_app h t)]; unfold frz1
  rw [if_neg (by simp [D.und]; omega)]
  simp [e, hx]
theorem exitX_app {x : Str} {h t : Hs} : exitX h ⟨x, none⟩ (h ++ t) = .err ⟨x, none⟩ h := by
  unfold exitX; rw [if_pos ⟨truncOk_app h t, fun f d e => (nomatch e)⟩]; simp
@[simp] theorem exitT_bl {b : Bool} {h : Hs} : exitT h (.bl b) h = .ok (.bl b) h := exitT_same rfl
@[simp] theorem exitT_int {i : Int} {h : Hs} : exitT h (.int i) h = .ok (.int i) h := exitT_same rfl
@[simp] theorem exitT_str {i : Str} {h : Hs} : exitT h (.str i) h = .ok (.str i) h := exitT_same rfl
@[simp] theorem exitT_non {h : Hs} : exitT h .non h = .ok .non h := exitT_same rfl
@[simp] theorem exitX_same {x : Str} {h : Hs} : exitX h ⟨x, none⟩ h = .err ⟨x, none⟩ h := by
  unfold exitX; rw [if_pos ⟨truncOk_refl h, fun f d e => (nomatch e)⟩]; simp
mutual
theorem und_mono {n m : Nat} (hm : n ≤ m) : ∀ d : D, d.und n = true → d.und m = true
  | .non, _ => rfl
  | .bl _, _ => rfl
  | .int _, _ => rfl
  | .str _, _ => rfl
  | .tup xs, h => by simpa [D.und] using undL_mono hm xs (by simpa [D.und] using h)
  | .lst xs, h => by simpa [D.und] using undL_mono hm xs (by simpa [D.und] using h)
  | .scr xs, h => by simpa [D.und] using undL_mono hm xs (by simpa [D.und] using h)
  | .dic _ xs, h => by simpa [D.und] using undL_mono hm xs (by simpa [D.und] using h)
  | .loc k, h => by simp [D.und] at h ⊢; omega
theorem undL_mono {n m : Nat} (hm : n ≤ m) : ∀ xs : List D, undL n xs = true → undL m xs = true
  | [], _ => rfl
  | x :: xs, h => by
    simp only [undL, Bool.and_eq_true] at h ⊢
    exact ⟨und_mono hm x h.1, undL_mono hm xs h.2⟩
end
theorem undL_iff {n : Nat} : ∀ {xs : List D}, undL n xs = true ↔ ∀ x ∈ xs, x.und n = true
  | [] => by simp [undL]
  | x :: xs => by simp [undL, undL_iff (xs := xs)]
@[simp] theorem und_int {n : Nat} {i : Int} : (D.int i).und n = true := (rfl)
@[simp] theorem und_bl {n : Nat} {i : Bool} : (D.bl i).und n = true := (rfl)
@[simp] theorem und_str {n : Nat} {i : Str} : (D.str i).und n = true := (rfl)
@[simp] theorem und_non {n : Nat} : D.non.und n = true := (rfl)
@[simp] theorem und_tup {n : Nat} {xs : List D} : (D.tup xs).und n = undL n xs := by simp [D.und]
@[simp] theorem und_lst {n : Nat} {xs : List D} : (D.lst xs).und n = undL n xs := by simp [D.und]
@[simp] theorem und_loc {n k : Nat} : (D.loc k).und n = decide (k < n) := by simp [D.und]
@[simp] theorem undL_nil {n : Nat} : undL n [] = true := (rfl)
@[simp] theorem undL_cons {n : Nat} {x : D} {xs : List D} : undL n (x :: xs) = (x.und n && undL n xs) := (rfl)
@[simp] theorem undL_append {n : Nat} {xs ys : List D} : undL n (xs ++ ys) = (undL n xs && undL n ys) := by
  induction xs with
  | nil => simp
  | cons x xs ih => simp [ih, Bool.and_assoc]
@[simp] theorem undL_ints {n : Nat} (ns : List Int) : undL n (ns.map D.int) = true := undL_iff.mpr (by simp)
section
variable {s : Ss} {h : Hs} {d : D} {f g fa fb fc : FE} {t u : FT} {a b : FS}
@[simp] theorem x_c : eC d s h = .ok d h := (rfl)
@[simp] theorem x_var {i : Nat} : eVar i s h = match s[i]? with | some (some d) => .ok d h | _ => .bad := (rfl)
@[simp] theorem x_anil : aNil s h = .ok [] h := (rfl)
@[simp] theorem x_acons {r : FA} : aCons f r s h = (f s h).bind fun d h1 => (r s h1).bind fun ds h2 => .ok (d :: ds) h2 := (rfl)
@[simp] theorem x_bin {o : D → D → Hs → R D} : eBin o fa fb s h = (fa s h).bind fun a h1 => (fb s h1).bind fun b h2 => calm2 o a b h2 := (rfl)
@[simp] theorem x_calm2 {o : D → D → Hs → R D} {x y : D} : calm2 o x y h = calm1 (o x y h) := by
  unfold calm2 calm1; rfl
@[simp] theorem x_calm1_ok : calm1 (.ok d h) = .ok d h := (rfl)
@[simp] theorem x_calm1_bad : calm1 .bad = .bad := (rfl)
@[simp] theorem x_quiet_ok {α : Type} {x : α} : quiet (.ok x h) = .ok x h := (rfl)
@[simp] theorem x_b {o : List D → Hs → R D} {r : FA} : eB o r s h = (r s h).bind fun ds h1 => calm1 (o ds h1) := (rfl)
@[simp] theorem x_call {n : Nat} {o : List D → Hs → R D} {r : FA} : eCall n o r s h = (r s h).bind fun ds h1 => if ds.length = n then o ds h1 else .bad := (rfl)
@[simp] theorem x_ml {o : D → List D → Hs → R D} {r : FA} : eML o f r s h = (f s h).bind fun d h1 => match lstOf h1 d with
  | some _ => (r s h1).bind fun ds h2 => calm1 (o d ds h2)
  | none => .bad := (rfl)
@[simp] theorem x_tup {r : FA} : eTup r s h = (r s h).bind fun ds h1 => if ds.length ≤ sizeLine then .ok (.tup ds) h1 else .bad := (rfl)
@[simp] theorem x_lst {m : Bool} {r : FA} : eLst m r s h = (r s h).bind fun ds h1 => if ds.length ≤ sizeLine then newL m ds h1 else .bad := (rfl)
@[simp] theorem x_truth_bl {k : Bool} : truth (.ok (.bl k) h) = .ok k h := (rfl)
@[simp] theorem x_truth_bad : truth .bad = .bad := (rfl)
@[simp] theorem x_truth_err {x : Xn} : truth (.err x h) = .err x h := (rfl)
@[simp] theorem x_tv : tV f s h = truth (f s h) := (rfl)
@[simp] theorem x_tnot : tNotF t s h = (t s h).bind fun b h1 => .ok (!b) h1 := (rfl)
@[simp] theorem x_tand : tAndF t u s h = (t s h).bind fun b h1 => if b = true then u s h1 else .ok false h1 := (rfl)
@[simp] theorem x_tor : tOrF t u s h = (t s h).bind fun b h1 => if b = true then .ok true h1 else u s h1 := (rfl)
@[simp] theorem x_tyes : tYesF s h = .ok true h := (rfl)
@[simp] theorem x_and : eAndF fa fb s h = (truth (fa s h)).bind fun k h1 => if k = true then fb s h1 else .ok (.bl false) h1 := (rfl)
@[simp] theorem x_or : eOrF fa fb s h = (truth (fa s h)).bind fun k h1 => if k = true then .ok (.bl true) h1 else fb s h1 := (rfl)
@[simp] theorem x_not : eNotF fa s h = (truth (fa s h)).bind fun k h1 => .ok (.bl (!k)) h1 := (rfl)
@[simp] theorem x_if : eIfF t fa fb s h = (t s h).bind fun k h1 => if k = true then fa s h1 else fb s h1 := (rfl)
@[simp] theorem x_chain {o o' : D → D → Hs → R D} : eChain o o' fa fb fc s h = (fa s h).bind fun x h1 => (fb s h1).bind fun y h2 => (truth (calm2 o x y h2)).bind fun k h3 => if k = true then (fc s h3).bind fun z h4 => calm2 o' y z h4 else .ok (.bl false) h3 := (rfl)
@[simp] theorem x_neg : negD fa s h = (fa s h).bind fun d h1 => match d with
  | .int i => .ok (.int (-i)) h1
  | _ => .bad := (rfl)
@[simp] theorem x_onone : oNone s h = .ok none h := (rfl)
@[simp] theorem x_osome : oSome f s h = (f s h).bind fun d h1 => match d with
  | .int i => .ok (some i) h1
  | _ => .bad := (rfl)
@[simp] theorem x_sl {m : Bool} {p q : FO} : eSl m f p q s h = (f s h).bind fun d h1 => (p s h1).bind fun lo h2 => (q s h2).bind fun hi h3 => slD m d lo hi h3 := (rfl)
@[simp] theorem x_next : sNext s h = .nx s h := (rfl)
@[simp] theorem x_seq : sSeq a b s h = match a s h with
  | .nx s' h' => b s' h'
  | r => r := (rfl)
@[simp] theorem x_sif : sIf t a b s h = match t s h with
  | .ok k h1 => if k = true then a s h1 else b s h1
  | .err x h1 => .er x s h1
  | .bad => .bad := (rfl)
@[simp] theorem x_set {i : Nat} : sSet i f s h = RS.ofR s (f s h) fun d h1 => .nx (s.set i (some d)) h1 := (rfl)
@[simp] theorem x_ret : sRet f s h = RS.ofR s (f s h) fun d h1 => .rt d h1 := (rfl)
@[simp] theorem x_expr : sExpr f s h = RS.ofR s (f s h) fun _ h1 => .nx s h1 := (rfl)
@[simp] theorem x_raise {n : Str} : sRaise n s h = .er ⟨n, none⟩ s h := (rfl)
@[simp] theorem x_break : sBreak s h = .bk s h := (rfl)
@[simp] theorem x_cont : sCont s h = .ct s h := (rfl)
@[simp] theorem x_item {fo fi fe : FE} : sItem fo fi fe s h = RS.ofR s (fe s h) fun v h1 => RS.ofR s (fo s h1) fun o h2 => RS.ofR s (fi s h2) fun i h3 => match setD o i v h3 with
  | some h4 => .nx s h4
  | none => .bad := (rfl)
@[simp] theorem x_aug {i : Nat} {o : D → D → Hs → R D} : sAug i o f s h = match s[i]? with
  | some (some x) => RS.ofR s (f s h) fun y h1 => RS.ofR s (calm2 o x y h1) fun z h2 => .nx (s.set i (some z)) h2
  | _ => .bad := (rfl)
@[simp] theorem x_un {o : Tg} : sUn o f s h = RS.ofR s (f s h) fun d h1 => match o d s h1 with
  | some s' => .nx s' h1
  | none => .bad := (rfl)
@[simp] theorem x_par {i j : Nat} {r : FA} : sPar i j r s h = match r s h with
  | .ok [x, y] h1 => .nx ((s.set i (some x)).set j (some y)) h1
  | .ok _ _ => .bad
  | .err x h1 => .er x s h1
  | .bad => .bad := (rfl)
@[simp] theorem x_gvar {i : Nat} : gVar i d s h = some (s.set i (some d)) := (rfl)
@[simp] theorem x_after_nx {k : Ss → Hs → RS} : afterT (.nx s h) k = k s h := (rfl)
@[simp] theorem x_after_ct {k : Ss → Hs → RS} : afterT (.ct s h) k = k s h := (rfl)
@[simp] theorem x_after_bk {k : Ss → Hs → RS} : afterT (.bk s h) k = .nx s h := (rfl)
@[simp] theorem x_after_rt {k : Ss → Hs → RS} : afterT (.rt d h) k = .rt d h := (rfl)
@[simp] theorem x_after_er {k : Ss → Hs → RS} {x : Xn} : afterT (.er x s h) k = .er x s h := (rfl)
@[simp] theorem x_newF {xs : List D} : newL false xs h = .ok (.lst xs) h := (rfl)
@[simp] theorem x_newT {xs : List D} : newL true xs h = .ok (.loc h.length) (h ++ [.lst xs]) := (rfl)
@[simp] theorem x_add {i j : Int} : addD (.int i) (.int j) h = .ok (.int (i + j)) h := (rfl)
@[simp] theorem x_sub {i j : Int} : subD (.int i) (.int j) h = .ok (.int (i - j)) h := (rfl)
open Classical in
theorem x_mul {i j : Int} : mulD (.int i) (.int j) h = if smallI i ∨ smallI j then .ok (.int (i * j)) h else .bad := (rfl)
open Classical in
theorem x_fdiv {i j : Int} : fdivD (.int i) (.int j) h = if divOk0 j then .ok (.int (i / j)) h else .bad := (rfl)
theorem x_mod {i j : Int} : modD (.int i) (.int j) h = if 0 < j then .ok (.int (i % j)) h else .bad := (rfl)
open Classical in
theorem x_pow {i j : Int} : powD (.int i) (.int j) h = if powOk i j then .ok (.int (i ^ j.toNat)) h else .bad := (rfl)
@[simp] theorem x_cmp {p : Int → Int → Bool} {i j : Int} : cmpI p (.int i) (.int j) h = .ok (.bl (p i j)) h := (rfl)
@[simp] theorem x_ipadd {i j : Int} : ipAddD (.int i) (.int j) h = .ok (.int (i + j)) h := (rfl)
@[simp] theorem x_ipsub {i j : Int} : ipSubD (.int i) (.int j) h = .ok (.int (i - j)) h := (rfl)
@[simp] theorem x_row_tup {xs : List D} : rowOf h (.tup xs) = some xs := (rfl)
@[simp] theorem x_row_lst {xs : List D} : rowOf h (.lst xs) = some xs := (rfl)
@[simp] theorem x_row_scr {xs : List D} : rowOf h (.scr xs) = some xs := (rfl)
@[simp] theorem x_row_loc {n : Nat} : rowOf h (.loc n) = locAt h n := (rfl)
@[simp] theorem x_lo_lst {xs : List D} : lstOf h (.lst xs) = some xs := (rfl)
@[simp] theorem x_lo_loc {n : Nat} : lstOf h (.loc n) = locAt h n := (rfl)
@[simp] theorem x_lx_lst {xs : List D} : lstX h (.lst xs) = some xs := (rfl)
@[simp] theorem x_lx_loc {n : Nat} : lstX h (.loc n) = locAt h n := (rfl)
@[simp] theorem x_len_tup {xs : List D} : lenD [.tup xs] h = .ok (.int xs.length) h := (rfl)
@[simp] theorem x_len_lst {xs : List D} : lenD [.lst xs] h = .ok (.int xs.length) h := (rfl)
theorem x_len {xs : List D} (e : rowOf h d = some xs) : lenD [d] h = .ok (.int xs.length) h := by
  cases d <;> first | (simp [rowOf, lstOf, lstX] at e; done) | (simp only [lenD]; rw [e])
@[simp] theorem x_max2 {i j : Int} : maxD [.int i, .int j] h = .ok (.int (if j > i then j else i)) h := (rfl)
@[simp] theorem x_min2 {i j : Int} : minD [.int i, .int j] h = .ok (.int (if j < i then j else i)) h := (rfl)
@[simp] theorem x_intb {k : Bool} : intD [.bl k] h = .ok (.int (if k = true then 1 else 0)) h := (rfl)
@[simp] theorem x_inti {k : Int} : intD [.int k] h = .ok (.int k) h := (rfl)
theorem x_tuple {xs : List D} (e : rowOf h d = some xs) : tupleD [d] h = .ok (.tup xs) h := by simp only [tupleD]; rw [e]
@[simp] theorem x_tuple_lst {xs : List D} : tupleD [.lst xs] h = .ok (.tup xs) h := (rfl)
@[simp] theorem x_tuple_tup {xs : List D} : tupleD [.tup xs] h = .ok (.tup xs) h := (rfl)
theorem x_list {m : Bool} {xs : List D} (e : rowOf h d = some xs) : listD m [d] h = newL m xs h := by simp only [listD]; rw [e]
@[simp] theorem x_list_tup {m : Bool} {xs : List D} : listD m [.tup xs] h = newL m xs h := (rfl)
@[simp] theorem x_list_scr {m : Bool} {xs : List D} : listD m [.scr xs] h = newL m xs h := (rfl)
@[simp] theorem x_sum_lst {ns : List Int} : sumD [.lst (ns.map D.int)] h = .ok (.int ns.sum) h := by simp [sumD]
@[simp] theorem x_sum_tup {ns : List Int} : sumD [.tup (ns.map D.int)] h = .ok (.int ns.sum) h := by simp [sumD]
@[simp] theorem x_exit_keep {h' : Hs} : exitF .keep h d h' = .ok d h' := (rfl)
@[simp] theorem x_exit_trunc {h' : Hs} : exitF .trunc h d h' = exitT h d h' := (rfl)
end
theorem run_eq {n N : Nat} {md : Md} {b : FS} {ds : List D} {h : Hs} (hn : ds.length = n) : runF n N md b ds h = match b (ds.map some ++ List.replicate (N - n) none) h with
  | .nx _ h' => exitF md h .non h'
  | .rt d h' => exitF md h d h'
  | .er x _ h' => exitX h x h'
  | _ => .bad := by
  unfold runF
  exact if_pos hn
theorem compA_pure {g : Tg} {tt : FT} {te : FE} {s : Ss} {k : List D → Hs → R D} {h : Hs} (p : D → Bool) (f : D → D) : ∀ (ds acc : List D),
    (∀ d ∈ ds, ∃ s2, g d s h = some s2 ∧ tt s2 h = .ok (p d) h ∧ (p d = true → te s2 h = .ok (f d) h)) → compA g tt te s k ds acc h = k (acc ++ (ds.filter p).map f) h
  | [], acc, _ => by simp [compA]
  | d :: ds, acc, hs => by
    obtain ⟨s2, h1, h2, h3⟩ := hs d List.mem_cons_self
    have ih := fun acc => compA_pure (k := k) p f ds acc fun d hd => hs d (List.mem_cons_of_mem _ hd)
    unfold compA stepC
    simp only [h1, h2, x_quiet_ok, R.bind_ok]
    cases hp : p d with
    | true => simp [h3 hp, ih, hp]
    | false => simp [ih, hp]
/-- the items that a walk takes, where nothing changes -/
def itemsOf (h : Hs) : It0 → Option (List D)
  | .seq ds => some ds
  | .rng lo n => if n ≤ sizeLine then some (rgL lo n) else none
  | .loc n => locAt h n
/-- the walk over a row -/
theorem iRow_ok {f : FE} {s : Ss} {h h1 : Hs} {d : D} {xs : List D} (e : f s h = .ok d h1) (hr : rowOf h1 d = some xs) : ∃ it, iRow f s h = .ok it h1 ∧ itemsOf h1 it = some xs := by
  unfold iRow
  rw [e]
  cases d with
  | tup ys => cases hr; exact ⟨_, rfl, rfl⟩
  | lst ys => cases hr; exact ⟨_, rfl, rfl⟩
  | scr ys => cases hr; exact ⟨_, rfl, rfl⟩
  | loc n =>
    have hr : locAt h1 n = some xs := hr
    have hl : n < h1.length := by
      have := locAt_some hr
      exact lt_of_get this
    exact ⟨.loc n, by simp [hl], hr⟩
  | _ => cases hr
theorem loopL_eq {g : Tg} {b : FS} {n : Nat} {xs : List D} (Inv : Nat → Ss → Hs → Prop) (hinv : ∀ i s h, Inv i s h → locAt h n = some xs)
    (hstep : ∀ i d s s' h, Inv i s h → xs[i]? = some d → g d s h = some s' → (∀ s2 h2, b s' h = .nx s2 h2 ∨ b s' h = .ct s2 h2 → Inv (i + 1) s2 h2)) :
    ∀ (m i : Nat) (s : Ss) (h : Hs), xs.length - i < m → Inv i s h → loopL g b n m i s h = loopS g b (xs.drop i) s h
  | 0, _, _, _, hm, _ => absurd hm (by omega)
  | m + 1, i, s, h, hm, hv => by
    unfold loopL
    simp only [hinv i s h hv]
    by_cases hl : i < xs.length
    · rw [List.getElem?_eq_getElem hl, List.drop_eq_getElem_cons hl]
      dsimp only
      conv => rhs; unfold loopS
      cases eg : g xs[i] s h with
      | none => rfl
      | some s' =>
        dsimp only
        have st := hstep i xs[i] s s' h hv (List.getElem?_eq_getElem hl) eg
        cases eb : b s' h with
        | nx s2 h2 => exact loopL_eq Inv hinv hstep m (i + 1) s2 h2 (by omega) (st s2 h2 (.inl eb))
        | ct s2 h2 => exact loopL_eq Inv hinv hstep m (i + 1) s2 h2 (by omega) (st s2 h2 (.inr eb))
        | _ => rfl
    · rw [List.getElem?_eq_none (by omega), List.drop_eq_nil_of_le (by omega)]
      rfl
theorem sFor_rng {fi : FI} {g : Tg} {b : FS} {s : Ss} {h h1 : Hs} {lo : Int} {n : Nat} (e : fi s h = .ok (.rng lo n) h1) : sFor fi g b s h = loopS g b (rgL lo n) s h1 := by unfold sFor; rw [e]
theorem sFor_seq {fi : FI} {g : Tg} {b : FS} {s : Ss} {h h1 : Hs} {ds : List D} (e : fi s h = .ok (.seq ds) h1) : sFor fi g b s h = loopS g b ds s h1 := by unfold sFor; rw [e]
theorem sFor_loc {fi : FI} {g : Tg} {b : FS} {s : Ss} {h h1 : Hs} {n : Nat} {xs : List D} (e : fi s h = .ok (.loc n) h1) (el : locAt h1 n = some xs) : sFor fi g b s h = loopL g b n (xs.length + 1) 0 s h1 := by unfold sFor; rw [e]; simp only [el]
theorem r62_nat {n : Nat} (h : n ≤ 1000000000) : r62 (n : Int) := by
  have h1 : (n : Int) ≤ 1000000000 := by omega
  exact ⟨Int.le_trans (by decide) (Int.natCast_nonneg n), Int.lt_of_le_of_lt h1 (by decide)⟩
theorem iRng1_ok {f : FA} {s : Ss} {h h1 : Hs} {n : Nat} (e : f s h = .ok [.int n] h1) (hn : n ≤ 1000000000) : iRng1 f s h = .ok (.rng 0 n) h1 := by
  have hz := r62_nat hn
  unfold iRng1
  rw [e, R.bind_ok]
  dsimp only
  rw [if_pos hz, Int.toNat_natCast]
theorem iRng1_okI {f : FA} {s : Ss} {h h1 : Hs} {n : Int} (e : f s h = .ok [.int n] h1) (h0 : 0 ≤ n) (hn : n ≤ 1000000000) : iRng1 f s h = .ok (.rng 0 n.toNat) h1 := by
  have : n = (n.toNat : Int) := by omega
  rw [this] at e
  rw [iRng1_ok e (by omega)]
theorem iRng2_ok {f : FA} {s : Ss} {h h1 : Hs} {i j : Int} (e : f s h = .ok [.int i, .int j] h1) (hi : -1000000000 ≤ i ∧ i ≤ 1000000000) (hj : -1000000000 ≤ j ∧ j ≤ 1000000000) : iRng2 f s h = .ok (.rng i (j - i).toNat) h1 := by
  unfold iRng2
  rw [e, R.bind_ok]
  have h1 : r62 i := ⟨Int.le_trans (by decide) hi.1, Int.lt_of_le_of_lt hi.2 (by decide)⟩
  have h2 : r62 j := ⟨Int.le_trans (by decide) hj.1, Int.lt_of_le_of_lt hj.2 (by decide)⟩
  dsimp only
  rw [if_pos ⟨h1, h2⟩]
theorem rgL_ints (lo : Int) (n : Nat) : rgL lo n = ((List.range n).map fun (i : Nat) => lo + (i : Int)).map D.int := by
  unfold rgL; simp
theorem seq_nx {a b : FS} {s s' : Ss} {h h' : Hs} (e : a s h = .nx s' h') : sSeq a b s h = b s' h' := by rw [x_seq, e]
theorem seq_rt {a b : FS} {s : Ss} {h h' : Hs} {d : D} (e : a s h = .rt d h') : sSeq a b s h = .rt d h' := by rw [x_seq, e]
theorem seq_er {a b : FS} {s s' : Ss} {h h' : Hs} {x : Xn} (e : a s h = .er x s' h') : sSeq a b s h = .er x s' h' := by rw [x_seq, e]
theorem loop_nx {g : Tg} {b : FS} {d : D} {ds : List D} {s s1 s2 : Ss} {h h2 : Hs} (eg : g d s h = some s1) (e : b s1 h = .nx s2 h2) : loopS g b (d :: ds) s h = loopS g b ds s2 h2 := by
  conv => lhs; unfold loopS
  rw [eg]; dsimp only; rw [e]; rfl
theorem loop_rt {g : Tg} {b : FS} {d : D} {ds : List D} {s s1 : Ss} {h h2 : Hs} {v : D} (eg : g d s h = some s1) (e : b s1 h = .rt v h2) : loopS g b (d :: ds) s h = .rt v h2 := by
  conv => lhs; unfold loopS
  rw [eg]; dsimp only; rw [e]; rfl
end WD
namespace WD
open PySem PySem.Spec PyProof.Rows L2
@[simp] theorem toP_int {h : Hs} {n : Nat} {i : Int} : toP h n (.int i) = some (.int i) := by cases n <;> rfl
@[simp] theorem toP_bl {h : Hs} {n : Nat} {i : Bool} : toP h n (.bl i) = some (.bool i) := by cases n <;> rfl
@[simp] theorem toP_non {h : Hs} {n : Nat} : toP h n .non = some .none := by cases n <;> rfl
theorem mapM_some {α β : Type} {f : α → Option β} {g : α → β} : ∀ {xs : List α}, (∀ x ∈ xs, f x = some (g x)) → xs.mapM f = some (xs.map g)
  | [], _ => rfl
  | x :: xs, hx => by
    rw [List.mapM_cons, hx x List.mem_cons_self, mapM_some fun y hy => hx y (List.mem_cons_of_mem _ hy)]
    rfl
theorem toP_tup {h : Hs} {n : Nat} {xs : List D} {ps : List PyData} (e : xs.mapM (toP h n) = some ps) : toP h (n + 1) (.tup xs) = some (.tuple ps) := by
  simp only [toP, e]; rfl
theorem toP_lst {h : Hs} {n : Nat} {d : D} {xs : List D} {ps : List PyData} (hd : lstOf h d = some xs) (e : xs.mapM (toP h n) = some ps) : toP h (n + 1) d = some (.list ps) := by
  cases d <;> first | (simp [lstOf, lstX] at hd; done) | (simp only [toP]; rw [hd]; simp only [e]; rfl)
theorem mapM_ints {h : Hs} {n : Nat} (ns : List Int) : (ns.map D.int).mapM (toP h n) = some (ns.map PyData.int) := by
  rw [mapM_some (g := fun d => match d with | .int i => PyData.int i | _ => .none) (by simp)]
  simp
theorem eqv_ints : ∀ ns ms : List Int, PyData.eqvAll (ns.map PyData.int) (ms.map PyData.int) = decide (ns = ms)
  | [], [] => by simp [PyData.eqvAll]
  | [], _ :: _ => by simp [PyData.eqvAll]
  | _ :: _, [] => by simp [PyData.eqvAll]
  | n :: ns, m :: ms => by
    simp only [List.map_cons, PyData.eqvAll, PyData.eqv, eqv_ints ns ms, List.cons.injEq]
    by_cases h1 : n = m <;> by_cases h2 : ns = ms <;> simp [h1, h2]
@[simp] theorem x_eqI {n : Bool} {h : Hs} {i j : Int} : eqD n (.int i) (.int j) h = .ok (.bl (if n = true then !(i == j) else i == j)) h := by
  simp [eqD, PyData.eqv]
theorem x_eqL {n : Bool} {h : Hs} {d e : D} {ns ms : List Int} (hd : lstOf h d = some (ns.map D.int)) (he : lstOf h e = some (ms.map D.int)) : eqD n d e h = .ok (.bl (if n = true then !decide (ns = ms) else decide (ns = ms))) h := by
  unfold eqD
  rw [toP_lst hd (mapM_ints ns), toP_lst he (mapM_ints ms)]
  simp [PyData.eqv, eqv_ints]
theorem x_eqT {n : Bool} {h : Hs} {ns ms : List Int} : eqD n (.tup (ns.map D.int)) (.tup (ms.map D.int)) h = .ok (.bl (if n = true then !decide (ns = ms) else decide (ns = ms))) h := by
  unfold eqD
  rw [toP_tup (mapM_ints ns), toP_tup (mapM_ints ms)]
  simp [PyData.eqv, eqv_ints]
@[simp] theorem locAt_cons0 {xs : List D} {t : Hs} : locAt (.lst xs :: t) 0 = some xs := (rfl)
theorem locAt_app {g : Hs} {n : Nat} {t : Hs} (hn : n < g.length) : locAt (g ++ t) n = locAt g n := by
  unfold locAt; rw [List.getElem?_append_left hn]
@[simp] theorem locAt_end {g : Hs} {xs : List D} {t : Hs} : locAt (g ++ (.lst xs :: t)) g.length = some xs := by
  unfold locAt; simp [O.items]
theorem locAt_lt {g : Hs} {n : Nat} {xs : List D} (e : locAt g n = some xs) : n < g.length := lt_of_get (locAt_some e)
@[simp] theorem set_end {α : Type} {g : List α} {o x : α} {t : List α} : (g ++ (o :: t)).set g.length x = g ++ (x :: t) := by
  rw [List.set_append_right _ _ (Nat.le_refl _)]; simp
theorem set_app {α : Type} {g t : List α} {n : Nat} {x : α} (hn : n < g.length) : (g ++ t).set n x = g.set n x ++ t := List.set_append_left _ _ hn
theorem locAt_set {g : Hs} {n : Nat} {xs : List D} (hn : n < g.length) : locAt (g.set n (.lst xs)) n = some xs := by
  unfold locAt; rw [List.getElem?_set_self hn]; rfl
theorem locAt_set_ne {g : Hs} {n m : Nat} {o : O} (hn : n ≠ m) : locAt (g.set n o) m = locAt g m := by
  unfold locAt; rw [List.getElem?_set_ne hn]
theorem atI_in {α : Type} {xs : List α} {i : Int} (h0 : 0 ≤ i) (h1 : i < xs.length) : atI xs i = some (xs[i.toNat]'(by omega)) := by
  have hl : i.toNat < xs.length := by omega
  have := atI_nat (xs := xs) (j := i.toNat) (v := xs[i.toNat]) (List.getElem?_eq_getElem hl)
  rwa [Int.toNat_of_nonneg h0] at this
theorem ixN_in {n : Nat} {i : Int} (h0 : 0 ≤ i) (h1 : i < n) : ixN n i = some i.toNat := by
  unfold ixN; rw [if_pos h0, if_pos h1]
theorem x_ix_row {h : Hs} {d e : D} {xs : List D} {i : Int} (hr : rowOf h d = some xs) (he : atI xs i = some e) : ixD d (.int i) h = .ok e h := by
  cases d <;> first | (simp [rowOf, lstOf, lstX] at hr; done) | (simp only [ixD]; rw [hr]; simp only [he])
/-- an item of a row of ints, somewhere in bounds -/
theorem x_ix_ints {h : Hs} {d : D} {ns : List Int} {i : Int} (hr : rowOf h d = some (ns.map D.int)) (h0 : 0 ≤ i) (h1 : i < ns.length) : ixD d (.int i) h = .ok (.int (ns[i.toNat]'(by omega))) h := by
  rw [x_ix_row hr (atI_in h0 (by simpa using h1))]
  simp
theorem small_of {i : Int} (h0 : 0 ≤ i) (h1 : i < 2 ^ 64) : smallI i := ⟨by omega, h1⟩
theorem small_nat {n : Nat} (h : n < 2 ^ 64) : smallI (n : Int) := ⟨by omega, by omega⟩
end WD
namespace WD
open PySem PySem.Spec PyProof.Rows L2
section
variable {s : Ss} {h : Hs} {d : D} {f : FE} {b : FS} {g : Tg}
@[simp] theorem x_isi {ns : List String} : eIsi ns f s h = (f s h).bind fun d h1 => .ok (.bl (ns.any fun n => isSub (tyD h1 d) n)) h1 := (rfl)
@[simp] theorem x_fa {vs : List Nat} : sFa vs b s h = fgS vs (b s h) := (rfl)
@[simp] theorem x_fb {vs : List Nat} : sFb vs b s h = b (wipeS s vs) h := (rfl)
@[simp] theorem x_fg_nx {vs : List Nat} : fgS vs (.nx s h) = .nx (wipeS s vs) h := (rfl)
@[simp] theorem x_fg_ct {vs : List Nat} : fgS vs (.ct s h) = .ct (wipeS s vs) h := (rfl)
@[simp] theorem x_fg_bk {vs : List Nat} : fgS vs (.bk s h) = .bk (wipeS s vs) h := (rfl)
@[simp] theorem x_fg_rt {vs : List Nat} : fgS vs (.rt d h) = .rt d h := (rfl)
@[simp] theorem x_fg_er {vs : List Nat} {x : Xn} : fgS vs (.er x s h) = .er x s h := (rfl)
@[simp] theorem x_fg_bad {vs : List Nat} : fgS vs .bad = .bad := (rfl)
@[simp] theorem x_after_bad {k : Ss → Hs → RS} : afterT .bad k = .bad := (rfl)
@[simp] theorem x_wipe_nil : wipeS s [] = s := (rfl)
@[simp] theorem x_wipe_cons {v : Nat} {vs : List Nat} : wipeS s (v :: vs) = (wipeS s vs).set v none := (rfl)
@[simp] theorem x_gun {gs : List Tg} : gUn gs d s h = match rowOf h d with
  | some xs => unp gs xs s h
  | none => none := (rfl)
@[simp] theorem x_unp_nil : unp [] [] s h = some s := (rfl)
@[simp] theorem x_unp_cons {gs : List Tg} {ds : List D} : unp (g :: gs) (d :: ds) s h = match g d s h with
  | some s' => unp gs ds s' h
  | none => none := (rfl)
@[simp] theorem x_run {n N : Nat} {md : Md} {ds : List D} : runF n N md b ds h = if ds.length = n then (match b (ds.map some ++ List.replicate (N - n) none) h with
  | .nx _ h' => exitF md h .non h'
  | .rt d h' => exitF md h d h'
  | .er x _ h' => exitX h x h'
  | _ => .bad) else .bad := (rfl)
theorem x_loop_nil : loopS g b [] s h = .nx s h := (rfl)
theorem x_loop_cons {ds : List D} : loopS g b (d :: ds) s h = match g d s h with
  | some s' => afterT (b s' h) (loopS g b ds)
  | none => .bad := (rfl)
end
@[simp] theorem size_val : sizeLine = 16777216 := (rfl)
theorem small_bd {i : Int} (h0 : -18446744073709551616 < i) (h1 : i < 18446744073709551616) : smallI i := ⟨by omega, by omega⟩
theorem divOk {j : Int} (h0 : 0 < j) (h1 : j < 18446744073709551616) : divOk0 j := by
  refine ⟨h0, ?_⟩
  have h2 : j.natAbs ≠ 0 := by omega
  have h3 : j.natAbs < 2 ^ 64 := by omega
  have := (Nat.log2_lt h2).mpr h3
  omega
@[simp] theorem x_fdv {i j : Int} {h : Hs} (h0 : 0 < j) (h1 : j < 18446744073709551616) : fdivD (.int i) (.int j) h = .ok (.int (i / j)) h := by
  rw [x_fdiv, if_pos (divOk h0 h1)]
@[simp] theorem x_pw {i j : Int} {h : Hs} (h0 : 0 ≤ j) (h1 : j ≤ 1000000) (h2 : -18446744073709551616 < i) (h3 : i < 18446744073709551616) : powD (.int i) (.int j) h = .ok (.int (i ^ j.toNat)) h := by
  rw [x_pow, if_pos ⟨h0, h1, by omega⟩]
@[simp] theorem x_md {i j : Int} {h : Hs} (h0 : 0 < j) : modD (.int i) (.int j) h = .ok (.int (i % j)) h := by
  rw [x_mod, if_pos h0]
@[simp] theorem x_mlL {i j : Int} {h : Hs} (h0 : -18446744073709551616 < i) (h1 : i < 18446744073709551616) : mulD (.int i) (.int j) h = .ok (.int (i * j)) h := by
  rw [x_mul, if_pos (.inl (small_bd h0 h1))]
@[simp] theorem x_mlR {i j : Int} {h : Hs} (h0 : -18446744073709551616 < j) (h1 : j < 18446744073709551616) : mulD (.int i) (.int j) h = .ok (.int (i * j)) h := by
  rw [x_mul, if_pos (.inr (small_bd h0 h1))]
def isW (lo hi : Int) : D → Bool
  | .int i => decide (lo ≤ i) && decide (i ≤ hi)
  | _ => false
@[simp] theorem isW_int {lo hi i : Int} : isW lo hi (.int i) = (decide (lo ≤ i) && decide (i ≤ hi)) := (rfl)
def D.isI : D → Bool
  | .int _ => true
  | .bl _ => true
  | _ => false
def D.isB : D → Bool
  | .bl _ => true
  | _ => false
def D.isT : D → Bool
  | .tup _ => true
  | _ => false
def D.isS : D → Bool
  | .str _ => true
  | _ => false
@[simp] theorem isSub_int {h : Hs} {d : D} : isSub (tyD h d) "int" = d.isI := by
  cases d with
  | loc n =>
    simp only [tyD]
    cases h[n]? with
    | none => simp [tyO, isSub, D.isI]
    | some o => cases o with
      | lst xs => simp [tyO, isSub, D.isI]
  | _ => simp [tyD, isSub, D.isI]
@[simp] theorem isSub_bool {h : Hs} {d : D} : isSub (tyD h d) "bool" = d.isB := by
  cases d with
  | loc n =>
    simp only [tyD]
    cases h[n]? with
    | none => simp [tyO, isSub, D.isB]
    | some o => cases o with
      | lst xs => simp [tyO, isSub, D.isB]
  | _ => simp [tyD, isSub, D.isB]
@[simp] theorem isSub_tuple {h : Hs} {d : D} : isSub (tyD h d) "tuple" = d.isT := by
  cases d with
  | loc n =>
    simp only [tyD]
    cases h[n]? with
    | none => simp [tyO, isSub, D.isT]
    | some o => cases o with
      | lst xs => simp [tyO, isSub, D.isT]
  | _ => simp [tyD, isSub, D.isT]
@[simp] theorem isSub_str {h : Hs} {d : D} : isSub (tyD h d) "str" = d.isS := by
  cases d with
  | loc n =>
    simp only [tyD]
    cases h[n]? with
    | none => simp [tyO, isSub, D.isS]
    | some o => cases o with
      | lst xs => simp [tyO, isSub, D.isS]
  | _ => simp [tyD, isSub, D.isS]
@[simp] theorem isSub_list {h : Hs} {d : D} : isSub (tyD h d) "list" = (lstOf h d).isSome := by
  cases d with
  | loc n =>
    simp only [tyD, lstOf, lstX, locAt]
    cases h[n]? with
    | none => simp [tyO, isSub]
    | some o => cases o with
      | lst xs => simp [tyO, isSub, O.items]
  | _ => simp [tyD, isSub, lstOf, lstX]
@[simp] theorem isRow_or {h : Hs} {d : D} : ((lstOf h d).isSome || d.isT) = (rowOf h d).isSome := by
  cases d with
  | tup xs => simp [rowOf, D.isT]
  | _ => simp [rowOf, D.isT]
@[simp] theorem isI_int {i : Int} : (D.int i).isI = true := (rfl)
@[simp] theorem isB_int {i : Int} : (D.int i).isB = false := (rfl)
@[simp] theorem isI_bl {i : Bool} : (D.bl i).isI = true := (rfl)
@[simp] theorem isB_bl {i : Bool} : (D.bl i).isB = true := (rfl)
@[simp] theorem isT_tup {i : List D} : (D.tup i).isT = true := (rfl)
@[simp] theorem isT_int {i : Int} : (D.int i).isT = false := (rfl)
@[simp] theorem isT_non : D.non.isT = false := (rfl)
@[simp] theorem isI_non : D.non.isI = false := (rfl)
@[simp] theorem isI_tup {i : List D} : (D.tup i).isI = false := (rfl)
@[simp] theorem isT_bl {i : Bool} : (D.bl i).isT = false := (rfl)
@[simp] theorem isT_loc {i : Nat} : (D.loc i).isT = false := (rfl)
@[simp] theorem x_row_int {h : Hs} {i : Int} : rowOf h (.int i) = none := (rfl)
@[simp] theorem x_row_non {h : Hs} : rowOf h .non = none := (rfl)
@[simp] theorem x_row_bl {h : Hs} {i : Bool} : rowOf h (.bl i) = none := (rfl)
@[simp] theorem x_lo_tup {h : Hs} {i : List D} : lstOf h (.tup i) = none := (rfl)
@[simp] theorem x_lo_int {h : Hs} {i : Int} : lstOf h (.int i) = none := (rfl)
def Itr (fi : FI) (s : Ss) (h h1 : Hs) (xs : List D) : Prop := ∃ it, fi s h = .ok it h1 ∧ itemsOf h1 it = some xs
theorem Itr.row {f : FE} {s : Ss} {h h1 : Hs} {d : D} {xs : List D} (e : f s h = .ok d h1) (hr : rowOf h1 d = some xs) : Itr (iRow f) s h h1 xs := iRow_ok e hr
theorem Itr.tup {f : FE} {s : Ss} {h h1 : Hs} {xs : List D} (e : f s h = .ok (.tup xs) h1) : Itr (iRow f) s h h1 xs := ⟨.seq xs, by unfold iRow; rw [e]; rfl, rfl⟩
theorem Itr.lst {f : FE} {s : Ss} {h h1 : Hs} {xs : List D} (e : f s h = .ok (.lst xs) h1) : Itr (iRow f) s h h1 xs := ⟨.seq xs, by unfold iRow; rw [e]; rfl, rfl⟩
theorem Itr.enT {f : FA} {s : Ss} {h h1 : Hs} {xs : List D} (e : f s h = .ok [.tup xs] h1) : Itr (iEnumerate f) s h h1 (enL 0 xs) := ⟨.seq _, by unfold iEnumerate; rw [e]; rfl, rfl⟩
theorem Itr.enLs {f : FA} {s : Ss} {h h1 : Hs} {xs : List D} (e : f s h = .ok [.lst xs] h1) : Itr (iEnumerate f) s h h1 (enL 0 xs) := ⟨.seq _, by unfold iEnumerate; rw [e]; rfl, rfl⟩
theorem Itr.zpL {f : FA} {s : Ss} {h h1 : Hs} {xs ys : List D} (e : f s h = .ok [.lst xs, .lst ys] h1) : Itr (iZip f) s h h1 (zpL xs ys) := ⟨.seq _, by unfold iZip; rw [e]; rfl, rfl⟩
def rgI (lo : Int) (n : Nat) : List Int := (List.range n).map fun (i : Nat) => lo + (i : Int)
theorem Itr.rng {f : FA} {s : Ss} {h h1 : Hs} {n : Int} (e : f s h = .ok [.int n] h1) (h1 : n ≤ 16777216) (h0 : -1000000000 ≤ n) : Itr (iRng1 f) s h ‹_› ((rgI 0 n.toNat).map D.int) := by
  refine ⟨.rng 0 n.toNat, ?_, ?_⟩
  · unfold iRng1
    rw [e, R.bind_ok]
    exact if_pos ⟨Int.le_trans (by decide) h0, Int.lt_of_le_of_lt h1 (by decide)⟩
  · show (if n.toNat ≤ sizeLine then some (rgL 0 n.toNat) else none) = _
    rw [if_pos (by rw [size_val]; omega), rgL_ints]; rfl
theorem Itr.rng2 {f : FA} {s : Ss} {h h1 : Hs} {m n : Int} (e : f s h = .ok [.int m, .int n] h1) (h2 : n ≤ 16000000) (h0 : -1000000000 ≤ n) (h3 : -500000 ≤ m) (h4 : m ≤ 1000000000) : Itr (iRng2 f) s h h1 ((rgI m (n - m).toNat).map D.int) := by
  refine ⟨.rng m (n - m).toNat, iRng2_ok e (by omega) (by omega), ?_⟩
  show (if (n - m).toNat ≤ sizeLine then some (rgL m (n - m).toNat) else none) = _
  rw [if_pos (by rw [size_val]; omega), rgL_ints]; rfl
theorem comp_ty {α : Type} {em : α → D} {m : Bool} {vs : List Nat} {fi : FI} {g : Tg} {tt : FT} {te : FE} {s : Ss} {h h1 : Hs} {xs : List α} (p : α → Bool) (F : α → D) (hi : Itr fi s h h1 (xs.map em))
    (hs : ∀ x ∈ xs, ∃ s2, g (em x) (wipeS s vs) h1 = some s2 ∧ tt s2 h1 = .ok (p x) h1 ∧ (p x = true → te s2 h1 = .ok (F x) h1)) : eComp m vs fi g tt te s h = newL m ((xs.filter p).map F) h1 := by
  obtain ⟨it, e1, e2⟩ := hi
  unfold eComp
  rw [e1, R.bind_ok]
  have main : ∀ (ys : List α) (acc : List D), (∀ y ∈ ys, y ∈ xs) → compA g tt te (wipeS s vs) (newL m) (ys.map em) acc h1 = newL m (acc ++ (ys.filter p).map F) h1 := by
    intro ys
    induction ys with
    | nil => intro acc _; simp [compA]
    | cons y ys ih =>
      intro acc hy
      obtain ⟨s2, k1, k2, k3⟩ := hs y (hy y List.mem_cons_self)
      have ih := fun acc => ih acc fun z hz => hy z (List.mem_cons_of_mem _ hz)
      rw [List.map_cons]
      unfold compA stepC
      simp only [k1, k2, x_quiet_ok, R.bind_ok]
      cases hp : p y with
      | true => simp [k3 hp, ih, hp]
      | false => simp [ih, hp]
  have loc : ∀ n, locAt h1 n = some (xs.map em) → ∀ (k i : Nat) (acc : List D), xs.length - i < k → acc.length ≤ i → i ≤ xs.length → compL g tt te (wipeS s vs) n (newL m) k i acc h1 = newL m (acc ++ ((xs.drop i).filter p).map F) h1 := by
    intro n e k
    induction k with
    | zero => intro i acc hm; omega
    | succ k ih =>
      intro i acc hm ha hi
      unfold compL
      rw [e]
      dsimp only
      by_cases hl : i < xs.length
      · have hl2 : (xs.map em)[i]? = some (em xs[i]) := by simp [List.getElem?_eq_getElem hl]
        rw [hl2, List.drop_eq_getElem_cons hl]
        obtain ⟨s2, k1, k2, k3⟩ := hs xs[i] (List.getElem_mem hl)
        dsimp only
        unfold stepC
        simp only [k1, k2, x_quiet_ok, R.bind_ok]
        cases hp : p xs[i] with
        | true =>
          simp only [if_true, k3 hp, x_quiet_ok, R.bind_ok]
          rw [ih (i + 1) _ (by omega) (by simp; omega) hl, List.filter_cons_of_pos hp, List.map_cons]
          simp only [List.append_assoc, List.singleton_append]
        | false =>
          simp only [Bool.false_eq_true, if_false]
          rw [ih (i + 1) _ (by omega) (by omega) hl, List.filter_cons_of_neg (by rw [hp]; decide)]
      · rw [List.getElem?_eq_none (by simp; omega), List.drop_eq_nil_of_le (by omega)]
        simp
  cases it with
  | seq ds =>
    simp only [itemsOf] at e2
    cases e2
    have := main xs [] fun _ h => h
    simpa using this
  | rng lo n =>
    simp only [itemsOf] at e2
    split at e2
    · rename_i hz
      have e3 : rgL lo n = xs.map em := by injection e2
      dsimp only
      rw [if_pos hz, e3]
      have := main xs [] fun _ h => h
      simpa using this
    · cases e2
  | loc n =>
    have el : locAt h1 n = some (xs.map em) := e2
    have := loc n el ((xs.map em).length + 1) 0 [] (by simp) (Nat.le_refl _) (Nat.zero_le _)
    dsimp only
    rw [el]
    simpa using this
@[simp] theorem filt_true {α : Type} (xs : List α) : xs.filter (fun _ => true) = xs := List.filter_eq_self.mpr (by simp)
theorem comp_map {α : Type} {em : α → D} {m : Bool} {vs : List Nat} {fi : FI} {g : Tg} {te : FE} {s : Ss} {h h1 : Hs} {xs : List α} (F : α → D) (hi : Itr fi s h h1 (xs.map em))
    (hs : ∀ x ∈ xs, ∃ s2, g (em x) (wipeS s vs) h1 = some s2 ∧ te s2 h1 = .ok (F x) h1) : eComp m vs fi g tYesF te s h = newL m (xs.map F) h1 := by
  rw [comp_ty (fun _ => true) F hi fun x hx => ?_, filt_true]
  obtain ⟨s2, k1, k2⟩ := hs x hx
  exact ⟨s2, k1, rfl, fun _ => k2⟩
/-- a walk over what does not change -/
theorem for_itr {fi : FI} {g : Tg} {b : FS} {s : Ss} {h h1 : Hs} {xs : List D} (hi : Itr fi s h h1 xs) (hl : ∀ n, fi s h ≠ .ok (.loc n) h1) : sFor fi g b s h = loopS g b xs s h1 := by
  obtain ⟨it, e1, e2⟩ := hi
  cases it with
  | seq ds => cases e2; exact sFor_seq e1
  | rng lo n =>
    simp only [itemsOf] at e2
    split at e2
    · cases e2; exact sFor_rng e1
    · cases e2
  | loc n => exact absurd e1 (hl n)
theorem for_tup {f : FE} {g : Tg} {b : FS} {s : Ss} {h h1 : Hs} {xs : List D} (e : f s h = .ok (.tup xs) h1) : sFor (iRow f) g b s h = loopS g b xs s h1 := sFor_seq (by unfold iRow; rw [e]; rfl)
theorem for_lst {f : FE} {g : Tg} {b : FS} {s : Ss} {h h1 : Hs} {xs : List D} (e : f s h = .ok (.lst xs) h1) : sFor (iRow f) g b s h = loopS g b xs s h1 := sFor_seq (by unfold iRow; rw [e]; rfl)
theorem for_rng {f : FA} {g : Tg} {b : FS} {s : Ss} {h h1 : Hs} {n : Int} (e : f s h = .ok [.int n] h1) (h2 : n ≤ 1000000000) (h0 : -1000000000 ≤ n) : sFor (iRng1 f) g b s h = loopS g b ((rgI 0 n.toNat).map D.int) s h1 := by
  have : iRng1 f s h = .ok (.rng 0 n.toNat) h1 := by
    unfold iRng1
    rw [e, R.bind_ok]
    exact if_pos ⟨Int.le_trans (by decide) h0, Int.lt_of_le_of_lt h2 (by decide)⟩
  rw [sFor_rng this, rgL_ints]; rfl
theorem for_rngN {f : FA} {g : Tg} {b : FS} {s : Ss} {h h1 : Hs} {n : Nat} (e : f s h = .ok [.int n] h1) (h2 : n ≤ 1000000000) : sFor (iRng1 f) g b s h = loopS g b ((List.range n).map fun (k : Nat) => .int k) s h1 := by
  rw [for_rng e (by omega) (by omega)]
  simp [rgI, Function.comp_def]
theorem Itr.rngN {f : FA} {s : Ss} {h h1 : Hs} {n : Nat} (e : f s h = .ok [.int n] h1) (h2 : n ≤ 16777216) : Itr (iRng1 f) s h h1 ((List.range n).map fun (k : Nat) => .int k) := by
  have := Itr.rng (n := n) e (by omega) (by omega)
  simpa [rgI, Function.comp_def] using this
theorem for_rng2 {f : FA} {g : Tg} {b : FS} {s : Ss} {h h1 : Hs} {m n : Int} (e : f s h = .ok [.int m, .int n] h1) (h2 : n ≤ 1000000000) (h0 : -1000000000 ≤ n) (h3 : -1000000000 ≤ m) (h4 : m ≤ 1000000000) : sFor (iRng2 f) g b s h = loopS g b ((rgI m (n - m).toNat).map D.int) s h1 := by
  rw [sFor_rng (iRng2_ok e (by omega) (by omega)), rgL_ints]; rfl
theorem for_enT {f : FA} {g : Tg} {b : FS} {s : Ss} {h h1 : Hs} {xs : List D} (e : f s h = .ok [.tup xs] h1) : sFor (iEnumerate f) g b s h = loopS g b (enL 0 xs) s h1 := sFor_seq (by unfold iEnumerate; rw [e]; rfl)
theorem for_enL {f : FA} {g : Tg} {b : FS} {s : Ss} {h h1 : Hs} {xs : List D} (e : f s h = .ok [.lst xs] h1) : sFor (iEnumerate f) g b s h = loopS g b (enL 0 xs) s h1 := sFor_seq (by unfold iEnumerate; rw [e]; rfl)
theorem for_zpL {f : FA} {g : Tg} {b : FS} {s : Ss} {h h1 : Hs} {xs ys : List D} (e : f s h = .ok [.lst xs, .lst ys] h1) : sFor (iZip f) g b s h = loopS g b (zpL xs ys) s h1 := sFor_seq (by unfold iZip; rw [e]; rfl)
theorem for_zpT {f : FA} {g : Tg} {b : FS} {s : Ss} {h h1 : Hs} {xs ys : List D} (e : f s h = .ok [.tup xs, .tup ys] h1) : sFor (iZip f) g b s h = loopS g b (zpL xs ys) s h1 := sFor_seq (by unfold iZip; rw [e]; rfl)
def cutG {α : Type} (xs : List α) (lo hi : Option Int) : List α := (xs.drop (HT.sIx xs.length 0 lo)).take (HT.sIx xs.length xs.length hi - HT.sIx xs.length 0 lo)
theorem cutD_eq (xs : List D) (lo hi : Option Int) : cutD xs lo hi = cutG xs lo hi := rfl
theorem cutG_map {α β : Type} (f : α → β) (xs : List α) (lo hi : Option Int) : cutG (xs.map f) lo hi = (cutG xs lo hi).map f := by
  unfold cutG
  simp [List.map_take, List.map_drop]
theorem sIx_pos {n d : Nat} {v : Int} (h : 0 ≤ v) : HT.sIx n d (some v) = min v.toNat n := by
  unfold HT.sIx
  exact if_neg (by omega)
theorem cut_lo {α : Type} {xs : List α} {v : Int} (h : 0 ≤ v) : cutG xs (some v) none = xs.drop v.toNat := by
  unfold cutG
  rw [sIx_pos h, HT.sIx_none]
  by_cases hv : v.toNat ≤ xs.length
  · rw [Nat.min_eq_left hv, List.take_of_length_le (by simp)]
  · rw [List.drop_eq_nil_of_le (by omega), List.drop_eq_nil_of_le (by omega)]; simp
theorem cut_hi {α : Type} {xs : List α} {v : Int} (h : 0 ≤ v) : cutG xs none (some v) = xs.take v.toNat := by
  unfold cutG
  rw [sIx_pos h, HT.sIx_none, List.drop_zero, Nat.sub_zero]
  by_cases hv : v.toNat ≤ xs.length
  · rw [Nat.min_eq_left hv]
  · rw [Nat.min_eq_right (by omega), List.take_of_length_le (Nat.le_refl _), List.take_of_length_le (by omega)]
theorem cut_lohi {α : Type} {xs : List α} {u v : Int} (h : 0 ≤ u) (h2 : 0 ≤ v) : cutG xs (some u) (some v) = (xs.drop u.toNat).take (v.toNat - u.toNat) := by
  unfold cutG
  rw [sIx_pos h, sIx_pos h2]
  by_cases hu : u.toNat ≤ xs.length
  · rw [Nat.min_eq_left hu]
    by_cases hv : v.toNat ≤ xs.length
    · rw [Nat.min_eq_left hv]
    · rw [Nat.min_eq_right (by omega), List.take_of_length_le (by simp), List.take_of_length_le (by simp; omega)]
  · rw [List.drop_eq_nil_of_le (by omega), List.drop_eq_nil_of_le (by omega)]; simp
@[simp] theorem cut_lo0 {α : Type} {xs : List α} : cutG xs (some 0) none = xs := by simp [cut_lo]
@[simp] theorem cut_none {α : Type} {xs : List α} : cutG xs none none = xs := by simp [cutG, HT.sIx_none]
@[simp] theorem cut_lo1 {α : Type} {xs : List α} : cutG xs (some 1) none = xs.drop 1 := cut_lo (by decide)
@[simp] theorem cut_hi1 {α : Type} {xs : List α} : cutG xs none (some 1) = xs.take 1 := cut_hi (by decide)
@[simp] theorem sl_tup {m : Bool} {xs : List D} {lo hi : Option Int} {h : Hs} : slD m (.tup xs) lo hi h = .ok (.tup (cutG xs lo hi)) h := (rfl)
@[simp] theorem sl_lst {m : Bool} {xs : List D} {lo hi : Option Int} {h : Hs} : slD m (.lst xs) lo hi h = newL m (cutG xs lo hi) h := (rfl)
theorem sl_loc {m : Bool} {n : Nat} {xs : List D} {lo hi : Option Int} {h : Hs} (e : locAt h n = some xs) : slD m (.loc n) lo hi h = newL m (cutG xs lo hi) h := by
  show (match lstOf h (.loc n) with | some xs => newL m (cutD xs lo hi) h | none => .bad) = _
  rw [show lstOf h (.loc n) = some xs from e]; rfl
@[simp] theorem add_lst {xs ys : List D} {h : Hs} (hz : xs.length + ys.length ≤ 16777216) : addD (.lst xs) (.lst ys) h = .ok (.lst (xs ++ ys)) h := by
  simp [addD, lstX, hz]
@[simp] theorem add_tup {xs ys : List D} {h : Hs} (hz : xs.length + ys.length ≤ 16777216) : addD (.tup xs) (.tup ys) h = .ok (.tup (xs ++ ys)) h := by
  simp [addD, hz]
theorem add_row {x y : D} {xs ys : List D} {h : Hs} (hx : lstX h x = some xs) (hy : lstX h y = some ys) (hz : xs.length + ys.length ≤ 16777216) : addD x y h = .ok (.lst (xs ++ ys)) h := by
  have hz' : xs.length + ys.length ≤ sizeLine := hz
  cases x <;> first | (cases hx; done) | (cases y <;> first | (cases hy; done) | (simp only [addD, hx, hy, if_pos hz']))
@[simp] theorem max_row {ns : List Int} {d : D} {h : Hs} (hr : rowOf h d = some (ns.map D.int)) (h0 : 0 < ns.length) : maxD [d] h = .ok (.int (maxL ns)) h := by
  cases d <;> first | (cases hr; done) | (simp only [maxD]; rw [hr]; simp [h0])
@[simp] theorem min_row {ns : List Int} {d : D} {h : Hs} (hr : rowOf h d = some (ns.map D.int)) (h0 : 0 < ns.length) : minD [d] h = .ok (.int (minL ns)) h := by
  cases d <;> first | (cases hr; done) | (simp only [minD]; rw [hr]; simp [h0])
theorem rgC_ok {i j c : Int} (h0 : 0 ≤ i) (h1 : i ≤ 1000000) (h2 : 0 ≤ j) (h3 : j ≤ 1000000) (h4 : 1 ≤ c) (h5 : c ≤ 1000000) : RgC i j c (Builtin.Range.rangeSize i j c).toNat ∧ (Builtin.Range.rangeSize i j c).toNat ≤ sizeLine := by
  have hs : Builtin.Range.rangeSize i j c = if i < j then (j - i - 1) / c + 1 else 0 := by
    unfold Builtin.Range.rangeSize
    rw [if_pos (show c > 0 by omega)]
  have hb : i < j → 0 ≤ (j - i - 1) / c ∧ (j - i - 1) / c ≤ 1000000 := fun hij => by
    refine ⟨Int.ediv_nonneg (by omega) (by omega), ?_⟩
    have := Int.ediv_le_self (a := j - i - 1) c (by omega)
    omega
  have hr : 0 ≤ Builtin.Range.rangeSize i j c ∧ Builtin.Range.rangeSize i j c ≤ 1000001 := by
    rw [hs]
    split
    · rename_i hij
      have := hb hij
      omega
    · omega
  refine ⟨⟨by omega, by omega, ?_, by omega⟩, by rw [size_val]; omega⟩
  unfold Builtin.Range.small
  generalize Builtin.Range.rangeSize i j c = n at hr
  simp only [Builtin.Range.rangeFitsLong, Bool.and_eq_true, Bool.or_eq_true, decide_eq_true_eq, beq_iff_eq, show c > 0 by omega, if_true]
  omega
def rgS (i c : Int) (n : Nat) : List Int := (List.range n).map fun (k : Nat) => i + (k : Nat) * c
theorem for_rngC {f : FA} {g : Tg} {b : FS} {s : Ss} {h h' : Hs} {i j c : Int} (e : f s h = .ok [.int i, .int j, .int c] h') (h0 : 0 ≤ i) (h1 : i ≤ 1000000) (h2 : 0 ≤ j) (h3 : j ≤ 1000000) (h4 : 1 ≤ c) (h5 : c ≤ 1000000) :
    ∃ ks : List Int, (∀ k ∈ ks, i ≤ k ∧ k < j) ∧ ks.Pairwise (· < ·) ∧ ks.length ≤ 1000001 ∧ sFor (iRngC f) g b s h = loopS g b (ks.map D.int) s h' := by
  have hs : Builtin.Range.rangeSize i j c = if i < j then (j - i - 1) / c + 1 else 0 := by
    unfold Builtin.Range.rangeSize
    rw [if_pos (show c > 0 by omega)]
  have hok := rgC_ok h0 h1 h2 h3 h4 h5
  refine ⟨rgS i c (Builtin.Range.rangeSize i j c).toNat, fun k hk => ?_, ?_, ?_, ?_⟩
  · unfold rgS at hk
    simp only [List.mem_map, List.mem_range] at hk
    obtain ⟨m, hm, rfl⟩ := hk
    rw [hs] at hm
    split at hm
    · rename_i hij
      have hq := Int.ediv_nonneg (a := j - i - 1) (b := c) (by omega) (by omega)
      have hm' : (m : Int) ≤ (j - i - 1) / c := by omega
      have h6 : (m : Int) * c ≤ (j - i - 1) / c * c := Int.mul_le_mul_of_nonneg_right hm' (by omega)
      have h7 : (j - i - 1) / c * c ≤ j - i - 1 := Int.ediv_mul_le _ (by omega)
      have h8 : 0 ≤ (m : Int) * c := Int.mul_nonneg (by omega) (by omega)
      omega
    · omega
  · unfold rgS
    rw [List.pairwise_map]
    refine List.Pairwise.imp (fun {a b} hab => ?_) List.pairwise_lt_range
    have : (a : Int) * c < (b : Int) * c := Int.mul_lt_mul_of_pos_right (by omega) (by omega)
    omega
  · have : (Builtin.Range.rangeSize i j c).toNat ≤ 1000001 := by
      rw [hs]
      split
      · have := Int.ediv_le_self (a := j - i - 1) c (by omega)
        omega
      · omega
    simpa [rgS] using this
  · have ei : iRngC f s h = .ok (.seq (rgC i c (Builtin.Range.rangeSize i j c).toNat)) h' := by
      unfold iRngC
      rw [e, R.bind_ok]
      exact if_pos hok
    rw [sFor_seq ei]
    unfold rgC rgS
    rw [List.map_map]
    rfl
end WD
namespace WD
open PySem PySem.Spec PyProof.Rows L2
theorem set_same {g : Hs} {r : Nat} {xs : List D} (h : locAt g r = some xs) : g.set r (.lst xs) = g := by
  have h1 := locAt_some h
  have hl := lt_of_get h1
  apply List.ext_getElem?
  intro j
  by_cases hj : r = j
  · subst hj; rw [List.getElem?_set_self hl, h1]
  · rw [List.getElem?_set_ne hj]
theorem app_at {h : Hs} {n : Nat} {xs : List D} {d : D} (e : locAt h n = some xs) (hz : xs.length < 16777216) : appendD (.loc n) [d] h = .ok .non (h.set n (.lst (xs ++ [d]))) := by
  have hz' : xs.length < sizeLine := by simpa using hz
  simp only [appendD, e, if_pos hz']
theorem app_last {g : Hs} {xs : List D} {d : D} (hz : xs.length < 16777216) : appendD (.loc g.length) [d] (g ++ [.lst xs]) = .ok .non (g ++ [.lst (xs ++ [d])]) := by
  rw [app_at locAt_end hz, set_end]
theorem split_last {α : Type} {l : List α} (h : 0 < l.length) : ∃ ds d, l = ds ++ [d] :=
  ⟨l.dropLast, l.getLast (by intro e; subst e; simp at h), (List.dropLast_concat_getLast _).symm⟩
theorem pop_head {ds : List Int} {d : Int} {t : Hs} : popD (.loc 0) [] (.lst ((ds ++ [d]).map D.int) :: t) = .ok (.int d) (.lst (ds.map D.int) :: t) := by
  simp [popD]
@[simp] theorem pop_head' {ds : List Int} {d : Int} {t : Hs} : popD (.loc 0) [] (.lst (ds.map D.int ++ [D.int d]) :: t) = .ok (.int d) (.lst (ds.map D.int) :: t) := by
  have := pop_head (ds := ds) (d := d) (t := t)
  rwa [List.map_append] at this
@[simp] theorem lstOf_head {xs : List D} {t : Hs} : lstOf (.lst xs :: t) (.loc 0) = some xs := (rfl)
theorem locAt_cons_end {o : O} {r : Hs} {xs : List D} {t : Hs} : locAt (o :: (r ++ (.lst xs :: t))) (r.length + 1) = some xs := by
  have := locAt_end (g := o :: r) (xs := xs) (t := t)
  simpa using this
theorem trunc_head {o o' : O} {r t : Hs} (ho : o'.und (r.length + 1) = true) : TruncOk (o :: r).length (o :: r) (o' :: (r ++ t)) := fun i u hi e => by
  cases i with
  | zero => cases e; exact .inr ho
  | succ i =>
    simp only [List.length_cons] at hi
    rw [List.getElem?_cons_succ, List.getElem?_append_left (by omega)] at e
    exact .inl (by rw [List.getElem?_cons_succ]; exact e)
theorem exitT_head {o o' : O} {r t : Hs} {d : D} (ho : o'.und (r.length + 1) = true) (hd : d.und (r.length + 1) = true) : exitT (o :: r) d (o' :: (r ++ t)) = .ok d (o' :: r) := by
  unfold exitT
  rw [if_pos (trunc_head ho)]
  unfold frz1
  rw [if_pos (by simpa using hd)]
  simp
theorem exitT_head0 {o o' : O} {r : Hs} {d : D} (ho : o'.und (r.length + 1) = true) (hd : d.und (r.length + 1) = true) : exitT (o :: r) d (o' :: r) = .ok d (o' :: r) := by
  have := exitT_head (o := o) (t := []) ho hd
  simpa using this
theorem exitT_headF {o o' : O} {r t : Hs} {xs : List D} (ho : o'.und (r.length + 1) = true) (hx : undL (r.length + 1) xs = true) : exitT (o :: r) (.loc (r.length + 1)) (o' :: (r ++ (.lst xs :: t))) = .ok (.lst xs) (o' :: r) := by
  unfold exitT
  rw [if_pos (trunc_head ho)]
  unfold frz1
  rw [if_neg (by simp [D.und])]
  have e : locAt (o' :: (r ++ (.lst xs :: t))) (r.length + 1) = some xs := locAt_cons_end
  simp [e, hx]
theorem set_cons_end {o x y : O} {r t : Hs} : (o :: (r ++ (x :: t))).set (r.length + 1) y = o :: (r ++ (y :: t)) := by
  have := set_end (g := o :: r) (o := x) (x := y) (t := t)
  simpa using this
@[simp] theorem und_O_ints {n : Nat} {ds : List Int} : (O.lst (ds.map D.int)).und n = true := by simp [O.und]
theorem undL_map {α : Type} {f : α → D} {n : Nat} {xs : List α} (h : ∀ x ∈ xs, (f x).und n = true) : undL n (xs.map f) = true := undL_iff.mpr (by
  intro d hd
  obtain ⟨x, hx, rfl⟩ := List.mem_map.mp hd
  exact h x hx)
theorem ix_mem {h : Hs} {d : D} {xs : List D} {i : Int} (hr : rowOf h d = some xs) (h0 : 0 ≤ i) (h1 : i < xs.length) : ixD d (.int i) h = .ok (xs[i.toNat]'(by omega)) h := x_ix_row hr (atI_in h0 h1)
theorem ix_any {h : Hs} {d : D} {xs : List D} {i : Int} (hr : rowOf h d = some xs) (h0 : 0 ≤ i) (h1 : i < xs.length) : ∃ e ∈ xs, ixD d (.int i) h = .ok e h := by
  have hl : i.toNat < xs.length := by omega
  exact ⟨xs[i.toNat], List.getElem_mem hl, x_ix_row hr (atI_in h0 h1)⟩
theorem ix_ints {h : Hs} {d : D} {ns : List Int} {i : Int} (hr : rowOf h d = some (ns.map D.int)) (h0 : 0 ≤ i) (h1 : i < ns.length) : ixD d (.int i) h = .ok (.int (ns.getD i.toNat 0)) h := by
  rw [ix_mem hr h0 (by simpa using h1)]
  simp [List.getD, List.getElem?_eq_getElem (show i.toNat < ns.length by omega)]
theorem set_ints {h : Hs} {n : Nat} {ns : List Int} {i v : Int} (e : locAt h n = some (ns.map D.int)) (h0 : 0 ≤ i) (h1 : i < ns.length) : setD (.loc n) (.int i) (.int v) h = some (h.set n (.lst ((ns.set i.toNat v).map D.int))) := by
  simp only [setD, e, List.length_map, ixN_in h0 h1, List.map_set]
@[simp] theorem at2a {g : Hs} {xs ys : List D} : locAt (g ++ [.lst xs, .lst ys]) g.length = some xs := locAt_end
@[simp] theorem at2b {g : Hs} {xs ys : List D} : locAt (g ++ [.lst xs, .lst ys]) (g.length + 1) = some ys := by
  have := locAt_end (g := g ++ [.lst xs]) (xs := ys) (t := [])
  simpa using this
@[simp] theorem set2a {g : Hs} {x y z : O} : (g ++ [x, y]).set g.length z = g ++ [z, y] := set_end
@[simp] theorem set2b {g : Hs} {x y z : O} : (g ++ [x, y]).set (g.length + 1) z = g ++ [x, z] := by
  have := set_end (g := g ++ [x]) (o := y) (x := z) (t := [])
  simpa using this
/-- told apart by == just where they are unlike -/
class EqE {α : Type} (f : α → D) : Prop where
  ex : ∃ (py : α → PyData) (n : Nat), n ≤ 50 ∧ (∀ h m a, n ≤ m → toP h m (f a) = some (py a)) ∧ ∀ a b, PyData.eqv (py a) (py b) = true ↔ a = b
instance : EqE D.int := ⟨PyData.int, 0, by omega, fun h m a _ => toP_int, fun a b => by simp [PyData.eqv]⟩
instance : EqE D.bl := ⟨PyData.bool, 0, by omega, fun h m a _ => toP_bl, fun a b => by cases a <;> cases b <;> simp [PyData.eqv]⟩
theorem eqvAll_iff {α : Type} {py : α → PyData} (hq : ∀ a b, PyData.eqv (py a) (py b) = true ↔ a = b) : ∀ xs ys : List α, PyData.eqvAll (xs.map py) (ys.map py) = true ↔ xs = ys
  | [], [] => by simp [PyData.eqvAll]
  | [], _ :: _ => by simp [PyData.eqvAll]
  | _ :: _, [] => by simp [PyData.eqvAll]
  | x :: xs, y :: ys => by simp [PyData.eqvAll, hq, eqvAll_iff hq xs ys]
class EqS {α : Type} (f : α → D) (k : Nat) : Prop where
  ex : ∃ (py : α → PyData), (∀ h m a, k ≤ m → toP h m (f a) = some (py a)) ∧ ∀ a b, PyData.eqv (py a) (py b) = true ↔ a = b
instance : EqS D.int 0 := ⟨PyData.int, fun h m a _ => toP_int, fun a b => by simp [PyData.eqv]⟩
instance : EqS D.bl 0 := ⟨PyData.bool, fun h m a _ => toP_bl, fun a b => by cases a <;> cases b <;> simp [PyData.eqv]⟩
theorem mapM_map {α : Type} {f : α → D} {py : α → PyData} {h : Hs} {m : Nat} (e : ∀ a, toP h m (f a) = some (py a)) : ∀ xs : List α, (xs.map f).mapM (toP h m) = some (xs.map py)
  | [] => rfl
  | x :: xs => by rw [List.map_cons, List.mapM_cons, e x, mapM_map e xs]; rfl
instance {α : Type} {f : α → D} {k : Nat} [E : EqS f k] : EqS (fun xs : List α => D.tup (xs.map f)) (k + 1) := by
  obtain ⟨py, h1, h2⟩ := E.ex
  refine ⟨fun xs => .tuple (xs.map py), fun h m xs hm => ?_, fun xs ys => by rw [PyData.eqv]; exact eqvAll_iff h2 xs ys⟩
  obtain ⟨m', rfl⟩ : ∃ m', m = m' + 1 := ⟨m - 1, by omega⟩
  exact toP_tup (mapM_map (fun a => h1 h m' a (by omega)) xs)
instance {α : Type} {f : α → D} {k : Nat} [E : EqS f k] : EqS (fun xs : List α => D.lst (xs.map f)) (k + 1) := by
  obtain ⟨py, h1, h2⟩ := E.ex
  refine ⟨fun xs => .list (xs.map py), fun h m xs hm => ?_, fun xs ys => by rw [PyData.eqv]; exact eqvAll_iff h2 xs ys⟩
  obtain ⟨m', rfl⟩ : ∃ m', m = m' + 1 := ⟨m - 1, by omega⟩
  exact toP_lst rfl (mapM_map (fun a => h1 h m' a (by omega)) xs)
theorem eq_of {α : Type} (f : α → D) {k : Nat} [E : EqS f k] (hk : k ≤ 64) {n : Bool} {a b : α} {h : Hs} [dd : Decidable (a = b)] : eqD n (f a) (f b) h = .ok (.bl (if n = true then !decide (a = b) else decide (a = b))) h := by
  obtain ⟨py, h1, h2⟩ := E.ex
  unfold eqD
  rw [h1 h 64 a hk, h1 h 64 b hk]
  have : PyData.eqv (py a) (py b) = decide (a = b) := by
    rw [Bool.eq_iff_iff, h2, decide_eq_true_iff]
  simp only [this]
/-- tuples of ints; of days -/
def iT (ns : List Int) : D := .tup (ns.map D.int)
def dT (r : List (List Int)) : D := .tup (r.map iT)
instance : EqS iT 1 := inferInstanceAs (EqS (fun xs : List Int => D.tup (xs.map D.int)) 1)
instance : EqS dT 2 := inferInstanceAs (EqS (fun xs : List (List Int) => D.tup (xs.map iT)) 2)
@[simp] theorem eq_iT {n : Bool} {a b : List Int} {h : Hs} : eqD n (iT a) (iT b) h = .ok (.bl (if n = true then !decide (a = b) else decide (a = b))) h := eq_of iT (k := 1) (by omega)
@[simp] theorem eq_dT {n : Bool} {a b : List (List Int)} {h : Hs} : eqD n (dT a) (dT b) h = .ok (.bl (if n = true then !decide (a = b) else decide (a = b))) h := eq_of dT (k := 2) (by omega)
@[simp] theorem eq_bl {n : Bool} {a b : Bool} {h : Hs} : eqD n (.bl a) (.bl b) h = .ok (.bl (if n = true then !decide (a = b) else decide (a = b))) h := eq_of D.bl (k := 0) (by omega)
@[simp] theorem row_iT {ns : List Int} {h : Hs} : rowOf h (iT ns) = some (ns.map D.int) := (rfl)
@[simp] theorem row_dT {r : List (List Int)} {h : Hs} : rowOf h (dT r) = some (r.map iT) := (rfl)
@[simp] theorem und_iT {ns : List Int} {n : Nat} : (iT ns).und n = true := by simp [iT]
@[simp] theorem und_dT {ns : List (List Int)} {n : Nat} : (dT ns).und n = true := by
  show (D.tup (ns.map iT)).und n = true
  rw [und_tup]
  exact undL_map fun _ _ => und_iT
@[simp] theorem len_iT {ns : List Int} {h : Hs} : lenD [iT ns] h = .ok (.int ns.length) h := by simp [iT]
@[simp] theorem len_dT {ns : List (List Int)} {h : Hs} : lenD [dT ns] h = .ok (.int ns.length) h := by simp [dT]
@[simp] theorem sl_iT {m : Bool} {xs : List Int} {lo hi : Option Int} {h : Hs} : slD m (iT xs) lo hi h = .ok (iT (cutG xs lo hi)) h := by
  simp [iT, cutG_map]
@[simp] theorem sl_dT {m : Bool} {xs : List (List Int)} {lo hi : Option Int} {h : Hs} : slD m (dT xs) lo hi h = .ok (dT (cutG xs lo hi)) h := by
  simp [dT, cutG_map]
@[simp] theorem add_iT {xs ys : List Int} {h : Hs} (hz : xs.length + ys.length ≤ 16777216) : addD (iT xs) (iT ys) h = .ok (iT (xs ++ ys)) h := by
  simp [iT, hz]
@[simp] theorem add_dT {xs ys : List (List Int)} {h : Hs} (hz : xs.length + ys.length ≤ 16777216) : addD (dT xs) (dT ys) h = .ok (dT (xs ++ ys)) h := by
  simp [dT, hz]
theorem ix_dT {r : List (List Int)} {i : Int} {h : Hs} (h0 : 0 ≤ i) (h1 : i < r.length) : ixD (dT r) (.int i) h = .ok (iT (r.getD i.toNat [])) h := by
  rw [ix_mem row_dT h0 (by simpa using h1)]
  simp [List.getD, List.getElem?_eq_getElem (show i.toNat < r.length by omega)]
theorem ix_iT {r : List Int} {i : Int} {h : Hs} (h0 : 0 ≤ i) (h1 : i < r.length) : ixD (iT r) (.int i) h = .ok (.int (r.getD i.toNat 0)) h := by
  rw [ix_mem row_iT h0 (by simpa using h1)]
  simp [List.getD, List.getElem?_eq_getElem (show i.toNat < r.length by omega)]
@[simp] theorem isT_iT {ns : List Int} : (iT ns).isT = true := (rfl)
@[simp] theorem isT_dT {ns : List (List Int)} : (dT ns).isT = true := (rfl)
@[simp] theorem lo_iT {ns : List Int} {h : Hs} : lstOf h (iT ns) = none := (rfl)
@[simp] theorem lo_dT {ns : List (List Int)} {h : Hs} : lstOf h (dT ns) = none := (rfl)
/-- still lists of ints; of days -/
def iL (ns : List Int) : D := .lst (ns.map D.int)
def dL (r : List (List Int)) : D := .lst (r.map iT)
theorem lst_ints {ns : List Int} : D.lst (ns.map D.int) = iL ns := rfl
theorem lst_days {ns : List (List Int)} : D.lst (ns.map iT) = dL ns := rfl
@[simp] theorem row_iL {ns : List Int} {h : Hs} : rowOf h (iL ns) = some (ns.map D.int) := (rfl)
@[simp] theorem row_dL {r : List (List Int)} {h : Hs} : rowOf h (dL r) = some (r.map iT) := (rfl)
@[simp] theorem lo_iL {ns : List Int} {h : Hs} : lstOf h (iL ns) = some (ns.map D.int) := (rfl)
@[simp] theorem lo_dL {ns : List (List Int)} {h : Hs} : lstOf h (dL ns) = some (ns.map iT) := (rfl)
@[simp] theorem tuple_iL {ns : List Int} {h : Hs} : tupleD [iL ns] h = .ok (iT ns) h := (rfl)
@[simp] theorem tuple_dL {ns : List (List Int)} {h : Hs} : tupleD [dL ns] h = .ok (dT ns) h := (rfl)
@[simp] theorem tuple_iT {ns : List Int} {h : Hs} : tupleD [iT ns] h = .ok (iT ns) h := (rfl)
@[simp] theorem tuple_dT {ns : List (List Int)} {h : Hs} : tupleD [dT ns] h = .ok (dT ns) h := (rfl)
@[simp] theorem len_iL {ns : List Int} {h : Hs} : lenD [iL ns] h = .ok (.int ns.length) h := by simp [iL]
@[simp] theorem len_dL {ns : List (List Int)} {h : Hs} : lenD [dL ns] h = .ok (.int ns.length) h := by simp [dL]
@[simp] theorem sum_iL {ns : List Int} {h : Hs} : sumD [iL ns] h = .ok (.int ns.sum) h := by simp [iL]
@[simp] theorem und_iL {ns : List Int} {n : Nat} : (iL ns).und n = true := by simp [iL]
@[simp] theorem und_dL {ns : List (List Int)} {n : Nat} : (dL ns).und n = true := by
  show (D.lst (ns.map iT)).und n = true
  rw [und_lst]
  exact undL_map fun _ _ => und_iT
@[simp] theorem isT_iL {ns : List Int} : (iL ns).isT = false := (rfl)
@[simp] theorem isT_dL {ns : List (List Int)} : (dL ns).isT = false := (rfl)
@[simp] theorem sl_iL {xs : List Int} {lo hi : Option Int} {h : Hs} : slD false (iL xs) lo hi h = .ok (iL (cutG xs lo hi)) h := by
  simp [iL, cutG_map]
@[simp] theorem sl_dL {xs : List (List Int)} {lo hi : Option Int} {h : Hs} : slD false (dL xs) lo hi h = .ok (dL (cutG xs lo hi)) h := by
  simp [dL, cutG_map]
@[simp] theorem add_iL {xs ys : List Int} {h : Hs} (hz : xs.length + ys.length ≤ 16777216) : addD (iL xs) (iL ys) h = .ok (iL (xs ++ ys)) h := by
  simp [iL, hz]
@[simp] theorem add_dL {xs ys : List (List Int)} {h : Hs} (hz : xs.length + ys.length ≤ 16777216) : addD (dL xs) (dL ys) h = .ok (dL (xs ++ ys)) h := by
  simp [dL, hz]
instance : EqS iL 1 := inferInstanceAs (EqS (fun xs : List Int => D.lst (xs.map D.int)) 1)
instance : EqS dL 2 := inferInstanceAs (EqS (fun xs : List (List Int) => D.lst (xs.map iT)) 2)
@[simp] theorem eq_iL {n : Bool} {a b : List Int} {h : Hs} : eqD n (iL a) (iL b) h = .ok (.bl (if n = true then !decide (a = b) else decide (a = b))) h := eq_of iL (k := 1) (by omega)
@[simp] theorem eq_dL {n : Bool} {a b : List (List Int)} {h : Hs} : eqD n (dL a) (dL b) h = .ok (.bl (if n = true then !decide (a = b) else decide (a = b))) h := eq_of dL (k := 2) (by omega)
@[simp] theorem eq_iLn {n : Bool} {a : List Int} {h : Hs} : eqD n (iL a) (.lst []) h = .ok (.bl (if n = true then !decide (a = []) else decide (a = []))) h := eq_of iL (k := 1) (b := []) (by omega)
@[simp] theorem eq_dLn {n : Bool} {a : List (List Int)} {h : Hs} : eqD n (dL a) (.lst []) h = .ok (.bl (if n = true then !decide (a = []) else decide (a = []))) h := eq_of dL (k := 2) (b := []) (by omega)
theorem tup_ints {ns : List Int} : D.tup (ns.map D.int) = iT ns := rfl
theorem tup_days {ns : List (List Int)} : D.tup (ns.map iT) = dT ns := rfl
/-- == with an empty list -/
theorem toP_cons {h : Hs} {n : Nat} {y : D} {ys : List D} {p : PyData} (e : toP h (n + 1) (.lst (y :: ys)) = some p) : ∃ q qs, p = .list (q :: qs) := by
  have e' : ((y :: ys).mapM (toP h n)).map PyData.list = some p := e
  cases em : (y :: ys).mapM (toP h n) with
  | none => rw [em] at e'; cases e'
  | some r =>
    rw [em] at e'
    obtain ⟨a, b, _, _, rfl⟩ := mapM_cons_some em
    cases e'
    exact ⟨a, b, rfl⟩
@[simp] theorem x_eqNil {h : Hs} {ys : List D} : eqD false (.lst ys) (.lst []) h = .ok (.bl ys.isEmpty) h := by
  unfold eqD
  have e0 : toP h 64 (.lst []) = some (.list []) := toP_lst (d := .lst []) (xs := []) rfl rfl
  cases ys with
  | nil => rw [e0]; rfl
  | cons y ys =>
    cases e : toP h 64 (.lst (y :: ys)) with
    | none =>
      rw [e0]
      simp only [x_lx_lst]
      rw [if_pos (by simp)]
      rfl
    | some p =>
      rw [e0]
      obtain ⟨q, qs, rfl⟩ := toP_cons e
      simp [PyData.eqv, PyData.eqvAll]
theorem any_intsD {i : Int} : ∀ ns : List Int, ((ns.map D.int).any fun y => eqF y (.int i)) = ns.contains i
  | [] => rfl
  | n :: ns => by
    rw [List.map_cons, List.any_cons, any_intsD ns]
    show ((n == i) || ns.contains i) = _
    rw [List.contains_cons, Bool.beq_comm (a := n)]
theorem flat_ints (ns : List Int) : (ns.map D.int).all flatD = true := by
  simp [flatD]
@[simp] theorem in_ints {n : Bool} {i : Int} {d : D} {ns : List Int} {h : Hs} (hr : rowOf h d = some (ns.map D.int)) : inD n (.int i) d h = .ok (.bl (if n = true then !ns.contains i else ns.contains i)) h := by
  unfold inD
  rw [hr]
  dsimp only
  rw [if_pos ⟨rfl, flat_ints ns⟩, any_intsD]
@[simp] theorem in_iT {n : Bool} {i : Int} {ns : List Int} {h : Hs} : inD n (.int i) (iT ns) h = .ok (.bl (if n = true then !ns.contains i else ns.contains i)) h := in_ints rfl
theorem loopL_still {g : Tg} {b : FS} {n : Nat} {xs : List D} {h : Hs} (P : Ss → Prop) (e : locAt h n = some xs)
    (hb : ∀ x ∈ xs, ∀ s, P s → ∃ s1, g x s h = some s1 ∧ ((∃ s2, b s1 h = .nx s2 h ∧ P s2) ∨ ∃ d h', b s1 h = .rt d h')) : ∀ (m i : Nat) (s : Ss), xs.length - i < m → P s → loopL g b n m i s h = loopS g b (xs.drop i) s h
  | 0, _, _, hm, _ => absurd hm (by omega)
  | m + 1, i, s, hm, hp => by
    unfold loopL
    rw [e]
    dsimp only
    by_cases hl : i < xs.length
    · rw [List.getElem?_eq_getElem hl, List.drop_eq_getElem_cons hl]
      obtain ⟨s1, h1, h2⟩ := hb xs[i] (List.getElem_mem hl) s hp
      dsimp only
      rw [h1]
      rcases h2 with ⟨s2, h2, h3⟩ | ⟨d, h', h2⟩
      · rw [loop_nx h1 h2]
        dsimp only
        rw [h2]
        exact loopL_still P e hb m (i + 1) s2 (by omega) h3
      · rw [loop_rt h1 h2]
        dsimp only
        rw [h2]
        rfl
    · rw [List.getElem?_eq_none (by omega), List.drop_eq_nil_of_le (by omega)]
      rfl
theorem sFor_row {f : FE} {g : Tg} {b : FS} {s : Ss} {h : Hs} {d : D} {xs : List D} (P : Ss → Prop) (ef : f s h = .ok d h) (hr : rowOf h d = some xs) (hp : P s)
    (hb : ∀ x ∈ xs, ∀ s, P s → ∃ s1, g x s h = some s1 ∧ ((∃ s2, b s1 h = .nx s2 h ∧ P s2) ∨ ∃ d h', b s1 h = .rt d h')) : sFor (iRow f) g b s h = loopS g b xs s h := by
  cases d with
  | tup ys => cases hr; exact sFor_seq (by unfold iRow; rw [ef]; rfl)
  | lst ys => cases hr; exact sFor_seq (by unfold iRow; rw [ef]; rfl)
  | scr ys => cases hr; exact sFor_seq (by unfold iRow; rw [ef]; rfl)
  | loc n =>
    have e : locAt h n = some xs := hr
    have ei : iRow f s h = .ok (.loc n) h := by
      unfold iRow
      rw [ef]
      exact if_pos (locAt_lt e)
    rw [sFor_loc ei e, loopL_still P e hb _ 0 s (by omega) hp]
    rfl
  | _ => cases hr
inductive Q where
  | non | bl (b : Bool) | int (i : Int) | str (x : Str) | row (xs : List Q) | dic
def vq (h : Hs) : Nat → D → Option Q
  | _, .non => some .non
  | _, .bl b => some (.bl b)
  | _, .int i => some (.int i)
  | _, .str x => some (.str x)
  | _, .dic _ _ => some .dic
  | 0, _ => none
  | n + 1, d => (rowOf h d).bind fun xs => (xs.mapM (vq h n)).map Q.row
@[simp] theorem vq_int {h : Hs} {n : Nat} {i : Int} : vq h n (.int i) = some (.int i) := by cases n <;> rfl
@[simp] theorem vq_non {h : Hs} {n : Nat} : vq h n .non = some .non := by cases n <;> rfl
@[simp] theorem vq_bl {h : Hs} {n : Nat} {i : Bool} : vq h n (.bl i) = some (.bl i) := by cases n <;> rfl
@[simp] theorem vq_str {h : Hs} {n : Nat} {i : Str} : vq h n (.str i) = some (.str i) := by cases n <;> rfl
@[simp] theorem vq_dic {h : Hs} {n : Nat} {k : List Key} {i : List D} : vq h n (.dic k i) = some .dic := by cases n <;> rfl
theorem vq_row {h : Hs} {n : Nat} {d : D} {xs : List D} (hr : rowOf h d = some xs) : vq h (n + 1) d = (xs.mapM (vq h n)).map Q.row := by
  cases d <;> first | (cases hr; done) | (simp only [vq]; rw [hr]; rfl)
/-- what a view tells of a thing -/
theorem vq_inv {h : Hs} {n : Nat} {d : D} {q : Q} (e : vq h n d = some q) : (rowOf h d = none ∧ (match q with | .non => d = .non | .bl b => d = .bl b | .int i => d = .int i | .str x => d = .str x | .dic => ∃ k xs, d = .dic k xs | .row _ => False)) ∨
    ∃ m xs qs, n = m + 1 ∧ rowOf h d = some xs ∧ xs.mapM (vq h m) = some qs ∧ q = .row qs := by
  cases d with
  | non => rw [vq_non] at e; cases e; exact .inl ⟨rfl, rfl⟩
  | bl b => rw [vq_bl] at e; cases e; exact .inl ⟨rfl, rfl⟩
  | int i => rw [vq_int] at e; cases e; exact .inl ⟨rfl, rfl⟩
  | str x => rw [vq_str] at e; cases e; exact .inl ⟨rfl, rfl⟩
  | dic k xs => rw [vq_dic] at e; cases e; exact .inl ⟨rfl, k, xs, rfl⟩
  | _ =>
    cases n with
    | zero => cases e
    | succ m =>
      simp only [vq] at e
      cases hr : rowOf h _ with
      | none => rw [hr] at e; cases e
      | some xs =>
        rw [hr] at e
        simp only [Option.bind_some] at e
        cases em : xs.mapM (vq h m) with
        | none => rw [em] at e; cases e
        | some qs => rw [em] at e; cases e; exact .inr ⟨m, xs, qs, rfl, rfl, em, rfl⟩
mutual
def qD : Q → D
  | .non => .non
  | .bl b => .bl b
  | .int i => .int i
  | .str x => .str x
  | .row xs => .tup (qDL xs)
  | .dic => .non
def qDL : List Q → List D
  | [] => []
  | x :: xs => qD x :: qDL xs
end
mutual
def Q.nd : Q → Bool
  | .row xs => ndL xs
  | .dic => false
  | .str x => PyData.strOk x
  | _ => true
def ndL : List Q → Bool
  | [] => true
  | x :: xs => x.nd && ndL xs
end
mutual
theorem und_qD (n : Nat) : ∀ q : Q, (qD q).und n = true
  | .non => rfl
  | .bl _ => rfl
  | .int _ => rfl
  | .str _ => rfl
  | .dic => rfl
  | .row xs => by simp only [qD, und_tup]; exact und_qDL n xs
theorem und_qDL (n : Nat) : ∀ qs : List Q, undL n (qDL qs) = true
  | [] => rfl
  | x :: xs => by simp only [qDL, undL_cons, und_qD n x, und_qDL n xs, Bool.and_self]
end
theorem mapM_imp {α β : Type} {f g : α → Option β} : ∀ {xs : List α} {ys : List β}, (∀ x y, f x = some y → g x = some y) → xs.mapM f = some ys → xs.mapM g = some ys
  | [], ys, _, e => e
  | x :: xs, ys, hf, e => by
    obtain ⟨y, ys', h1, h2, rfl⟩ := mapM_cons_some e
    rw [List.mapM_cons, hf x y h1, mapM_imp hf h2]; rfl
theorem mapM_len {α β : Type} {f : α → Option β} : ∀ {xs : List α} {ys : List β}, xs.mapM f = some ys → xs.length = ys.length
  | [], ys, e => by cases e; rfl
  | x :: xs, ys, e => by
    obtain ⟨y, ys', h1, h2, rfl⟩ := mapM_cons_some e
    simp [mapM_len h2]
theorem mapM_mem {α β : Type} {f : α → Option β} : ∀ {xs : List α} {ys : List β}, xs.mapM f = some ys → ∀ x ∈ xs, ∃ y ∈ ys, f x = some y
  | [], ys, e, x, hx => nomatch hx
  | x :: xs, ys, e, z, hz => by
    obtain ⟨y, ys', h1, h2, rfl⟩ := mapM_cons_some e
    rcases List.mem_cons.mp hz with rfl | hz
    · exact ⟨y, List.mem_cons_self, h1⟩
    · obtain ⟨w, hw, e'⟩ := mapM_mem h2 z hz
      exact ⟨w, List.mem_cons_of_mem _ hw, e'⟩
/-- views last while the places do -/
theorem vq_le {h h' : Hs} (hl : ∀ n xs, locAt h n = some xs → locAt h' n = some xs) : ∀ (n m : Nat) (d : D) (q : Q), n ≤ m → vq h n d = some q → vq h' m d = some q := by
  have hrow : ∀ d xs, rowOf h d = some xs → rowOf h' d = some xs := fun d xs e => by
    cases d <;> first | exact e | exact hl _ _ e
  intro n
  induction n with
  | zero =>
    intro m d q _ e
    cases d with
    | tup _ => cases e
    | lst _ => cases e
    | scr _ => cases e
    | loc _ => cases e
    | _ => simp at e ⊢; exact e
  | succ n ih =>
    intro m d q hm e
    obtain ⟨m, rfl⟩ : ∃ m', m = m' + 1 := ⟨m - 1, by omega⟩
    rcases vq_inv e with ⟨h1, h2⟩ | ⟨k, xs, qs, e1, e2, e3, rfl⟩
    · cases q with
      | non => cases h2; simp
      | bl b => cases h2; simp
      | int b => cases h2; simp
      | str b => cases h2; simp
      | dic => obtain ⟨k, xs, rfl⟩ := h2; simp
      | row _ => exact h2.elim
    · obtain rfl : n = k := by omega
      rw [vq_row (hrow _ _ e2), mapM_imp (fun x y hx => ih m x y (by omega) hx) e3]; rfl
theorem vq_app {h t : Hs} {n m : Nat} {d : D} {q : Q} (hm : n ≤ m) (e : vq h n d = some q) : vq (h ++ t) m d = some q := vq_le (fun k xs ek => by rw [locAt_app (locAt_lt ek)]; exact ek) n m d q hm e
def accE (f : D → Hs → D × Hs) : List D → Hs → List D × Hs
  | [], t => ([], t)
  | x :: xs, t => ((f x t).1 :: (accE f xs (t ++ (f x t).2)).1, (accE f xs (t ++ (f x t).2)).2)
theorem comp_eff {m : Bool} {vs : List Nat} {fi : FI} {g : Tg} {te : FE} {s : Ss} {h : Hs} {xs : List D} (f : D → Hs → D × Hs) (hi : Itr fi s h h xs)
    (hs : ∀ x ∈ xs, ∀ t, ∃ s2, g x (wipeS s vs) (h ++ t) = some s2 ∧ te s2 (h ++ t) = .ok (f x t).1 (h ++ t ++ (f x t).2)) : eComp m vs fi g tYesF te s h = newL m (accE f xs []).1 (h ++ (accE f xs []).2) := by
  obtain ⟨it, e1, e2⟩ := hi
  unfold eComp
  rw [e1, R.bind_ok]
  have main : ∀ (ys acc : List D) (t : Hs), (∀ y ∈ ys, y ∈ xs) → compA g tYesF te (wipeS s vs) (newL m) ys acc (h ++ t) = newL m (acc ++ (accE f ys t).1) (h ++ (accE f ys t).2) := by
    intro ys
    induction ys with
    | nil => intro acc t _; simp [compA, accE]
    | cons y ys ih =>
      intro acc t hy
      obtain ⟨s2, k1, k2⟩ := hs y (hy y List.mem_cons_self) t
      have ih := fun acc t => ih acc t fun z hz => hy z (List.mem_cons_of_mem _ hz)
      unfold compA stepC
      simp only [k1, k2, x_tyes, x_quiet_ok, R.bind_ok, if_true]
      rw [List.append_assoc h, ih]
      simp [accE]
  have loc : ∀ n, locAt h n = some xs → ∀ (k i : Nat) (acc : List D) (t : Hs), xs.length - i < k → acc.length ≤ i → i ≤ xs.length → compL g tYesF te (wipeS s vs) n (newL m) k i acc (h ++ t) = newL m (acc ++ (accE f (xs.drop i) t).1) (h ++ (accE f (xs.drop i) t).2) := by
    intro n e k
    have e' : ∀ t, locAt (h ++ t) n = some xs := fun t => by rw [locAt_app (locAt_lt e)]; exact e
    induction k with
    | zero => intro i acc t hm; omega
    | succ k ih =>
      intro i acc t hm ha hi
      unfold compL
      rw [e']
      dsimp only
      by_cases hl : i < xs.length
      · rw [List.getElem?_eq_getElem hl, List.drop_eq_getElem_cons hl]
        obtain ⟨s2, k1, k2⟩ := hs xs[i] (List.getElem_mem hl) t
        dsimp only
        unfold stepC
        simp only [k1, k2, x_tyes, x_quiet_ok, R.bind_ok, if_true]
        rw [List.append_assoc h, ih (i + 1) _ _ (by omega) (by simp; omega) hl]
        simp [accE]
      · rw [List.getElem?_eq_none (by omega), List.drop_eq_nil_of_le (by omega)]
        simp [accE]
  cases it with
  | seq ds =>
    simp only [itemsOf] at e2
    cases e2
    have := main xs [] [] fun _ h => h
    simpa using this
  | rng lo n =>
    simp only [itemsOf] at e2
    split at e2
    · rename_i hz
      have e3 : rgL lo n = xs := by injection e2
      dsimp only
      rw [if_pos hz, e3]
      have := main xs [] [] fun _ h => h
      simpa using this
    · cases e2
  | loc n =>
    have el : locAt h n = some xs := e2
    have := loc n el (xs.length + 1) 0 [] [] (by omega) (Nat.le_refl _) (Nat.zero_le _)
    dsimp only
    rw [el]
    simpa using this
theorem enL_map {α : Type} {em : α → D} : ∀ (xs : List α) (k : Nat), enL k (xs.map em) = (xs.zipIdx k).map fun x => .tup [.int (x.2 : Nat), em x.1]
  | [], _ => rfl
  | x :: xs, k => by simp [enL, enL_map xs, List.zipIdx_cons]
theorem zpL_map {α β : Type} {em : α → D} {en : β → D} : ∀ (xs : List α) (ys : List β), zpL (xs.map em) (ys.map en) = (xs.zip ys).map fun x => .tup [em x.1, en x.2]
  | [], ys => by simp [zpL]
  | x :: xs, [] => by simp [zpL]
  | x :: xs, y :: ys => by simp [zpL, zpL_map xs ys]
def dayQ (d : List Int) : Q := .row (d.map Q.int)
def ringQ (r : List (List Int)) : Q := .row (r.map dayQ)
theorem mapM_ints_vq {h : Hs} {n : Nat} : ∀ {xs : List D} {ns : List Int}, xs.mapM (vq h n) = some (ns.map Q.int) → xs = ns.map D.int
  | [], [], _ => rfl
  | [], _ :: _, e => by cases e
  | x :: xs, ns, e => by
    obtain ⟨y, ys, h1, h2, h3⟩ := mapM_cons_some e
    cases ns with
    | nil => cases h3
    | cons n ns =>
      simp only [List.map_cons, List.cons.injEq] at h3
      obtain ⟨rfl, rfl⟩ := h3
      rw [mapM_ints_vq h2]
      rcases vq_inv h1 with ⟨_, h4⟩ | ⟨_, _, _, _, _, _, h4⟩
      · cases h4; rfl
      · cases h4
theorem dayQ_inv {h : Hs} {n : Nat} {x : D} {d : List Int} (e : vq h n x = some (dayQ d)) : ∃ m, n = m + 1 ∧ rowOf h x = some (d.map D.int) := by
  rcases vq_inv e with ⟨_, h4⟩ | ⟨m, xs, qs, h1, h2, h3, h4⟩
  · exact h4.elim
  · simp only [dayQ, Q.row.injEq] at h4
    subst h4
    exact ⟨m, h1, by rw [h2, mapM_ints_vq h3]⟩
theorem ringQ_inv {h : Hs} {n : Nat} {x : D} {r : List (List Int)} (e : vq h n x = some (ringQ r)) : ∃ m xs, n = m + 1 ∧ rowOf h x = some xs ∧ xs.mapM (vq h m) = some (r.map dayQ) := by
  rcases vq_inv e with ⟨_, h4⟩ | ⟨m, xs, qs, h1, h2, h3, h4⟩
  · exact h4.elim
  · simp only [ringQ, Q.row.injEq] at h4
    subst h4
    exact ⟨m, xs, h1, h2, h3⟩
@[simp] theorem vq_iT {h : Hs} {n : Nat} {d : List Int} : vq h (n + 1) (iT d) = some (dayQ d) := by
  rw [vq_row row_iT]
  have : ∀ d : List Int, (d.map D.int).mapM (vq h n) = some (d.map Q.int) := fun d => by
    induction d with
    | nil => rfl
    | cons a d ih => rw [List.map_cons, List.mapM_cons, vq_int, ih]; rfl
  rw [this]; rfl
@[simp] theorem vq_dT {h : Hs} {n : Nat} {r : List (List Int)} : vq h (n + 2) (dT r) = some (ringQ r) := by
  rw [vq_row row_dT]
  have : ∀ r : List (List Int), (r.map iT).mapM (vq h (n + 1)) = some (r.map dayQ) := fun r => by
    induction r with
    | nil => rfl
    | cons a d ih => rw [List.map_cons, List.mapM_cons, vq_iT, ih]; rfl
  rw [this]; rfl
theorem qD_day (d : List Int) : qD (dayQ d) = iT d := by
  simp only [dayQ, qD, iT]
  congr 1
  induction d with
  | nil => rfl
  | cons a d ih => simp [qDL, qD, ih]
theorem qD_ring (r : List (List Int)) : qD (ringQ r) = dT r := by
  simp only [ringQ, qD, dT]
  congr 1
  induction r with
  | nil => rfl
  | cons a d ih => simp [qDL, qD_day, ih]
theorem nd_day (d : List Int) : (dayQ d).nd = true := by
  simp only [dayQ, Q.nd]
  induction d with
  | nil => rfl
  | cons a d ih => simp [ndL, Q.nd, ih]
theorem nd_ring (r : List (List Int)) : (ringQ r).nd = true := by
  simp only [ringQ, Q.nd]
  induction r with
  | nil => rfl
  | cons a d ih => simp [ndL, nd_day, ih]
theorem ndL_mem : ∀ {qs : List Q} {q : Q}, ndL qs = true → q ∈ qs → q.nd = true
  | [], _, _, hq => nomatch hq
  | x :: xs, q, h, hq => by
    simp only [ndL, Bool.and_eq_true] at h
    rcases List.mem_cons.mp hq with rfl | hq
    · exact h.1
    · exact ndL_mem h.2 hq
theorem mapM_qD {h : Hs} {n : Nat} : ∀ {xs : List D} {qs : List Q}, xs.mapM (vq h n) = some qs → xs.map (fun x => qD ((vq h n x).getD .non)) = qDL qs
  | [], qs, e => by cases e; rfl
  | x :: xs, qs, e => by
    obtain ⟨y, ys, h1, h2, rfl⟩ := mapM_cons_some e
    simp [qDL, h1, mapM_qD h2]
theorem comp_inv {m : Bool} {vs : List Nat} {fi : FI} {g : Tg} {tt : FT} {te : FE} {s : Ss} {h h1 : Hs} {xs : List D} (I : List D → List D → Hs → Prop) (hi : Itr fi s h h1 xs) (hl : ∀ n, fi s h ≠ .ok (.loc n) h1) (h0 : I [] xs h1)
    (hs : ∀ acc x rest h, I acc (x :: rest) h → ∃ s2, g x (wipeS s vs) h = some s2 ∧ ((tt s2 h = .ok false h ∧ I acc rest h) ∨ (tt s2 h = .ok true h ∧ ∃ y h', te s2 h = .ok y h' ∧ I (acc ++ [y]) rest h'))) :
    ∃ acc h', I acc [] h' ∧ eComp m vs fi g tt te s h = newL m acc h' := by
  obtain ⟨it, e1, e2⟩ := hi
  have main : ∀ (ys acc : List D) (h : Hs), I acc ys h → ∃ acc' h', I acc' [] h' ∧ compA g tt te (wipeS s vs) (newL m) ys acc h = newL m acc' h' := by
    intro ys
    induction ys with
    | nil => intro acc h hI; exact ⟨acc, h, hI, rfl⟩
    | cons y ys ih =>
      intro acc h hI
      obtain ⟨s2, k1, k2⟩ := hs acc y ys h hI
      rcases k2 with ⟨k2, k3⟩ | ⟨k2, z, h', k3, k4⟩
      · obtain ⟨acc', h', a1, a2⟩ := ih acc h k3
        refine ⟨acc', h', a1, ?_⟩
        rw [← a2]
        conv => lhs; unfold compA stepC
        simp only [k1, k2, x_quiet_ok, R.bind_ok, Bool.false_eq_true, if_false]
      · obtain ⟨acc', h'', a1, a2⟩ := ih (acc ++ [z]) h' k4
        refine ⟨acc', h'', a1, ?_⟩
        rw [← a2]
        conv => lhs; unfold compA stepC
        simp only [k1, k2, k3, x_quiet_ok, R.bind_ok, if_true]
  obtain ⟨acc', h', a1, a2⟩ := main xs [] h1 h0
  refine ⟨acc', h', a1, ?_⟩
  unfold eComp
  rw [e1, R.bind_ok]
  cases it with
  | seq ds => cases e2; exact a2
  | rng lo n =>
    simp only [itemsOf] at e2
    split at e2
    · rename_i hz
      have e3 : rgL lo n = xs := by injection e2
      dsimp only
      rw [if_pos hz, e3]
      exact a2
    · cases e2
  | loc n => exact absurd e1 (hl n)
theorem rng_noloc {f : FA} {s : Ss} {h h1 : Hs} {n : Nat} : iRng1 f s h ≠ .ok (.loc n) h1 := by
  unfold iRng1
  cases f s h with
  | ok ds h2 =>
    rw [R.bind_ok]
    split
    · split <;> simp
    · simp
  | err x h2 => simp
  | bad => simp
theorem while_steps {t : FT} {b : FS} (st : Nat → Ss) (h : Hs) (n : Nat) (ht : ∀ k, k < n → t (st k) h = .ok true h ∧ b (st k) h = .nx (st (k + 1)) h) (hn : t (st n) h = .ok false h) : sWhile t b (st 0) h = .nx (st n) h := by
  have : ∀ j k, k + j = n → whileF t b (j + 1) (st k) h = .nx (st n) h := by
    intro j
    induction j with
    | zero =>
      intro k hk
      obtain rfl : k = n := by omega
      unfold whileF
      rw [hn]; rfl
    | succ j ih =>
      intro k hk
      obtain ⟨h1, h2⟩ := ht k (by omega)
      unfold whileF
      rw [h1]
      dsimp only
      rw [if_pos rfl, h2]
      exact ih (k + 1) (by omega)
  exact sWhile_eq (this n 0 (by omega)) (by simp)
theorem tup0 : D.tup [] = iT [] := (rfl)
theorem tup1 {a : Int} : D.tup [.int a] = iT [a] := (rfl)
theorem tup2 {a b : Int} : D.tup [.int a, .int b] = iT [a, b] := (rfl)
theorem mul_lst {xs : List D} {k : Int} {h : Hs} (h0 : -1000000 ≤ k) (h1 : xs.length * k.toNat ≤ 16777216) (h2 : k ≤ 1000000000) : mulD (.lst xs) (.int k) h = .ok (.lst (List.replicate k.toNat xs).flatten) h := by
  have : repOk k xs.length := ⟨by omega, by omega, h1⟩
  unfold mulD
  exact if_pos this
theorem mul_tup {xs : List D} {k : Int} {h : Hs} (h0 : -1000000 ≤ k) (h1 : xs.length * k.toNat ≤ 16777216) (h2 : k ≤ 1000000000) : mulD (.tup xs) (.int k) h = .ok (.tup (List.replicate k.toNat xs).flatten) h := by
  have : repOk k xs.length := ⟨by omega, by omega, h1⟩
  unfold mulD
  exact if_pos this
theorem map_rep {α β : Type} (f : α → β) (xs : List α) : ∀ k : Nat, (List.replicate k (xs.map f)).flatten = ((List.replicate k xs).flatten).map f
  | 0 => rfl
  | k + 1 => by rw [List.replicate_succ, List.replicate_succ, List.flatten_cons, List.flatten_cons, List.map_append, map_rep f xs k]
theorem mul_iT {xs : List Int} {k : Int} {h : Hs} (h0 : -1000000 ≤ k) (h1 : xs.length * k.toNat ≤ 16777216) (h2 : k ≤ 1000000000) : mulD (iT xs) (.int k) h = .ok (iT (List.replicate k.toNat xs).flatten) h := by
  unfold iT
  rw [mul_tup h0 (by simpa using h1) h2, map_rep]
theorem mul_dT {xs : List (List Int)} {k : Int} {h : Hs} (h0 : -1000000 ≤ k) (h1 : xs.length * k.toNat ≤ 16777216) (h2 : k ≤ 1000000000) : mulD (dT xs) (.int k) h = .ok (dT (List.replicate k.toNat xs).flatten) h := by
  unfold dT
  rw [mul_tup h0 (by simpa using h1) h2, map_rep]
structure LiveAt (h : Hs) (b : Nat) (r : List (List Int)) : Prop where
  day : ∀ j (hj : j < r.length), locAt h (b + j) = some ((r[j]).map D.int)
  all : locAt h (b + r.length) = some ((List.range r.length).map fun i => .loc (b + i))
theorem LiveAt.app {h t : Hs} {b : Nat} {r : List (List Int)} (x : LiveAt h b r) : LiveAt (h ++ t) b r :=
  ⟨fun j hj => by rw [locAt_app (locAt_lt (x.day j hj))]; exact x.day j hj, by rw [locAt_app (locAt_lt x.all)]; exact x.all⟩
theorem locAt_head {o o' : O} {h : Hs} {n : Nat} (hn : 1 ≤ n) : locAt (o' :: h) n = locAt (o :: h) n := by
  obtain ⟨n, rfl⟩ : ∃ m, n = m + 1 := ⟨n - 1, by omega⟩
  rfl
theorem LiveAt.head {o o' : O} {h : Hs} {b : Nat} {r : List (List Int)} (x : LiveAt (o :: h) b r) (hb : 1 ≤ b) : LiveAt (o' :: h) b r :=
  ⟨fun j hj => by rw [locAt_head (o := o) (by omega)]; exact x.day j hj, by rw [locAt_head (o := o) (by omega)]; exact x.all⟩
theorem LiveAt.vqs {h : Hs} {b n : Nat} {r : List (List Int)} (x : LiveAt h b r) : vq h (n + 2) (.loc (b + r.length)) = some (ringQ r) := by
  rw [vq_row (xs := (List.range r.length).map fun i => .loc (b + i)) (show rowOf h (.loc (b + r.length)) = _ from x.all)]
  have e : ((List.range r.length).map fun i => D.loc (b + i)).mapM (vq h (n + 1)) = some (r.map dayQ) := by
    have key : ∀ (k : Nat), k ≤ r.length → ((List.range' (r.length - k) k).map fun i => D.loc (b + i)).mapM (vq h (n + 1)) = some ((r.drop (r.length - k)).map dayQ) := by
      intro k
      induction k with
      | zero => intro _; simp
      | succ k ih =>
        intro hk
        have hj : r.length - (k + 1) < r.length := by omega
        rw [List.range'_succ, List.map_cons, List.mapM_cons, List.drop_eq_getElem_cons hj, show r.length - (k + 1) + 1 = r.length - k by omega, ih (by omega)]
        rw [vq_row (d := .loc (b + (r.length - (k + 1)))) (xs := (r[r.length - (k + 1)]).map D.int) (show rowOf h (.loc (b + (r.length - (k + 1)))) = _ from x.day _ hj)]
        have := vq_iT (h := h) (n := n) (d := r[r.length - (k + 1)])
        rw [vq_row row_iT] at this
        rw [this]
        rfl
    have := key r.length (Nat.le_refl _)
    rw [Nat.sub_self, ← List.range_eq_range', List.drop_zero] at this
    exact this
  rw [e]; rfl
theorem LiveAt.toPs {h : Hs} {b : Nat} {r : List (List Int)} (x : LiveAt h b r) : toP h 64 (.loc (b + r.length)) = some (.list (r.map fun d => .list (d.map .int))) := by
  refine toP_lst (xs := (List.range r.length).map fun i => .loc (b + i)) x.all ?_
  have key : ∀ (k : Nat), k ≤ r.length → ((List.range' (r.length - k) k).map fun i => D.loc (b + i)).mapM (toP h 63) = some ((r.drop (r.length - k)).map fun d => PyData.list (d.map .int)) := by
    intro k
    induction k with
    | zero => intro _; simp
    | succ k ih =>
      intro hk
      have hj : r.length - (k + 1) < r.length := by omega
      rw [List.range'_succ, List.map_cons, List.mapM_cons, List.drop_eq_getElem_cons hj, show r.length - (k + 1) + 1 = r.length - k by omega, ih (by omega)]
      have e1 : toP h 63 (.loc (b + (r.length - (k + 1)))) = some (.list ((r[r.length - (k + 1)]).map .int)) := toP_lst (xs := (r[r.length - (k + 1)]).map D.int) (x.day _ hj) (mapM_ints _)
      rw [e1]
      rfl
  have := key r.length (Nat.le_refl _)
  rw [Nat.sub_self, ← List.range_eq_range', List.drop_zero] at this
  exact this
theorem eqvAll_refl {α : Type} {py : α → PyData} (hq : ∀ a, PyData.eqv (py a) (py a) = true) : ∀ xs : List α, PyData.eqvAll (xs.map py) (xs.map py) = true
  | [] => by simp [PyData.eqvAll]
  | x :: xs => by simp [PyData.eqvAll, hq, eqvAll_refl hq xs]
theorem LiveAt.eqs {h : Hs} {b c : Nat} {r : List (List Int)} (x : LiveAt h b r) (y : LiveAt h c r) {n : Bool} : eqD n (.loc (b + r.length)) (.loc (c + r.length)) h = .ok (.bl (!n)) h := by
  unfold eqD
  rw [x.toPs, y.toPs]
  have : PyData.eqv (.list (r.map fun d => .list (d.map .int))) (.list (r.map fun d => .list (d.map .int))) = true := by
    rw [PyData.eqv]
    refine eqvAll_refl (fun a => ?_) r
    rw [PyData.eqv]
    exact eqvAll_refl (fun a => by simp [PyData.eqv]) a
  simp only [this]
  cases n <;> rfl
theorem eq_lists {α : Type} (f : α → D) {k : Nat} [E : EqS f k] (hk : k ≤ 63) {n : Bool} {d e : D} {as bs : List α} {h : Hs} [dd : Decidable (as = bs)] (h1 : lstOf h d = some (as.map f)) (h2 : lstOf h e = some (bs.map f)) : eqD n d e h = .ok (.bl (if n = true then !decide (as = bs) else decide (as = bs))) h := by
  obtain ⟨py, k1, k2⟩ := E.ex
  unfold eqD
  rw [toP_lst (n := 63) h1 (mapM_map (fun a => k1 h 63 a hk) as), toP_lst (n := 63) h2 (mapM_map (fun a => k1 h 63 a hk) bs)]
  have : PyData.eqv (.list (as.map py)) (.list (bs.map py)) = decide (as = bs) := by
    rw [Bool.eq_iff_iff, PyData.eqv, decide_eq_true_iff]
    exact eqvAll_iff k2 as bs
  simp only [this]
theorem maxL_le {ns : List Int} : ∀ m ∈ ns, m ≤ maxL ns := by
  intro m hm
  cases ns with
  | nil => cases hm
  | cons n ns =>
    obtain ⟨h1, h2, _⟩ := foldl_max ns n
    rcases List.mem_cons.mp hm with rfl | hm
    · exact h1
    · exact h2 m hm
theorem maxL_mem {ns : List Int} (h : ns ≠ []) : maxL ns ∈ ns := by
  cases ns with
  | nil => exact absurd rfl h
  | cons n ns =>
    obtain ⟨_, _, h3⟩ := foldl_max ns n
    rcases h3 with h3 | h3
    · exact List.mem_cons.mpr (.inl h3)
    · exact List.mem_cons_of_mem _ h3
theorem maxL_eq {ns ms : List Int} (h : ns ≠ []) (h' : ms ≠ []) (e : ∀ x, x ∈ ns ↔ x ∈ ms) : maxL ns = maxL ms := by
  have h1 := maxL_le (ns := ms) _ ((e _).mp (maxL_mem h))
  have h2 := maxL_le (ns := ns) _ ((e _).mpr (maxL_mem h'))
  omega
/-- a walk over a live list that stays as it is while other things change -/
theorem for_live {f : FE} {g : Tg} {b : FS} {s : Ss} {h h1 : Hs} {n : Nat} {xs : List D} (e : f s h = .ok (.loc n) h1) (el : locAt h1 n = some xs) (Inv : Ss → Hs → Prop) (hinv : ∀ s h, Inv s h → locAt h n = some xs) (h0 : Inv s h1)
    (hstep : ∀ d ∈ xs, ∀ s s' h, Inv s h → g d s h = some s' → ∀ s2 h2, b s' h = .nx s2 h2 ∨ b s' h = .ct s2 h2 → Inv s2 h2) : sFor (iRow f) g b s h = loopS g b xs s h1 := by
  have ei : iRow f s h = .ok (.loc n) h1 := by
    unfold iRow
    rw [e]
    exact if_pos (locAt_lt el)
  rw [sFor_loc ei el, loopL_eq (fun _ => Inv) (fun _ => hinv) (fun i d s s' h hi hx hg s2 h2 => hstep d (List.mem_of_getElem? hx) s s' h hi hg s2 h2) _ 0 s h1 (by omega) h0]
  rfl
/-- the days of a live ring changed one behind another -/
theorem spoil_live {f : FE} {g : Tg} {k : FS} {s : Ss} {h : Hs} {b : Nat} {r : List (List Int)} (L : LiveAt h b r) (hf : f s h = .ok (.loc (b + r.length)) h)
    (hk : ∀ (j : Nat) (hj : j < r.length) (h : Hs), locAt h (b + j) = some ((r[j]).map D.int) → ∃ s1 ys, g (.loc (b + j)) s h = some s1 ∧ k s1 h = .nx s (h.set (b + j) (.lst ys))) :
    ∃ h', h'.length = h.length ∧ (∀ n, n < b ∨ b + r.length ≤ n → h'[n]? = h[n]?) ∧ sFor (iRow f) g k s h = .nx s h' := by
  have ei : iRow f s h = .ok (.loc (b + r.length)) h := by
    unfold iRow
    rw [hf]
    exact if_pos (locAt_lt L.all)
  have main : ∀ (m i : Nat) (h : Hs), i + m = r.length → locAt h (b + r.length) = some ((List.range r.length).map fun i => .loc (b + i)) → (∀ j (hj : j < r.length), i ≤ j → locAt h (b + j) = some ((r[j]).map D.int)) →
      ∃ h', h'.length = h.length ∧ (∀ n, n < b ∨ b + r.length ≤ n → h'[n]? = h[n]?) ∧ loopL g k (b + r.length) (m + 1) i s h = .nx s h' := by
    intro m
    induction m with
    | zero =>
      intro i h hi ha _
      refine ⟨h, rfl, fun _ _ => rfl, ?_⟩
      unfold loopL
      rw [ha]
      dsimp only
      rw [List.getElem?_eq_none (by simp; omega)]
    | succ m ih =>
      intro i h hi ha hd
      have hil : i < r.length := by omega
      obtain ⟨s1, ys, k1, k2⟩ := hk i hil h (hd i hil (Nat.le_refl _))
      obtain ⟨h', a1, a2, a3⟩ := ih (i + 1) (h.set (b + i) (.lst ys)) (by omega) (by rw [locAt_set_ne (by omega)]; exact ha) (fun j hj hij => by rw [locAt_set_ne (by omega)]; exact hd j hj (by omega))
      refine ⟨h', by simpa using a1, fun n hn => ?_, ?_⟩
      · rw [a2 n hn, List.getElem?_set_ne (by omega)]
      · unfold loopL
        rw [ha]
        dsimp only
        have e : ((List.range r.length).map fun i => D.loc (b + i))[i]? = some (.loc (b + i)) := by simp [hil]
        rw [e]
        dsimp only
        rw [k1]
        dsimp only
        rw [k2]
        exact a3
  obtain ⟨h', a1, a2, a3⟩ := main r.length 0 h (by omega) L.all (fun j hj _ => L.day j hj)
  refine ⟨h', a1, a2, ?_⟩
  rw [sFor_loc ei L.all]
  simpa using a3
theorem seq_as {a b c : FS} {s : Ss} {h : Hs} : sSeq a (sSeq b c) s h = sSeq (sSeq a b) c s h := by
  unfold sSeq
  cases a s h <;> rfl
theorem seq_nx2 {a b c : FS} {s s' : Ss} {h h' : Hs} (e : sSeq a b s h = .nx s' h') : sSeq a (sSeq b c) s h = c s' h' := by
  rw [seq_as]; exact seq_nx e
theorem seq_nx3 {a b c d : FS} {s s' : Ss} {h h' : Hs} (e : sSeq a (sSeq b c) s h = .nx s' h') : sSeq a (sSeq b (sSeq c d)) s h = d s' h' := by
  have : sSeq a (sSeq b (sSeq c d)) s h = sSeq (sSeq a (sSeq b c)) d s h := by
    unfold sSeq
    cases a s h with
    | nx s1 h1 => dsimp only; cases b s1 h1 <;> rfl
    | _ => rfl
  rw [this]; exact seq_nx e
mutual
def qL : Q → PyData
  | .non => .none
  | .bl b => .bool b
  | .int i => .int i
  | .str x => .str x
  | .row xs => .list (qLL xs)
  | .dic => .none
def qLL : List Q → List PyData
  | [] => []
  | x :: xs => qL x :: qLL xs
end
mutual
theorem eqv_qL : ∀ q : Q, PyData.eqv (qL q) (qL q) = true
  | .non => by simp [qL, PyData.eqv]
  | .bl b => by simp [qL, PyData.eqv]
  | .int i => by simp [qL, PyData.eqv]
  | .str x => by simp [qL, PyData.eqv]
  | .dic => by simp [qL, PyData.eqv]
  | .row xs => by rw [qL, PyData.eqv]; exact eqv_qLL xs
theorem eqv_qLL : ∀ qs : List Q, PyData.eqvAll (qLL qs) (qLL qs) = true
  | [] => by simp [qLL, PyData.eqvAll]
  | x :: xs => by rw [qLL, PyData.eqvAll, eqv_qL x, eqv_qLL xs]; rfl
end
theorem toP_row {h : Hs} {n : Nat} {d : D} {xs : List D} {ps : List PyData} (hd : lstOf h d = some xs) (e : xs.mapM (toP h n) = some ps) : toP h (n + 1) d = some (.list ps) := toP_lst hd e
theorem toP_mono {h : Hs} : ∀ (n m : Nat) (d : D) (p : PyData), n ≤ m → toP h n d = some p → toP h m d = some p := by
  intro n
  induction n with
  | zero =>
    intro m d p _ e
    cases d with
    | non => rw [toP_non] at e ⊢; exact e
    | bl b => rw [toP_bl] at e ⊢; exact e
    | int i => rw [toP_int] at e ⊢; exact e
    | str x => cases m <;> exact e
    | _ => cases e
  | succ n ih =>
    intro m d p hm e
    obtain ⟨m, rfl⟩ : ∃ k, m = k + 1 := ⟨m - 1, by omega⟩
    have lists : ∀ d, lstOf h d ≠ none → (match lstOf h d with | some xs => (xs.mapM (toP h n)).map PyData.list | none => none) = some p → toP h (m + 1) d = some p := fun d hd e => by
      cases hl : lstOf h d with
      | none => exact absurd hl hd
      | some xs =>
        rw [hl] at e
        dsimp only at e
        cases q : xs.mapM (toP h n) with
        | none => rw [q] at e; cases e
        | some ps =>
          rw [q] at e; cases e
          exact toP_lst hl (mapM_imp (fun x y hx => ih m x y (by omega) hx) q)
    have nn : ∀ d, (match lstOf h d with | some xs => (xs.mapM (toP h n)).map PyData.list | none => none) = some p → lstOf h d ≠ none := fun d e hn => by rw [hn] at e; cases e
    cases d with
    | non => exact e
    | bl b => exact e
    | int i => exact e
    | str x => exact e
    | tup xs =>
      simp only [toP] at e
      cases q : xs.mapM (toP h n) with
      | none => rw [q] at e; cases e
      | some ps =>
        rw [q] at e; cases e
        exact toP_tup (mapM_imp (fun x y hx => ih m x y (by omega) hx) q)
    | lst xs => exact lists _ (nn _ e) e
    | scr xs => exact lists _ (nn _ e) e
    | dic ks xs => exact lists _ (nn _ e) e
    | loc k => exact lists _ (nn _ e) e
/-- a copy as lists: it hangs on the places from b on alone -/
def LCopy (b : Nat) (H : Hs) (n : Nat) (d : D) (q : Q) : Prop := ∀ h' : Hs, (∀ k, b ≤ k → k < H.length → h'[k]? = H[k]?) → toP h' n d = some (qL q) ∧ vq h' n d = some q
theorem LCopy.app {b : Nat} {h t : Hs} {n : Nat} {d : D} {q : Q} (x : LCopy b h n d q) : LCopy b (h ++ t) n d q := fun h' e => x h' fun k h1 h2 => by
  rw [e k h1 (by rw [List.length_append]; omega), List.getElem?_append_left h2]
theorem LCopy.head {b : Nat} {o o' : O} {h : Hs} {n : Nat} {d : D} {q : Q} (x : LCopy b (o :: h) n d q) (hb : 1 ≤ b) : LCopy b (o' :: h) n d q := fun h' e => x h' fun k h1 h2 => by
  rw [e k h1 h2]
  obtain ⟨k, rfl⟩ : ∃ j, k = j + 1 := ⟨k - 1, by omega⟩
  rfl
theorem LCopy.from {b b' : Nat} {h : Hs} {n : Nat} {d : D} {q : Q} (x : LCopy b h n d q) (hb : b' ≤ b) : LCopy b' h n d q := fun h' e => x h' fun k h1 h2 => e k (by omega) h2
theorem LCopy.vqs {b : Nat} {h : Hs} {n m : Nat} {d : D} {q : Q} (x : LCopy b h n d q) (hm : n ≤ m) : vq h m d = some q :=
  vq_le (fun _ _ e => e) n m d q hm (x h fun _ _ _ => rfl).2
theorem LCopy.eqs {b c : Nat} {h : Hs} {n m : Nat} {d e : D} {q : Q} (x : LCopy b h n d q) (y : LCopy c h m e q) (hn : n ≤ 64) (hm : m ≤ 64) {v : Bool} : eqD v d e h = .ok (.bl (!v)) h := by
  have h1 := toP_mono n 64 d _ hn (x h fun _ _ _ => rfl).1
  have h2 := toP_mono m 64 e _ hm (y h fun _ _ _ => rfl).1
  unfold eqD
  rw [h1, h2]
  simp only [eqv_qL]
  cases v <;> rfl
theorem x_tupL {h : Hs} {n : Nat} {xs : List D} (e : locAt h n = some xs) : tupleD [.loc n] h = .ok (.tup xs) h := x_tuple (d := .loc n) e
@[simp] theorem list_iT {m : Bool} {ns : List Int} {h : Hs} : listD m [iT ns] h = newL m (ns.map D.int) h := (rfl)
@[simp] theorem list_dT {m : Bool} {ns : List (List Int)} {h : Hs} : listD m [dT ns] h = newL m (ns.map iT) h := (rfl)
theorem vq_tup2 {h : Hs} {n : Nat} {x y : D} {a b : Q} (hx : vq h n x = some a) (hy : vq h n y = some b) : vq h (n + 1) (.tup [x, y]) = some (.row [a, b]) := by
  rw [vq_row (xs := [x, y]) rfl, List.mapM_cons, hx, List.mapM_cons, hy]; rfl
@[simp] theorem vq_iL {h : Hs} {n : Nat} {d : List Int} : vq h (n + 1) (iL d) = some (dayQ d) := by
  have := vq_iT (h := h) (n := n) (d := d)
  rw [vq_row row_iT] at this
  rw [vq_row row_iL]; exact this
theorem sWhile_true {t : FT} {b : FS} {s s' : Ss} {h h1 h' : Hs} (ht : t s h = .ok true h1) (hb : b s h1 = .nx s' h') : sWhile t b s h = sWhile t b s' h' := by
  have step : ∀ n, whileF t b (n + 1) s h = whileF t b n s' h' := fun n => by
    conv => lhs; unfold whileF
    rw [ht]
    dsimp only
    rw [if_pos rfl, hb]
    rfl
  by_cases e : sWhile t b s' h' = .bad
  · have all : ∀ n, whileF t b n s h = .bad := fun n => by
      cases n with
      | zero => rfl
      | succ n =>
        rw [step]
        by_cases q : whileF t b n s' h' = .bad
        · exact q
        · have := sWhile_eq (n := n) rfl q
          rw [e] at this
          exact absurd this.symm q
    rw [e]
    unfold sWhile
    rw [dif_neg]
    rintro ⟨n, hn⟩
    exact hn (all n)
  · rcases sWhile_run (t := t) (b := b) (s := s') (h := h') with q | ⟨n, q⟩
    · exact absurd q e
    · exact sWhile_eq (n := n + 1) ((step n).trans q) e
theorem sWhile_rt {t : FT} {b : FS} {s : Ss} {h h1 h' : Hs} {d : D} (ht : t s h = .ok true h1) (hb : b s h1 = .rt d h') : sWhile t b s h = .rt d h' := by
  refine sWhile_eq (n := 1) ?_ (by simp)
  unfold whileF
  rw [ht]
  dsimp only
  rw [if_pos rfl, hb]
  rfl
theorem sWhile_false {t : FT} {b : FS} {s : Ss} {h h1 : Hs} (ht : t s h = .ok false h1) : sWhile t b s h = .nx s h1 := by
  refine sWhile_eq (n := 1) ?_ (by simp)
  unfold whileF
  rw [ht]
  rfl
theorem ext_last {g : Hs} {xs ys : List D} {d : D} (e : lstX (g ++ [.lst xs]) d = some ys) (hz : xs.length + ys.length ≤ 16777216) : extendD (.loc g.length) [d] (g ++ [.lst xs]) = .ok .non (g ++ [.lst (xs ++ ys)]) := by
  have hz' : xs.length + ys.length ≤ sizeLine := hz
  have e1 : locAt (g ++ [.lst xs]) g.length = some xs := locAt_end
  simp only [extendD, e1, e, if_pos hz', set_end]
theorem while_to {t : FT} {b : FS} (st : Nat → Ss) (hp : Nat → Hs) : ∀ n : Nat, (∀ k, k < n → t (st k) (hp k) = .ok true (hp k) ∧ b (st k) (hp k) = .nx (st (k + 1)) (hp (k + 1))) → sWhile t b (st 0) (hp 0) = sWhile t b (st n) (hp n)
  | 0, _ => rfl
  | n + 1, h => by
    rw [while_to st hp n fun k hk => h k (by omega)]
    obtain ⟨h1, h2⟩ := h n (by omega)
    exact sWhile_true h1 h2
theorem maxL_gt {ns : List Int} {c : Int} (h : ns ≠ []) : c < maxL ns ↔ ∃ x ∈ ns, c < x :=
  ⟨fun hc => ⟨_, maxL_mem h, hc⟩, fun ⟨x, hx, hc⟩ => Int.lt_of_lt_of_le hc (maxL_le x hx)⟩
end WD
namespace WD
open PySem PySem.Spec PyProof.Rows L2
@[simp] noncomputable def t_is_whole_0 : FS := (sRet (eAndF (eIsi ["int"] (eVar 0)) (eAndF (eNotF (eIsi ["bool"] (eVar 0))) (eChain leD leD (eVar 1) (eVar 0) (eVar 2)))))
noncomputable def b_is_whole : FS :=
  t_is_whole_0
noncomputable def F_is_whole : List D → Hs → R D := runF 3 3 .trunc b_is_whole
@[simp] noncomputable def t_is_row_0 : FS := (sRet (eIsi ["list", "tuple"] (eVar 0)))
noncomputable def b_is_row : FS :=
  t_is_row_0
noncomputable def F_is_row : List D → Hs → R D := runF 1 1 .trunc b_is_row
@[simp] noncomputable def t_is_rising_0a_0 : FS := (sRet (eC (.bl false)))
@[simp] noncomputable def t_is_rising_0 : FS := (sIf (tNotF (tV (eCall 1 F_is_row (aCons (eVar 0) aNil)))) t_is_rising_0a_0 sNext)
@[simp] noncomputable def t_is_rising_1 : FS := (sSet 3 (eBin subD (eVar 1) (eC (.int 1))))
@[simp] noncomputable def t_is_rising_2_0a_0 : FS := (sRet (eC (.bl false)))
@[simp] noncomputable def t_is_rising_2_0 : FS := (sIf (tNotF (tV (eCall 3 F_is_whole (aCons (eVar 4) (aCons (eBin addD (eVar 3) (eC (.int 1))) (aCons (eVar 2) aNil)))))) t_is_rising_2_0a_0 sNext)
@[simp] noncomputable def t_is_rising_2_1 : FS := (sSet 3 (eVar 4))
noncomputable def k_is_rising_2 : FS := (sFa [4] (sSeq t_is_rising_2_0 t_is_rising_2_1))
@[simp] theorem k_is_rising_2_ap (s : Ss) (h : Hs) : k_is_rising_2 s h = (sFa [4] (sSeq t_is_rising_2_0 t_is_rising_2_1)) s h := (rfl)
@[simp] noncomputable def t_is_rising_2 : FS := (sFa [3, 4] (sFb [4] (sFor (iRow (eVar 0)) (gVar 4) k_is_rising_2)))
@[simp] noncomputable def t_is_rising_3 : FS := (sRet (eC (.bl true)))
noncomputable def b_is_rising : FS :=
  (sSeq t_is_rising_0 (sSeq t_is_rising_1 (sSeq t_is_rising_2 t_is_rising_3)))
noncomputable def F_is_rising : List D → Hs → R D := runF 3 5 .trunc b_is_rising
noncomputable def b_told_rows (self : List D → Hs → R D) : FS :=
  (sSeq (sIf (tV (eCall 1 F_is_row (aCons (eVar 0) aNil))) (sRet (eB tupleD (aCons (eComp false [1] (iRow (eVar 0)) (gVar 1) tYesF (eCall 1 self (aCons (eVar 1) aNil))) aNil))) sNext) (sRet (eVar 0)))
noncomputable def F_told_rows : Nat → List D → Hs → R D
  | 0 => fun _ _ => .bad
  | n + 1 => runF 1 2 .trunc (b_told_rows (F_told_rows n))
@[simp] noncomputable def t_is_day_0 : FS := (sRet (eAndF (eCall 3 F_is_rising (aCons (eVar 1) (aCons (eC (.int 0)) (aCons (eBin subD (eVar 0) (eC (.int 1))) aNil)))) (eBin leD (eB lenD (aCons (eVar 1) aNil)) (eC (.int 2)))))
noncomputable def b_is_day : FS :=
  t_is_day_0
noncomputable def F_is_day : List D → Hs → R D := runF 2 2 .trunc b_is_day
@[simp] noncomputable def t_are_days_0a_0 : FS := (sRet (eC (.bl false)))
@[simp] noncomputable def t_are_days_0 : FS := (sIf (tOrF (tNotF (tV (eCall 1 F_is_row (aCons (eVar 1) aNil)))) (tV (eBin gtD (eB lenD (aCons (eVar 1) aNil)) (eC (.int 4000))))) t_are_days_0a_0 sNext)
@[simp] noncomputable def t_are_days_1 : FS := (sRet (eBin (eqD false) (eComp false [2] (iRow (eVar 1)) (gVar 2) (tNotF (tV (eCall 2 F_is_day (aCons (eVar 0) (aCons (eVar 2) aNil))))) (eVar 2)) (eLst false aNil)))
noncomputable def b_are_days : FS :=
  (sSeq t_are_days_0 t_are_days_1)
noncomputable def F_are_days : List D → Hs → R D := runF 2 3 .trunc b_are_days
@[simp] noncomputable def t_is_ring_0 : FS := (sRet (eAndF (eCall 2 F_are_days (aCons (eVar 0) (aCons (eVar 1) aNil))) (eBin gtD (eB lenD (aCons (eVar 1) aNil)) (eC (.int 0)))))
noncomputable def b_is_ring : FS :=
  t_is_ring_0
noncomputable def F_is_ring : List D → Hs → R D := runF 2 2 .trunc b_is_ring
@[simp] noncomputable def t_asked_ring_0a_0 : FS := (sRaise "NoRing")
@[simp] noncomputable def t_asked_ring_0 : FS := (sIf (tNotF (tV (eCall 2 F_is_ring (aCons (eVar 0) (aCons (eVar 1) aNil))))) t_asked_ring_0a_0 sNext)
@[simp] noncomputable def t_asked_ring_1 : FS := (sRet (eCall 1 (F_told_rows 45) (aCons (eVar 1) aNil)))
noncomputable def b_asked_ring : FS :=
  (sSeq t_asked_ring_0 t_asked_ring_1)
noncomputable def F_asked_ring : List D → Hs → R D := runF 2 2 .trunc b_asked_ring
@[simp] noncomputable def t_is_numbers_0a_0 : FS := (sRet (eC (.bl false)))
@[simp] noncomputable def t_is_numbers_0 : FS := (sIf (tOrF (tNotF (tV (eCall 1 F_is_row (aCons (eVar 0) aNil)))) (tV (eBin gtD (eB lenD (aCons (eVar 0) aNil)) (eC (.int 8))))) t_is_numbers_0a_0 sNext)
@[simp] noncomputable def t_is_numbers_1 : FS := (sRet (eBin (eqD false) (eComp false [1] (iRow (eVar 0)) (gVar 1) (tNotF (tV (eCall 3 F_is_whole (aCons (eVar 1) (aCons (eC (.int 1)) (aCons (eC (.int 40)) aNil)))))) (eVar 1)) (eLst false aNil)))
noncomputable def b_is_numbers : FS :=
  (sSeq t_is_numbers_0 t_is_numbers_1)
noncomputable def F_is_numbers : List D → Hs → R D := runF 1 2 .trunc b_is_numbers
@[simp] noncomputable def t_asked_numbers_0a_0 : FS := (sRaise "NoNumbers")
@[simp] noncomputable def t_asked_numbers_0 : FS := (sIf (tNotF (tV (eCall 1 F_is_numbers (aCons (eVar 0) aNil)))) t_asked_numbers_0a_0 sNext)
@[simp] noncomputable def t_asked_numbers_1 : FS := (sRet (eB tupleD (aCons (eVar 0) aNil)))
noncomputable def b_asked_numbers : FS :=
  (sSeq t_asked_numbers_0 t_asked_numbers_1)
noncomputable def F_asked_numbers : List D → Hs → R D := runF 1 1 .trunc b_asked_numbers
@[simp] noncomputable def t_divisor_0_0 : FS := (sPar 0 1 (aCons (eVar 1) (aCons (eBin modD (eVar 0) (eVar 1)) aNil)))
noncomputable def k_divisor_0 : FS := t_divisor_0_0
@[simp] theorem k_divisor_0_ap (s : Ss) (h : Hs) : k_divisor_0 s h = t_divisor_0_0 s h := (rfl)
@[simp] noncomputable def t_divisor_0 : FS := (sFa [1] (sWhile (tV (eBin gtD (eVar 1) (eC (.int 0)))) k_divisor_0))
@[simp] noncomputable def t_divisor_1 : FS := (sRet (eVar 0))
noncomputable def b_divisor : FS :=
  (sSeq t_divisor_0 t_divisor_1)
noncomputable def F_divisor : List D → Hs → R D := runF 2 2 .trunc b_divisor
@[simp] noncomputable def t_common_of_0 : FS := (sSet 1 (eC (.int 1)))
@[simp] noncomputable def t_common_of_1_0 : FS := (sSet 1 (eBin mulD (eBin fdivD (eVar 1) (eCall 2 F_divisor (aCons (eVar 1) (aCons (eVar 2) aNil)))) (eVar 2)))
noncomputable def k_common_of_1 : FS := (sFa [2] t_common_of_1_0)
@[simp] theorem k_common_of_1_ap (s : Ss) (h : Hs) : k_common_of_1 s h = (sFa [2] t_common_of_1_0) s h := (rfl)
@[simp] noncomputable def t_common_of_1 : FS := (sFb [2] (sFor (iRow (eVar 0)) (gVar 2) k_common_of_1))
@[simp] noncomputable def t_common_of_2 : FS := (sRet (eVar 1))
noncomputable def b_common_of : FS :=
  (sSeq t_common_of_0 (sSeq t_common_of_1 t_common_of_2))
noncomputable def F_common_of : List D → Hs → R D := runF 1 3 .trunc b_common_of
@[simp] noncomputable def t_gaps_of_0 : FS := (sSet 2 (eComp false [3, 4] (iEnumerate (aCons (eVar 0) aNil)) (gUn [(gVar 3), (gVar 4)]) (tV (eBin (inD false) (eVar 1) (eVar 4))) (eVar 3)))
@[simp] noncomputable def t_gaps_of_1 : FS := (sSet 5 (eLst true aNil))
@[simp] noncomputable def t_gaps_of_2_0 : FS := (sExpr (eML appendD (eVar 5) (aCons (eBin addD (eBin modD (eBin subD (eBin subD (eVar 7) (eVar 6)) (eC (.int 1))) (eB lenD (aCons (eVar 0) aNil))) (eC (.int 1))) aNil)))
noncomputable def k_gaps_of_2 : FS := (sFa [6, 7] t_gaps_of_2_0)
@[simp] theorem k_gaps_of_2_ap (s : Ss) (h : Hs) : k_gaps_of_2 s h = (sFa [6, 7] t_gaps_of_2_0) s h := (rfl)
@[simp] noncomputable def t_gaps_of_2 : FS := (sFb [6, 7] (sFor (iZip (aCons (eVar 2) (aCons (eBin addD (eSl false (eVar 2) (oSome (eC (.int 1))) oNone) (eSl false (eVar 2) oNone (oSome (eC (.int 1))))) aNil))) (gUn [(gVar 6), (gVar 7)]) k_gaps_of_2))
@[simp] noncomputable def t_gaps_of_3 : FS := (sRet (eVar 5))
noncomputable def b_gaps_of : FS :=
  (sSeq t_gaps_of_0 (sSeq t_gaps_of_1 (sSeq t_gaps_of_2 t_gaps_of_3)))
noncomputable def F_gaps_of : List D → Hs → R D := runF 2 8 .trunc b_gaps_of
@[simp] noncomputable def t_is_kept_0 : FS := (sSet 3 (eCall 2 F_gaps_of (aCons (eVar 0) (aCons (eVar 1) aNil))))
@[simp] noncomputable def t_is_kept_1 : FS := (sRet (eAndF (eBin (eqD true) (eVar 3) (eLst false aNil)) (eBin leD (eB maxD (aCons (eVar 3) aNil)) (eVar 2))))
noncomputable def b_is_kept : FS :=
  (sSeq t_is_kept_0 t_is_kept_1)
noncomputable def F_is_kept : List D → Hs → R D := runF 3 4 .trunc b_is_kept
@[simp] noncomputable def t_lacks_0_0a_0 : FS := (sRet (eC (.bl false)))
@[simp] noncomputable def t_lacks_0_0 : FS := (sIf (tV (eBin (inD false) (eVar 1) (eBin ixD (eVar 0) (eBin modD (eBin addD (eVar 2) (eVar 4)) (eB lenD (aCons (eVar 0) aNil)))))) t_lacks_0_0a_0 sNext)
noncomputable def k_lacks_0 : FS := (sFa [4] t_lacks_0_0)
@[simp] theorem k_lacks_0_ap (s : Ss) (h : Hs) : k_lacks_0 s h = (sFa [4] t_lacks_0_0) s h := (rfl)
@[simp] noncomputable def t_lacks_0 : FS := (sFb [4] (sFor (iRng1 (aCons (eVar 3) aNil)) (gVar 4) k_lacks_0))
@[simp] noncomputable def t_lacks_1 : FS := (sRet (eC (.bl true)))
noncomputable def b_lacks : FS :=
  (sSeq t_lacks_0 t_lacks_1)
noncomputable def F_lacks : List D → Hs → R D := runF 4 5 .trunc b_lacks
@[simp] noncomputable def t_gaps_0 : FS := (sRet (eB tupleD (aCons (eCall 2 F_gaps_of (aCons (eCall 2 F_asked_ring (aCons (eC (.int 8)) (aCons (eVar 0) aNil))) (aCons (eVar 1) aNil))) aNil)))
noncomputable def b_gaps : FS :=
  t_gaps_0
noncomputable def F_gaps : List D → Hs → R D := runF 2 2 .trunc b_gaps
@[simp] noncomputable def t_widest_0 : FS := (sRet (eB maxD (aCons (eBin addD (eLst false (aCons (eC (.int 0)) aNil)) (eCall 2 F_gaps_of (aCons (eCall 2 F_asked_ring (aCons (eC (.int 8)) (aCons (eVar 0) aNil))) (aCons (eVar 1) aNil)))) aNil)))
noncomputable def b_widest : FS :=
  t_widest_0
noncomputable def F_widest : List D → Hs → R D := runF 2 2 .trunc b_widest
@[simp] noncomputable def t_keeps_0 : FS := (sSet 0 (eCall 1 F_asked_numbers (aCons (eVar 0) aNil)))
@[simp] noncomputable def t_keeps_1 : FS := (sSet 1 (eCall 2 F_asked_ring (aCons (eB lenD (aCons (eVar 0) aNil)) (aCons (eVar 1) aNil))))
@[simp] noncomputable def t_keeps_2 : FS := (sRet (eBin (eqD false) (eComp false [2, 3] (iEnumerate (aCons (eVar 0) aNil)) (gUn [(gVar 2), (gVar 3)]) (tNotF (tV (eCall 3 F_is_kept (aCons (eVar 1) (aCons (eVar 2) (aCons (eVar 3) aNil)))))) (eVar 2)) (eLst false aNil)))
noncomputable def b_keeps : FS :=
  (sSeq t_keeps_0 (sSeq t_keeps_1 t_keeps_2))
noncomputable def F_keeps : List D → Hs → R D := runF 2 4 .trunc b_keeps
@[simp] noncomputable def t_first_lack_0 : FS := (sSet 0 (eCall 1 F_asked_numbers (aCons (eVar 0) aNil)))
@[simp] noncomputable def t_first_lack_1 : FS := (sSet 1 (eCall 2 F_asked_ring (aCons (eB lenD (aCons (eVar 0) aNil)) (aCons (eVar 1) aNil))))
@[simp] noncomputable def t_first_lack_2_0a_0 : FS := (sSet 4 (eC (.int 0)))
@[simp] noncomputable def t_first_lack_2_0a_1_0 : FS := (sAug 4 ipAddD (eC (.int 1)))
noncomputable def k_first_lack_2_0a_1 : FS := t_first_lack_2_0a_1_0
@[simp] theorem k_first_lack_2_0a_1_ap (s : Ss) (h : Hs) : k_first_lack_2_0a_1 s h = t_first_lack_2_0a_1_0 s h := (rfl)
@[simp] noncomputable def t_first_lack_2_0a_1 : FS := (sWhile (tNotF (tV (eCall 4 F_lacks (aCons (eVar 1) (aCons (eVar 2) (aCons (eVar 4) (aCons (eVar 3) aNil))))))) k_first_lack_2_0a_1)
@[simp] noncomputable def t_first_lack_2_0a_2 : FS := (sRet (eTup (aCons (eVar 2) (aCons (eVar 4) aNil))))
@[simp] noncomputable def t_first_lack_2_0 : FS := (sIf (tNotF (tV (eCall 3 F_is_kept (aCons (eVar 1) (aCons (eVar 2) (aCons (eVar 3) aNil)))))) (sSeq t_first_lack_2_0a_0 (sSeq t_first_lack_2_0a_1 t_first_lack_2_0a_2)) sNext)
noncomputable def k_first_lack_2 : FS := (sFa [2, 3, 4] t_first_lack_2_0)
@[simp] theorem k_first_lack_2_ap (s : Ss) (h : Hs) : k_first_lack_2 s h = (sFa [2, 3, 4] t_first_lack_2_0) s h := (rfl)
@[simp] noncomputable def t_first_lack_2 : FS := (sFb [2, 3, 4] (sFor (iEnumerate (aCons (eVar 0) aNil)) (gUn [(gVar 2), (gVar 3)]) k_first_lack_2))
@[simp] noncomputable def t_first_lack_3 : FS := (sRet (eC .non))
noncomputable def b_first_lack : FS :=
  (sSeq t_first_lack_0 (sSeq t_first_lack_1 (sSeq t_first_lack_2 t_first_lack_3)))
noncomputable def F_first_lack : List D → Hs → R D := runF 2 5 .trunc b_first_lack
@[simp] noncomputable def t_turned_0 : FS := (sSet 0 (eCall 2 F_asked_ring (aCons (eC (.int 8)) (aCons (eVar 0) aNil))))
@[simp] noncomputable def t_turned_1 : FS := (sSet 2 (eBin modD (eVar 1) (eB lenD (aCons (eVar 0) aNil))))
@[simp] noncomputable def t_turned_2 : FS := (sRet (eBin addD (eSl false (eVar 0) (oSome (eVar 2)) oNone) (eSl false (eVar 0) oNone (oSome (eVar 2)))))
noncomputable def b_turned : FS :=
  (sSeq t_turned_0 (sSeq t_turned_1 t_turned_2))
noncomputable def F_turned : List D → Hs → R D := runF 2 3 .trunc b_turned
@[simp] noncomputable def t_short_0 : FS := (sSet 0 (eCall 2 F_asked_ring (aCons (eC (.int 8)) (aCons (eVar 0) aNil))))
@[simp] noncomputable def t_short_1 : FS := (sSet 1 (eC (.int 1)))
@[simp] noncomputable def t_short_2_0 : FS := (sAug 1 ipAddD (eC (.int 1)))
noncomputable def k_short_2 : FS := t_short_2_0
@[simp] theorem k_short_2_ap (s : Ss) (h : Hs) : k_short_2 s h = t_short_2_0 s h := (rfl)
@[simp] noncomputable def t_short_2 : FS := (sWhile (tOrF (tV (eBin gtD (eBin modD (eB lenD (aCons (eVar 0) aNil)) (eVar 1)) (eC (.int 0)))) (tV (eBin (eqD true) (eBin mulD (eSl false (eVar 0) oNone (oSome (eVar 1))) (eBin fdivD (eB lenD (aCons (eVar 0) aNil)) (eVar 1))) (eVar 0)))) k_short_2)
@[simp] noncomputable def t_short_3 : FS := (sRet (eSl false (eVar 0) oNone (oSome (eVar 1))))
noncomputable def b_short : FS :=
  (sSeq t_short_0 (sSeq t_short_1 (sSeq t_short_2 t_short_3)))
noncomputable def F_short : List D → Hs → R D := runF 1 2 .trunc b_short
@[simp] noncomputable def t_slowed_0 : FS := (sSet 0 (eCall 2 F_asked_ring (aCons (eC (.int 8)) (aCons (eVar 0) aNil))))
@[simp] noncomputable def t_slowed_1a_0 : FS := (sRaise "NoRing")
@[simp] noncomputable def t_slowed_1 : FS := (sIf (tV (eBin gtD (eBin mulD (eB lenD (aCons (eVar 0) aNil)) (eVar 1)) (eC (.int 4000)))) t_slowed_1a_0 sNext)
@[simp] noncomputable def t_slowed_2 : FS := (sSet 2 (eLst true aNil))
@[simp] noncomputable def t_slowed_3_0 : FS := (sExpr (eML appendD (eVar 2) (aCons (eVar 3) aNil)))
@[simp] noncomputable def t_slowed_3_1 : FS := (sExpr (eML extendD (eVar 2) (aCons (eBin mulD (eLst false (aCons (eTup aNil) aNil)) (eBin subD (eVar 1) (eC (.int 1)))) aNil)))
noncomputable def k_slowed_3 : FS := (sFa [3] (sSeq t_slowed_3_0 t_slowed_3_1))
@[simp] theorem k_slowed_3_ap (s : Ss) (h : Hs) : k_slowed_3 s h = (sFa [3] (sSeq t_slowed_3_0 t_slowed_3_1)) s h := (rfl)
@[simp] noncomputable def t_slowed_3 : FS := (sFb [3] (sFor (iRow (eVar 0)) (gVar 3) k_slowed_3))
@[simp] noncomputable def t_slowed_4 : FS := (sRet (eB tupleD (aCons (eVar 2) aNil)))
noncomputable def b_slowed : FS :=
  (sSeq t_slowed_0 (sSeq t_slowed_1 (sSeq t_slowed_2 (sSeq t_slowed_3 t_slowed_4))))
noncomputable def F_slowed : List D → Hs → R D := runF 2 4 .trunc b_slowed
@[simp] noncomputable def t_renumbered_0 : FS := (sRet (eComp false [3] (iRow (eVar 0)) (gVar 3) tYesF (eB tupleD (aCons (eComp false [2] (iRow (eVar 3)) (gVar 2) tYesF (eBin addD (eVar 2) (eVar 1))) aNil))))
noncomputable def b_renumbered : FS :=
  t_renumbered_0
noncomputable def F_renumbered : List D → Hs → R D := runF 2 4 .trunc b_renumbered
@[simp] noncomputable def t_paired_0 : FS := (sSet 0 (eCall 2 F_asked_ring (aCons (eC (.int 8)) (aCons (eVar 0) aNil))))
@[simp] noncomputable def t_paired_1 : FS := (sSet 1 (eCall 2 F_renumbered (aCons (eCall 2 F_asked_ring (aCons (eC (.int 8)) (aCons (eVar 1) aNil))) (aCons (eVar 2) aNil))))
@[simp] noncomputable def t_paired_2a_0 : FS := (sRaise "NoRing")
@[simp] noncomputable def t_paired_2 : FS := (sIf (tV (eBin (eqD true) (eComp false [3] (iRow (eVar 1)) (gVar 3) (tAndF (tV (eBin (eqD true) (eVar 3) (eTup aNil))) (tV (eBin geD (eBin ixD (eVar 3) (negD (eC (.int 1)))) (eC (.int 8))))) (eVar 3)) (eLst false aNil))) t_paired_2a_0 sNext)
@[simp] noncomputable def t_paired_3 : FS := (sSet 4 (eCall 1 F_common_of (aCons (eLst false (aCons (eB lenD (aCons (eVar 0) aNil)) (aCons (eB lenD (aCons (eVar 1) aNil)) aNil))) aNil)))
@[simp] noncomputable def t_paired_4a_0 : FS := (sRaise "NoRing")
@[simp] noncomputable def t_paired_4 : FS := (sIf (tV (eBin gtD (eBin mulD (eC (.int 2)) (eVar 4)) (eC (.int 4000)))) t_paired_4a_0 sNext)
@[simp] noncomputable def t_paired_5 : FS := (sSet 5 (eLst true aNil))
@[simp] noncomputable def t_paired_6_0 : FS := (sExpr (eML extendD (eVar 5) (aCons (eLst false (aCons (eBin ixD (eVar 0) (eBin modD (eVar 6) (eB lenD (aCons (eVar 0) aNil)))) (aCons (eBin ixD (eVar 1) (eBin modD (eVar 6) (eB lenD (aCons (eVar 1) aNil)))) aNil))) aNil)))
noncomputable def k_paired_6 : FS := (sFa [6] t_paired_6_0)
@[simp] theorem k_paired_6_ap (s : Ss) (h : Hs) : k_paired_6 s h = (sFa [6] t_paired_6_0) s h := (rfl)
@[simp] noncomputable def t_paired_6 : FS := (sFb [6] (sFor (iRng1 (aCons (eVar 4) aNil)) (gVar 6) k_paired_6))
@[simp] noncomputable def t_paired_7 : FS := (sRet (eB tupleD (aCons (eVar 5) aNil)))
noncomputable def b_paired : FS :=
  (sSeq t_paired_0 (sSeq t_paired_1 (sSeq t_paired_2 (sSeq t_paired_3 (sSeq t_paired_4 (sSeq t_paired_5 (sSeq t_paired_6 t_paired_7)))))))
noncomputable def F_paired : List D → Hs → R D := runF 3 7 .trunc b_paired
@[simp] noncomputable def t__law_deck_0 : FS := (sSet 2 (eB (listD true) (aCons (eVar 0) aNil)))
@[simp] noncomputable def t__law_deck_1a_0 : FS := (sSet 2 (eLst true (aCons (eC (.int 4)) aNil)))
@[simp] noncomputable def t__law_deck_1 : FS := (sIf (tV (eBin (eqD false) (eVar 2) (eLst false aNil))) t__law_deck_1a_0 sNext)
@[simp] noncomputable def t__law_deck_2 : FS := (sSet 3 (eBin modD (eBin ixD (eVar 2) (eC (.int 0))) (eC (.int 2))))
@[simp] noncomputable def t__law_deck_3 : FS := (sItem (eVar 2) (eC (.int 0)) (eBin fdivD (eBin ixD (eVar 2) (eC (.int 0))) (eC (.int 2))))
@[simp] noncomputable def t__law_deck_4 : FS := (sSet 4 (eLst true aNil))
@[simp] noncomputable def t__law_deck_5_0 : FS := (sSet 6 (eBin modD (eVar 5) (eB lenD (aCons (eVar 2) aNil))))
@[simp] noncomputable def t__law_deck_5_1 : FS := (sSet 7 (eBin modD (eBin ixD (eVar 2) (eVar 6)) (eC (.int 1000000))))
@[simp] noncomputable def t__law_deck_5_2a_0 : FS := (sSet 7 (eBin modD (eBin addD (eBin addD (eBin ixD (eVar 2) (eVar 6)) (eBin mulD (eBin mulD (eVar 5) (eVar 5)) (eC (.int 16807)))) (eBin mulD (eC (.int 3)) (eVar 5))) (eC (.int 2147483629))))
@[simp] noncomputable def t__law_deck_5_2a_1 : FS := (sSet 7 (eBin modD (eBin addD (eBin mulD (eVar 7) (eBin ixD (eLst false (aCons (eC (.int 48271)) (aCons (eC (.int 69621)) (aCons (eC (.int 39373)) (aCons (eC (.int 40692)) aNil))))) (eBin modD (eVar 5) (eC (.int 4))))) (eC (.int 7))) (eC (.int 2147483647))))
@[simp] noncomputable def t__law_deck_5_2a_2 : FS := (sSet 7 (eBin modD (eBin mulD (eVar 7) (eVar 7)) (eC (.int 2147483629))))
@[simp] noncomputable def t__law_deck_5_2b_0 : FS := (sItem (eVar 2) (eVar 6) (eBin fdivD (eBin ixD (eVar 2) (eVar 6)) (eC (.int 1000000))))
@[simp] noncomputable def t__law_deck_5_2 : FS := (sIf (tV (eBin (eqD false) (eVar 3) (eC (.int 0)))) (sSeq t__law_deck_5_2a_0 (sSeq t__law_deck_5_2a_1 t__law_deck_5_2a_2)) t__law_deck_5_2b_0)
@[simp] noncomputable def t__law_deck_5_3 : FS := (sExpr (eML appendD (eVar 4) (aCons (eVar 7) aNil)))
noncomputable def k__law_deck_5 : FS := (sFa [5, 6, 7] (sSeq t__law_deck_5_0 (sSeq t__law_deck_5_1 (sSeq t__law_deck_5_2 t__law_deck_5_3))))
@[simp] theorem k__law_deck_5_ap (s : Ss) (h : Hs) : k__law_deck_5 s h = (sFa [5, 6, 7] (sSeq t__law_deck_5_0 (sSeq t__law_deck_5_1 (sSeq t__law_deck_5_2 t__law_deck_5_3)))) s h := (rfl)
@[simp] noncomputable def t__law_deck_5 : FS := (sFb [5, 6, 7] (sFor (iRng1 (aCons (eVar 1) aNil)) (gVar 5) k__law_deck_5))
@[simp] noncomputable def t__law_deck_6 : FS := (sExpr (eML reverseD (eVar 4) aNil))
@[simp] noncomputable def t__law_deck_7 : FS := (sRet (eVar 4))
noncomputable def b__law_deck : FS :=
  (sSeq t__law_deck_0 (sSeq t__law_deck_1 (sSeq t__law_deck_2 (sSeq t__law_deck_3 (sSeq t__law_deck_4 (sSeq t__law_deck_5 (sSeq t__law_deck_6 t__law_deck_7)))))))
noncomputable def F__law_deck : List D → Hs → R D := runF 2 8 .move b__law_deck
@[simp] noncomputable def t__law_whole_0 : FS := (sRet (eAndF (eIsi ["int"] (eVar 0)) (eAndF (eNotF (eIsi ["bool"] (eVar 0))) (eChain leD leD (eVar 1) (eVar 0) (eVar 2)))))
noncomputable def b__law_whole : FS :=
  t__law_whole_0
noncomputable def F__law_whole : List D → Hs → R D := runF 3 3 .trunc b__law_whole
noncomputable def b__law_lists (self : List D → Hs → R D) : FS :=
  (sSeq (sIf (tV (eIsi ["list", "tuple"] (eVar 0))) (sRet (eComp false [1] (iRow (eVar 0)) (gVar 1) tYesF (eCall 1 self (aCons (eVar 1) aNil)))) sNext) (sRet (eVar 0)))
noncomputable def F__law_lists : Nat → List D → Hs → R D
  | 0 => fun _ _ => .bad
  | n + 1 => runF 1 2 .trunc (b__law_lists (F__law_lists n))
@[simp] noncomputable def t__law_handed_0a_0 : FS := (sRet (eVar 0))
@[simp] noncomputable def t__law_handed_0 : FS := (sIf (tV (eBin (eqD false) (eBin modD (eVar 1) (eC (.int 2))) (eC (.int 0)))) t__law_handed_0a_0 sNext)
@[simp] noncomputable def t__law_handed_1 : FS := (sRet (eCall 1 (F__law_lists 45) (aCons (eVar 0) aNil)))
noncomputable def b__law_handed : FS :=
  (sSeq t__law_handed_0 t__law_handed_1)
noncomputable def F__law_handed : List D → Hs → R D := runF 2 2 .trunc b__law_handed
@[simp] noncomputable def t__law_odd_0 : FS := (sSet 1 (eLst false (aCons (eC .non) (aCons (eC (.bl true)) (aCons (eC (.bl false)) (aCons (eC (.str "3")) (aCons (eC (.str "")) (aCons (eTup aNil) (aCons (eLst false aNil) (aCons (eC (.dic [] [])) (aCons (eTup (aCons (eC (.int 1)) aNil)) (aCons (eLst false (aCons (eLst false (aCons (eC (.int 2)) aNil)) aNil)) (aCons (negD (eC (.int 1))) (aCons (eBin powD (eC (.int 10)) (eC (.int 60))) (aCons (eBin subD (eC (.int 0)) (eBin powD (eC (.int 10)) (eC (.int 60)))) (aCons (eC (.str "abc")) (aCons (eC (.dic [.inl 1] [.int 2])) (aCons (eTup (aCons (eC .non) aNil)) aNil))))))))))))))))))
@[simp] noncomputable def t__law_odd_1 : FS := (sRet (eBin ixD (eVar 1) (eBin modD (eVar 0) (eC (.int 16)))))
noncomputable def b__law_odd : FS :=
  (sSeq t__law_odd_0 t__law_odd_1)
noncomputable def F__law_odd : List D → Hs → R D := runF 1 2 .trunc b__law_odd
@[simp] noncomputable def t__law_truth_0 : FS := (sRet (eAndF (eIsi ["bool"] (eVar 0)) (eBin (eqD false) (eVar 0) (eVar 1))))
noncomputable def b__law_truth : FS :=
  t__law_truth_0
noncomputable def F__law_truth : List D → Hs → R D := runF 2 2 .trunc b__law_truth
@[simp] noncomputable def t__law_is_day_0a_0 : FS := (sRet (eC (.bl false)))
@[simp] noncomputable def t__law_is_day_0 : FS := (sIf (tOrF (tNotF (tV (eIsi ["list", "tuple"] (eVar 1)))) (tV (eBin gtD (eB lenD (aCons (eVar 1) aNil)) (eC (.int 2))))) t__law_is_day_0a_0 sNext)
@[simp] noncomputable def t__law_is_day_1a_0 : FS := (sRet (eC (.bl false)))
@[simp] noncomputable def t__law_is_day_1 : FS := (sIf (tV (eBin (eqD true) (eComp false [2] (iRow (eVar 1)) (gVar 2) (tNotF (tV (eCall 3 F__law_whole (aCons (eVar 2) (aCons (eC (.int 0)) (aCons (eBin subD (eVar 0) (eC (.int 1))) aNil)))))) (eVar 2)) (eLst false aNil))) t__law_is_day_1a_0 sNext)
@[simp] noncomputable def t__law_is_day_2 : FS := (sRet (eOrF (eBin ltD (eB lenD (aCons (eVar 1) aNil)) (eC (.int 2))) (eBin ltD (eBin ixD (eVar 1) (eC (.int 0))) (eBin ixD (eVar 1) (eC (.int 1))))))
noncomputable def b__law_is_day : FS :=
  (sSeq t__law_is_day_0 (sSeq t__law_is_day_1 t__law_is_day_2))
noncomputable def F__law_is_day : List D → Hs → R D := runF 2 3 .trunc b__law_is_day
@[simp] noncomputable def t__law_is_ring_0a_0 : FS := (sRet (eC (.bl false)))
@[simp] noncomputable def t__law_is_ring_0 : FS := (sIf (tOrF (tNotF (tV (eIsi ["list", "tuple"] (eVar 1)))) (tNotF (tV (eChain leD leD (eC (.int 1)) (eB lenD (aCons (eVar 1) aNil)) (eC (.int 4000)))))) t__law_is_ring_0a_0 sNext)
@[simp] noncomputable def t__law_is_ring_1 : FS := (sRet (eBin (eqD false) (eComp false [2] (iRow (eVar 1)) (gVar 2) (tNotF (tV (eCall 2 F__law_is_day (aCons (eVar 0) (aCons (eVar 2) aNil))))) (eVar 2)) (eLst false aNil)))
noncomputable def b__law_is_ring : FS :=
  (sSeq t__law_is_ring_0 t__law_is_ring_1)
noncomputable def F__law_is_ring : List D → Hs → R D := runF 2 3 .trunc b__law_is_ring
@[simp] noncomputable def t__law_day_0 : FS := (sSet 2 (eML popD (eVar 0) aNil))
@[simp] noncomputable def t__law_day_1a_0 : FS := (sRet (eTup aNil))
@[simp] noncomputable def t__law_day_1 : FS := (sIf (tOrF (tV (eBin (eqD false) (eVar 1) (eC (.int 0)))) (tV (eBin (eqD false) (eBin modD (eVar 2) (eC (.int 5))) (eC (.int 0))))) t__law_day_1a_0 sNext)
@[simp] noncomputable def t__law_day_2 : FS := (sSet 3 (eBin modD (eBin fdivD (eVar 2) (eC (.int 5))) (eVar 1)))
@[simp] noncomputable def t__law_day_3 : FS := (sSet 4 (eBin modD (eBin fdivD (eVar 2) (eC (.int 64))) (eVar 1)))
@[simp] noncomputable def t__law_day_4a_0 : FS := (sRet (eTup (aCons (eVar 3) aNil)))
@[simp] noncomputable def t__law_day_4 : FS := (sIf (tOrF (tV (eBin gtD (eBin modD (eBin fdivD (eVar 2) (eC (.int 1024))) (eC (.int 3))) (eC (.int 0)))) (tV (eBin (eqD false) (eVar 3) (eVar 4)))) t__law_day_4a_0 sNext)
@[simp] noncomputable def t__law_day_5 : FS := (sRet (eTup (aCons (eB minD (aCons (eVar 3) (aCons (eVar 4) aNil))) (aCons (eB maxD (aCons (eVar 3) (aCons (eVar 4) aNil))) aNil))))
noncomputable def b__law_day : FS :=
  (sSeq t__law_day_0 (sSeq t__law_day_1 (sSeq t__law_day_2 (sSeq t__law_day_3 (sSeq t__law_day_4 t__law_day_5)))))
noncomputable def F__law_day : List D → Hs → R D := runF 2 5 .trunc b__law_day
@[simp] noncomputable def t__law_bent_0 : FS := (sSet 2 (eML popD (eVar 0) aNil))
@[simp] noncomputable def t__law_bent_1 : FS := (sSet 3 (eBin modD (eBin fdivD (eVar 2) (eC (.int 16))) (eC (.int 9))))
@[simp] noncomputable def t__law_bent_2 : FS := (sSet 4 (eLst true (aCons (eTup (aCons (eC (.int 1)) (aCons (eC (.int 0)) aNil))) (aCons (eTup (aCons (eVar 3) (aCons (eVar 3) aNil))) (aCons (eTup (aCons (eC (.int 0)) (aCons (eC (.int 1)) (aCons (eC (.int 2)) aNil)))) (aCons (eTup (aCons (eVar 1) aNil)) (aCons (eTup (aCons (negD (eC (.int 1))) aNil)) (aCons (eTup (aCons (eC (.bl true)) aNil)) (aCons (eTup (aCons (eC (.str "0")) aNil)) (aCons (eTup (aCons (eVar 3) (aCons (eVar 1) aNil))) (aCons (eTup (aCons (eC (.int 8)) (aCons (eC (.int 9)) aNil))) (aCons (eTup (aCons (eC (.int 0)) (aCons (eC (.bl true)) aNil))) (aCons (eLst false (aCons (eVar 3) (aCons (eC .non) aNil))) aNil)))))))))))))
@[simp] noncomputable def t__law_bent_3 : FS := (sExpr (eML appendD (eVar 4) (aCons (eTup (aCons (eVar 3) (aCons (negD (eC (.int 1))) aNil))) aNil)))
@[simp] noncomputable def t__law_bent_4 : FS := (sRet (eBin ixD (eBin addD (eVar 4) (eLst false (aCons (eCall 1 F__law_odd (aCons (eBin fdivD (eVar 2) (eC (.int 144))) aNil)) (aCons (eTup (aCons (eBin subD (eVar 1) (eC (.int 1))) (aCons (eVar 1) aNil))) (aCons (eLst false (aCons (eC (.int 1)) (aCons (eC (.int 0)) aNil))) (aCons (eTup (aCons (eC (.int 0)) (aCons (eC (.int 8)) aNil))) aNil)))))) (eBin modD (eVar 2) (eC (.int 16)))))
noncomputable def b__law_bent : FS :=
  (sSeq t__law_bent_0 (sSeq t__law_bent_1 (sSeq t__law_bent_2 (sSeq t__law_bent_3 t__law_bent_4))))
noncomputable def F__law_bent : List D → Hs → R D := runF 2 5 .trunc b__law_bent
@[simp] noncomputable def t__law_ring_0 : FS := (sSet 2 (eML popD (eVar 0) aNil))
@[simp] noncomputable def t__law_ring_1 : FS := (sSet 3 (eComp true [4] (iRng1 (aCons (eBin addD (eC (.int 1)) (eBin modD (eVar 2) (eC (.int 12)))) aNil)) (gVar 4) tYesF (eCall 2 F__law_handed (aCons (eCall 2 F__law_day (aCons (eVar 0) (aCons (eVar 1) aNil))) (aCons (eML popD (eVar 0) aNil) aNil)))))
@[simp] noncomputable def t__law_ring_2a_0 : FS := (sItem (eVar 3) (eBin modD (eBin fdivD (eVar 2) (eC (.int 32))) (eB lenD (aCons (eVar 3) aNil))) (eCall 2 F__law_bent (aCons (eVar 0) (aCons (eVar 1) aNil))))
@[simp] noncomputable def t__law_ring_2 : FS := (sIf (tV (eBin (eqD false) (eBin modD (eBin fdivD (eVar 2) (eC (.int 16))) (eC (.int 2))) (eC (.int 0)))) t__law_ring_2a_0 sNext)
@[simp] noncomputable def t__law_ring_3 : FS := (sRet (eBin ixD (eLst false (aCons (eVar 3) (aCons (eB tupleD (aCons (eVar 3) aNil)) aNil))) (eBin modD (eBin fdivD (eVar 2) (eC (.int 1024))) (eC (.int 2)))))
noncomputable def b__law_ring : FS :=
  (sSeq t__law_ring_0 (sSeq t__law_ring_1 (sSeq t__law_ring_2 t__law_ring_3)))
noncomputable def F__law_ring : List D → Hs → R D := runF 2 5 .trunc b__law_ring
@[simp] noncomputable def t__law_other_0a_0 : FS := (sRet (eBin ixD (eLst false (aCons (eTup aNil) (aCons (eLst false aNil) (aCons (eBin mulD (eTup (aCons (eTup aNil) aNil)) (eC (.int 4000))) (aCons (eBin mulD (eTup (aCons (eTup aNil) aNil)) (eC (.int 4001))) (aCons (eBin mulD (eLst false (aCons (eLst false aNil) aNil)) (eC (.int 4001))) (aCons (eBin mulD (eTup (aCons (eTup (aCons (eC (.int 0)) aNil)) aNil)) (eC (.int 4000))) aNil))))))) (eBin modD (eBin fdivD (eVar 0) (eC (.int 3))) (eC (.int 6)))))
@[simp] noncomputable def t__law_other_0 : FS := (sIf (tV (eBin (eqD false) (eBin modD (eVar 0) (eC (.int 3))) (eC (.int 0)))) t__law_other_0a_0 sNext)
@[simp] noncomputable def t__law_other_1 : FS := (sRet (eCall 1 F__law_odd (aCons (eBin fdivD (eVar 0) (eC (.int 3))) aNil)))
noncomputable def b__law_other : FS :=
  (sSeq t__law_other_0 t__law_other_1)
noncomputable def F__law_other : List D → Hs → R D := runF 1 1 .trunc b__law_other
@[simp] noncomputable def t__law_asked_0 : FS := (sSet 3 (eTup (aCons (eTup (aCons (eC (.int 0)) aNil)) (aCons (eTup aNil) aNil))))
@[simp] noncomputable def t__law_asked_1a_0 : FS := (sRet (eCall 2 F_gaps (aCons (eVar 1) (aCons (eC (.int 0)) aNil))))
@[simp] noncomputable def t__law_asked_1 : FS := (sIf (tV (eBin (eqD false) (eVar 0) (eC (.int 0)))) t__law_asked_1a_0 sNext)
@[simp] noncomputable def t__law_asked_2a_0 : FS := (sRet (eCall 2 F_widest (aCons (eVar 1) (aCons (eC (.int 7)) aNil))))
@[simp] noncomputable def t__law_asked_2 : FS := (sIf (tV (eBin (eqD false) (eVar 0) (eC (.int 1)))) t__law_asked_2a_0 sNext)
@[simp] noncomputable def t__law_asked_3a_0 : FS := (sRet (eCall 2 F_turned (aCons (eVar 1) (aCons (eC (.int 5)) aNil))))
@[simp] noncomputable def t__law_asked_3 : FS := (sIf (tV (eBin (eqD false) (eVar 0) (eC (.int 2)))) t__law_asked_3a_0 sNext)
@[simp] noncomputable def t__law_asked_4a_0 : FS := (sRet (eCall 1 F_short (aCons (eVar 1) aNil)))
@[simp] noncomputable def t__law_asked_4 : FS := (sIf (tV (eBin (eqD false) (eVar 0) (eC (.int 3)))) t__law_asked_4a_0 sNext)
@[simp] noncomputable def t__law_asked_5a_0 : FS := (sRet (eCall 2 F_slowed (aCons (eVar 1) (aCons (eC (.int 1)) aNil))))
@[simp] noncomputable def t__law_asked_5 : FS := (sIf (tV (eBin (eqD false) (eVar 0) (eC (.int 4)))) t__law_asked_5a_0 sNext)
@[simp] noncomputable def t__law_asked_6a_0 : FS := (sRet (eCall 3 F_paired (aCons (eVar 1) (aCons (eVar 3) (aCons (eC (.int 0)) aNil)))))
@[simp] noncomputable def t__law_asked_6 : FS := (sIf (tV (eBin (eqD false) (eVar 0) (eC (.int 5)))) t__law_asked_6a_0 sNext)
@[simp] noncomputable def t__law_asked_7a_0 : FS := (sRet (eCall 3 F_paired (aCons (eVar 3) (aCons (eVar 1) (aCons (eC (.int 0)) aNil)))))
@[simp] noncomputable def t__law_asked_7 : FS := (sIf (tV (eBin (eqD false) (eVar 0) (eC (.int 6)))) t__law_asked_7a_0 sNext)
@[simp] noncomputable def t__law_asked_8a_0 : FS := (sRet (eCall 2 F_keeps (aCons (eVar 2) (aCons (eVar 1) aNil))))
@[simp] noncomputable def t__law_asked_8 : FS := (sIf (tV (eBin (eqD false) (eVar 0) (eC (.int 7)))) t__law_asked_8a_0 sNext)
@[simp] noncomputable def t__law_asked_9 : FS := (sRet (eCall 2 F_first_lack (aCons (eVar 2) (aCons (eVar 1) aNil))))
noncomputable def b__law_asked : FS :=
  (sSeq t__law_asked_0 (sSeq t__law_asked_1 (sSeq t__law_asked_2 (sSeq t__law_asked_3 (sSeq t__law_asked_4 (sSeq t__law_asked_5 (sSeq t__law_asked_6 (sSeq t__law_asked_7 (sSeq t__law_asked_8 t__law_asked_9)))))))))
noncomputable def F__law_asked : List D → Hs → R D := runF 3 4 .trunc b__law_asked
@[simp] noncomputable def t__law_refused_0_0 : FS := (sExpr (eCall 3 F__law_asked (aCons (eVar 0) (aCons (eVar 1) (aCons (eVar 2) aNil)))))
noncomputable def k__law_refused_0 : FS := t__law_refused_0_0
@[simp] theorem k__law_refused_0_ap (s : Ss) (h : Hs) : k__law_refused_0 s h = t__law_refused_0_0 s h := (rfl)
@[simp] noncomputable def t__law_refused_0 : FS := (sTry "DaysError" 3 ["NoNumbers", "NoRing"] k__law_refused_0 (fun y => (sRet (eAndF (eC (.bl (subX y "NoRing"))) (eAndF (eC (.bl (subX y "ValueError"))) (eNotF (eC (.bl (subX y "NoNumbers")))))))))
@[simp] noncomputable def t__law_refused_1 : FS := (sRet (eC .non))
noncomputable def b__law_refused : FS :=
  (sSeq t__law_refused_0 t__law_refused_1)
noncomputable def F__law_refused : List D → Hs → R D := runF 3 4 .trunc b__law_refused
@[simp] noncomputable def t_law_0 : FS := (sSet 1 (eCall 2 F__law_deck (aCons (eVar 0) (aCons (eC (.int 260)) aNil))))
@[simp] noncomputable def t_law_1_0 : FS := (sSet 3 (eBin modD (eML popD (eVar 1) aNil) (eC (.int 9))))
@[simp] noncomputable def t_law_1_1 : FS := (sSet 4 (eBin ixD (eLst false (aCons (eCall 2 F__law_day (aCons (eVar 1) (aCons (eVar 3) aNil))) (aCons (eCall 2 F__law_bent (aCons (eVar 1) (aCons (eVar 3) aNil))) aNil))) (eBin modD (eML popD (eVar 1) aNil) (eC (.int 2)))))
@[simp] noncomputable def t_law_1_2a_0 : FS := (sRet (eC (.bl false)))
@[simp] noncomputable def t_law_1_2 : FS := (sIf (tNotF (tV (eCall 2 F__law_truth (aCons (eCall 2 F_is_day (aCons (eVar 3) (aCons (eVar 4) aNil))) (aCons (eCall 2 F__law_is_day (aCons (eVar 3) (aCons (eVar 4) aNil))) aNil))))) t_law_1_2a_0 sNext)
@[simp] noncomputable def t_law_1_3 : FS := (sSet 5 (eCall 2 F__law_ring (aCons (eVar 1) (aCons (eVar 3) aNil))))
@[simp] noncomputable def t_law_1_4a_0 : FS := (sSet 5 (eCall 1 F__law_other (aCons (eML popD (eVar 1) aNil) aNil)))
@[simp] noncomputable def t_law_1_4 : FS := (sIf (tV (eBin gtD (eVar 2) (eC (.int 5)))) t_law_1_4a_0 sNext)
@[simp] noncomputable def t_law_1_5a_0 : FS := (sRet (eC (.bl false)))
@[simp] noncomputable def t_law_1_5 : FS := (sIf (tNotF (tV (eCall 2 F__law_truth (aCons (eCall 2 F_is_ring (aCons (eVar 3) (aCons (eVar 5) aNil))) (aCons (eCall 2 F__law_is_ring (aCons (eVar 3) (aCons (eVar 5) aNil))) aNil))))) t_law_1_5a_0 sNext)
@[simp] noncomputable def t_law_1_6_0 : FS := (sSet 7 (eBin ixD (eLst false (aCons (eC (.int 8)) (aCons (eVar 3) aNil))) (eB intD (aCons (eBin gtD (eVar 6) (eC (.int 6))) aNil))))
@[simp] noncomputable def t_law_1_6_1 : FS := (sSet 8 (eBin ixD (eLst false (aCons (eC (.bl true)) (aCons (eC .non) aNil))) (eB intD (aCons (eCall 2 F__law_is_ring (aCons (eVar 7) (aCons (eVar 5) aNil))) aNil))))
@[simp] noncomputable def t_law_1_6_2a_0 : FS := (sSet 8 (eC (.bl true)))
@[simp] noncomputable def t_law_1_6_2 : FS := (sIf (tAndF (tV (eBin (inD false) (eVar 6) (eTup (aCons (eC (.int 5)) (aCons (eC (.int 6)) aNil))))) (tAndF (tV (eBin (isNonD false) (eVar 8) (eC .non))) (tV (eBin gtD (eB lenD (aCons (eVar 5) aNil)) (eC (.int 1000)))))) t_law_1_6_2a_0 sNext)
@[simp] noncomputable def t_law_1_6_3a_0 : FS := (sRet (eC (.bl false)))
@[simp] noncomputable def t_law_1_6_3 : FS := (sIf (tV (eBin (eqD true) (eCall 3 F__law_refused (aCons (eVar 6) (aCons (eVar 5) (aCons (eBin mulD (eTup (aCons (eC (.int 40)) aNil)) (eVar 3)) aNil)))) (eVar 8))) t_law_1_6_3a_0 sNext)
noncomputable def k_law_1_6 : FS := (sFa [6, 7, 8] (sSeq t_law_1_6_0 (sSeq t_law_1_6_1 (sSeq t_law_1_6_2 t_law_1_6_3))))
@[simp] theorem k_law_1_6_ap (s : Ss) (h : Hs) : k_law_1_6 s h = (sFa [6, 7, 8] (sSeq t_law_1_6_0 (sSeq t_law_1_6_1 (sSeq t_law_1_6_2 t_law_1_6_3)))) s h := (rfl)
@[simp] noncomputable def t_law_1_6 : FS := (sFb [6, 7, 8] (sFor (iRng1 (aCons (eC (.int 9)) aNil)) (gVar 6) k_law_1_6))
noncomputable def k_law_1 : FS := (sFa [2, 3, 4, 5, 6, 7, 8] (sSeq t_law_1_0 (sSeq t_law_1_1 (sSeq t_law_1_2 (sSeq t_law_1_3 (sSeq t_law_1_4 (sSeq t_law_1_5 t_law_1_6)))))))
@[simp] theorem k_law_1_ap (s : Ss) (h : Hs) : k_law_1 s h = (sFa [2, 3, 4, 5, 6, 7, 8] (sSeq t_law_1_0 (sSeq t_law_1_1 (sSeq t_law_1_2 (sSeq t_law_1_3 (sSeq t_law_1_4 (sSeq t_law_1_5 t_law_1_6))))))) s h := (rfl)
@[simp] noncomputable def t_law_1 : FS := (sFb [2, 3, 4, 5, 6, 7, 8] (sFor (iRng1 (aCons (eC (.int 8)) aNil)) (gVar 2) k_law_1))
@[simp] noncomputable def t_law_2 : FS := (sRet (eC (.bl true)))
noncomputable def b_law : FS :=
  (sSeq t_law_0 (sSeq t_law_1 t_law_2))
noncomputable def F_law : List D → Hs → R D := runF 1 9 .trunc b_law
end WD
namespace WD
open PySem PySem.Spec PyProof.Rows L2
def topS (i : Nat) : Stmt := PySem.Challenge.pw_withindays_k04_days_and_rings_told.main.body.getD i (.Pass ⟨0, 0, 0, 0⟩)
abbrev s_is_whole : Stmt := topS 5
theorem sc_is_whole : FnScope ["thing", "least", "most"] ["thing", "least", "most"] (defScope s_is_whole) := ⟨rfl, rfl, rfl, by decide +kernel, rfl, by decide +kernel, by decide +kernel⟩
abbrev s_is_row : Stmt := topS 6
theorem sc_is_row : FnScope ["thing"] ["thing"] (defScope s_is_row) := ⟨rfl, rfl, rfl, by decide +kernel, rfl, by decide +kernel, by decide +kernel⟩
abbrev s_is_rising : Stmt := topS 7
theorem sc_is_rising : FnScope ["thing", "least", "most", "last", "one"] ["thing", "least", "most"] (defScope s_is_rising) := ⟨rfl, rfl, rfl, by decide +kernel, rfl, by decide +kernel, by decide +kernel⟩
abbrev s_told_rows : Stmt := topS 8
theorem sc_told_rows : FnScope ["thing", "one"] ["thing"] (defScope s_told_rows) := ⟨rfl, rfl, rfl, by decide +kernel, rfl, by decide +kernel, by decide +kernel⟩
abbrev s_is_day : Stmt := topS 12
theorem sc_is_day : FnScope ["many", "thing"] ["many", "thing"] (defScope s_is_day) := ⟨rfl, rfl, rfl, by decide +kernel, rfl, by decide +kernel, by decide +kernel⟩
abbrev s_are_days : Stmt := topS 13
theorem sc_are_days : FnScope ["many", "thing", "day"] ["many", "thing"] (defScope s_are_days) := ⟨rfl, rfl, rfl, by decide +kernel, rfl, by decide +kernel, by decide +kernel⟩
abbrev s_is_ring : Stmt := topS 14
theorem sc_is_ring : FnScope ["many", "thing"] ["many", "thing"] (defScope s_is_ring) := ⟨rfl, rfl, rfl, by decide +kernel, rfl, by decide +kernel, by decide +kernel⟩
abbrev s_asked_ring : Stmt := topS 15
theorem sc_asked_ring : FnScope ["many", "thing"] ["many", "thing"] (defScope s_asked_ring) := ⟨rfl, rfl, rfl, by decide +kernel, rfl, by decide +kernel, by decide +kernel⟩
abbrev s_is_numbers : Stmt := topS 19
theorem sc_is_numbers : FnScope ["thing", "one"] ["thing"] (defScope s_is_numbers) := ⟨rfl, rfl, rfl, by decide +kernel, rfl, by decide +kernel, by decide +kernel⟩
abbrev s_asked_numbers : Stmt := topS 20
theorem sc_asked_numbers : FnScope ["thing"] ["thing"] (defScope s_asked_numbers) := ⟨rfl, rfl, rfl, by decide +kernel, rfl, by decide +kernel, by decide +kernel⟩
abbrev s_divisor : Stmt := topS 21
theorem sc_divisor : FnScope ["one", "other"] ["one", "other"] (defScope s_divisor) := ⟨rfl, rfl, rfl, by decide +kernel, rfl, by decide +kernel, by decide +kernel⟩
abbrev s_common_of : Stmt := topS 22
theorem sc_common_of : FnScope ["numbers", "found", "number"] ["numbers"] (defScope s_common_of) := ⟨rfl, rfl, rfl, by decide +kernel, rfl, by decide +kernel, by decide +kernel⟩
abbrev s_gaps_of : Stmt := topS 25
theorem sc_gaps_of : FnScope ["ring", "i", "places", "at", "day", "found", "one", "other"] ["ring", "i"] (defScope s_gaps_of) := ⟨rfl, rfl, rfl, by decide +kernel, rfl, by decide +kernel, by decide +kernel⟩
abbrev s_is_kept : Stmt := topS 26
theorem sc_is_kept : FnScope ["ring", "i", "number", "found"] ["ring", "i", "number"] (defScope s_is_kept) := ⟨rfl, rfl, rfl, by decide +kernel, rfl, by decide +kernel, by decide +kernel⟩
abbrev s_lacks : Stmt := topS 27
theorem sc_lacks : FnScope ["ring", "i", "place", "many", "k"] ["ring", "i", "place", "many"] (defScope s_lacks) := ⟨rfl, rfl, rfl, by decide +kernel, rfl, by decide +kernel, by decide +kernel⟩
abbrev s_gaps : Stmt := topS 28
theorem sc_gaps : FnScope ["ring", "i"] ["ring", "i"] (defScope s_gaps) := ⟨rfl, rfl, rfl, by decide +kernel, rfl, by decide +kernel, by decide +kernel⟩
abbrev s_widest : Stmt := topS 29
theorem sc_widest : FnScope ["ring", "i"] ["ring", "i"] (defScope s_widest) := ⟨rfl, rfl, rfl, by decide +kernel, rfl, by decide +kernel, by decide +kernel⟩
abbrev s_keeps : Stmt := topS 30
theorem sc_keeps : FnScope ["numbers", "ring", "i", "number"] ["numbers", "ring"] (defScope s_keeps) := ⟨rfl, rfl, rfl, by decide +kernel, rfl, by decide +kernel, by decide +kernel⟩
abbrev s_first_lack : Stmt := topS 31
theorem sc_first_lack : FnScope ["numbers", "ring", "i", "number", "place"] ["numbers", "ring"] (defScope s_first_lack) := ⟨rfl, rfl, rfl, by decide +kernel, rfl, by decide +kernel, by decide +kernel⟩
abbrev s_turned : Stmt := topS 34
theorem sc_turned : FnScope ["ring", "by", "at"] ["ring", "by"] (defScope s_turned) := ⟨rfl, rfl, rfl, by decide +kernel, rfl, by decide +kernel, by decide +kernel⟩
abbrev s_short : Stmt := topS 35
theorem sc_short : FnScope ["ring", "size"] ["ring"] (defScope s_short) := ⟨rfl, rfl, rfl, by decide +kernel, rfl, by decide +kernel, by decide +kernel⟩
abbrev s_slowed : Stmt := topS 36
theorem sc_slowed : FnScope ["ring", "times", "found", "day"] ["ring", "times"] (defScope s_slowed) := ⟨rfl, rfl, rfl, by decide +kernel, rfl, by decide +kernel, by decide +kernel⟩
abbrev s_renumbered : Stmt := topS 37
theorem sc_renumbered : FnScope ["ring", "many", "i", "day"] ["ring", "many"] (defScope s_renumbered) := ⟨rfl, rfl, rfl, by decide +kernel, rfl, by decide +kernel, by decide +kernel⟩
abbrev s_paired : Stmt := topS 38
theorem sc_paired : FnScope ["one", "other", "many", "day", "size", "found", "k"] ["one", "other", "many"] (defScope s_paired) := ⟨rfl, rfl, rfl, by decide +kernel, rfl, by decide +kernel, by decide +kernel⟩
abbrev s__law_deck : Stmt := topS 40
theorem sc__law_deck : FnScope ["_law_script", "_law_many", "_law_row", "_law_odd_here", "_law_deck_here", "_law_k", "_law_at", "_law_one"] ["_law_script", "_law_many"] (defScope s__law_deck) := ⟨rfl, rfl, rfl, by decide +kernel, rfl, by decide +kernel, by decide +kernel⟩
abbrev s__law_whole : Stmt := topS 41
theorem sc__law_whole : FnScope ["_law_thing", "_law_least", "_law_most"] ["_law_thing", "_law_least", "_law_most"] (defScope s__law_whole) := ⟨rfl, rfl, rfl, by decide +kernel, rfl, by decide +kernel, by decide +kernel⟩
abbrev s__law_lists : Stmt := topS 42
theorem sc__law_lists : FnScope ["_law_thing", "_law_one"] ["_law_thing"] (defScope s__law_lists) := ⟨rfl, rfl, rfl, by decide +kernel, rfl, by decide +kernel, by decide +kernel⟩
abbrev s__law_handed : Stmt := topS 43
theorem sc__law_handed : FnScope ["_law_thing", "_law_draw"] ["_law_thing", "_law_draw"] (defScope s__law_handed) := ⟨rfl, rfl, rfl, by decide +kernel, rfl, by decide +kernel, by decide +kernel⟩
abbrev s__law_odd : Stmt := topS 44
theorem sc__law_odd : FnScope ["_law_draw", "_law_some"] ["_law_draw"] (defScope s__law_odd) := ⟨rfl, rfl, rfl, by decide +kernel, rfl, by decide +kernel, by decide +kernel⟩
abbrev s__law_truth : Stmt := topS 45
theorem sc__law_truth : FnScope ["_law_found", "_law_due"] ["_law_found", "_law_due"] (defScope s__law_truth) := ⟨rfl, rfl, rfl, by decide +kernel, rfl, by decide +kernel, by decide +kernel⟩
abbrev s__law_is_day : Stmt := topS 46
theorem sc__law_is_day : FnScope ["_law_many", "_law_thing", "_law_one"] ["_law_many", "_law_thing"] (defScope s__law_is_day) := ⟨rfl, rfl, rfl, by decide +kernel, rfl, by decide +kernel, by decide +kernel⟩
abbrev s__law_is_ring : Stmt := topS 47
theorem sc__law_is_ring : FnScope ["_law_many", "_law_thing", "_law_day_here"] ["_law_many", "_law_thing"] (defScope s__law_is_ring) := ⟨rfl, rfl, rfl, by decide +kernel, rfl, by decide +kernel, by decide +kernel⟩
abbrev s__law_day : Stmt := topS 48
theorem sc__law_day : FnScope ["_law_deck_here", "_law_many", "_law_draw", "_law_i", "_law_j"] ["_law_deck_here", "_law_many"] (defScope s__law_day) := ⟨rfl, rfl, rfl, by decide +kernel, rfl, by decide +kernel, by decide +kernel⟩
abbrev s__law_bent : Stmt := topS 49
theorem sc__law_bent : FnScope ["_law_deck_here", "_law_many", "_law_draw", "_law_i", "_law_some"] ["_law_deck_here", "_law_many"] (defScope s__law_bent) := ⟨rfl, rfl, rfl, by decide +kernel, rfl, by decide +kernel, by decide +kernel⟩
abbrev s__law_ring : Stmt := topS 50
theorem sc__law_ring : FnScope ["_law_deck_here", "_law_many", "_law_draw", "_law_found", "_law_k"] ["_law_deck_here", "_law_many"] (defScope s__law_ring) := ⟨rfl, rfl, rfl, by decide +kernel, rfl, by decide +kernel, by decide +kernel⟩
abbrev s__law_other : Stmt := topS 51
theorem sc__law_other : FnScope ["_law_draw"] ["_law_draw"] (defScope s__law_other) := ⟨rfl, rfl, rfl, by decide +kernel, rfl, by decide +kernel, by decide +kernel⟩
abbrev s__law_asked : Stmt := topS 52
theorem sc__law_asked : FnScope ["_law_which", "_law_thing", "_law_numbers", "_law_good"] ["_law_which", "_law_thing", "_law_numbers"] (defScope s__law_asked) := ⟨rfl, rfl, rfl, by decide +kernel, rfl, by decide +kernel, by decide +kernel⟩
abbrev s__law_refused : Stmt := topS 53
theorem sc__law_refused : FnScope ["_law_which", "_law_thing", "_law_numbers", "error"] ["_law_which", "_law_thing", "_law_numbers"] (defScope s__law_refused) := ⟨rfl, rfl, rfl, by decide +kernel, rfl, by decide +kernel, by decide +kernel⟩
abbrev s_law : Stmt := topS 54
theorem sc_law : FnScope ["_law_script", "_law_deck_here", "_law_turn", "_law_many", "_law_day_here", "_law_thing", "_law_which", "_law_asked_here", "_law_due"] ["_law_script"] (defScope s_law) := ⟨rfl, rfl, rfl, by decide +kernel, rfl, by decide +kernel, by decide +kernel⟩
structure Adr where
  f_is_whole : Addr
  d_is_whole : FuncData
  f_is_row : Addr
  d_is_row : FuncData
  f_is_rising : Addr
  d_is_rising : FuncData
  f_told_rows : Addr
  d_told_rows : FuncData
  f_is_day : Addr
  d_is_day : FuncData
  f_are_days : Addr
  d_are_days : FuncData
  f_is_ring : Addr
  d_is_ring : FuncData
  f_asked_ring : Addr
  d_asked_ring : FuncData
  f_is_numbers : Addr
  d_is_numbers : FuncData
  f_asked_numbers : Addr
  d_asked_numbers : FuncData
  f_divisor : Addr
  d_divisor : FuncData
  f_common_of : Addr
  d_common_of : FuncData
  f_gaps_of : Addr
  d_gaps_of : FuncData
  f_is_kept : Addr
  d_is_kept : FuncData
  f_lacks : Addr
  d_lacks : FuncData
  f_gaps : Addr
  d_gaps : FuncData
  f_widest : Addr
  d_widest : FuncData
  f_keeps : Addr
  d_keeps : FuncData
  f_first_lack : Addr
  d_first_lack : FuncData
  f_turned : Addr
  d_turned : FuncData
  f_short : Addr
  d_short : FuncData
  f_slowed : Addr
  d_slowed : FuncData
  f_renumbered : Addr
  d_renumbered : FuncData
  f_paired : Addr
  d_paired : FuncData
  f__law_deck : Addr
  d__law_deck : FuncData
  f__law_whole : Addr
  d__law_whole : FuncData
  f__law_lists : Addr
  d__law_lists : FuncData
  f__law_handed : Addr
  d__law_handed : FuncData
  f__law_odd : Addr
  d__law_odd : FuncData
  f__law_truth : Addr
  d__law_truth : FuncData
  f__law_is_day : Addr
  d__law_is_day : FuncData
  f__law_is_ring : Addr
  d__law_is_ring : FuncData
  f__law_day : Addr
  d__law_day : FuncData
  f__law_bent : Addr
  d__law_bent : FuncData
  f__law_ring : Addr
  d__law_ring : FuncData
  f__law_other : Addr
  d__law_other : FuncData
  f__law_asked : Addr
  d__law_asked : FuncData
  f__law_refused : Addr
  d__law_refused : FuncData
  f_law : Addr
  d_law : FuncData
  c_DaysError : Addr
  c_NoNumbers : Addr
  c_NoRing : Addr
  t_GREATEST : Tok
  t_LONGEST : Tok
  t_MOST_ON_A_DAY : Tok
  t_MOST_THINGS_gaps : Tok
  t_MOST_THINGS_numbers : Tok
  t_MOST_THINGS_turning : Tok
structure Txt (K : PySem.W.Frag) (mg : Str → Option Value) (A : Adr) : Prop where
  u_is_whole : Fun K "is_whole" "is_whole" s_is_whole A.f_is_whole A.d_is_whole
  g_is_whole : mg "is_whole" = some (.ref A.f_is_whole)
  b_is_whole : Binds K A.d_is_whole ["thing", "least", "most"] []
  u_is_row : Fun K "is_row" "is_row" s_is_row A.f_is_row A.d_is_row
  g_is_row : mg "is_row" = some (.ref A.f_is_row)
  b_is_row : Binds K A.d_is_row ["thing"] []
  u_is_rising : Fun K "is_rising" "is_rising" s_is_rising A.f_is_rising A.d_is_rising
  g_is_rising : mg "is_rising" = some (.ref A.f_is_rising)
  b_is_rising : Binds K A.d_is_rising ["thing", "least", "most"] []
  u_told_rows : Fun K "told_rows" "told_rows" s_told_rows A.f_told_rows A.d_told_rows
  g_told_rows : mg "told_rows" = some (.ref A.f_told_rows)
  b_told_rows : Binds K A.d_told_rows ["thing"] []
  u_is_day : Fun K "is_day" "is_day" s_is_day A.f_is_day A.d_is_day
  g_is_day : mg "is_day" = some (.ref A.f_is_day)
  b_is_day : Binds K A.d_is_day ["many", "thing"] []
  u_are_days : Fun K "are_days" "are_days" s_are_days A.f_are_days A.d_are_days
  g_are_days : mg "are_days" = some (.ref A.f_are_days)
  b_are_days : Binds K A.d_are_days ["many", "thing"] []
  u_is_ring : Fun K "is_ring" "is_ring" s_is_ring A.f_is_ring A.d_is_ring
  g_is_ring : mg "is_ring" = some (.ref A.f_is_ring)
  b_is_ring : Binds K A.d_is_ring ["many", "thing"] []
  u_asked_ring : Fun K "asked_ring" "asked_ring" s_asked_ring A.f_asked_ring A.d_asked_ring
  g_asked_ring : mg "asked_ring" = some (.ref A.f_asked_ring)
  b_asked_ring : Binds K A.d_asked_ring ["many", "thing"] []
  u_is_numbers : Fun K "is_numbers" "is_numbers" s_is_numbers A.f_is_numbers A.d_is_numbers
  g_is_numbers : mg "is_numbers" = some (.ref A.f_is_numbers)
  b_is_numbers : Binds K A.d_is_numbers ["thing"] []
  u_asked_numbers : Fun K "asked_numbers" "asked_numbers" s_asked_numbers A.f_asked_numbers A.d_asked_numbers
  g_asked_numbers : mg "asked_numbers" = some (.ref A.f_asked_numbers)
  b_asked_numbers : Binds K A.d_asked_numbers ["thing"] []
  u_divisor : Fun K "divisor" "divisor" s_divisor A.f_divisor A.d_divisor
  g_divisor : mg "divisor" = some (.ref A.f_divisor)
  b_divisor : Binds K A.d_divisor ["one", "other"] []
  u_common_of : Fun K "common_of" "common_of" s_common_of A.f_common_of A.d_common_of
  g_common_of : mg "common_of" = some (.ref A.f_common_of)
  b_common_of : Binds K A.d_common_of ["numbers"] []
  u_gaps_of : Fun K "gaps_of" "gaps_of" s_gaps_of A.f_gaps_of A.d_gaps_of
  g_gaps_of : mg "gaps_of" = some (.ref A.f_gaps_of)
  b_gaps_of : Binds K A.d_gaps_of ["ring", "i"] []
  u_is_kept : Fun K "is_kept" "is_kept" s_is_kept A.f_is_kept A.d_is_kept
  g_is_kept : mg "is_kept" = some (.ref A.f_is_kept)
  b_is_kept : Binds K A.d_is_kept ["ring", "i", "number"] []
  u_lacks : Fun K "lacks" "lacks" s_lacks A.f_lacks A.d_lacks
  g_lacks : mg "lacks" = some (.ref A.f_lacks)
  b_lacks : Binds K A.d_lacks ["ring", "i", "place", "many"] []
  u_gaps : Fun K "gaps" "gaps" s_gaps A.f_gaps A.d_gaps
  g_gaps : mg "gaps" = some (.ref A.f_gaps)
  b_gaps : Binds K A.d_gaps ["ring", "i"] []
  u_widest : Fun K "widest" "widest" s_widest A.f_widest A.d_widest
  g_widest : mg "widest" = some (.ref A.f_widest)
  b_widest : Binds K A.d_widest ["ring", "i"] []
  u_keeps : Fun K "keeps" "keeps" s_keeps A.f_keeps A.d_keeps
  g_keeps : mg "keeps" = some (.ref A.f_keeps)
  b_keeps : Binds K A.d_keeps ["numbers", "ring"] []
  u_first_lack : Fun K "first_lack" "first_lack" s_first_lack A.f_first_lack A.d_first_lack
  g_first_lack : mg "first_lack" = some (.ref A.f_first_lack)
  b_first_lack : Binds K A.d_first_lack ["numbers", "ring"] []
  u_turned : Fun K "turned" "turned" s_turned A.f_turned A.d_turned
  g_turned : mg "turned" = some (.ref A.f_turned)
  b_turned : Binds K A.d_turned ["ring", "by"] []
  u_short : Fun K "short" "short" s_short A.f_short A.d_short
  g_short : mg "short" = some (.ref A.f_short)
  b_short : Binds K A.d_short ["ring"] []
  u_slowed : Fun K "slowed" "slowed" s_slowed A.f_slowed A.d_slowed
  g_slowed : mg "slowed" = some (.ref A.f_slowed)
  b_slowed : Binds K A.d_slowed ["ring", "times"] []
  u_renumbered : Fun K "renumbered" "renumbered" s_renumbered A.f_renumbered A.d_renumbered
  g_renumbered : mg "renumbered" = some (.ref A.f_renumbered)
  b_renumbered : Binds K A.d_renumbered ["ring", "many"] []
  u_paired : Fun K "paired" "paired" s_paired A.f_paired A.d_paired
  g_paired : mg "paired" = some (.ref A.f_paired)
  b_paired : Binds K A.d_paired ["one", "other", "many"] []
  u__law_deck : Fun K "_law_deck" "_law_deck" s__law_deck A.f__law_deck A.d__law_deck
  g__law_deck : mg "_law_deck" = some (.ref A.f__law_deck)
  b__law_deck : Binds K A.d__law_deck ["_law_script", "_law_many"] []
  u__law_whole : Fun K "_law_whole" "_law_whole" s__law_whole A.f__law_whole A.d__law_whole
  g__law_whole : mg "_law_whole" = some (.ref A.f__law_whole)
  b__law_whole : Binds K A.d__law_whole ["_law_thing", "_law_least", "_law_most"] []
  u__law_lists : Fun K "_law_lists" "_law_lists" s__law_lists A.f__law_lists A.d__law_lists
  g__law_lists : mg "_law_lists" = some (.ref A.f__law_lists)
  b__law_lists : Binds K A.d__law_lists ["_law_thing"] []
  u__law_handed : Fun K "_law_handed" "_law_handed" s__law_handed A.f__law_handed A.d__law_handed
  g__law_handed : mg "_law_handed" = some (.ref A.f__law_handed)
  b__law_handed : Binds K A.d__law_handed ["_law_thing", "_law_draw"] []
  u__law_odd : Fun K "_law_odd" "_law_odd" s__law_odd A.f__law_odd A.d__law_odd
  g__law_odd : mg "_law_odd" = some (.ref A.f__law_odd)
  b__law_odd : Binds K A.d__law_odd ["_law_draw"] []
  u__law_truth : Fun K "_law_truth" "_law_truth" s__law_truth A.f__law_truth A.d__law_truth
  g__law_truth : mg "_law_truth" = some (.ref A.f__law_truth)
  b__law_truth : Binds K A.d__law_truth ["_law_found", "_law_due"] []
  u__law_is_day : Fun K "_law_is_day" "_law_is_day" s__law_is_day A.f__law_is_day A.d__law_is_day
  g__law_is_day : mg "_law_is_day" = some (.ref A.f__law_is_day)
  b__law_is_day : Binds K A.d__law_is_day ["_law_many", "_law_thing"] []
  u__law_is_ring : Fun K "_law_is_ring" "_law_is_ring" s__law_is_ring A.f__law_is_ring A.d__law_is_ring
  g__law_is_ring : mg "_law_is_ring" = some (.ref A.f__law_is_ring)
  b__law_is_ring : Binds K A.d__law_is_ring ["_law_many", "_law_thing"] []
  u__law_day : Fun K "_law_day" "_law_day" s__law_day A.f__law_day A.d__law_day
  g__law_day : mg "_law_day" = some (.ref A.f__law_day)
  b__law_day : Binds K A.d__law_day ["_law_deck_here", "_law_many"] []
  u__law_bent : Fun K "_law_bent" "_law_bent" s__law_bent A.f__law_bent A.d__law_bent
  g__law_bent : mg "_law_bent" = some (.ref A.f__law_bent)
  b__law_bent : Binds K A.d__law_bent ["_law_deck_here", "_law_many"] []
  u__law_ring : Fun K "_law_ring" "_law_ring" s__law_ring A.f__law_ring A.d__law_ring
  g__law_ring : mg "_law_ring" = some (.ref A.f__law_ring)
  b__law_ring : Binds K A.d__law_ring ["_law_deck_here", "_law_many"] []
  u__law_other : Fun K "_law_other" "_law_other" s__law_other A.f__law_other A.d__law_other
  g__law_other : mg "_law_other" = some (.ref A.f__law_other)
  b__law_other : Binds K A.d__law_other ["_law_draw"] []
  u__law_asked : Fun K "_law_asked" "_law_asked" s__law_asked A.f__law_asked A.d__law_asked
  g__law_asked : mg "_law_asked" = some (.ref A.f__law_asked)
  b__law_asked : Binds K A.d__law_asked ["_law_which", "_law_thing", "_law_numbers"] []
  u__law_refused : Fun K "_law_refused" "_law_refused" s__law_refused A.f__law_refused A.d__law_refused
  g__law_refused : mg "_law_refused" = some (.ref A.f__law_refused)
  b__law_refused : Binds K A.d__law_refused ["_law_which", "_law_thing", "_law_numbers"] []
  u_law : Fun K "law" "law" s_law A.f_law A.d_law
  g_law : mg "law" = some (.ref A.f_law)
  b_law : Binds K A.d_law ["_law_script"] []
  z_ValueError : mg "ValueError" = none
  z_bool : mg "bool" = none
  z_enumerate : mg "enumerate" = none
  z_int : mg "int" = none
  z_isinstance : mg "isinstance" = none
  z_len : mg "len" = none
  z_list : mg "list" = none
  z_max : mg "max" = none
  z_min : mg "min" = none
  z_range : mg "range" = none
  z_tuple : mg "tuple" = none
  z_zip : mg "zip" = none
  x_DaysError : Xc K mg "DaysError" A.c_DaysError
  x_NoNumbers : Xc K mg "NoNumbers" A.c_NoNumbers
  x_NoRing : Xc K mg "NoRing" A.c_NoRing
  e_NoNumbers : ExcC K A.c_NoNumbers
  e_NoRing : ExcC K A.c_NoRing
  m_NoNumbers_DaysError : PySem.W.exmOne K (.ref A.c_NoNumbers) (.ref A.c_DaysError) = some (subX "NoNumbers" "DaysError")
  m_NoRing_DaysError : PySem.W.exmOne K (.ref A.c_NoRing) (.ref A.c_DaysError) = some (subX "NoRing" "DaysError")
  k_NoNumbers_NoNumbers : PySem.W.kitOne K (.ref A.c_NoNumbers) (.ref A.c_NoNumbers) = some (subX "NoNumbers" "NoNumbers")
  k_NoRing_NoNumbers : PySem.W.kitOne K (.ref A.c_NoRing) (.ref A.c_NoNumbers) = some (subX "NoRing" "NoNumbers")
  k_NoNumbers_NoRing : PySem.W.kitOne K (.ref A.c_NoNumbers) (.ref A.c_NoRing) = some (subX "NoNumbers" "NoRing")
  k_NoRing_NoRing : PySem.W.kitOne K (.ref A.c_NoRing) (.ref A.c_NoRing) = some (subX "NoRing" "NoRing")
  k_NoNumbers_ValueError : PySem.W.kitOne K (.ref A.c_NoNumbers) (.type "ValueError") = some (subX "NoNumbers" "ValueError")
  k_NoRing_ValueError : PySem.W.kitOne K (.ref A.c_NoRing) (.type "ValueError") = some (subX "NoRing" "ValueError")
  c_GREATEST : mg "GREATEST" = some (.int 40 A.t_GREATEST)
  c_LONGEST : mg "LONGEST" = some (.int 4000 A.t_LONGEST)
  c_MOST_ON_A_DAY : mg "MOST_ON_A_DAY" = some (.int 2 A.t_MOST_ON_A_DAY)
  c_MOST_THINGS_gaps : mg "MOST_THINGS_gaps" = some (.int 8 A.t_MOST_THINGS_gaps)
  c_MOST_THINGS_numbers : mg "MOST_THINGS_numbers" = some (.int 8 A.t_MOST_THINGS_numbers)
  c_MOST_THINGS_turning : mg "MOST_THINGS_turning" = some (.int 8 A.t_MOST_THINGS_turning)
section
variable {P : Program} {w : World} {K : PySem.W.Frag} {mg : Str → Option Value} {base : Heap} {A : Adr}
theorem cls_at (T : Txt K mg A) : ∀ y ∈ (["NoNumbers", "NoRing"] : List Str), (y = "NoNumbers" ∧ clsV mg ⟨y, none⟩ = .ref A.c_NoNumbers) ∨ (y = "NoRing" ∧ clsV mg ⟨y, none⟩ = .ref A.c_NoRing) := by
  intro y hy
  simp only [List.mem_cons, List.not_mem_nil, or_false] at hy
  rcases hy with rfl | rfl
  · exact .inl ⟨rfl, by unfold clsV; rw [T.x_NoNumbers.g]; rfl⟩
  · exact .inr (⟨rfl, by unfold clsV; rw [T.x_NoRing.g]; rfl⟩)
theorem exc_at (T : Txt K mg A) : ∀ y ∈ (["NoNumbers", "NoRing"] : List Str), ∃ Dc, clsV mg ⟨y, none⟩ = .ref Dc ∧ ExcC K Dc := by
  intro y hy
  rcases cls_at T y hy with ⟨rfl, e⟩ | ⟨rfl, e⟩
  · exact ⟨A.c_NoNumbers, e, T.e_NoNumbers⟩
  · exact ⟨A.c_NoRing, e, T.e_NoRing⟩
theorem exm_DaysError (T : Txt K mg A) : ∀ y ∈ (["NoNumbers", "NoRing"] : List Str), PySem.W.exmOne K (clsV mg ⟨y, none⟩) (.ref A.c_DaysError) = some (subX y "DaysError") := by
  intro y hy
  rcases cls_at T y hy with ⟨rfl, e⟩ | ⟨rfl, e⟩
  · rw [e]; exact T.m_NoNumbers_DaysError
  · rw [e]; exact T.m_NoRing_DaysError
theorem kit_NoNumbers (T : Txt K mg A) : ∀ y ∈ (["NoNumbers", "NoRing"] : List Str), PySem.W.kitOne K (clsV mg ⟨y, none⟩) (.ref A.c_NoNumbers) = some (subX y "NoNumbers") := by
  intro y hy
  rcases cls_at T y hy with ⟨rfl, e⟩ | ⟨rfl, e⟩
  · rw [e]; exact T.k_NoNumbers_NoNumbers
  · rw [e]; exact T.k_NoRing_NoNumbers
theorem kit_NoRing (T : Txt K mg A) : ∀ y ∈ (["NoNumbers", "NoRing"] : List Str), PySem.W.kitOne K (clsV mg ⟨y, none⟩) (.ref A.c_NoRing) = some (subX y "NoRing") := by
  intro y hy
  rcases cls_at T y hy with ⟨rfl, e⟩ | ⟨rfl, e⟩
  · rw [e]; exact T.k_NoNumbers_NoRing
  · rw [e]; exact T.k_NoRing_NoRing
theorem kit_ValueError (T : Txt K mg A) : ∀ y ∈ (["NoNumbers", "NoRing"] : List Str), PySem.W.kitOne K (clsV mg ⟨y, none⟩) (.type "ValueError") = some (subX y "ValueError") := by
  intro y hy
  rcases cls_at T y hy with ⟨rfl, e⟩ | ⟨rfl, e⟩
  · rw [e]; exact T.k_NoNumbers_ValueError
  · rw [e]; exact T.k_NoRing_ValueError
theorem ok_is_whole (T : Txt K mg A) : FnOk P w K mg base (L2.CX P w) 1 A.f_is_whole A.d_is_whole ["thing", "least", "most"] (spF K mg 3 F_is_whole) := by
    refine fn_ok (k := 0) .trunc T.u_is_whole sc_is_whole fun cdv Ar outer s H E hr => ?_
    have tk := takes_of (X := cxOf (L2.CX P w) P w K mg base ["thing", "least", "most"] "is_whole" (defScope s_is_whole) A.f_is_whole cdv Ar outer s H E) rfl rfl rfl rfl
    have hp := passes_of (X := cxOf (L2.CX P w) P w K mg base ["thing", "least", "most"] "is_whole" (defScope s_is_whole) A.f_is_whole cdv Ar outer s H E) rfl
    exact (vss_one (vs_ret (ve_and (ve_isi (ve_var 0) (by rfl) T.z_isinstance (by rfl) T.z_int (by decide +kernel) (by decide)) (ve_and (ve_not (ve_isi (ve_var 0) (by rfl) T.z_isinstance (by rfl) T.z_bool (by decide +kernel) (by decide))) (ve_one (ve_chain od_le od_le (ve_var 1) (ve_var 0) (ve_var 2)))))))
theorem ok_is_row (T : Txt K mg A) : FnOk P w K mg base (L2.CX P w) 1 A.f_is_row A.d_is_row ["thing"] (spF K mg 1 F_is_row) := by
    refine fn_ok (k := 0) .trunc T.u_is_row sc_is_row fun cdv Ar outer s H E hr => ?_
    have tk := takes_of (X := cxOf (L2.CX P w) P w K mg base ["thing"] "is_row" (defScope s_is_row) A.f_is_row cdv Ar outer s H E) rfl rfl rfl rfl
    have hp := passes_of (X := cxOf (L2.CX P w) P w K mg base ["thing"] "is_row" (defScope s_is_row) A.f_is_row cdv Ar outer s H E) rfl
    exact (vss_one (vs_ret (ve_isiT (ve_var 0) (by rfl) T.z_isinstance (by rfl) T.z_list (by decide +kernel) (by rfl) T.z_tuple (by decide +kernel) (by decide) (by decide))))
theorem ok_is_rising (T : Txt K mg A) : FnOk P w K mg base (L2.CX P w) 2 A.f_is_rising A.d_is_rising ["thing", "least", "most"] (spF K mg 3 F_is_rising) := by
    refine fn_ok (k := 1) .trunc T.u_is_rising sc_is_rising fun cdv Ar outer s H E hr => ?_
    have tk := takes_of (X := cxOf (L2.CX P w) P w K mg base ["thing", "least", "most", "last", "one"] "is_rising" (defScope s_is_rising) A.f_is_rising cdv Ar outer s H E) rfl rfl rfl rfl
    have hp := passes_of (X := cxOf (L2.CX P w) P w K mg base ["thing", "least", "most", "last", "one"] "is_rising" (defScope s_is_rising) A.f_is_rising cdv Ar outer s H E) rfl
    exact (vss_cons (vs_if (vt_not (vt_val (ve_call (ok_is_row T) (hr.mono (by first | decide | omega)) (by rfl) T.g_is_row T.u_is_row.kp T.b_is_row tk (va_cons (ve_var 0) va_nil)))) (vss_one (vs_ret ve_bl)) vss_nil)
      (vss_cons (vs_set 3 sc_is_rising.nd (ve_bin od_sub (ve_var 1) ve_int))
      (vss_cons (vs_fa (vs_fb (vs_for (vs := [4]) hp rfl (vi_row (ve_var 0)) (vg_name 4 sc_is_rising.nd) (vss_fa (vss_cons (vs_if (vt_not (vt_val (ve_call (ok_is_whole T) (hr.mono (by first | decide | omega)) (by rfl) T.g_is_whole T.u_is_whole.kp T.b_is_whole tk (va_cons (ve_var 4) (va_cons (ve_bin od_add (ve_var 3) ve_int) (va_cons (ve_var 2) va_nil)))))) (vss_one (vs_ret ve_bl)) vss_nil)
      (vss_one (vs_set 3 sc_is_rising.nd (ve_var 4))))))))
      (vss_one (vs_ret ve_bl)))))
theorem ok_told_rows_n (T : Txt K mg A) : ∀ m : Nat, FnOk P w K mg base (L2.CX P w) (1 + m) A.f_told_rows A.d_told_rows ["thing"] (spF K mg 1 (F_told_rows m))
  | 0 => ⟨fun vs H Q E h => h.1, fun A outer s H args us vs Q E _ _ _ _ h => by obtain ⟨_, G, ms, ds, h, hh, i, q⟩ := h; exact q.elim⟩
  | m + 1 => by
    have hself := ok_told_rows_n T m
    refine fn_ok (k := 1 + m) .trunc T.u_told_rows sc_told_rows fun cdv Ar outer s H E hr => ?_
    have tk := takes_of (X := cxOf (L2.CX P w) P w K mg base ["thing", "one"] "told_rows" (defScope s_told_rows) A.f_told_rows cdv Ar outer s H E) rfl rfl rfl rfl
    have hp := passes_of (X := cxOf (L2.CX P w) P w K mg base ["thing", "one"] "told_rows" (defScope s_told_rows) A.f_told_rows cdv Ar outer s H E) rfl
    exact (vss_cons (vs_if (vt_val (ve_call (ok_is_row T) (hr.mono (by first | decide | omega)) (by rfl) T.g_is_row T.u_is_row.kp T.b_is_row tk (va_cons (ve_var 0) va_nil))) (vss_one (vs_ret (ve_callTy cd_tuple (by rfl) T.z_tuple (by decide +kernel) (va_cons (ve_comp false [("one", 1)] rfl sc_told_rows.nd (vi_row (ve_var 0)) (blkOk_by (own := [("one", 1)]) (N := ["thing", "one"]) (sc := defScope s_told_rows) (by decide +kernel)) (fun _ _ _ _ _ => (vg_name 1 sc_told_rows.nd)) (fun _ _ _ _ _ => vts_nil) (fun _ _ _ _ _ => (ve_call hself (hr.mono (by omega)) (by rfl) T.g_told_rows T.u_told_rows.kp T.b_told_rows takes0 (va_cons (ve_var 1) va_nil)))) va_nil)))) vss_nil)
      (vss_one (vs_ret (ve_var 0))))
theorem ok_told_rows (T : Txt K mg A) : FnOk P w K mg base (L2.CX P w) 47 A.f_told_rows A.d_told_rows ["thing"] (spF K mg 1 (F_told_rows 45)) := (ok_told_rows_n T 45).mono (by decide)
theorem ok_is_day (T : Txt K mg A) : FnOk P w K mg base (L2.CX P w) 3 A.f_is_day A.d_is_day ["many", "thing"] (spF K mg 2 F_is_day) := by
    refine fn_ok (k := 2) .trunc T.u_is_day sc_is_day fun cdv Ar outer s H E hr => ?_
    have tk := takes_of (X := cxOf (L2.CX P w) P w K mg base ["many", "thing"] "is_day" (defScope s_is_day) A.f_is_day cdv Ar outer s H E) rfl rfl rfl rfl
    have hp := passes_of (X := cxOf (L2.CX P w) P w K mg base ["many", "thing"] "is_day" (defScope s_is_day) A.f_is_day cdv Ar outer s H E) rfl
    exact (vss_one (vs_ret (ve_and (ve_call (ok_is_rising T) (hr.mono (by first | decide | omega)) (by rfl) T.g_is_rising T.u_is_rising.kp T.b_is_rising tk (va_cons (ve_var 1) (va_cons ve_int (va_cons (ve_bin od_sub (ve_var 0) ve_int) va_nil)))) (ve_one (ve_cmp od_le (ve_callB cd_len (by rfl) T.z_len (by decide +kernel) (va_cons (ve_var 1) va_nil)) (ve_globI (by rfl) T.c_MOST_ON_A_DAY))))))
theorem ok_are_days (T : Txt K mg A) : FnOk P w K mg base (L2.CX P w) 4 A.f_are_days A.d_are_days ["many", "thing"] (spF K mg 2 F_are_days) := by
    refine fn_ok (k := 3) .trunc T.u_are_days sc_are_days fun cdv Ar outer s H E hr => ?_
    have tk := takes_of (X := cxOf (L2.CX P w) P w K mg base ["many", "thing", "day"] "are_days" (defScope s_are_days) A.f_are_days cdv Ar outer s H E) rfl rfl rfl rfl
    have hp := passes_of (X := cxOf (L2.CX P w) P w K mg base ["many", "thing", "day"] "are_days" (defScope s_are_days) A.f_are_days cdv Ar outer s H E) rfl
    exact (vss_cons (vs_if (vt_w (vw_or (vt_not (vt_val (ve_call (ok_is_row T) (hr.mono (by first | decide | omega)) (by rfl) T.g_is_row T.u_is_row.kp T.b_is_row tk (va_cons (ve_var 1) va_nil)))) (vw_or1 (vt_cmp od_gt (ve_callB cd_len (by rfl) T.z_len (by decide +kernel) (va_cons (ve_var 1) va_nil)) (ve_globI (by rfl) T.c_LONGEST))))) (vss_one (vs_ret ve_bl)) vss_nil)
      (vss_one (vs_ret (ve_cmp (od_eq hr.units) (ve_comp false [("day", 2)] rfl sc_are_days.nd (vi_row (ve_var 1)) (blkOk_by (own := [("day", 2)]) (N := ["many", "thing", "day"]) (sc := defScope s_are_days) (by decide +kernel)) (fun _ _ _ _ _ => (vg_name 2 sc_are_days.nd)) (fun _ _ _ _ _ => (vts_one (vt_not (vt_val (ve_call (ok_is_day T) (hr.mono (by first | decide | omega)) (by rfl) T.g_is_day T.u_is_day.kp T.b_is_day takes0 (va_cons (ve_var 0) (va_cons (ve_var 2) va_nil))))))) (fun _ _ _ _ _ => (ve_var 2))) (ve_lst false va_nil)))))
theorem ok_is_ring (T : Txt K mg A) : FnOk P w K mg base (L2.CX P w) 5 A.f_is_ring A.d_is_ring ["many", "thing"] (spF K mg 2 F_is_ring) := by
    refine fn_ok (k := 4) .trunc T.u_is_ring sc_is_ring fun cdv Ar outer s H E hr => ?_
    have tk := takes_of (X := cxOf (L2.CX P w) P w K mg base ["many", "thing"] "is_ring" (defScope s_is_ring) A.f_is_ring cdv Ar outer s H E) rfl rfl rfl rfl
    have hp := passes_of (X := cxOf (L2.CX P w) P w K mg base ["many", "thing"] "is_ring" (defScope s_is_ring) A.f_is_ring cdv Ar outer s H E) rfl
    exact (vss_one (vs_ret (ve_and (ve_call (ok_are_days T) (hr.mono (by first | decide | omega)) (by rfl) T.g_are_days T.u_are_days.kp T.b_are_days tk (va_cons (ve_var 0) (va_cons (ve_var 1) va_nil))) (ve_one (ve_cmp od_gt (ve_callB cd_len (by rfl) T.z_len (by decide +kernel) (va_cons (ve_var 1) va_nil)) ve_int)))))
theorem ok_asked_ring (T : Txt K mg A) : FnOk P w K mg base (L2.CX P w) 48 A.f_asked_ring A.d_asked_ring ["many", "thing"] (spF K mg 2 F_asked_ring) := by
    refine fn_ok (k := 47) .trunc T.u_asked_ring sc_asked_ring fun cdv Ar outer s H E hr => ?_
    have tk := takes_of (X := cxOf (L2.CX P w) P w K mg base ["many", "thing"] "asked_ring" (defScope s_asked_ring) A.f_asked_ring cdv Ar outer s H E) rfl rfl rfl rfl
    have hp := passes_of (X := cxOf (L2.CX P w) P w K mg base ["many", "thing"] "asked_ring" (defScope s_asked_ring) A.f_asked_ring cdv Ar outer s H E) rfl
    exact (vss_cons (vs_if (vt_not (vt_val (ve_call (ok_is_ring T) (hr.mono (by first | decide | omega)) (by rfl) T.g_is_ring T.u_is_ring.kp T.b_is_ring tk (va_cons (ve_var 0) (va_cons (ve_var 1) va_nil))))) (vss_one (vs_raise T.x_NoRing (by rfl) rfl tk)) vss_nil)
      (vss_one (vs_ret (ve_call (ok_told_rows T) (hr.mono (by first | decide | omega)) (by rfl) T.g_told_rows T.u_told_rows.kp T.b_told_rows tk (va_cons (ve_var 1) va_nil)))))
theorem ok_is_numbers (T : Txt K mg A) : FnOk P w K mg base (L2.CX P w) 2 A.f_is_numbers A.d_is_numbers ["thing"] (spF K mg 1 F_is_numbers) := by
    refine fn_ok (k := 1) .trunc T.u_is_numbers sc_is_numbers fun cdv Ar outer s H E hr => ?_
    have tk := takes_of (X := cxOf (L2.CX P w) P w K mg base ["thing", "one"] "is_numbers" (defScope s_is_numbers) A.f_is_numbers cdv Ar outer s H E) rfl rfl rfl rfl
    have hp := passes_of (X := cxOf (L2.CX P w) P w K mg base ["thing", "one"] "is_numbers" (defScope s_is_numbers) A.f_is_numbers cdv Ar outer s H E) rfl
    exact (vss_cons (vs_if (vt_w (vw_or (vt_not (vt_val (ve_call (ok_is_row T) (hr.mono (by first | decide | omega)) (by rfl) T.g_is_row T.u_is_row.kp T.b_is_row tk (va_cons (ve_var 0) va_nil)))) (vw_or1 (vt_cmp od_gt (ve_callB cd_len (by rfl) T.z_len (by decide +kernel) (va_cons (ve_var 0) va_nil)) (ve_globI (by rfl) T.c_MOST_THINGS_numbers))))) (vss_one (vs_ret ve_bl)) vss_nil)
      (vss_one (vs_ret (ve_cmp (od_eq hr.units) (ve_comp false [("one", 1)] rfl sc_is_numbers.nd (vi_row (ve_var 0)) (blkOk_by (own := [("one", 1)]) (N := ["thing", "one"]) (sc := defScope s_is_numbers) (by decide +kernel)) (fun _ _ _ _ _ => (vg_name 1 sc_is_numbers.nd)) (fun _ _ _ _ _ => (vts_one (vt_not (vt_val (ve_call (ok_is_whole T) (hr.mono (by first | decide | omega)) (by rfl) T.g_is_whole T.u_is_whole.kp T.b_is_whole takes0 (va_cons (ve_var 1) (va_cons ve_int (va_cons (ve_globI (by rfl) T.c_GREATEST) va_nil)))))))) (fun _ _ _ _ _ => (ve_var 1))) (ve_lst false va_nil)))))
theorem ok_asked_numbers (T : Txt K mg A) : FnOk P w K mg base (L2.CX P w) 3 A.f_asked_numbers A.d_asked_numbers ["thing"] (spF K mg 1 F_asked_numbers) := by
    refine fn_ok (k := 2) .trunc T.u_asked_numbers sc_asked_numbers fun cdv Ar outer s H E hr => ?_
    have tk := takes_of (X := cxOf (L2.CX P w) P w K mg base ["thing"] "asked_numbers" (defScope s_asked_numbers) A.f_asked_numbers cdv Ar outer s H E) rfl rfl rfl rfl
    have hp := passes_of (X := cxOf (L2.CX P w) P w K mg base ["thing"] "asked_numbers" (defScope s_asked_numbers) A.f_asked_numbers cdv Ar outer s H E) rfl
    exact (vss_cons (vs_if (vt_not (vt_val (ve_call (ok_is_numbers T) (hr.mono (by first | decide | omega)) (by rfl) T.g_is_numbers T.u_is_numbers.kp T.b_is_numbers tk (va_cons (ve_var 0) va_nil)))) (vss_one (vs_raise T.x_NoNumbers (by rfl) rfl tk)) vss_nil)
      (vss_one (vs_ret (ve_callTy cd_tuple (by rfl) T.z_tuple (by decide +kernel) (va_cons (ve_var 0) va_nil)))))
theorem ok_divisor (T : Txt K mg A) : FnOk P w K mg base (L2.CX P w) 1 A.f_divisor A.d_divisor ["one", "other"] (spF K mg 2 F_divisor) := by
    refine fn_ok (k := 0) .trunc T.u_divisor sc_divisor fun cdv Ar outer s H E hr => ?_
    have tk := takes_of (X := cxOf (L2.CX P w) P w K mg base ["one", "other"] "divisor" (defScope s_divisor) A.f_divisor cdv Ar outer s H E) rfl rfl rfl rfl
    have hp := passes_of (X := cxOf (L2.CX P w) P w K mg base ["one", "other"] "divisor" (defScope s_divisor) A.f_divisor cdv Ar outer s H E) rfl
    exact (vss_cons (vs_fa (vs_while hp (vt_cmp od_gt (ve_var 1) ve_int) (vss_one (vs_par 0 1 rfl sc_divisor.nd (va_cons (ve_var 1) (va_cons (ve_bin od_mod (ve_var 0) (ve_var 1)) va_nil))))))
      (vss_one (vs_ret (ve_var 0))))
theorem ok_common_of (T : Txt K mg A) : FnOk P w K mg base (L2.CX P w) 2 A.f_common_of A.d_common_of ["numbers"] (spF K mg 1 F_common_of) := by
    refine fn_ok (k := 1) .trunc T.u_common_of sc_common_of fun cdv Ar outer s H E hr => ?_
    have tk := takes_of (X := cxOf (L2.CX P w) P w K mg base ["numbers", "found", "number"] "common_of" (defScope s_common_of) A.f_common_of cdv Ar outer s H E) rfl rfl rfl rfl
    have hp := passes_of (X := cxOf (L2.CX P w) P w K mg base ["numbers", "found", "number"] "common_of" (defScope s_common_of) A.f_common_of cdv Ar outer s H E) rfl
    exact (vss_cons (vs_set 1 sc_common_of.nd ve_int)
      (vss_cons (vs_fb (vs_for (vs := [2]) hp rfl (vi_row (ve_var 0)) (vg_name 2 sc_common_of.nd) (vss_fa (vss_one (vs_set 1 sc_common_of.nd (ve_bin od_mul (ve_bin od_fdiv (ve_var 1) (ve_call (ok_divisor T) (hr.mono (by first | decide | omega)) (by rfl) T.g_divisor T.u_divisor.kp T.b_divisor tk (va_cons (ve_var 1) (va_cons (ve_var 2) va_nil)))) (ve_var 2)))))))
      (vss_one (vs_ret (ve_var 1)))))
theorem ok_gaps_of (T : Txt K mg A) : FnOk P w K mg base (L2.CX P w) 1 A.f_gaps_of A.d_gaps_of ["ring", "i"] (spF K mg 2 F_gaps_of) := by
    refine fn_ok (k := 0) .trunc T.u_gaps_of sc_gaps_of fun cdv Ar outer s H E hr => ?_
    have tk := takes_of (X := cxOf (L2.CX P w) P w K mg base ["ring", "i", "places", "at", "day", "found", "one", "other"] "gaps_of" (defScope s_gaps_of) A.f_gaps_of cdv Ar outer s H E) rfl rfl rfl rfl
    have hp := passes_of (X := cxOf (L2.CX P w) P w K mg base ["ring", "i", "places", "at", "day", "found", "one", "other"] "gaps_of" (defScope s_gaps_of) A.f_gaps_of cdv Ar outer s H E) rfl
    exact (vss_cons (vs_setComp false 2 [("at", 3), ("day", 4)] rfl sc_gaps_of.nd (vi_enumerate (by rfl) T.z_enumerate (va_cons (ve_var 0) va_nil)) (blkOk_by (own := [("at", 3), ("day", 4)]) (N := ["ring", "i", "places", "at", "day", "found", "one", "other"]) (sc := defScope s_gaps_of) (by decide +kernel)) (fun _ _ _ _ _ => (vg_un rfl (vgs_cons (vg_name 3 sc_gaps_of.nd) (vgs_cons (vg_name 4 sc_gaps_of.nd) vgs_nil)))) (fun _ _ _ _ _ => (vts_one (vt_cmp od_in (ve_var 1) (ve_var 4)))) (fun _ _ _ _ _ => (ve_var 3)))
      (vss_cons (vs_set 5 sc_gaps_of.nd (ve_lst true va_nil))
      (vss_cons (vs_fb (vs_for (vs := [6, 7]) hp rfl (vi_zip (by rfl) T.z_zip (va_cons (ve_var 2) (va_cons (ve_bin od_add (ve_slice false (ve_var 2) (vo_some ve_int) vo_none) (ve_slice false (ve_var 2) vo_none (vo_some ve_int))) va_nil))) (vg_un rfl (vgs_cons (vg_name 6 sc_gaps_of.nd) (vgs_cons (vg_name 7 sc_gaps_of.nd) vgs_nil))) (vss_fa (vss_one (vs_expr (ve_ml PySem.F.slot_list_append PySem.F.type_list_append md_append (ve_var 5) (va_cons (ve_bin od_add (ve_bin od_mod (ve_bin od_sub (ve_bin od_sub (ve_var 7) (ve_var 6)) ve_int) (ve_callB cd_len (by rfl) T.z_len (by decide +kernel) (va_cons (ve_var 0) va_nil))) ve_int) va_nil)))))))
      (vss_one (vs_ret (ve_var 5))))))
theorem ok_is_kept (T : Txt K mg A) : FnOk P w K mg base (L2.CX P w) 2 A.f_is_kept A.d_is_kept ["ring", "i", "number"] (spF K mg 3 F_is_kept) := by
    refine fn_ok (k := 1) .trunc T.u_is_kept sc_is_kept fun cdv Ar outer s H E hr => ?_
    have tk := takes_of (X := cxOf (L2.CX P w) P w K mg base ["ring", "i", "number", "found"] "is_kept" (defScope s_is_kept) A.f_is_kept cdv Ar outer s H E) rfl rfl rfl rfl
    have hp := passes_of (X := cxOf (L2.CX P w) P w K mg base ["ring", "i", "number", "found"] "is_kept" (defScope s_is_kept) A.f_is_kept cdv Ar outer s H E) rfl
    exact (vss_cons (vs_set 3 sc_is_kept.nd (ve_call (ok_gaps_of T) (hr.mono (by first | decide | omega)) (by rfl) T.g_gaps_of T.u_gaps_of.kp T.b_gaps_of tk (va_cons (ve_var 0) (va_cons (ve_var 1) va_nil))))
      (vss_one (vs_ret (ve_and (ve_cmp (od_ne hr.units) (ve_var 3) (ve_lst false va_nil)) (ve_one (ve_cmp od_le (ve_callB (cd_max rfl) (by rfl) T.z_max (by decide +kernel) (va_cons (ve_var 3) va_nil)) (ve_var 2)))))))
theorem ok_lacks (T : Txt K mg A) : FnOk P w K mg base (L2.CX P w) 1 A.f_lacks A.d_lacks ["ring", "i", "place", "many"] (spF K mg 4 F_lacks) := by
    refine fn_ok (k := 0) .trunc T.u_lacks sc_lacks fun cdv Ar outer s H E hr => ?_
    have tk := takes_of (X := cxOf (L2.CX P w) P w K mg base ["ring", "i", "place", "many", "k"] "lacks" (defScope s_lacks) A.f_lacks cdv Ar outer s H E) rfl rfl rfl rfl
    have hp := passes_of (X := cxOf (L2.CX P w) P w K mg base ["ring", "i", "place", "many", "k"] "lacks" (defScope s_lacks) A.f_lacks cdv Ar outer s H E) rfl
    exact (vss_cons (vs_fb (vs_for (vs := [4]) hp rfl (vi_range1 (by rfl) T.z_range (va_cons (ve_var 3) va_nil)) (vg_name 4 sc_lacks.nd) (vss_fa (vss_one (vs_if (vt_cmp od_in (ve_var 1) (ve_ix (ve_var 0) (ve_bin od_mod (ve_bin od_add (ve_var 2) (ve_var 4)) (ve_callB cd_len (by rfl) T.z_len (by decide +kernel) (va_cons (ve_var 0) va_nil))))) (vss_one (vs_ret ve_bl)) vss_nil)))))
      (vss_one (vs_ret ve_bl)))
theorem ok_gaps (T : Txt K mg A) : FnOk P w K mg base (L2.CX P w) 49 A.f_gaps A.d_gaps ["ring", "i"] (spF K mg 2 F_gaps) := by
    refine fn_ok (k := 48) .trunc T.u_gaps sc_gaps fun cdv Ar outer s H E hr => ?_
    have tk := takes_of (X := cxOf (L2.CX P w) P w K mg base ["ring", "i"] "gaps" (defScope s_gaps) A.f_gaps cdv Ar outer s H E) rfl rfl rfl rfl
    have hp := passes_of (X := cxOf (L2.CX P w) P w K mg base ["ring", "i"] "gaps" (defScope s_gaps) A.f_gaps cdv Ar outer s H E) rfl
    exact (vss_one (vs_ret (ve_callTy cd_tuple (by rfl) T.z_tuple (by decide +kernel) (va_cons (ve_call (ok_gaps_of T) (hr.mono (by first | decide | omega)) (by rfl) T.g_gaps_of T.u_gaps_of.kp T.b_gaps_of tk (va_cons (ve_call (ok_asked_ring T) (hr.mono (by first | decide | omega)) (by rfl) T.g_asked_ring T.u_asked_ring.kp T.b_asked_ring tk (va_cons (ve_globI (by rfl) T.c_MOST_THINGS_gaps) (va_cons (ve_var 0) va_nil))) (va_cons (ve_var 1) va_nil))) va_nil))))
theorem ok_widest (T : Txt K mg A) : FnOk P w K mg base (L2.CX P w) 49 A.f_widest A.d_widest ["ring", "i"] (spF K mg 2 F_widest) := by
    refine fn_ok (k := 48) .trunc T.u_widest sc_widest fun cdv Ar outer s H E hr => ?_
    have tk := takes_of (X := cxOf (L2.CX P w) P w K mg base ["ring", "i"] "widest" (defScope s_widest) A.f_widest cdv Ar outer s H E) rfl rfl rfl rfl
    have hp := passes_of (X := cxOf (L2.CX P w) P w K mg base ["ring", "i"] "widest" (defScope s_widest) A.f_widest cdv Ar outer s H E) rfl
    exact (vss_one (vs_ret (ve_callB (cd_max rfl) (by rfl) T.z_max (by decide +kernel) (va_cons (ve_bin od_add (ve_lst false (va_cons ve_int va_nil)) (ve_call (ok_gaps_of T) (hr.mono (by first | decide | omega)) (by rfl) T.g_gaps_of T.u_gaps_of.kp T.b_gaps_of tk (va_cons (ve_call (ok_asked_ring T) (hr.mono (by first | decide | omega)) (by rfl) T.g_asked_ring T.u_asked_ring.kp T.b_asked_ring tk (va_cons (ve_globI (by rfl) T.c_MOST_THINGS_gaps) (va_cons (ve_var 0) va_nil))) (va_cons (ve_var 1) va_nil)))) va_nil))))
theorem ok_keeps (T : Txt K mg A) : FnOk P w K mg base (L2.CX P w) 49 A.f_keeps A.d_keeps ["numbers", "ring"] (spF K mg 2 F_keeps) := by
    refine fn_ok (k := 48) .trunc T.u_keeps sc_keeps fun cdv Ar outer s H E hr => ?_
    have tk := takes_of (X := cxOf (L2.CX P w) P w K mg base ["numbers", "ring", "i", "number"] "keeps" (defScope s_keeps) A.f_keeps cdv Ar outer s H E) rfl rfl rfl rfl
    have hp := passes_of (X := cxOf (L2.CX P w) P w K mg base ["numbers", "ring", "i", "number"] "keeps" (defScope s_keeps) A.f_keeps cdv Ar outer s H E) rfl
    exact (vss_cons (vs_set 0 sc_keeps.nd (ve_call (ok_asked_numbers T) (hr.mono (by first | decide | omega)) (by rfl) T.g_asked_numbers T.u_asked_numbers.kp T.b_asked_numbers tk (va_cons (ve_var 0) va_nil)))
      (vss_cons (vs_set 1 sc_keeps.nd (ve_call (ok_asked_ring T) (hr.mono (by first | decide | omega)) (by rfl) T.g_asked_ring T.u_asked_ring.kp T.b_asked_ring tk (va_cons (ve_callB cd_len (by rfl) T.z_len (by decide +kernel) (va_cons (ve_var 0) va_nil)) (va_cons (ve_var 1) va_nil))))
      (vss_one (vs_ret (ve_cmp (od_eq hr.units) (ve_comp false [("i", 2), ("number", 3)] rfl sc_keeps.nd (vi_enumerate (by rfl) T.z_enumerate (va_cons (ve_var 0) va_nil)) (blkOk_by (own := [("i", 2), ("number", 3)]) (N := ["numbers", "ring", "i", "number"]) (sc := defScope s_keeps) (by decide +kernel)) (fun _ _ _ _ _ => (vg_un rfl (vgs_cons (vg_name 2 sc_keeps.nd) (vgs_cons (vg_name 3 sc_keeps.nd) vgs_nil)))) (fun _ _ _ _ _ => (vts_one (vt_not (vt_val (ve_call (ok_is_kept T) (hr.mono (by first | decide | omega)) (by rfl) T.g_is_kept T.u_is_kept.kp T.b_is_kept takes0 (va_cons (ve_var 1) (va_cons (ve_var 2) (va_cons (ve_var 3) va_nil)))))))) (fun _ _ _ _ _ => (ve_var 2))) (ve_lst false va_nil))))))
theorem ok_first_lack (T : Txt K mg A) : FnOk P w K mg base (L2.CX P w) 49 A.f_first_lack A.d_first_lack ["numbers", "ring"] (spF K mg 2 F_first_lack) := by
    refine fn_ok (k := 48) .trunc T.u_first_lack sc_first_lack fun cdv Ar outer s H E hr => ?_
    have tk := takes_of (X := cxOf (L2.CX P w) P w K mg base ["numbers", "ring", "i", "number", "place"] "first_lack" (defScope s_first_lack) A.f_first_lack cdv Ar outer s H E) rfl rfl rfl rfl
    have hp := passes_of (X := cxOf (L2.CX P w) P w K mg base ["numbers", "ring", "i", "number", "place"] "first_lack" (defScope s_first_lack) A.f_first_lack cdv Ar outer s H E) rfl
    exact (vss_cons (vs_set 0 sc_first_lack.nd (ve_call (ok_asked_numbers T) (hr.mono (by first | decide | omega)) (by rfl) T.g_asked_numbers T.u_asked_numbers.kp T.b_asked_numbers tk (va_cons (ve_var 0) va_nil)))
      (vss_cons (vs_set 1 sc_first_lack.nd (ve_call (ok_asked_ring T) (hr.mono (by first | decide | omega)) (by rfl) T.g_asked_ring T.u_asked_ring.kp T.b_asked_ring tk (va_cons (ve_callB cd_len (by rfl) T.z_len (by decide +kernel) (va_cons (ve_var 0) va_nil)) (va_cons (ve_var 1) va_nil))))
      (vss_cons (vs_fb (vs_for (vs := [2, 3]) hp rfl (vi_enumerate (by rfl) T.z_enumerate (va_cons (ve_var 0) va_nil)) (vg_un rfl (vgs_cons (vg_name 2 sc_first_lack.nd) (vgs_cons (vg_name 3 sc_first_lack.nd) vgs_nil))) (vss_fa (vss_one (vs_if (vt_not (vt_val (ve_call (ok_is_kept T) (hr.mono (by first | decide | omega)) (by rfl) T.g_is_kept T.u_is_kept.kp T.b_is_kept tk (va_cons (ve_var 1) (va_cons (ve_var 2) (va_cons (ve_var 3) va_nil)))))) (vss_cons (vs_set 4 sc_first_lack.nd ve_int)
      (vss_cons (vs_while hp (vt_not (vt_val (ve_call (ok_lacks T) (hr.mono (by first | decide | omega)) (by rfl) T.g_lacks T.u_lacks.kp T.b_lacks tk (va_cons (ve_var 1) (va_cons (ve_var 2) (va_cons (ve_var 4) (va_cons (ve_var 3) va_nil))))))) (vss_one (vs_aug 4 sc_first_lack.nd ve_int ip_addD)))
      (vss_one (vs_ret (ve_tup (va_cons (ve_var 2) (va_cons (ve_var 4) va_nil))))))) vss_nil)))))
      (vss_one (vs_ret ve_non)))))
theorem ok_turned (T : Txt K mg A) : FnOk P w K mg base (L2.CX P w) 49 A.f_turned A.d_turned ["ring", "by"] (spF K mg 2 F_turned) := by
    refine fn_ok (k := 48) .trunc T.u_turned sc_turned fun cdv Ar outer s H E hr => ?_
    have tk := takes_of (X := cxOf (L2.CX P w) P w K mg base ["ring", "by", "at"] "turned" (defScope s_turned) A.f_turned cdv Ar outer s H E) rfl rfl rfl rfl
    have hp := passes_of (X := cxOf (L2.CX P w) P w K mg base ["ring", "by", "at"] "turned" (defScope s_turned) A.f_turned cdv Ar outer s H E) rfl
    exact (vss_cons (vs_set 0 sc_turned.nd (ve_call (ok_asked_ring T) (hr.mono (by first | decide | omega)) (by rfl) T.g_asked_ring T.u_asked_ring.kp T.b_asked_ring tk (va_cons (ve_globI (by rfl) T.c_MOST_THINGS_turning) (va_cons (ve_var 0) va_nil))))
      (vss_cons (vs_set 2 sc_turned.nd (ve_bin od_mod (ve_var 1) (ve_callB cd_len (by rfl) T.z_len (by decide +kernel) (va_cons (ve_var 0) va_nil))))
      (vss_one (vs_ret (ve_bin od_add (ve_slice false (ve_var 0) (vo_some (ve_var 2)) vo_none) (ve_slice false (ve_var 0) vo_none (vo_some (ve_var 2))))))))
theorem ok_short (T : Txt K mg A) : FnOk P w K mg base (L2.CX P w) 49 A.f_short A.d_short ["ring"] (spF K mg 1 F_short) := by
    refine fn_ok (k := 48) .trunc T.u_short sc_short fun cdv Ar outer s H E hr => ?_
    have tk := takes_of (X := cxOf (L2.CX P w) P w K mg base ["ring", "size"] "short" (defScope s_short) A.f_short cdv Ar outer s H E) rfl rfl rfl rfl
    have hp := passes_of (X := cxOf (L2.CX P w) P w K mg base ["ring", "size"] "short" (defScope s_short) A.f_short cdv Ar outer s H E) rfl
    exact (vss_cons (vs_set 0 sc_short.nd (ve_call (ok_asked_ring T) (hr.mono (by first | decide | omega)) (by rfl) T.g_asked_ring T.u_asked_ring.kp T.b_asked_ring tk (va_cons (ve_globI (by rfl) T.c_MOST_THINGS_turning) (va_cons (ve_var 0) va_nil))))
      (vss_cons (vs_set 1 sc_short.nd ve_int)
      (vss_cons (vs_while hp (vt_w (vw_or (vt_cmp od_gt (ve_bin od_mod (ve_callB cd_len (by rfl) T.z_len (by decide +kernel) (va_cons (ve_var 0) va_nil)) (ve_var 1)) ve_int) (vw_or1 (vt_cmp (od_ne hr.units) (ve_bin od_mul (ve_slice false (ve_var 0) vo_none (vo_some (ve_var 1))) (ve_bin od_fdiv (ve_callB cd_len (by rfl) T.z_len (by decide +kernel) (va_cons (ve_var 0) va_nil)) (ve_var 1))) (ve_var 0))))) (vss_one (vs_aug 1 sc_short.nd ve_int ip_addD)))
      (vss_one (vs_ret (ve_slice false (ve_var 0) vo_none (vo_some (ve_var 1))))))))
theorem ok_slowed (T : Txt K mg A) : FnOk P w K mg base (L2.CX P w) 49 A.f_slowed A.d_slowed ["ring", "times"] (spF K mg 2 F_slowed) := by
    refine fn_ok (k := 48) .trunc T.u_slowed sc_slowed fun cdv Ar outer s H E hr => ?_
    have tk := takes_of (X := cxOf (L2.CX P w) P w K mg base ["ring", "times", "found", "day"] "slowed" (defScope s_slowed) A.f_slowed cdv Ar outer s H E) rfl rfl rfl rfl
    have hp := passes_of (X := cxOf (L2.CX P w) P w K mg base ["ring", "times", "found", "day"] "slowed" (defScope s_slowed) A.f_slowed cdv Ar outer s H E) rfl
    exact (vss_cons (vs_set 0 sc_slowed.nd (ve_call (ok_asked_ring T) (hr.mono (by first | decide | omega)) (by rfl) T.g_asked_ring T.u_asked_ring.kp T.b_asked_ring tk (va_cons (ve_globI (by rfl) T.c_MOST_THINGS_turning) (va_cons (ve_var 0) va_nil))))
      (vss_cons (vs_if (vt_cmp od_gt (ve_bin od_mul (ve_callB cd_len (by rfl) T.z_len (by decide +kernel) (va_cons (ve_var 0) va_nil)) (ve_var 1)) (ve_globI (by rfl) T.c_LONGEST)) (vss_one (vs_raise T.x_NoRing (by rfl) rfl tk)) vss_nil)
      (vss_cons (vs_set 2 sc_slowed.nd (ve_lst true va_nil))
      (vss_cons (vs_fb (vs_for (vs := [3]) hp rfl (vi_row (ve_var 0)) (vg_name 3 sc_slowed.nd) (vss_fa (vss_cons (vs_expr (ve_ml PySem.F.slot_list_append PySem.F.type_list_append md_append (ve_var 2) (va_cons (ve_var 3) va_nil)))
      (vss_one (vs_expr (ve_ml PySem.F.slot_list_extend PySem.F.type_list_extend md_extend (ve_var 2) (va_cons (ve_bin od_mul (ve_lst false (va_cons (ve_tup va_nil) va_nil)) (ve_bin od_sub (ve_var 1) ve_int)) va_nil))))))))
      (vss_one (vs_ret (ve_callTy cd_tuple (by rfl) T.z_tuple (by decide +kernel) (va_cons (ve_var 2) va_nil))))))))
theorem ok_renumbered (T : Txt K mg A) : FnOk P w K mg base (L2.CX P w) 1 A.f_renumbered A.d_renumbered ["ring", "many"] (spF K mg 2 F_renumbered) := by
    refine fn_ok (k := 0) .trunc T.u_renumbered sc_renumbered fun cdv Ar outer s H E hr => ?_
    have tk := takes_of (X := cxOf (L2.CX P w) P w K mg base ["ring", "many", "i", "day"] "renumbered" (defScope s_renumbered) A.f_renumbered cdv Ar outer s H E) rfl rfl rfl rfl
    have hp := passes_of (X := cxOf (L2.CX P w) P w K mg base ["ring", "many", "i", "day"] "renumbered" (defScope s_renumbered) A.f_renumbered cdv Ar outer s H E) rfl
    exact (vss_one (vs_ret (ve_comp false [("day", 3)] rfl sc_renumbered.nd (vi_row (ve_var 0)) (blkOk_by (own := [("day", 3)]) (N := ["ring", "many", "i", "day"]) (sc := defScope s_renumbered) (by decide +kernel)) (fun _ _ _ _ _ => (vg_name 3 sc_renumbered.nd)) (fun _ _ _ _ _ => vts_nil) (fun _ _ _ _ _ => (ve_callTy cd_tuple (by rfl) T.z_tuple (by decide +kernel) (va_cons (ve_comp false [("i", 2)] rfl sc_renumbered.nd (vi_row (ve_var 3)) (blkOk_by (own := [("i", 2)]) (N := ["ring", "many", "i", "day"]) (sc := { kind := .function, names := [(".0", .local), ("day", .local), ("tuple", .globalImplicit), ("many", .cell)], isGenerator := false, isCoroutine := false }) (by decide +kernel)) (fun _ _ _ _ _ => (vg_name 2 sc_renumbered.nd)) (fun _ _ _ _ _ => vts_nil) (fun _ _ _ _ _ => (ve_bin od_add (ve_var 2) (ve_var 1)))) va_nil))))))
theorem ok_paired (T : Txt K mg A) : FnOk P w K mg base (L2.CX P w) 49 A.f_paired A.d_paired ["one", "other", "many"] (spF K mg 3 F_paired) := by
    refine fn_ok (k := 48) .trunc T.u_paired sc_paired fun cdv Ar outer s H E hr => ?_
    have tk := takes_of (X := cxOf (L2.CX P w) P w K mg base ["one", "other", "many", "day", "size", "found", "k"] "paired" (defScope s_paired) A.f_paired cdv Ar outer s H E) rfl rfl rfl rfl
    have hp := passes_of (X := cxOf (L2.CX P w) P w K mg base ["one", "other", "many", "day", "size", "found", "k"] "paired" (defScope s_paired) A.f_paired cdv Ar outer s H E) rfl
    exact (vss_cons (vs_set 0 sc_paired.nd (ve_call (ok_asked_ring T) (hr.mono (by first | decide | omega)) (by rfl) T.g_asked_ring T.u_asked_ring.kp T.b_asked_ring tk (va_cons (ve_globI (by rfl) T.c_MOST_THINGS_turning) (va_cons (ve_var 0) va_nil))))
      (vss_cons (vs_set 1 sc_paired.nd (ve_call (ok_renumbered T) (hr.mono (by first | decide | omega)) (by rfl) T.g_renumbered T.u_renumbered.kp T.b_renumbered tk (va_cons (ve_call (ok_asked_ring T) (hr.mono (by first | decide | omega)) (by rfl) T.g_asked_ring T.u_asked_ring.kp T.b_asked_ring tk (va_cons (ve_globI (by rfl) T.c_MOST_THINGS_turning) (va_cons (ve_var 1) va_nil))) (va_cons (ve_var 2) va_nil))))
      (vss_cons (vs_if (vt_cmp (od_ne hr.units) (ve_comp false [("day", 3)] rfl sc_paired.nd (vi_row (ve_var 1)) (blkOk_by (own := [("day", 3)]) (N := ["one", "other", "many", "day", "size", "found", "k"]) (sc := defScope s_paired) (by decide +kernel)) (fun _ _ _ _ _ => (vg_name 3 sc_paired.nd)) (fun _ _ _ _ _ => (vts_one (vt_w (vw_and (vt_cmp (od_ne hr.units) (ve_var 3) (ve_tup va_nil)) (vw_and1 (vt_cmp od_ge (ve_ix (ve_var 3) (ve_neg ve_int)) (ve_globI (by rfl) T.c_MOST_THINGS_turning))))))) (fun _ _ _ _ _ => (ve_var 3))) (ve_lst false va_nil)) (vss_one (vs_raise T.x_NoRing (by rfl) rfl tk)) vss_nil)
      (vss_cons (vs_set 4 sc_paired.nd (ve_call (ok_common_of T) (hr.mono (by first | decide | omega)) (by rfl) T.g_common_of T.u_common_of.kp T.b_common_of tk (va_cons (ve_lst false (va_cons (ve_callB cd_len (by rfl) T.z_len (by decide +kernel) (va_cons (ve_var 0) va_nil)) (va_cons (ve_callB cd_len (by rfl) T.z_len (by decide +kernel) (va_cons (ve_var 1) va_nil)) va_nil))) va_nil)))
      (vss_cons (vs_if (vt_cmp od_gt (ve_bin od_mul ve_int (ve_var 4)) (ve_globI (by rfl) T.c_LONGEST)) (vss_one (vs_raise T.x_NoRing (by rfl) rfl tk)) vss_nil)
      (vss_cons (vs_set 5 sc_paired.nd (ve_lst true va_nil))
      (vss_cons (vs_fb (vs_for (vs := [6]) hp rfl (vi_range1 (by rfl) T.z_range (va_cons (ve_var 4) va_nil)) (vg_name 6 sc_paired.nd) (vss_fa (vss_one (vs_expr (ve_ml PySem.F.slot_list_extend PySem.F.type_list_extend md_extend (ve_var 5) (va_cons (ve_lst false (va_cons (ve_ix (ve_var 0) (ve_bin od_mod (ve_var 6) (ve_callB cd_len (by rfl) T.z_len (by decide +kernel) (va_cons (ve_var 0) va_nil)))) (va_cons (ve_ix (ve_var 1) (ve_bin od_mod (ve_var 6) (ve_callB cd_len (by rfl) T.z_len (by decide +kernel) (va_cons (ve_var 1) va_nil)))) va_nil))) va_nil)))))))
      (vss_one (vs_ret (ve_callTy cd_tuple (by rfl) T.z_tuple (by decide +kernel) (va_cons (ve_var 5) va_nil)))))))))))
theorem ok__law_deck (T : Txt K mg A) : FnOk P w K mg base (L2.CX P w) 1 A.f__law_deck A.d__law_deck ["_law_script", "_law_many"] (spF K mg 2 F__law_deck) := by
    refine fn_ok (k := 0) .move T.u__law_deck sc__law_deck fun cdv Ar outer s H E hr => ?_
    have tk := takes_of (X := cxOf (L2.CX P w) P w K mg base ["_law_script", "_law_many", "_law_row", "_law_odd_here", "_law_deck_here", "_law_k", "_law_at", "_law_one"] "_law_deck" (defScope s__law_deck) A.f__law_deck cdv Ar outer s H E) rfl rfl rfl rfl
    have hp := passes_of (X := cxOf (L2.CX P w) P w K mg base ["_law_script", "_law_many", "_law_row", "_law_odd_here", "_law_deck_here", "_law_k", "_law_at", "_law_one"] "_law_deck" (defScope s__law_deck) A.f__law_deck cdv Ar outer s H E) rfl
    exact (vss_cons (vs_set 2 sc__law_deck.nd (ve_callTy (cd_list true) (by rfl) T.z_list (by decide +kernel) (va_cons (ve_var 0) va_nil)))
      (vss_cons (vs_if (vt_cmp (od_eq hr.units) (ve_var 2) (ve_lst false va_nil)) (vss_one (vs_set 2 sc__law_deck.nd (ve_lst true (va_cons ve_int va_nil)))) vss_nil)
      (vss_cons (vs_set 3 sc__law_deck.nd (ve_bin od_mod (ve_ix (ve_var 2) ve_int) ve_int))
      (vss_cons (vs_item (ve_bin od_fdiv (ve_ix (ve_var 2) ve_int) ve_int) (ve_var 2) ve_int)
      (vss_cons (vs_set 4 sc__law_deck.nd (ve_lst true va_nil))
      (vss_cons (vs_fb (vs_for (vs := [5]) hp rfl (vi_range1 (by rfl) T.z_range (va_cons (ve_var 1) va_nil)) (vg_name 5 sc__law_deck.nd) (vss_fa (vss_cons (vs_set 6 sc__law_deck.nd (ve_bin od_mod (ve_var 5) (ve_callB cd_len (by rfl) T.z_len (by decide +kernel) (va_cons (ve_var 2) va_nil))))
      (vss_cons (vs_set 7 sc__law_deck.nd (ve_bin od_mod (ve_ix (ve_var 2) (ve_var 6)) ve_int))
      (vss_cons (vs_if (vt_cmp (od_eq hr.units) (ve_var 3) ve_int) (vss_cons (vs_set 7 sc__law_deck.nd (ve_bin od_mod (ve_bin od_add (ve_bin od_add (ve_ix (ve_var 2) (ve_var 6)) (ve_bin od_mul (ve_bin od_mul (ve_var 5) (ve_var 5)) ve_int)) (ve_bin od_mul ve_int (ve_var 5))) ve_int))
      (vss_cons (vs_set 7 sc__law_deck.nd (ve_bin od_mod (ve_bin od_add (ve_bin od_mul (ve_var 7) (ve_ix (ve_lst false (va_cons ve_int (va_cons ve_int (va_cons ve_int (va_cons ve_int va_nil))))) (ve_bin od_mod (ve_var 5) ve_int))) ve_int) ve_int))
      (vss_one (vs_set 7 sc__law_deck.nd (ve_bin od_mod (ve_bin od_mul (ve_var 7) (ve_var 7)) ve_int))))) (vss_one (vs_item (ve_bin od_fdiv (ve_ix (ve_var 2) (ve_var 6)) ve_int) (ve_var 2) (ve_var 6))))
      (vss_one (vs_expr (ve_ml PySem.F.slot_list_append PySem.F.type_list_append md_append (ve_var 4) (va_cons (ve_var 7) va_nil))))))))))
      (vss_cons (vs_expr (ve_ml0 PySem.F.slot_list_reverse PySem.F.type_list_reverse md_reverse (ve_var 4)))
      (vss_one (vs_ret (ve_var 4))))))))))
theorem ok__law_whole (T : Txt K mg A) : FnOk P w K mg base (L2.CX P w) 1 A.f__law_whole A.d__law_whole ["_law_thing", "_law_least", "_law_most"] (spF K mg 3 F__law_whole) := by
    refine fn_ok (k := 0) .trunc T.u__law_whole sc__law_whole fun cdv Ar outer s H E hr => ?_
    have tk := takes_of (X := cxOf (L2.CX P w) P w K mg base ["_law_thing", "_law_least", "_law_most"] "_law_whole" (defScope s__law_whole) A.f__law_whole cdv Ar outer s H E) rfl rfl rfl rfl
    have hp := passes_of (X := cxOf (L2.CX P w) P w K mg base ["_law_thing", "_law_least", "_law_most"] "_law_whole" (defScope s__law_whole) A.f__law_whole cdv Ar outer s H E) rfl
    exact (vss_one (vs_ret (ve_and (ve_isi (ve_var 0) (by rfl) T.z_isinstance (by rfl) T.z_int (by decide +kernel) (by decide)) (ve_and (ve_not (ve_isi (ve_var 0) (by rfl) T.z_isinstance (by rfl) T.z_bool (by decide +kernel) (by decide))) (ve_one (ve_chain od_le od_le (ve_var 1) (ve_var 0) (ve_var 2)))))))
theorem ok__law_lists_n (T : Txt K mg A) : ∀ m : Nat, FnOk P w K mg base (L2.CX P w) (0 + m) A.f__law_lists A.d__law_lists ["_law_thing"] (spF K mg 1 (F__law_lists m))
  | 0 => ⟨fun vs H Q E h => h.1, fun A outer s H args us vs Q E _ _ _ _ h => by obtain ⟨_, G, ms, ds, h, hh, i, q⟩ := h; exact q.elim⟩
  | m + 1 => by
    have hself := ok__law_lists_n T m
    refine fn_ok (k := 0 + m) .trunc T.u__law_lists sc__law_lists fun cdv Ar outer s H E hr => ?_
    have tk := takes_of (X := cxOf (L2.CX P w) P w K mg base ["_law_thing", "_law_one"] "_law_lists" (defScope s__law_lists) A.f__law_lists cdv Ar outer s H E) rfl rfl rfl rfl
    have hp := passes_of (X := cxOf (L2.CX P w) P w K mg base ["_law_thing", "_law_one"] "_law_lists" (defScope s__law_lists) A.f__law_lists cdv Ar outer s H E) rfl
    exact (vss_cons (vs_if (vt_val (ve_isiT (ve_var 0) (by rfl) T.z_isinstance (by rfl) T.z_list (by decide +kernel) (by rfl) T.z_tuple (by decide +kernel) (by decide) (by decide))) (vss_one (vs_ret (ve_comp false [("_law_one", 1)] rfl sc__law_lists.nd (vi_row (ve_var 0)) (blkOk_by (own := [("_law_one", 1)]) (N := ["_law_thing", "_law_one"]) (sc := defScope s__law_lists) (by decide +kernel)) (fun _ _ _ _ _ => (vg_name 1 sc__law_lists.nd)) (fun _ _ _ _ _ => vts_nil) (fun _ _ _ _ _ => (ve_call hself (hr.mono (by omega)) (by rfl) T.g__law_lists T.u__law_lists.kp T.b__law_lists takes0 (va_cons (ve_var 1) va_nil)))))) vss_nil)
      (vss_one (vs_ret (ve_var 0))))
theorem ok__law_lists (T : Txt K mg A) : FnOk P w K mg base (L2.CX P w) 46 A.f__law_lists A.d__law_lists ["_law_thing"] (spF K mg 1 (F__law_lists 45)) := (ok__law_lists_n T 45).mono (by decide)
theorem ok__law_handed (T : Txt K mg A) : FnOk P w K mg base (L2.CX P w) 47 A.f__law_handed A.d__law_handed ["_law_thing", "_law_draw"] (spF K mg 2 F__law_handed) := by
    refine fn_ok (k := 46) .trunc T.u__law_handed sc__law_handed fun cdv Ar outer s H E hr => ?_
    have tk := takes_of (X := cxOf (L2.CX P w) P w K mg base ["_law_thing", "_law_draw"] "_law_handed" (defScope s__law_handed) A.f__law_handed cdv Ar outer s H E) rfl rfl rfl rfl
    have hp := passes_of (X := cxOf (L2.CX P w) P w K mg base ["_law_thing", "_law_draw"] "_law_handed" (defScope s__law_handed) A.f__law_handed cdv Ar outer s H E) rfl
    exact (vss_cons (vs_if (vt_cmp (od_eq hr.units) (ve_bin od_mod (ve_var 1) ve_int) ve_int) (vss_one (vs_ret (ve_var 0))) vss_nil)
      (vss_one (vs_ret (ve_call (ok__law_lists T) (hr.mono (by first | decide | omega)) (by rfl) T.g__law_lists T.u__law_lists.kp T.b__law_lists tk (va_cons (ve_var 0) va_nil)))))
theorem ok__law_odd (T : Txt K mg A) : FnOk P w K mg base (L2.CX P w) 1 A.f__law_odd A.d__law_odd ["_law_draw"] (spF K mg 1 F__law_odd) := by
    refine fn_ok (k := 0) .trunc T.u__law_odd sc__law_odd fun cdv Ar outer s H E hr => ?_
    have tk := takes_of (X := cxOf (L2.CX P w) P w K mg base ["_law_draw", "_law_some"] "_law_odd" (defScope s__law_odd) A.f__law_odd cdv Ar outer s H E) rfl rfl rfl rfl
    have hp := passes_of (X := cxOf (L2.CX P w) P w K mg base ["_law_draw", "_law_some"] "_law_odd" (defScope s__law_odd) A.f__law_odd cdv Ar outer s H E) rfl
    exact (vss_cons (vs_set 1 sc__law_odd.nd (ve_lst false (va_cons ve_non (va_cons ve_bl (va_cons ve_bl (va_cons ve_str (va_cons ve_str (va_cons (ve_tup va_nil) (va_cons (ve_lst false va_nil) (va_cons ve_dict0 (va_cons (ve_tup (va_cons ve_int va_nil)) (va_cons (ve_lst false (va_cons (ve_lst false (va_cons ve_int va_nil)) va_nil)) (va_cons (ve_neg ve_int) (va_cons (ve_bin od_pow ve_int ve_int) (va_cons (ve_bin od_sub ve_int (ve_bin od_pow ve_int ve_int)) (va_cons ve_str (va_cons ve_dict1 (va_cons (ve_tup (va_cons ve_non va_nil)) va_nil))))))))))))))))))
      (vss_one (vs_ret (ve_ix (ve_var 1) (ve_bin od_mod (ve_var 0) ve_int)))))
theorem ok__law_truth (T : Txt K mg A) : FnOk P w K mg base (L2.CX P w) 1 A.f__law_truth A.d__law_truth ["_law_found", "_law_due"] (spF K mg 2 F__law_truth) := by
    refine fn_ok (k := 0) .trunc T.u__law_truth sc__law_truth fun cdv Ar outer s H E hr => ?_
    have tk := takes_of (X := cxOf (L2.CX P w) P w K mg base ["_law_found", "_law_due"] "_law_truth" (defScope s__law_truth) A.f__law_truth cdv Ar outer s H E) rfl rfl rfl rfl
    have hp := passes_of (X := cxOf (L2.CX P w) P w K mg base ["_law_found", "_law_due"] "_law_truth" (defScope s__law_truth) A.f__law_truth cdv Ar outer s H E) rfl
    exact (vss_one (vs_ret (ve_and (ve_isi (ve_var 0) (by rfl) T.z_isinstance (by rfl) T.z_bool (by decide +kernel) (by decide)) (ve_one (ve_cmp (od_eq hr.units) (ve_var 0) (ve_var 1))))))
theorem ok__law_is_day (T : Txt K mg A) : FnOk P w K mg base (L2.CX P w) 2 A.f__law_is_day A.d__law_is_day ["_law_many", "_law_thing"] (spF K mg 2 F__law_is_day) := by
    refine fn_ok (k := 1) .trunc T.u__law_is_day sc__law_is_day fun cdv Ar outer s H E hr => ?_
    have tk := takes_of (X := cxOf (L2.CX P w) P w K mg base ["_law_many", "_law_thing", "_law_one"] "_law_is_day" (defScope s__law_is_day) A.f__law_is_day cdv Ar outer s H E) rfl rfl rfl rfl
    have hp := passes_of (X := cxOf (L2.CX P w) P w K mg base ["_law_many", "_law_thing", "_law_one"] "_law_is_day" (defScope s__law_is_day) A.f__law_is_day cdv Ar outer s H E) rfl
    exact (vss_cons (vs_if (vt_w (vw_or (vt_not (vt_val (ve_isiT (ve_var 1) (by rfl) T.z_isinstance (by rfl) T.z_list (by decide +kernel) (by rfl) T.z_tuple (by decide +kernel) (by decide) (by decide)))) (vw_or1 (vt_cmp od_gt (ve_callB cd_len (by rfl) T.z_len (by decide +kernel) (va_cons (ve_var 1) va_nil)) ve_int)))) (vss_one (vs_ret ve_bl)) vss_nil)
      (vss_cons (vs_if (vt_cmp (od_ne hr.units) (ve_comp false [("_law_one", 2)] rfl sc__law_is_day.nd (vi_row (ve_var 1)) (blkOk_by (own := [("_law_one", 2)]) (N := ["_law_many", "_law_thing", "_law_one"]) (sc := defScope s__law_is_day) (by decide +kernel)) (fun _ _ _ _ _ => (vg_name 2 sc__law_is_day.nd)) (fun _ _ _ _ _ => (vts_one (vt_not (vt_val (ve_call (ok__law_whole T) (hr.mono (by first | decide | omega)) (by rfl) T.g__law_whole T.u__law_whole.kp T.b__law_whole takes0 (va_cons (ve_var 2) (va_cons ve_int (va_cons (ve_bin od_sub (ve_var 0) ve_int) va_nil)))))))) (fun _ _ _ _ _ => (ve_var 2))) (ve_lst false va_nil)) (vss_one (vs_ret ve_bl)) vss_nil)
      (vss_one (vs_ret (ve_or (ve_cmp od_lt (ve_callB cd_len (by rfl) T.z_len (by decide +kernel) (va_cons (ve_var 1) va_nil)) ve_int) (ve_one (ve_cmp od_lt (ve_ix (ve_var 1) ve_int) (ve_ix (ve_var 1) ve_int))))))))
theorem ok__law_is_ring (T : Txt K mg A) : FnOk P w K mg base (L2.CX P w) 3 A.f__law_is_ring A.d__law_is_ring ["_law_many", "_law_thing"] (spF K mg 2 F__law_is_ring) := by
    refine fn_ok (k := 2) .trunc T.u__law_is_ring sc__law_is_ring fun cdv Ar outer s H E hr => ?_
    have tk := takes_of (X := cxOf (L2.CX P w) P w K mg base ["_law_many", "_law_thing", "_law_day_here"] "_law_is_ring" (defScope s__law_is_ring) A.f__law_is_ring cdv Ar outer s H E) rfl rfl rfl rfl
    have hp := passes_of (X := cxOf (L2.CX P w) P w K mg base ["_law_many", "_law_thing", "_law_day_here"] "_law_is_ring" (defScope s__law_is_ring) A.f__law_is_ring cdv Ar outer s H E) rfl
    exact (vss_cons (vs_if (vt_w (vw_or (vt_not (vt_val (ve_isiT (ve_var 1) (by rfl) T.z_isinstance (by rfl) T.z_list (by decide +kernel) (by rfl) T.z_tuple (by decide +kernel) (by decide) (by decide)))) (vw_or1 (vt_not (vt_chain od_le od_le ve_int (ve_callB cd_len (by rfl) T.z_len (by decide +kernel) (va_cons (ve_var 1) va_nil)) ve_int))))) (vss_one (vs_ret ve_bl)) vss_nil)
      (vss_one (vs_ret (ve_cmp (od_eq hr.units) (ve_comp false [("_law_day_here", 2)] rfl sc__law_is_ring.nd (vi_row (ve_var 1)) (blkOk_by (own := [("_law_day_here", 2)]) (N := ["_law_many", "_law_thing", "_law_day_here"]) (sc := defScope s__law_is_ring) (by decide +kernel)) (fun _ _ _ _ _ => (vg_name 2 sc__law_is_ring.nd)) (fun _ _ _ _ _ => (vts_one (vt_not (vt_val (ve_call (ok__law_is_day T) (hr.mono (by first | decide | omega)) (by rfl) T.g__law_is_day T.u__law_is_day.kp T.b__law_is_day takes0 (va_cons (ve_var 0) (va_cons (ve_var 2) va_nil))))))) (fun _ _ _ _ _ => (ve_var 2))) (ve_lst false va_nil)))))
theorem ok__law_day (T : Txt K mg A) : FnOk P w K mg base (L2.CX P w) 1 A.f__law_day A.d__law_day ["_law_deck_here", "_law_many"] (spF K mg 2 F__law_day) := by
    refine fn_ok (k := 0) .trunc T.u__law_day sc__law_day fun cdv Ar outer s H E hr => ?_
    have tk := takes_of (X := cxOf (L2.CX P w) P w K mg base ["_law_deck_here", "_law_many", "_law_draw", "_law_i", "_law_j"] "_law_day" (defScope s__law_day) A.f__law_day cdv Ar outer s H E) rfl rfl rfl rfl
    have hp := passes_of (X := cxOf (L2.CX P w) P w K mg base ["_law_deck_here", "_law_many", "_law_draw", "_law_i", "_law_j"] "_law_day" (defScope s__law_day) A.f__law_day cdv Ar outer s H E) rfl
    exact (vss_cons (vs_set 2 sc__law_day.nd (ve_ml0 PySem.F.slot_list_pop PySem.F.type_list_pop md_pop (ve_var 0)))
      (vss_cons (vs_if (vt_w (vw_or (vt_cmp (od_eq hr.units) (ve_var 1) ve_int) (vw_or1 (vt_cmp (od_eq hr.units) (ve_bin od_mod (ve_var 2) ve_int) ve_int)))) (vss_one (vs_ret (ve_tup va_nil))) vss_nil)
      (vss_cons (vs_set 3 sc__law_day.nd (ve_bin od_mod (ve_bin od_fdiv (ve_var 2) ve_int) (ve_var 1)))
      (vss_cons (vs_set 4 sc__law_day.nd (ve_bin od_mod (ve_bin od_fdiv (ve_var 2) ve_int) (ve_var 1)))
      (vss_cons (vs_if (vt_w (vw_or (vt_cmp od_gt (ve_bin od_mod (ve_bin od_fdiv (ve_var 2) ve_int) ve_int) ve_int) (vw_or1 (vt_cmp (od_eq hr.units) (ve_var 3) (ve_var 4))))) (vss_one (vs_ret (ve_tup (va_cons (ve_var 3) va_nil)))) vss_nil)
      (vss_one (vs_ret (ve_tup (va_cons (ve_callB (cd_min rfl) (by rfl) T.z_min (by decide +kernel) (va_cons (ve_var 3) (va_cons (ve_var 4) va_nil))) (va_cons (ve_callB (cd_max rfl) (by rfl) T.z_max (by decide +kernel) (va_cons (ve_var 3) (va_cons (ve_var 4) va_nil))) va_nil))))))))))
theorem ok__law_bent (T : Txt K mg A) : FnOk P w K mg base (L2.CX P w) 2 A.f__law_bent A.d__law_bent ["_law_deck_here", "_law_many"] (spF K mg 2 F__law_bent) := by
    refine fn_ok (k := 1) .trunc T.u__law_bent sc__law_bent fun cdv Ar outer s H E hr => ?_
    have tk := takes_of (X := cxOf (L2.CX P w) P w K mg base ["_law_deck_here", "_law_many", "_law_draw", "_law_i", "_law_some"] "_law_bent" (defScope s__law_bent) A.f__law_bent cdv Ar outer s H E) rfl rfl rfl rfl
    have hp := passes_of (X := cxOf (L2.CX P w) P w K mg base ["_law_deck_here", "_law_many", "_law_draw", "_law_i", "_law_some"] "_law_bent" (defScope s__law_bent) A.f__law_bent cdv Ar outer s H E) rfl
    exact (vss_cons (vs_set 2 sc__law_bent.nd (ve_ml0 PySem.F.slot_list_pop PySem.F.type_list_pop md_pop (ve_var 0)))
      (vss_cons (vs_set 3 sc__law_bent.nd (ve_bin od_mod (ve_bin od_fdiv (ve_var 2) ve_int) ve_int))
      (vss_cons (vs_set 4 sc__law_bent.nd (ve_lst true (va_cons (ve_tup (va_cons ve_int (va_cons ve_int va_nil))) (va_cons (ve_tup (va_cons (ve_var 3) (va_cons (ve_var 3) va_nil))) (va_cons (ve_tup (va_cons ve_int (va_cons ve_int (va_cons ve_int va_nil)))) (va_cons (ve_tup (va_cons (ve_var 1) va_nil)) (va_cons (ve_tup (va_cons (ve_neg ve_int) va_nil)) (va_cons (ve_tup (va_cons ve_bl va_nil)) (va_cons (ve_tup (va_cons ve_str va_nil)) (va_cons (ve_tup (va_cons (ve_var 3) (va_cons (ve_var 1) va_nil))) (va_cons (ve_tup (va_cons ve_int (va_cons ve_int va_nil))) (va_cons (ve_tup (va_cons ve_int (va_cons ve_bl va_nil))) (va_cons (ve_lst false (va_cons (ve_var 3) (va_cons ve_non va_nil))) va_nil)))))))))))))
      (vss_cons (vs_expr (ve_ml PySem.F.slot_list_append PySem.F.type_list_append md_append (ve_var 4) (va_cons (ve_tup (va_cons (ve_var 3) (va_cons (ve_neg ve_int) va_nil))) va_nil)))
      (vss_one (vs_ret (ve_ix (ve_bin od_add (ve_var 4) (ve_lst false (va_cons (ve_call (ok__law_odd T) (hr.mono (by first | decide | omega)) (by rfl) T.g__law_odd T.u__law_odd.kp T.b__law_odd tk (va_cons (ve_bin od_fdiv (ve_var 2) ve_int) va_nil)) (va_cons (ve_tup (va_cons (ve_bin od_sub (ve_var 1) ve_int) (va_cons (ve_var 1) va_nil))) (va_cons (ve_lst false (va_cons ve_int (va_cons ve_int va_nil))) (va_cons (ve_tup (va_cons ve_int (va_cons ve_int va_nil))) va_nil)))))) (ve_bin od_mod (ve_var 2) ve_int))))))))
theorem ok__law_ring (T : Txt K mg A) : FnOk P w K mg base (L2.CX P w) 48 A.f__law_ring A.d__law_ring ["_law_deck_here", "_law_many"] (spF K mg 2 F__law_ring) := by
    refine fn_ok (k := 47) .trunc T.u__law_ring sc__law_ring fun cdv Ar outer s H E hr => ?_
    have tk := takes_of (X := cxOf (L2.CX P w) P w K mg base ["_law_deck_here", "_law_many", "_law_draw", "_law_found", "_law_k"] "_law_ring" (defScope s__law_ring) A.f__law_ring cdv Ar outer s H E) rfl rfl rfl rfl
    have hp := passes_of (X := cxOf (L2.CX P w) P w K mg base ["_law_deck_here", "_law_many", "_law_draw", "_law_found", "_law_k"] "_law_ring" (defScope s__law_ring) A.f__law_ring cdv Ar outer s H E) rfl
    exact (vss_cons (vs_set 2 sc__law_ring.nd (ve_ml0 PySem.F.slot_list_pop PySem.F.type_list_pop md_pop (ve_var 0)))
      (vss_cons (vs_setComp true 3 [("_law_k", 4)] rfl sc__law_ring.nd (vi_range1 (by rfl) T.z_range (va_cons (ve_bin od_add ve_int (ve_bin od_mod (ve_var 2) ve_int)) va_nil)) (blkOk_by (own := [("_law_k", 4)]) (N := ["_law_deck_here", "_law_many", "_law_draw", "_law_found", "_law_k"]) (sc := defScope s__law_ring) (by decide +kernel)) (fun _ _ _ _ _ => (vg_name 4 sc__law_ring.nd)) (fun _ _ _ _ _ => vts_nil) (fun _ _ _ _ _ => (ve_call (ok__law_handed T) (hr.mono (by first | decide | omega)) (by rfl) T.g__law_handed T.u__law_handed.kp T.b__law_handed takes0 (va_cons (ve_call (ok__law_day T) (hr.mono (by first | decide | omega)) (by rfl) T.g__law_day T.u__law_day.kp T.b__law_day takes0 (va_cons (ve_var 0) (va_cons (ve_var 1) va_nil))) (va_cons (ve_ml0 PySem.F.slot_list_pop PySem.F.type_list_pop md_pop (ve_var 0)) va_nil)))))
      (vss_cons (vs_if (vt_cmp (od_eq hr.units) (ve_bin od_mod (ve_bin od_fdiv (ve_var 2) ve_int) ve_int) ve_int) (vss_one (vs_item (ve_call (ok__law_bent T) (hr.mono (by first | decide | omega)) (by rfl) T.g__law_bent T.u__law_bent.kp T.b__law_bent tk (va_cons (ve_var 0) (va_cons (ve_var 1) va_nil))) (ve_var 3) (ve_bin od_mod (ve_bin od_fdiv (ve_var 2) ve_int) (ve_callB cd_len (by rfl) T.z_len (by decide +kernel) (va_cons (ve_var 3) va_nil))))) vss_nil)
      (vss_one (vs_ret (ve_ix (ve_lst false (va_cons (ve_var 3) (va_cons (ve_callTy cd_tuple (by rfl) T.z_tuple (by decide +kernel) (va_cons (ve_var 3) va_nil)) va_nil))) (ve_bin od_mod (ve_bin od_fdiv (ve_var 2) ve_int) ve_int)))))))
theorem ok__law_other (T : Txt K mg A) : FnOk P w K mg base (L2.CX P w) 2 A.f__law_other A.d__law_other ["_law_draw"] (spF K mg 1 F__law_other) := by
    refine fn_ok (k := 1) .trunc T.u__law_other sc__law_other fun cdv Ar outer s H E hr => ?_
    have tk := takes_of (X := cxOf (L2.CX P w) P w K mg base ["_law_draw"] "_law_other" (defScope s__law_other) A.f__law_other cdv Ar outer s H E) rfl rfl rfl rfl
    have hp := passes_of (X := cxOf (L2.CX P w) P w K mg base ["_law_draw"] "_law_other" (defScope s__law_other) A.f__law_other cdv Ar outer s H E) rfl
    exact (vss_cons (vs_if (vt_cmp (od_eq hr.units) (ve_bin od_mod (ve_var 0) ve_int) ve_int) (vss_one (vs_ret (ve_ix (ve_lst false (va_cons (ve_tup va_nil) (va_cons (ve_lst false va_nil) (va_cons (ve_bin od_mul (ve_tup (va_cons (ve_tup va_nil) va_nil)) ve_int) (va_cons (ve_bin od_mul (ve_tup (va_cons (ve_tup va_nil) va_nil)) ve_int) (va_cons (ve_bin od_mul (ve_lst false (va_cons (ve_lst false va_nil) va_nil)) ve_int) (va_cons (ve_bin od_mul (ve_tup (va_cons (ve_tup (va_cons ve_int va_nil)) va_nil)) ve_int) va_nil))))))) (ve_bin od_mod (ve_bin od_fdiv (ve_var 0) ve_int) ve_int)))) vss_nil)
      (vss_one (vs_ret (ve_call (ok__law_odd T) (hr.mono (by first | decide | omega)) (by rfl) T.g__law_odd T.u__law_odd.kp T.b__law_odd tk (va_cons (ve_bin od_fdiv (ve_var 0) ve_int) va_nil)))))
theorem ok__law_asked (T : Txt K mg A) : FnOk P w K mg base (L2.CX P w) 50 A.f__law_asked A.d__law_asked ["_law_which", "_law_thing", "_law_numbers"] (spF K mg 3 F__law_asked) := by
    refine fn_ok (k := 49) .trunc T.u__law_asked sc__law_asked fun cdv Ar outer s H E hr => ?_
    have tk := takes_of (X := cxOf (L2.CX P w) P w K mg base ["_law_which", "_law_thing", "_law_numbers", "_law_good"] "_law_asked" (defScope s__law_asked) A.f__law_asked cdv Ar outer s H E) rfl rfl rfl rfl
    have hp := passes_of (X := cxOf (L2.CX P w) P w K mg base ["_law_which", "_law_thing", "_law_numbers", "_law_good"] "_law_asked" (defScope s__law_asked) A.f__law_asked cdv Ar outer s H E) rfl
    exact (vss_cons (vs_set 3 sc__law_asked.nd (ve_tup (va_cons (ve_tup (va_cons ve_int va_nil)) (va_cons (ve_tup va_nil) va_nil))))
      (vss_cons (vs_if (vt_cmp (od_eq hr.units) (ve_var 0) ve_int) (vss_one (vs_ret (ve_call (ok_gaps T) (hr.mono (by first | decide | omega)) (by rfl) T.g_gaps T.u_gaps.kp T.b_gaps tk (va_cons (ve_var 1) (va_cons ve_int va_nil))))) vss_nil)
      (vss_cons (vs_if (vt_cmp (od_eq hr.units) (ve_var 0) ve_int) (vss_one (vs_ret (ve_call (ok_widest T) (hr.mono (by first | decide | omega)) (by rfl) T.g_widest T.u_widest.kp T.b_widest tk (va_cons (ve_var 1) (va_cons ve_int va_nil))))) vss_nil)
      (vss_cons (vs_if (vt_cmp (od_eq hr.units) (ve_var 0) ve_int) (vss_one (vs_ret (ve_call (ok_turned T) (hr.mono (by first | decide | omega)) (by rfl) T.g_turned T.u_turned.kp T.b_turned tk (va_cons (ve_var 1) (va_cons ve_int va_nil))))) vss_nil)
      (vss_cons (vs_if (vt_cmp (od_eq hr.units) (ve_var 0) ve_int) (vss_one (vs_ret (ve_call (ok_short T) (hr.mono (by first | decide | omega)) (by rfl) T.g_short T.u_short.kp T.b_short tk (va_cons (ve_var 1) va_nil)))) vss_nil)
      (vss_cons (vs_if (vt_cmp (od_eq hr.units) (ve_var 0) ve_int) (vss_one (vs_ret (ve_call (ok_slowed T) (hr.mono (by first | decide | omega)) (by rfl) T.g_slowed T.u_slowed.kp T.b_slowed tk (va_cons (ve_var 1) (va_cons ve_int va_nil))))) vss_nil)
      (vss_cons (vs_if (vt_cmp (od_eq hr.units) (ve_var 0) ve_int) (vss_one (vs_ret (ve_call (ok_paired T) (hr.mono (by first | decide | omega)) (by rfl) T.g_paired T.u_paired.kp T.b_paired tk (va_cons (ve_var 1) (va_cons (ve_var 3) (va_cons ve_int va_nil)))))) vss_nil)
      (vss_cons (vs_if (vt_cmp (od_eq hr.units) (ve_var 0) ve_int) (vss_one (vs_ret (ve_call (ok_paired T) (hr.mono (by first | decide | omega)) (by rfl) T.g_paired T.u_paired.kp T.b_paired tk (va_cons (ve_var 3) (va_cons (ve_var 1) (va_cons ve_int va_nil)))))) vss_nil)
      (vss_cons (vs_if (vt_cmp (od_eq hr.units) (ve_var 0) ve_int) (vss_one (vs_ret (ve_call (ok_keeps T) (hr.mono (by first | decide | omega)) (by rfl) T.g_keeps T.u_keeps.kp T.b_keeps tk (va_cons (ve_var 2) (va_cons (ve_var 1) va_nil))))) vss_nil)
      (vss_one (vs_ret (ve_call (ok_first_lack T) (hr.mono (by first | decide | omega)) (by rfl) T.g_first_lack T.u_first_lack.kp T.b_first_lack tk (va_cons (ve_var 2) (va_cons (ve_var 1) va_nil))))))))))))))
theorem ok__law_refused (T : Txt K mg A) : FnOk P w K mg base (L2.CX P w) 51 A.f__law_refused A.d__law_refused ["_law_which", "_law_thing", "_law_numbers"] (spF K mg 3 F__law_refused) := by
    refine fn_ok (k := 50) .trunc T.u__law_refused sc__law_refused fun cdv Ar outer s H E hr => ?_
    have tk := takes_of (X := cxOf (L2.CX P w) P w K mg base ["_law_which", "_law_thing", "_law_numbers", "error"] "_law_refused" (defScope s__law_refused) A.f__law_refused cdv Ar outer s H E) rfl rfl rfl rfl
    have hp := passes_of (X := cxOf (L2.CX P w) P w K mg base ["_law_which", "_law_thing", "_law_numbers", "error"] "_law_refused" (defScope s__law_refused) A.f__law_refused cdv Ar outer s H E) rfl
    exact (vss_cons (vs_try 3 ["NoNumbers", "NoRing"] rfl rfl sc__law_refused.nd (by rfl) T.x_DaysError.g tk (exm_DaysError T) (fun W' pn xe tk' hp' => (vss_one (vs_expr (ve_call (ok__law_asked T) (hr.mono (by first | decide | omega)) (by rfl) T.g__law_asked T.u__law_asked.kp T.b__law_asked tk' (va_cons (ve_var 0) (va_cons (ve_var 1) (va_cons (ve_var 2) va_nil)))))))
      (fun a oe y pn hy hz hf => by
        have hK_NoNumbers : ∀ y ∈ (["NoNumbers", "NoRing"] : List Str), PySem.W.kitOne K (clsV mg ⟨y, none⟩) (.ref A.c_NoNumbers) = some (subX y "NoNumbers") := kit_NoNumbers T
        have hK_NoRing : ∀ y ∈ (["NoNumbers", "NoRing"] : List Str), PySem.W.kitOne K (clsV mg ⟨y, none⟩) (.ref A.c_NoRing) = some (subX y "NoRing") := kit_NoRing T
        have hK_ValueError : ∀ y ∈ (["NoNumbers", "NoRing"] : List Str), PySem.W.kitOne K (clsV mg ⟨y, none⟩) (.type "ValueError") = some (subX y "ValueError") := kit_ValueError T
        obtain ⟨Dc, eD, hC⟩ := exc_at T y hy
        replace hz : Zc (clsV mg ⟨y, none⟩) none oe := hz
        rw [eD] at hz
        have hKr := eD
        exact (vss_one (vs_ret (ve_and (ve_isE (c := .ref A.c_NoRing) (cv := .ref A.c_NoRing) 3 hC hz hf (by rw [← eD]; exact hK_NoRing y hy) (fun _ z => z) (pe_glob (v := .ref A.c_NoRing) (by rfl) T.x_NoRing.g rfl) List.mem_cons_self (by rfl) T.z_isinstance) (ve_and (ve_isE (c := .ty "ValueError") (cv := .type "ValueError") 3 hC hz hf (by rw [← eD]; exact hK_ValueError y hy) (fun _ z => z) (pe_bltn (v := .ty "ValueError") (by rfl) T.z_ValueError (by decide +kernel) rfl) List.mem_cons_self (by rfl) T.z_isinstance) (ve_one (ve_not (ve_isE (c := .ref A.c_NoNumbers) (cv := .ref A.c_NoNumbers) 3 hC hz hf (by rw [← eD]; exact hK_NoNumbers y hy) (fun _ z => z) (pe_glob (v := .ref A.c_NoNumbers) (by rfl) T.x_NoNumbers.g rfl) List.mem_cons_self (by rfl) T.z_isinstance)))))))))
      (vss_one (vs_ret ve_non)))
theorem ok_law (T : Txt K mg A) : FnOk P w K mg base (L2.CX P w) 52 A.f_law A.d_law ["_law_script"] (spF K mg 1 F_law) := by
    refine fn_ok (k := 51) .trunc T.u_law sc_law fun cdv Ar outer s H E hr => ?_
    have tk := takes_of (X := cxOf (L2.CX P w) P w K mg base ["_law_script", "_law_deck_here", "_law_turn", "_law_many", "_law_day_here", "_law_thing", "_law_which", "_law_asked_here", "_law_due"] "law" (defScope s_law) A.f_law cdv Ar outer s H E) rfl rfl rfl rfl
    have hp := passes_of (X := cxOf (L2.CX P w) P w K mg base ["_law_script", "_law_deck_here", "_law_turn", "_law_many", "_law_day_here", "_law_thing", "_law_which", "_law_asked_here", "_law_due"] "law" (defScope s_law) A.f_law cdv Ar outer s H E) rfl
    exact (vss_cons (vs_set 1 sc_law.nd (ve_call (ok__law_deck T) (hr.mono (by first | decide | omega)) (by rfl) T.g__law_deck T.u__law_deck.kp T.b__law_deck tk (va_cons (ve_var 0) (va_cons ve_int va_nil))))
      (vss_cons (vs_fb (vs_for (vs := [2]) hp rfl (vi_range1 (by rfl) T.z_range (va_cons ve_int va_nil)) (vg_name 2 sc_law.nd) (vss_fa (vss_cons (vs_set 3 sc_law.nd (ve_bin od_mod (ve_ml0 PySem.F.slot_list_pop PySem.F.type_list_pop md_pop (ve_var 1)) ve_int))
      (vss_cons (vs_set 4 sc_law.nd (ve_ix (ve_lst false (va_cons (ve_call (ok__law_day T) (hr.mono (by first | decide | omega)) (by rfl) T.g__law_day T.u__law_day.kp T.b__law_day tk (va_cons (ve_var 1) (va_cons (ve_var 3) va_nil))) (va_cons (ve_call (ok__law_bent T) (hr.mono (by first | decide | omega)) (by rfl) T.g__law_bent T.u__law_bent.kp T.b__law_bent tk (va_cons (ve_var 1) (va_cons (ve_var 3) va_nil))) va_nil))) (ve_bin od_mod (ve_ml0 PySem.F.slot_list_pop PySem.F.type_list_pop md_pop (ve_var 1)) ve_int)))
      (vss_cons (vs_if (vt_not (vt_val (ve_call (ok__law_truth T) (hr.mono (by first | decide | omega)) (by rfl) T.g__law_truth T.u__law_truth.kp T.b__law_truth tk (va_cons (ve_call (ok_is_day T) (hr.mono (by first | decide | omega)) (by rfl) T.g_is_day T.u_is_day.kp T.b_is_day tk (va_cons (ve_var 3) (va_cons (ve_var 4) va_nil))) (va_cons (ve_call (ok__law_is_day T) (hr.mono (by first | decide | omega)) (by rfl) T.g__law_is_day T.u__law_is_day.kp T.b__law_is_day tk (va_cons (ve_var 3) (va_cons (ve_var 4) va_nil))) va_nil))))) (vss_one (vs_ret ve_bl)) vss_nil)
      (vss_cons (vs_set 5 sc_law.nd (ve_call (ok__law_ring T) (hr.mono (by first | decide | omega)) (by rfl) T.g__law_ring T.u__law_ring.kp T.b__law_ring tk (va_cons (ve_var 1) (va_cons (ve_var 3) va_nil))))
      (vss_cons (vs_if (vt_cmp od_gt (ve_var 2) ve_int) (vss_one (vs_set 5 sc_law.nd (ve_call (ok__law_other T) (hr.mono (by first | decide | omega)) (by rfl) T.g__law_other T.u__law_other.kp T.b__law_other tk (va_cons (ve_ml0 PySem.F.slot_list_pop PySem.F.type_list_pop md_pop (ve_var 1)) va_nil)))) vss_nil)
      (vss_cons (vs_if (vt_not (vt_val (ve_call (ok__law_truth T) (hr.mono (by first | decide | omega)) (by rfl) T.g__law_truth T.u__law_truth.kp T.b__law_truth tk (va_cons (ve_call (ok_is_ring T) (hr.mono (by first | decide | omega)) (by rfl) T.g_is_ring T.u_is_ring.kp T.b_is_ring tk (va_cons (ve_var 3) (va_cons (ve_var 5) va_nil))) (va_cons (ve_call (ok__law_is_ring T) (hr.mono (by first | decide | omega)) (by rfl) T.g__law_is_ring T.u__law_is_ring.kp T.b__law_is_ring tk (va_cons (ve_var 3) (va_cons (ve_var 5) va_nil))) va_nil))))) (vss_one (vs_ret ve_bl)) vss_nil)
      (vss_one (vs_fb (vs_for (vs := [6]) hp rfl (vi_range1 (by rfl) T.z_range (va_cons ve_int va_nil)) (vg_name 6 sc_law.nd) (vss_fa (vss_cons (vs_set 7 sc_law.nd (ve_ix (ve_lst false (va_cons ve_int (va_cons (ve_var 3) va_nil))) (ve_callTy cd_int (by rfl) T.z_int (by decide +kernel) (va_cons (ve_cmp od_gt (ve_var 6) ve_int) va_nil))))
      (vss_cons (vs_set 8 sc_law.nd (ve_ix (ve_lst false (va_cons ve_bl (va_cons ve_non va_nil))) (ve_callTy cd_int (by rfl) T.z_int (by decide +kernel) (va_cons (ve_call (ok__law_is_ring T) (hr.mono (by first | decide | omega)) (by rfl) T.g__law_is_ring T.u__law_is_ring.kp T.b__law_is_ring tk (va_cons (ve_var 7) (va_cons (ve_var 5) va_nil))) va_nil))))
      (vss_cons (vs_if (vt_w (vw_and (vt_cmp od_in (ve_var 6) (ve_tup (va_cons ve_int (va_cons ve_int va_nil)))) (vw_and (vt_cmp od_is (ve_var 8) ve_non) (vw_and1 (vt_cmp od_gt (ve_callB cd_len (by rfl) T.z_len (by decide +kernel) (va_cons (ve_var 5) va_nil)) ve_int))))) (vss_one (vs_set 8 sc_law.nd ve_bl)) vss_nil)
      (vss_one (vs_if (vt_cmp (od_ne hr.units) (ve_call (ok__law_refused T) (hr.mono (by first | decide | omega)) (by rfl) T.g__law_refused T.u__law_refused.kp T.b__law_refused tk (va_cons (ve_var 6) (va_cons (ve_var 5) (va_cons (ve_bin od_mul (ve_tup (va_cons ve_int va_nil)) (ve_var 3)) va_nil)))) (ve_var 8)) (vss_one (vs_ret ve_bl)) vss_nil))))))))))))))))))
      (vss_one (vs_ret ve_bl))))
end
theorem all_mk {l : PySem.W.OpenLaw} {w : World} {K : PySem.W.Frag} {h : Heap} {mg : Str → Option Value} {fa : Addr} (X : K.In h) (G : h.Ns mainGlobals mg) (hfa : mg "law" = some (.ref fa))
    {f0 : Addr} {od0 an0 : Option Addr} {sl0 : Array (Option Value)} {oc0 kV0 dc0 pm0 cd0 ct0 : Value}
    {f1 : Addr} {od1 an1 : Option Addr} {sl1 : Array (Option Value)} {oc1 kV1 dc1 pm1 cd1 ct1 : Value}
    {f2 : Addr} {od2 an2 : Option Addr} {sl2 : Array (Option Value)} {oc2 kV2 dc2 pm2 cd2 ct2 : Value}
    {f3 : Addr} {od3 an3 : Option Addr} {sl3 : Array (Option Value)} {oc3 kV3 dc3 pm3 cd3 ct3 : Value}
    {f4 : Addr} {od4 an4 : Option Addr} {sl4 : Array (Option Value)} {oc4 kV4 dc4 pm4 cd4 ct4 : Value}
    {f5 : Addr} {od5 an5 : Option Addr} {sl5 : Array (Option Value)} {oc5 kV5 dc5 pm5 cd5 ct5 : Value}
    {f6 : Addr} {od6 an6 : Option Addr} {sl6 : Array (Option Value)} {oc6 kV6 dc6 pm6 cd6 ct6 : Value}
    {f7 : Addr} {od7 an7 : Option Addr} {sl7 : Array (Option Value)} {oc7 kV7 dc7 pm7 cd7 ct7 : Value}
    {f8 : Addr} {od8 an8 : Option Addr} {sl8 : Array (Option Value)} {oc8 kV8 dc8 pm8 cd8 ct8 : Value}
    {f9 : Addr} {od9 an9 : Option Addr} {sl9 : Array (Option Value)} {oc9 kV9 dc9 pm9 cd9 ct9 : Value}
    {f10 : Addr} {od10 an10 : Option Addr} {sl10 : Array (Option Value)} {oc10 kV10 dc10 pm10 cd10 ct10 : Value}
    {f11 : Addr} {od11 an11 : Option Addr} {sl11 : Array (Option Value)} {oc11 kV11 dc11 pm11 cd11 ct11 : Value}
    {f12 : Addr} {od12 an12 : Option Addr} {sl12 : Array (Option Value)} {oc12 kV12 dc12 pm12 cd12 ct12 : Value}
    {f13 : Addr} {od13 an13 : Option Addr} {sl13 : Array (Option Value)} {oc13 kV13 dc13 pm13 cd13 ct13 : Value}
    {f14 : Addr} {od14 an14 : Option Addr} {sl14 : Array (Option Value)} {oc14 kV14 dc14 pm14 cd14 ct14 : Value}
    {f15 : Addr} {od15 an15 : Option Addr} {sl15 : Array (Option Value)} {oc15 kV15 dc15 pm15 cd15 ct15 : Value}
    {f16 : Addr} {od16 an16 : Option Addr} {sl16 : Array (Option Value)} {oc16 kV16 dc16 pm16 cd16 ct16 : Value}
    {f17 : Addr} {od17 an17 : Option Addr} {sl17 : Array (Option Value)} {oc17 kV17 dc17 pm17 cd17 ct17 : Value}
    {f18 : Addr} {od18 an18 : Option Addr} {sl18 : Array (Option Value)} {oc18 kV18 dc18 pm18 cd18 ct18 : Value}
    {f19 : Addr} {od19 an19 : Option Addr} {sl19 : Array (Option Value)} {oc19 kV19 dc19 pm19 cd19 ct19 : Value}
    {f20 : Addr} {od20 an20 : Option Addr} {sl20 : Array (Option Value)} {oc20 kV20 dc20 pm20 cd20 ct20 : Value}
    {f21 : Addr} {od21 an21 : Option Addr} {sl21 : Array (Option Value)} {oc21 kV21 dc21 pm21 cd21 ct21 : Value}
    {f22 : Addr} {od22 an22 : Option Addr} {sl22 : Array (Option Value)} {oc22 kV22 dc22 pm22 cd22 ct22 : Value}
    {f23 : Addr} {od23 an23 : Option Addr} {sl23 : Array (Option Value)} {oc23 kV23 dc23 pm23 cd23 ct23 : Value}
    {f24 : Addr} {od24 an24 : Option Addr} {sl24 : Array (Option Value)} {oc24 kV24 dc24 pm24 cd24 ct24 : Value}
    {f25 : Addr} {od25 an25 : Option Addr} {sl25 : Array (Option Value)} {oc25 kV25 dc25 pm25 cd25 ct25 : Value}
    {f26 : Addr} {od26 an26 : Option Addr} {sl26 : Array (Option Value)} {oc26 kV26 dc26 pm26 cd26 ct26 : Value}
    {f27 : Addr} {od27 an27 : Option Addr} {sl27 : Array (Option Value)} {oc27 kV27 dc27 pm27 cd27 ct27 : Value}
    {f28 : Addr} {od28 an28 : Option Addr} {sl28 : Array (Option Value)} {oc28 kV28 dc28 pm28 cd28 ct28 : Value}
    {f29 : Addr} {od29 an29 : Option Addr} {sl29 : Array (Option Value)} {oc29 kV29 dc29 pm29 cd29 ct29 : Value}
    {f30 : Addr} {od30 an30 : Option Addr} {sl30 : Array (Option Value)} {oc30 kV30 dc30 pm30 cd30 ct30 : Value}
    {f31 : Addr} {od31 an31 : Option Addr} {sl31 : Array (Option Value)} {oc31 kV31 dc31 pm31 cd31 ct31 : Value}
    {f32 : Addr} {od32 an32 : Option Addr} {sl32 : Array (Option Value)} {oc32 kV32 dc32 pm32 cd32 ct32 : Value}
    {f33 : Addr} {od33 an33 : Option Addr} {sl33 : Array (Option Value)} {oc33 kV33 dc33 pm33 cd33 ct33 : Value}
    {f34 : Addr} {od34 an34 : Option Addr} {sl34 : Array (Option Value)} {oc34 kV34 dc34 pm34 cd34 ct34 : Value}
    {f35 : Addr} {od35 an35 : Option Addr} {sl35 : Array (Option Value)} {oc35 kV35 dc35 pm35 cd35 ct35 : Value}
    {f36 : Addr} {od36 an36 : Option Addr} {sl36 : Array (Option Value)} {oc36 kV36 dc36 pm36 cd36 ct36 : Value}
    {f37 : Addr} {od37 an37 : Option Addr} {sl37 : Array (Option Value)} {oc37 kV37 dc37 pm37 cd37 ct37 : Value}
    {f38 : Addr} {od38 an38 : Option Addr} {sl38 : Array (Option Value)} {oc38 kV38 dc38 pm38 cd38 ct38 : Value}
    {C_DaysError : Addr}
    {C_NoNumbers : Addr}
    {C_NoRing : Addr}
    {t_GREATEST : Tok}
    {t_LONGEST : Tok}
    {t_MOST_ON_A_DAY : Tok}
    {t_MOST_THINGS_gaps : Tok}
    {t_MOST_THINGS_numbers : Tok}
    {t_MOST_THINGS_turning : Tok}
    (a0 : PySem.W.nsIn K mainGlobals "is_whole" = some (some (.ref f0)))
    (l0 : K.lookup f0 = some ⟨oc0, od0, .func (PySem.W.fnOf "is_whole" "is_whole" (defArgs s_is_whole) (defBody s_is_whole) (defScope s_is_whole) .none kV0 dc0 pm0 an0 cd0 ct0), sl0⟩)
    (c0 : PySem.W.codeIn K cd0 "is_whole" = true)
    (k0 : PySem.W.keepIn K (.ref f0) = true)
    (a1 : PySem.W.nsIn K mainGlobals "is_row" = some (some (.ref f1)))
    (l1 : K.lookup f1 = some ⟨oc1, od1, .func (PySem.W.fnOf "is_row" "is_row" (defArgs s_is_row) (defBody s_is_row) (defScope s_is_row) .none kV1 dc1 pm1 an1 cd1 ct1), sl1⟩)
    (c1 : PySem.W.codeIn K cd1 "is_row" = true)
    (k1 : PySem.W.keepIn K (.ref f1) = true)
    (a2 : PySem.W.nsIn K mainGlobals "is_rising" = some (some (.ref f2)))
    (l2 : K.lookup f2 = some ⟨oc2, od2, .func (PySem.W.fnOf "is_rising" "is_rising" (defArgs s_is_rising) (defBody s_is_rising) (defScope s_is_rising) .none kV2 dc2 pm2 an2 cd2 ct2), sl2⟩)
    (c2 : PySem.W.codeIn K cd2 "is_rising" = true)
    (k2 : PySem.W.keepIn K (.ref f2) = true)
    (a3 : PySem.W.nsIn K mainGlobals "told_rows" = some (some (.ref f3)))
    (l3 : K.lookup f3 = some ⟨oc3, od3, .func (PySem.W.fnOf "told_rows" "told_rows" (defArgs s_told_rows) (defBody s_told_rows) (defScope s_told_rows) .none kV3 dc3 pm3 an3 cd3 ct3), sl3⟩)
    (c3 : PySem.W.codeIn K cd3 "told_rows" = true)
    (k3 : PySem.W.keepIn K (.ref f3) = true)
    (a4 : PySem.W.nsIn K mainGlobals "is_day" = some (some (.ref f4)))
    (l4 : K.lookup f4 = some ⟨oc4, od4, .func (PySem.W.fnOf "is_day" "is_day" (defArgs s_is_day) (defBody s_is_day) (defScope s_is_day) .none kV4 dc4 pm4 an4 cd4 ct4), sl4⟩)
    (c4 : PySem.W.codeIn K cd4 "is_day" = true)
    (k4 : PySem.W.keepIn K (.ref f4) = true)
    (a5 : PySem.W.nsIn K mainGlobals "are_days" = some (some (.ref f5)))
    (l5 : K.lookup f5 = some ⟨oc5, od5, .func (PySem.W.fnOf "are_days" "are_days" (defArgs s_are_days) (defBody s_are_days) (defScope s_are_days) .none kV5 dc5 pm5 an5 cd5 ct5), sl5⟩)
    (c5 : PySem.W.codeIn K cd5 "are_days" = true)
    (k5 : PySem.W.keepIn K (.ref f5) = true)
    (a6 : PySem.W.nsIn K mainGlobals "is_ring" = some (some (.ref f6)))
    (l6 : K.lookup f6 = some ⟨oc6, od6, .func (PySem.W.fnOf "is_ring" "is_ring" (defArgs s_is_ring) (defBody s_is_ring) (defScope s_is_ring) .none kV6 dc6 pm6 an6 cd6 ct6), sl6⟩)
    (c6 : PySem.W.codeIn K cd6 "is_ring" = true)
    (k6 : PySem.W.keepIn K (.ref f6) = true)
    (a7 : PySem.W.nsIn K mainGlobals "asked_ring" = some (some (.ref f7)))
    (l7 : K.lookup f7 = some ⟨oc7, od7, .func (PySem.W.fnOf "asked_ring" "asked_ring" (defArgs s_asked_ring) (defBody s_asked_ring) (defScope s_asked_ring) .none kV7 dc7 pm7 an7 cd7 ct7), sl7⟩)
    (c7 : PySem.W.codeIn K cd7 "asked_ring" = true)
    (k7 : PySem.W.keepIn K (.ref f7) = true)
    (a8 : PySem.W.nsIn K mainGlobals "is_numbers" = some (some (.ref f8)))
    (l8 : K.lookup f8 = some ⟨oc8, od8, .func (PySem.W.fnOf "is_numbers" "is_numbers" (defArgs s_is_numbers) (defBody s_is_numbers) (defScope s_is_numbers) .none kV8 dc8 pm8 an8 cd8 ct8), sl8⟩)
    (c8 : PySem.W.codeIn K cd8 "is_numbers" = true)
    (k8 : PySem.W.keepIn K (.ref f8) = true)
    (a9 : PySem.W.nsIn K mainGlobals "asked_numbers" = some (some (.ref f9)))
    (l9 : K.lookup f9 = some ⟨oc9, od9, .func (PySem.W.fnOf "asked_numbers" "asked_numbers" (defArgs s_asked_numbers) (defBody s_asked_numbers) (defScope s_asked_numbers) .none kV9 dc9 pm9 an9 cd9 ct9), sl9⟩)
    (c9 : PySem.W.codeIn K cd9 "asked_numbers" = true)
    (k9 : PySem.W.keepIn K (.ref f9) = true)
    (a10 : PySem.W.nsIn K mainGlobals "divisor" = some (some (.ref f10)))
    (l10 : K.lookup f10 = some ⟨oc10, od10, .func (PySem.W.fnOf "divisor" "divisor" (defArgs s_divisor) (defBody s_divisor) (defScope s_divisor) .none kV10 dc10 pm10 an10 cd10 ct10), sl10⟩)
    (c10 : PySem.W.codeIn K cd10 "divisor" = true)
    (k10 : PySem.W.keepIn K (.ref f10) = true)
    (a11 : PySem.W.nsIn K mainGlobals "common_of" = some (some (.ref f11)))
    (l11 : K.lookup f11 = some ⟨oc11, od11, .func (PySem.W.fnOf "common_of" "common_of" (defArgs s_common_of) (defBody s_common_of) (defScope s_common_of) .none kV11 dc11 pm11 an11 cd11 ct11), sl11⟩)
    (c11 : PySem.W.codeIn K cd11 "common_of" = true)
    (k11 : PySem.W.keepIn K (.ref f11) = true)
    (a12 : PySem.W.nsIn K mainGlobals "gaps_of" = some (some (.ref f12)))
    (l12 : K.lookup f12 = some ⟨oc12, od12, .func (PySem.W.fnOf "gaps_of" "gaps_of" (defArgs s_gaps_of) (defBody s_gaps_of) (defScope s_gaps_of) .none kV12 dc12 pm12 an12 cd12 ct12), sl12⟩)
    (c12 : PySem.W.codeIn K cd12 "gaps_of" = true)
    (k12 : PySem.W.keepIn K (.ref f12) = true)
    (a13 : PySem.W.nsIn K mainGlobals "is_kept" = some (some (.ref f13)))
    (l13 : K.lookup f13 = some ⟨oc13, od13, .func (PySem.W.fnOf "is_kept" "is_kept" (defArgs s_is_kept) (defBody s_is_kept) (defScope s_is_kept) .none kV13 dc13 pm13 an13 cd13 ct13), sl13⟩)
    (c13 : PySem.W.codeIn K cd13 "is_kept" = true)
    (k13 : PySem.W.keepIn K (.ref f13) = true)
    (a14 : PySem.W.nsIn K mainGlobals "lacks" = some (some (.ref f14)))
    (l14 : K.lookup f14 = some ⟨oc14, od14, .func (PySem.W.fnOf "lacks" "lacks" (defArgs s_lacks) (defBody s_lacks) (defScope s_lacks) .none kV14 dc14 pm14 an14 cd14 ct14), sl14⟩)
    (c14 : PySem.W.codeIn K cd14 "lacks" = true)
    (k14 : PySem.W.keepIn K (.ref f14) = true)
    (a15 : PySem.W.nsIn K mainGlobals "gaps" = some (some (.ref f15)))
    (l15 : K.lookup f15 = some ⟨oc15, od15, .func (PySem.W.fnOf "gaps" "gaps" (defArgs s_gaps) (defBody s_gaps) (defScope s_gaps) .none kV15 dc15 pm15 an15 cd15 ct15), sl15⟩)
    (c15 : PySem.W.codeIn K cd15 "gaps" = true)
    (k15 : PySem.W.keepIn K (.ref f15) = true)
    (a16 : PySem.W.nsIn K mainGlobals "widest" = some (some (.ref f16)))
    (l16 : K.lookup f16 = some ⟨oc16, od16, .func (PySem.W.fnOf "widest" "widest" (defArgs s_widest) (defBody s_widest) (defScope s_widest) .none kV16 dc16 pm16 an16 cd16 ct16), sl16⟩)
    (c16 : PySem.W.codeIn K cd16 "widest" = true)
    (k16 : PySem.W.keepIn K (.ref f16) = true)
    (a17 : PySem.W.nsIn K mainGlobals "keeps" = some (some (.ref f17)))
    (l17 : K.lookup f17 = some ⟨oc17, od17, .func (PySem.W.fnOf "keeps" "keeps" (defArgs s_keeps) (defBody s_keeps) (defScope s_keeps) .none kV17 dc17 pm17 an17 cd17 ct17), sl17⟩)
    (c17 : PySem.W.codeIn K cd17 "keeps" = true)
    (k17 : PySem.W.keepIn K (.ref f17) = true)
    (a18 : PySem.W.nsIn K mainGlobals "first_lack" = some (some (.ref f18)))
    (l18 : K.lookup f18 = some ⟨oc18, od18, .func (PySem.W.fnOf "first_lack" "first_lack" (defArgs s_first_lack) (defBody s_first_lack) (defScope s_first_lack) .none kV18 dc18 pm18 an18 cd18 ct18), sl18⟩)
    (c18 : PySem.W.codeIn K cd18 "first_lack" = true)
    (k18 : PySem.W.keepIn K (.ref f18) = true)
    (a19 : PySem.W.nsIn K mainGlobals "turned" = some (some (.ref f19)))
    (l19 : K.lookup f19 = some ⟨oc19, od19, .func (PySem.W.fnOf "turned" "turned" (defArgs s_turned) (defBody s_turned) (defScope s_turned) .none kV19 dc19 pm19 an19 cd19 ct19), sl19⟩)
    (c19 : PySem.W.codeIn K cd19 "turned" = true)
    (k19 : PySem.W.keepIn K (.ref f19) = true)
    (a20 : PySem.W.nsIn K mainGlobals "short" = some (some (.ref f20)))
    (l20 : K.lookup f20 = some ⟨oc20, od20, .func (PySem.W.fnOf "short" "short" (defArgs s_short) (defBody s_short) (defScope s_short) .none kV20 dc20 pm20 an20 cd20 ct20), sl20⟩)
    (c20 : PySem.W.codeIn K cd20 "short" = true)
    (k20 : PySem.W.keepIn K (.ref f20) = true)
    (a21 : PySem.W.nsIn K mainGlobals "slowed" = some (some (.ref f21)))
    (l21 : K.lookup f21 = some ⟨oc21, od21, .func (PySem.W.fnOf "slowed" "slowed" (defArgs s_slowed) (defBody s_slowed) (defScope s_slowed) .none kV21 dc21 pm21 an21 cd21 ct21), sl21⟩)
    (c21 : PySem.W.codeIn K cd21 "slowed" = true)
    (k21 : PySem.W.keepIn K (.ref f21) = true)
    (a22 : PySem.W.nsIn K mainGlobals "renumbered" = some (some (.ref f22)))
    (l22 : K.lookup f22 = some ⟨oc22, od22, .func (PySem.W.fnOf "renumbered" "renumbered" (defArgs s_renumbered) (defBody s_renumbered) (defScope s_renumbered) .none kV22 dc22 pm22 an22 cd22 ct22), sl22⟩)
    (c22 : PySem.W.codeIn K cd22 "renumbered" = true)
    (k22 : PySem.W.keepIn K (.ref f22) = true)
    (a23 : PySem.W.nsIn K mainGlobals "paired" = some (some (.ref f23)))
    (l23 : K.lookup f23 = some ⟨oc23, od23, .func (PySem.W.fnOf "paired" "paired" (defArgs s_paired) (defBody s_paired) (defScope s_paired) .none kV23 dc23 pm23 an23 cd23 ct23), sl23⟩)
    (c23 : PySem.W.codeIn K cd23 "paired" = true)
    (k23 : PySem.W.keepIn K (.ref f23) = true)
    (a24 : PySem.W.nsIn K mainGlobals "_law_deck" = some (some (.ref f24)))
    (l24 : K.lookup f24 = some ⟨oc24, od24, .func (PySem.W.fnOf "_law_deck" "_law_deck" (defArgs s__law_deck) (defBody s__law_deck) (defScope s__law_deck) .none kV24 dc24 pm24 an24 cd24 ct24), sl24⟩)
    (c24 : PySem.W.codeIn K cd24 "_law_deck" = true)
    (k24 : PySem.W.keepIn K (.ref f24) = true)
    (a25 : PySem.W.nsIn K mainGlobals "_law_whole" = some (some (.ref f25)))
    (l25 : K.lookup f25 = some ⟨oc25, od25, .func (PySem.W.fnOf "_law_whole" "_law_whole" (defArgs s__law_whole) (defBody s__law_whole) (defScope s__law_whole) .none kV25 dc25 pm25 an25 cd25 ct25), sl25⟩)
    (c25 : PySem.W.codeIn K cd25 "_law_whole" = true)
    (k25 : PySem.W.keepIn K (.ref f25) = true)
    (a26 : PySem.W.nsIn K mainGlobals "_law_lists" = some (some (.ref f26)))
    (l26 : K.lookup f26 = some ⟨oc26, od26, .func (PySem.W.fnOf "_law_lists" "_law_lists" (defArgs s__law_lists) (defBody s__law_lists) (defScope s__law_lists) .none kV26 dc26 pm26 an26 cd26 ct26), sl26⟩)
    (c26 : PySem.W.codeIn K cd26 "_law_lists" = true)
    (k26 : PySem.W.keepIn K (.ref f26) = true)
    (a27 : PySem.W.nsIn K mainGlobals "_law_handed" = some (some (.ref f27)))
    (l27 : K.lookup f27 = some ⟨oc27, od27, .func (PySem.W.fnOf "_law_handed" "_law_handed" (defArgs s__law_handed) (defBody s__law_handed) (defScope s__law_handed) .none kV27 dc27 pm27 an27 cd27 ct27), sl27⟩)
    (c27 : PySem.W.codeIn K cd27 "_law_handed" = true)
    (k27 : PySem.W.keepIn K (.ref f27) = true)
    (a28 : PySem.W.nsIn K mainGlobals "_law_odd" = some (some (.ref f28)))
    (l28 : K.lookup f28 = some ⟨oc28, od28, .func (PySem.W.fnOf "_law_odd" "_law_odd" (defArgs s__law_odd) (defBody s__law_odd) (defScope s__law_odd) .none kV28 dc28 pm28 an28 cd28 ct28), sl28⟩)
    (c28 : PySem.W.codeIn K cd28 "_law_odd" = true)
    (k28 : PySem.W.keepIn K (.ref f28) = true)
    (a29 : PySem.W.nsIn K mainGlobals "_law_truth" = some (some (.ref f29)))
    (l29 : K.lookup f29 = some ⟨oc29, od29, .func (PySem.W.fnOf "_law_truth" "_law_truth" (defArgs s__law_truth) (defBody s__law_truth) (defScope s__law_truth) .none kV29 dc29 pm29 an29 cd29 ct29), sl29⟩)
    (c29 : PySem.W.codeIn K cd29 "_law_truth" = true)
    (k29 : PySem.W.keepIn K (.ref f29) = true)
    (a30 : PySem.W.nsIn K mainGlobals "_law_is_day" = some (some (.ref f30)))
    (l30 : K.lookup f30 = some ⟨oc30, od30, .func (PySem.W.fnOf "_law_is_day" "_law_is_day" (defArgs s__law_is_day) (defBody s__law_is_day) (defScope s__law_is_day) .none kV30 dc30 pm30 an30 cd30 ct30), sl30⟩)
    (c30 : PySem.W.codeIn K cd30 "_law_is_day" = true)
    (k30 : PySem.W.keepIn K (.ref f30) = true)
    (a31 : PySem.W.nsIn K mainGlobals "_law_is_ring" = some (some (.ref f31)))
    (l31 : K.lookup f31 = some ⟨oc31, od31, .func (PySem.W.fnOf "_law_is_ring" "_law_is_ring" (defArgs s__law_is_ring) (defBody s__law_is_ring) (defScope s__law_is_ring) .none kV31 dc31 pm31 an31 cd31 ct31), sl31⟩)
    (c31 : PySem.W.codeIn K cd31 "_law_is_ring" = true)
    (k31 : PySem.W.keepIn K (.ref f31) = true)
    (a32 : PySem.W.nsIn K mainGlobals "_law_day" = some (some (.ref f32)))
    (l32 : K.lookup f32 = some ⟨oc32, od32, .func (PySem.W.fnOf "_law_day" "_law_day" (defArgs s__law_day) (defBody s__law_day) (defScope s__law_day) .none kV32 dc32 pm32 an32 cd32 ct32), sl32⟩)
    (c32 : PySem.W.codeIn K cd32 "_law_day" = true)
    (k32 : PySem.W.keepIn K (.ref f32) = true)
    (a33 : PySem.W.nsIn K mainGlobals "_law_bent" = some (some (.ref f33)))
    (l33 : K.lookup f33 = some ⟨oc33, od33, .func (PySem.W.fnOf "_law_bent" "_law_bent" (defArgs s__law_bent) (defBody s__law_bent) (defScope s__law_bent) .none kV33 dc33 pm33 an33 cd33 ct33), sl33⟩)
    (c33 : PySem.W.codeIn K cd33 "_law_bent" = true)
    (k33 : PySem.W.keepIn K (.ref f33) = true)
    (a34 : PySem.W.nsIn K mainGlobals "_law_ring" = some (some (.ref f34)))
    (l34 : K.lookup f34 = some ⟨oc34, od34, .func (PySem.W.fnOf "_law_ring" "_law_ring" (defArgs s__law_ring) (defBody s__law_ring) (defScope s__law_ring) .none kV34 dc34 pm34 an34 cd34 ct34), sl34⟩)
    (c34 : PySem.W.codeIn K cd34 "_law_ring" = true)
    (k34 : PySem.W.keepIn K (.ref f34) = true)
    (a35 : PySem.W.nsIn K mainGlobals "_law_other" = some (some (.ref f35)))
    (l35 : K.lookup f35 = some ⟨oc35, od35, .func (PySem.W.fnOf "_law_other" "_law_other" (defArgs s__law_other) (defBody s__law_other) (defScope s__law_other) .none kV35 dc35 pm35 an35 cd35 ct35), sl35⟩)
    (c35 : PySem.W.codeIn K cd35 "_law_other" = true)
    (k35 : PySem.W.keepIn K (.ref f35) = true)
    (a36 : PySem.W.nsIn K mainGlobals "_law_asked" = some (some (.ref f36)))
    (l36 : K.lookup f36 = some ⟨oc36, od36, .func (PySem.W.fnOf "_law_asked" "_law_asked" (defArgs s__law_asked) (defBody s__law_asked) (defScope s__law_asked) .none kV36 dc36 pm36 an36 cd36 ct36), sl36⟩)
    (c36 : PySem.W.codeIn K cd36 "_law_asked" = true)
    (k36 : PySem.W.keepIn K (.ref f36) = true)
    (a37 : PySem.W.nsIn K mainGlobals "_law_refused" = some (some (.ref f37)))
    (l37 : K.lookup f37 = some ⟨oc37, od37, .func (PySem.W.fnOf "_law_refused" "_law_refused" (defArgs s__law_refused) (defBody s__law_refused) (defScope s__law_refused) .none kV37 dc37 pm37 an37 cd37 ct37), sl37⟩)
    (c37 : PySem.W.codeIn K cd37 "_law_refused" = true)
    (k37 : PySem.W.keepIn K (.ref f37) = true)
    (a38 : PySem.W.nsIn K mainGlobals "law" = some (some (.ref f38)))
    (l38 : K.lookup f38 = some ⟨oc38, od38, .func (PySem.W.fnOf "law" "law" (defArgs s_law) (defBody s_law) (defScope s_law) .none kV38 dc38 pm38 an38 cd38 ct38), sl38⟩)
    (c38 : PySem.W.codeIn K cd38 "law" = true)
    (k38 : PySem.W.keepIn K (.ref f38) = true)
    (z_ValueError : PySem.W.nsIn K mainGlobals "ValueError" = some none)
    (z_bool : PySem.W.nsIn K mainGlobals "bool" = some none)
    (z_enumerate : PySem.W.nsIn K mainGlobals "enumerate" = some none)
    (z_int : PySem.W.nsIn K mainGlobals "int" = some none)
    (z_isinstance : PySem.W.nsIn K mainGlobals "isinstance" = some none)
    (z_len : PySem.W.nsIn K mainGlobals "len" = some none)
    (z_list : PySem.W.nsIn K mainGlobals "list" = some none)
    (z_max : PySem.W.nsIn K mainGlobals "max" = some none)
    (z_min : PySem.W.nsIn K mainGlobals "min" = some none)
    (z_range : PySem.W.nsIn K mainGlobals "range" = some none)
    (z_tuple : PySem.W.nsIn K mainGlobals "tuple" = some none)
    (z_zip : PySem.W.nsIn K mainGlobals "zip" = some none)
    (xa_DaysError : PySem.W.nsIn K mainGlobals "DaysError" = some (some (.ref C_DaysError)))
    (xq_DaysError : PySem.W.excIn K C_DaysError veBm "ValueError.__new__" = true)
    (xk_DaysError : PySem.W.keepIn K (.ref C_DaysError) = true)
    (xb_DaysError : PySem.W.subIn K (.ref C_DaysError) (.type "BaseException") = some true)
    (xt_DaysError : PySem.W.typeIn K (.ref C_DaysError) = some (.type "type"))
    (xa_NoNumbers : PySem.W.nsIn K mainGlobals "NoNumbers" = some (some (.ref C_NoNumbers)))
    (xq_NoNumbers : PySem.W.excIn K C_NoNumbers veBm "ValueError.__new__" = true)
    (xk_NoNumbers : PySem.W.keepIn K (.ref C_NoNumbers) = true)
    (xb_NoNumbers : PySem.W.subIn K (.ref C_NoNumbers) (.type "BaseException") = some true)
    (xt_NoNumbers : PySem.W.typeIn K (.ref C_NoNumbers) = some (.type "type"))
    (xa_NoRing : PySem.W.nsIn K mainGlobals "NoRing" = some (some (.ref C_NoRing)))
    (xq_NoRing : PySem.W.excIn K C_NoRing veBm "ValueError.__new__" = true)
    (xk_NoRing : PySem.W.keepIn K (.ref C_NoRing) = true)
    (xb_NoRing : PySem.W.subIn K (.ref C_NoRing) (.type "BaseException") = some true)
    (xt_NoRing : PySem.W.typeIn K (.ref C_NoRing) = some (.type "type"))
    (ehg_NoNumbers : PySem.W.findIn K (.ref C_NoNumbers) "__getattribute__" = some (some (.builtin "BaseException.__getattribute__")))
    (ehk_NoNumbers : PySem.W.findIn K (.ref C_NoNumbers) "__getattr__" = some none)
    (ehs_NoNumbers : PySem.W.subIn K (.ref C_NoNumbers) (.type "BaseException") = some true)
    (ehd_NoNumbers : PySem.W.hasDictIn K C_NoNumbers = true)
    (eha_NoNumbers : PySem.W.findIn K (.ref C_NoNumbers) "__class__" = some (some (.builtin "object.__class__")))
    (ehn_NoNumbers : PySem.W.specialIn K (.builtin "object.__class__") "__get__" = some (some (.builtin "getset_descriptor.__get__")))
    (eht_NoNumbers : PySem.W.takesIn K (.builtin "object.__class__") = some true)
    (ehm_NoNumbers : PySem.W.mroIn K C_NoNumbers (.type "object") = some true)
    (ehg_NoRing : PySem.W.findIn K (.ref C_NoRing) "__getattribute__" = some (some (.builtin "BaseException.__getattribute__")))
    (ehk_NoRing : PySem.W.findIn K (.ref C_NoRing) "__getattr__" = some none)
    (ehs_NoRing : PySem.W.subIn K (.ref C_NoRing) (.type "BaseException") = some true)
    (ehd_NoRing : PySem.W.hasDictIn K C_NoRing = true)
    (eha_NoRing : PySem.W.findIn K (.ref C_NoRing) "__class__" = some (some (.builtin "object.__class__")))
    (ehn_NoRing : PySem.W.specialIn K (.builtin "object.__class__") "__get__" = some (some (.builtin "getset_descriptor.__get__")))
    (eht_NoRing : PySem.W.takesIn K (.builtin "object.__class__") = some true)
    (ehm_NoRing : PySem.W.mroIn K C_NoRing (.type "object") = some true)
    (m_NoNumbers_DaysError : PySem.W.exmOne K (.ref C_NoNumbers) (.ref C_DaysError) = some true)
    (m_NoRing_DaysError : PySem.W.exmOne K (.ref C_NoRing) (.ref C_DaysError) = some true)
    (k_NoNumbers_NoNumbers : PySem.W.kitOne K (.ref C_NoNumbers) (.ref C_NoNumbers) = some true)
    (k_NoRing_NoNumbers : PySem.W.kitOne K (.ref C_NoRing) (.ref C_NoNumbers) = some false)
    (k_NoNumbers_NoRing : PySem.W.kitOne K (.ref C_NoNumbers) (.ref C_NoRing) = some false)
    (k_NoRing_NoRing : PySem.W.kitOne K (.ref C_NoRing) (.ref C_NoRing) = some true)
    (k_NoNumbers_ValueError : PySem.W.kitOne K (.ref C_NoNumbers) (.type "ValueError") = some true)
    (k_NoRing_ValueError : PySem.W.kitOne K (.ref C_NoRing) (.type "ValueError") = some true)
    (cc_GREATEST : PySem.W.nsIn K mainGlobals "GREATEST" = some (some (.int 40 t_GREATEST)))
    (cc_LONGEST : PySem.W.nsIn K mainGlobals "LONGEST" = some (some (.int 4000 t_LONGEST)))
    (cc_MOST_ON_A_DAY : PySem.W.nsIn K mainGlobals "MOST_ON_A_DAY" = some (some (.int 2 t_MOST_ON_A_DAY)))
    (cc_MOST_THINGS_gaps : PySem.W.nsIn K mainGlobals "MOST_THINGS_gaps" = some (some (.int 8 t_MOST_THINGS_gaps)))
    (cc_MOST_THINGS_numbers : PySem.W.nsIn K mainGlobals "MOST_THINGS_numbers" = some (some (.int 8 t_MOST_THINGS_numbers)))
    (cc_MOST_THINGS_turning : PySem.W.nsIn K mainGlobals "MOST_THINGS_turning" = some (some (.int 8 t_MOST_THINGS_turning))) :
    ∃ fd : FuncData, (∀ (s : Shared) (v : Value), BindsTo s fd ⟨[v], []⟩ [("_law_script", v)]) ∧ ∀ base : Heap, K.In base → base.Ns mainGlobals mg → FnOk l.prog w K mg base (L2.CX l.prog w) 52 fa fd ["_law_script"] (spL K F_law) := by
  have e := hfa.symm.trans (PySem.W.mg_of X G a38)
  cases e
  have T : Txt K mg ⟨f0, _, f1, _, f2, _, f3, _, f4, _, f5, _, f6, _, f7, _, f8, _, f9, _, f10, _, f11, _, f12, _, f13, _, f14, _, f15, _, f16, _, f17, _, f18, _, f19, _, f20, _, f21, _, f22, _, f23, _, f24, _, f25, _, f26, _, f27, _, f28, _, f29, _, f30, _, f31, _, f32, _, f33, _, f34, _, f35, _, f36, _, f37, _, fa, _, C_DaysError, C_NoNumbers, C_NoRing, t_GREATEST, t_LONGEST, t_MOST_ON_A_DAY, t_MOST_THINGS_gaps, t_MOST_THINGS_numbers, t_MOST_THINGS_turning⟩ :=
    ⟨fun_mk (st := s_is_whole) l0 c0 k0, PySem.W.mg_of X G a0, (fun_mk (st := s_is_whole) l0 c0 k0).binds (ps := ["thing", "least", "most"]) fun _ _ _ _ _ _ us hl => match us, hl with | [_, _, _], _ => rfl,
    fun_mk (st := s_is_row) l1 c1 k1, PySem.W.mg_of X G a1, (fun_mk (st := s_is_row) l1 c1 k1).binds (ps := ["thing"]) fun _ _ _ _ _ _ us hl => match us, hl with | [_], _ => rfl,
    fun_mk (st := s_is_rising) l2 c2 k2, PySem.W.mg_of X G a2, (fun_mk (st := s_is_rising) l2 c2 k2).binds (ps := ["thing", "least", "most"]) fun _ _ _ _ _ _ us hl => match us, hl with | [_, _, _], _ => rfl,
    fun_mk (st := s_told_rows) l3 c3 k3, PySem.W.mg_of X G a3, (fun_mk (st := s_told_rows) l3 c3 k3).binds (ps := ["thing"]) fun _ _ _ _ _ _ us hl => match us, hl with | [_], _ => rfl,
    fun_mk (st := s_is_day) l4 c4 k4, PySem.W.mg_of X G a4, (fun_mk (st := s_is_day) l4 c4 k4).binds (ps := ["many", "thing"]) fun _ _ _ _ _ _ us hl => match us, hl with | [_, _], _ => rfl,
    fun_mk (st := s_are_days) l5 c5 k5, PySem.W.mg_of X G a5, (fun_mk (st := s_are_days) l5 c5 k5).binds (ps := ["many", "thing"]) fun _ _ _ _ _ _ us hl => match us, hl with | [_, _], _ => rfl,
    fun_mk (st := s_is_ring) l6 c6 k6, PySem.W.mg_of X G a6, (fun_mk (st := s_is_ring) l6 c6 k6).binds (ps := ["many", "thing"]) fun _ _ _ _ _ _ us hl => match us, hl with | [_, _], _ => rfl,
    fun_mk (st := s_asked_ring) l7 c7 k7, PySem.W.mg_of X G a7, (fun_mk (st := s_asked_ring) l7 c7 k7).binds (ps := ["many", "thing"]) fun _ _ _ _ _ _ us hl => match us, hl with | [_, _], _ => rfl,
    fun_mk (st := s_is_numbers) l8 c8 k8, PySem.W.mg_of X G a8, (fun_mk (st := s_is_numbers) l8 c8 k8).binds (ps := ["thing"]) fun _ _ _ _ _ _ us hl => match us, hl with | [_], _ => rfl,
    fun_mk (st := s_asked_numbers) l9 c9 k9, PySem.W.mg_of X G a9, (fun_mk (st := s_asked_numbers) l9 c9 k9).binds (ps := ["thing"]) fun _ _ _ _ _ _ us hl => match us, hl with | [_], _ => rfl,
    fun_mk (st := s_divisor) l10 c10 k10, PySem.W.mg_of X G a10, (fun_mk (st := s_divisor) l10 c10 k10).binds (ps := ["one", "other"]) fun _ _ _ _ _ _ us hl => match us, hl with | [_, _], _ => rfl,
    fun_mk (st := s_common_of) l11 c11 k11, PySem.W.mg_of X G a11, (fun_mk (st := s_common_of) l11 c11 k11).binds (ps := ["numbers"]) fun _ _ _ _ _ _ us hl => match us, hl with | [_], _ => rfl,
    fun_mk (st := s_gaps_of) l12 c12 k12, PySem.W.mg_of X G a12, (fun_mk (st := s_gaps_of) l12 c12 k12).binds (ps := ["ring", "i"]) fun _ _ _ _ _ _ us hl => match us, hl with | [_, _], _ => rfl,
    fun_mk (st := s_is_kept) l13 c13 k13, PySem.W.mg_of X G a13, (fun_mk (st := s_is_kept) l13 c13 k13).binds (ps := ["ring", "i", "number"]) fun _ _ _ _ _ _ us hl => match us, hl with | [_, _, _], _ => rfl,
    fun_mk (st := s_lacks) l14 c14 k14, PySem.W.mg_of X G a14, (fun_mk (st := s_lacks) l14 c14 k14).binds (ps := ["ring", "i", "place", "many"]) fun _ _ _ _ _ _ us hl => match us, hl with | [_, _, _, _], _ => rfl,
    fun_mk (st := s_gaps) l15 c15 k15, PySem.W.mg_of X G a15, (fun_mk (st := s_gaps) l15 c15 k15).binds (ps := ["ring", "i"]) fun _ _ _ _ _ _ us hl => match us, hl with | [_, _], _ => rfl,
    fun_mk (st := s_widest) l16 c16 k16, PySem.W.mg_of X G a16, (fun_mk (st := s_widest) l16 c16 k16).binds (ps := ["ring", "i"]) fun _ _ _ _ _ _ us hl => match us, hl with | [_, _], _ => rfl,
    fun_mk (st := s_keeps) l17 c17 k17, PySem.W.mg_of X G a17, (fun_mk (st := s_keeps) l17 c17 k17).binds (ps := ["numbers", "ring"]) fun _ _ _ _ _ _ us hl => match us, hl with | [_, _], _ => rfl,
    fun_mk (st := s_first_lack) l18 c18 k18, PySem.W.mg_of X G a18, (fun_mk (st := s_first_lack) l18 c18 k18).binds (ps := ["numbers", "ring"]) fun _ _ _ _ _ _ us hl => match us, hl with | [_, _], _ => rfl,
    fun_mk (st := s_turned) l19 c19 k19, PySem.W.mg_of X G a19, (fun_mk (st := s_turned) l19 c19 k19).binds (ps := ["ring", "by"]) fun _ _ _ _ _ _ us hl => match us, hl with | [_, _], _ => rfl,
    fun_mk (st := s_short) l20 c20 k20, PySem.W.mg_of X G a20, (fun_mk (st := s_short) l20 c20 k20).binds (ps := ["ring"]) fun _ _ _ _ _ _ us hl => match us, hl with | [_], _ => rfl,
    fun_mk (st := s_slowed) l21 c21 k21, PySem.W.mg_of X G a21, (fun_mk (st := s_slowed) l21 c21 k21).binds (ps := ["ring", "times"]) fun _ _ _ _ _ _ us hl => match us, hl with | [_, _], _ => rfl,
    fun_mk (st := s_renumbered) l22 c22 k22, PySem.W.mg_of X G a22, (fun_mk (st := s_renumbered) l22 c22 k22).binds (ps := ["ring", "many"]) fun _ _ _ _ _ _ us hl => match us, hl with | [_, _], _ => rfl,
    fun_mk (st := s_paired) l23 c23 k23, PySem.W.mg_of X G a23, (fun_mk (st := s_paired) l23 c23 k23).binds (ps := ["one", "other", "many"]) fun _ _ _ _ _ _ us hl => match us, hl with | [_, _, _], _ => rfl,
    fun_mk (st := s__law_deck) l24 c24 k24, PySem.W.mg_of X G a24, (fun_mk (st := s__law_deck) l24 c24 k24).binds (ps := ["_law_script", "_law_many"]) fun _ _ _ _ _ _ us hl => match us, hl with | [_, _], _ => rfl,
    fun_mk (st := s__law_whole) l25 c25 k25, PySem.W.mg_of X G a25, (fun_mk (st := s__law_whole) l25 c25 k25).binds (ps := ["_law_thing", "_law_least", "_law_most"]) fun _ _ _ _ _ _ us hl => match us, hl with | [_, _, _], _ => rfl,
    fun_mk (st := s__law_lists) l26 c26 k26, PySem.W.mg_of X G a26, (fun_mk (st := s__law_lists) l26 c26 k26).binds (ps := ["_law_thing"]) fun _ _ _ _ _ _ us hl => match us, hl with | [_], _ => rfl,
    fun_mk (st := s__law_handed) l27 c27 k27, PySem.W.mg_of X G a27, (fun_mk (st := s__law_handed) l27 c27 k27).binds (ps := ["_law_thing", "_law_draw"]) fun _ _ _ _ _ _ us hl => match us, hl with | [_, _], _ => rfl,
    fun_mk (st := s__law_odd) l28 c28 k28, PySem.W.mg_of X G a28, (fun_mk (st := s__law_odd) l28 c28 k28).binds (ps := ["_law_draw"]) fun _ _ _ _ _ _ us hl => match us, hl with | [_], _ => rfl,
    fun_mk (st := s__law_truth) l29 c29 k29, PySem.W.mg_of X G a29, (fun_mk (st := s__law_truth) l29 c29 k29).binds (ps := ["_law_found", "_law_due"]) fun _ _ _ _ _ _ us hl => match us, hl with | [_, _], _ => rfl,
    fun_mk (st := s__law_is_day) l30 c30 k30, PySem.W.mg_of X G a30, (fun_mk (st := s__law_is_day) l30 c30 k30).binds (ps := ["_law_many", "_law_thing"]) fun _ _ _ _ _ _ us hl => match us, hl with | [_, _], _ => rfl,
    fun_mk (st := s__law_is_ring) l31 c31 k31, PySem.W.mg_of X G a31, (fun_mk (st := s__law_is_ring) l31 c31 k31).binds (ps := ["_law_many", "_law_thing"]) fun _ _ _ _ _ _ us hl => match us, hl with | [_, _], _ => rfl,
    fun_mk (st := s__law_day) l32 c32 k32, PySem.W.mg_of X G a32, (fun_mk (st := s__law_day) l32 c32 k32).binds (ps := ["_law_deck_here", "_law_many"]) fun _ _ _ _ _ _ us hl => match us, hl with | [_, _], _ => rfl,
    fun_mk (st := s__law_bent) l33 c33 k33, PySem.W.mg_of X G a33, (fun_mk (st := s__law_bent) l33 c33 k33).binds (ps := ["_law_deck_here", "_law_many"]) fun _ _ _ _ _ _ us hl => match us, hl with | [_, _], _ => rfl,
    fun_mk (st := s__law_ring) l34 c34 k34, PySem.W.mg_of X G a34, (fun_mk (st := s__law_ring) l34 c34 k34).binds (ps := ["_law_deck_here", "_law_many"]) fun _ _ _ _ _ _ us hl => match us, hl with | [_, _], _ => rfl,
    fun_mk (st := s__law_other) l35 c35 k35, PySem.W.mg_of X G a35, (fun_mk (st := s__law_other) l35 c35 k35).binds (ps := ["_law_draw"]) fun _ _ _ _ _ _ us hl => match us, hl with | [_], _ => rfl,
    fun_mk (st := s__law_asked) l36 c36 k36, PySem.W.mg_of X G a36, (fun_mk (st := s__law_asked) l36 c36 k36).binds (ps := ["_law_which", "_law_thing", "_law_numbers"]) fun _ _ _ _ _ _ us hl => match us, hl with | [_, _, _], _ => rfl,
    fun_mk (st := s__law_refused) l37 c37 k37, PySem.W.mg_of X G a37, (fun_mk (st := s__law_refused) l37 c37 k37).binds (ps := ["_law_which", "_law_thing", "_law_numbers"]) fun _ _ _ _ _ _ us hl => match us, hl with | [_, _, _], _ => rfl,
    fun_mk (st := s_law) l38 c38 k38, PySem.W.mg_of X G a38, (fun_mk (st := s_law) l38 c38 k38).binds (ps := ["_law_script"]) fun _ _ _ _ _ _ us hl => match us, hl with | [_], _ => rfl,
    PySem.W.mg_none_of X G z_ValueError,
    PySem.W.mg_none_of X G z_bool,
    PySem.W.mg_none_of X G z_enumerate,
    PySem.W.mg_none_of X G z_int,
    PySem.W.mg_none_of X G z_isinstance,
    PySem.W.mg_none_of X G z_len,
    PySem.W.mg_none_of X G z_list,
    PySem.W.mg_none_of X G z_max,
    PySem.W.mg_none_of X G z_min,
    PySem.W.mg_none_of X G z_range,
    PySem.W.mg_none_of X G z_tuple,
    PySem.W.mg_none_of X G z_zip,
    ⟨PySem.W.mg_of X G xa_DaysError, xq_DaysError, xk_DaysError, xb_DaysError, xt_DaysError⟩,
    ⟨PySem.W.mg_of X G xa_NoNumbers, xq_NoNumbers, xk_NoNumbers, xb_NoNumbers, xt_NoNumbers⟩,
    ⟨PySem.W.mg_of X G xa_NoRing, xq_NoRing, xk_NoRing, xb_NoRing, xt_NoRing⟩,
    ⟨ehg_NoNumbers, ehk_NoNumbers, ehs_NoNumbers, ehd_NoNumbers, eha_NoNumbers, ehn_NoNumbers, eht_NoNumbers, ehm_NoNumbers⟩,
    ⟨ehg_NoRing, ehk_NoRing, ehs_NoRing, ehd_NoRing, eha_NoRing, ehn_NoRing, eht_NoRing, ehm_NoRing⟩,
    m_NoNumbers_DaysError.trans (by decide),
    m_NoRing_DaysError.trans (by decide),
    k_NoNumbers_NoNumbers.trans (by decide),
    k_NoRing_NoNumbers.trans (by decide),
    k_NoNumbers_NoRing.trans (by decide),
    k_NoRing_NoRing.trans (by decide),
    k_NoNumbers_ValueError.trans (by decide),
    k_NoRing_ValueError.trans (by decide),
    PySem.W.mg_of X G cc_GREATEST,
    PySem.W.mg_of X G cc_LONGEST,
    PySem.W.mg_of X G cc_MOST_ON_A_DAY,
    PySem.W.mg_of X G cc_MOST_THINGS_gaps,
    PySem.W.mg_of X G cc_MOST_THINGS_numbers,
    PySem.W.mg_of X G cc_MOST_THINGS_turning⟩
  exact ⟨_, fun s v => .of_eq rfl, fun base _ _ => (ok_law T).imp fun vs H Q E q => spL_imp q⟩
end WD
namespace WD
open PySem PySem.Spec PyProof.Rows L2
theorem F_is_whole_eq {d : D} {lo hi : Int} {h : Hs} : F_is_whole [d, .int lo, .int hi] h = .ok (.bl (isW lo hi d)) h := by
  cases d with
  | int i => by_cases h1 : lo ≤ i <;> by_cases h2 : i ≤ hi <;> simp [F_is_whole, b_is_whole, h1, h2]
  | bl b => simp [F_is_whole, b_is_whole, isW]
  | _ => simp [F_is_whole, b_is_whole, D.isI, isW]
theorem F_is_row_eq {d : D} {h : Hs} : F_is_row [d] h = .ok (.bl (rowOf h d).isSome) h := by
  simp [F_is_row, b_is_row]
def risL : Int → Int → List D → Bool
  | _, _, [] => true
  | lo, hi, .int n :: ns => decide (lo ≤ n) && decide (n ≤ hi) && risL (n + 1) hi ns
  | _, _, _ => false
def isRis (h : Hs) (lo hi : Int) (d : D) : Bool := match rowOf h d with
  | some xs => risL lo hi xs
  | none => false
theorem ris_loop {hi : Int} {a b : D} {h : Hs} : ∀ (xs : List D) (l : Int), fgS [3, 4] (loopS (gVar 4) k_is_rising_2 xs [some a, some b, some (.int hi), some (.int l), none] h) = if risL (l + 1) hi xs = true then .nx [some a, some b, some (.int hi), none, none] h else .rt (.bl false) h := by
  intro xs
  induction xs with
  | nil => intro l; simp [x_loop_nil, risL]
  | cons x xs ih =>
    intro l
    rw [x_loop_cons]
    cases x with
    | int n =>
      by_cases h1 : l + 1 ≤ n
      · by_cases h2 : n ≤ hi
        · simpa [F_is_whole_eq, h1, h2, risL] using ih n
        · simp [F_is_whole_eq, h1, h2, risL]
      · simp [F_is_whole_eq, h1, risL]
    | _ => simp [F_is_whole_eq, isW, risL]
theorem F_is_rising_eq {d : D} {lo hi : Int} {h : Hs} : F_is_rising [d, .int lo, .int hi] h = .ok (.bl (isRis h lo hi d)) h := by
  cases hr : rowOf h d with
  | none => simp [F_is_rising, b_is_rising, F_is_row_eq, hr, isRis]
  | some xs =>
    have hf : sFor (iRow (eVar 0)) (gVar 4) k_is_rising_2 [some d, some (.int lo), some (.int hi), some (.int (lo - 1)), none] h = loopS (gVar 4) k_is_rising_2 xs [some d, some (.int lo), some (.int hi), some (.int (lo - 1)), none] h := by
      refine sFor_row (fun s => ∃ l, s = [some d, some (.int lo), some (.int hi), some (.int l), none]) rfl hr ⟨_, rfl⟩ fun x hx s ⟨l, hs⟩ => ?_
      subst hs
      refine ⟨_, rfl, ?_⟩
      cases x with
      | int n => by_cases h1 : l + 1 ≤ n <;> by_cases h2 : n ≤ hi <;> simp [F_is_whole_eq, h1, h2]
      | _ => simp [F_is_whole_eq, isW]
    have hl := ris_loop (hi := hi) (a := d) (b := .int lo) (h := h) xs (lo - 1)
    rw [show lo - 1 + 1 = lo by omega] at hl
    cases hb : risL lo hi xs <;> simp [F_is_rising, b_is_rising, F_is_row_eq, hr, isRis, hf, hl, hb]
/-- told as tuples -/
theorem F_told_eq : ∀ (n : Nat) (d : D) (q : Q) (h : Hs) (fuel : Nat), n < fuel → vq h n d = some q → q.nd = true → F_told_rows fuel [d] h = .ok (qD q) h := by
  intro n
  induction n with
  | zero =>
    intro d q h fuel hf e hq
    obtain ⟨fuel, rfl⟩ : ∃ f, fuel = f + 1 := ⟨fuel - 1, by omega⟩
    rcases vq_inv e with ⟨h1, h2⟩ | ⟨_, _, _, h1, _⟩
    · cases q with
      | row _ => exact h2.elim
      | dic => cases hq
      | _ => cases h2; simp [F_told_rows, b_told_rows, F_is_row_eq, h1, qD, exitT_same]
    · omega
  | succ n ih =>
    intro d q h fuel hf e hq
    obtain ⟨fuel, rfl⟩ : ∃ f, fuel = f + 1 := ⟨fuel - 1, by omega⟩
    rcases vq_inv e with ⟨h1, h2⟩ | ⟨m, xs, qs, h1, h2, h3, rfl⟩
    · cases q with
      | row _ => exact h2.elim
      | dic => cases hq
      | _ => cases h2; simp [F_told_rows, b_told_rows, F_is_row_eq, h1, qD, exitT_same]
    · obtain rfl : n = m := by omega
      have hq' : ndL qs = true := hq
      have hc : eComp false [1] (iRow (eVar 0)) (gVar 1) tYesF (eCall 1 (F_told_rows fuel) (aCons (eVar 1) aNil)) [some d, none] h = .ok (.lst (qDL qs)) h := by
        rw [comp_map (em := id) (fun x => qD ((vq h n x).getD .non)) (by rw [List.map_id]; exact Itr.row rfl h2) fun x hx => ?_]
        · simp only [x_newF, R.ok.injEq, D.lst.injEq, and_true]
          exact mapM_qD h3
        · obtain ⟨y, hy, ey⟩ := mapM_mem h3 x hx
          have := ih x y h fuel (by omega) ey (ndL_mem hq' hy)
          simp [this, ey]
      simp [F_told_rows, b_told_rows, F_is_row_eq, h2, hc, qD, exitT_same, und_qDL]

end WD
namespace WD
open PySem PySem.Spec PyProof.Rows L2
def isDay (h : Hs) (many : Int) (d : D) : Bool := match rowOf h d with
  | some xs => risL 0 (many - 1) xs && decide ((xs.length : Int) ≤ 2)
  | none => false
def areDays (h : Hs) (many : Int) (d : D) : Bool := match rowOf h d with
  | some xs => decide ((xs.length : Int) ≤ 4000) && xs.all (isDay h many)
  | none => false
def isRing (h : Hs) (many : Int) (d : D) : Bool := match rowOf h d with
  | some xs => decide ((xs.length : Int) ≤ 4000) && xs.all (isDay h many) && decide ((0 : Int) < xs.length)
  | none => false
theorem F_is_day_eq {many : Int} {d : D} {h : Hs} : F_is_day [.int many, d] h = .ok (.bl (isDay h many d)) h := by
  cases hr : rowOf h d with
  | none => simp [F_is_day, b_is_day, F_is_rising_eq, isRis, isDay, hr]
  | some xs =>
    cases hb : risL 0 (many - 1) xs <;> simp [F_is_day, b_is_day, F_is_rising_eq, isRis, isDay, hr, hb, x_len hr]
theorem filter_not_empty {α : Type} (p : α → Bool) (xs : List α) : (xs.filter fun x => !p x).isEmpty = xs.all p := by
  rw [Bool.eq_iff_iff]; simp
theorem F_are_days_eq {many : Int} {d : D} {h : Hs} : F_are_days [.int many, d] h = .ok (.bl (areDays h many d)) h := by
  cases hr : rowOf h d with
  | none => simp [F_are_days, b_are_days, F_is_row_eq, areDays, hr]
  | some xs =>
    have hc : eComp false [2] (iRow (eVar 1)) (gVar 2) (tNotF (tV (eCall 2 F_is_day (aCons (eVar 0) (aCons (eVar 2) aNil))))) (eVar 2) [some (.int many), some d, none] h = .ok (.lst (xs.filter fun x => !isDay h many x)) h := by
      rw [comp_ty (em := id) (fun x => !isDay h many x) id (by rw [List.map_id]; exact Itr.row rfl hr) fun x hx => ?_]
      · simp
      · simp [F_is_day_eq]
    by_cases hz : (4000 : Int) < xs.length
    · have hz' : ¬ (xs.length : Int) ≤ 4000 := by omega
      simp [F_are_days, b_are_days, F_is_row_eq, areDays, hr, x_len hr, hz, hz']
    · have hz' : (xs.length : Int) ≤ 4000 := by omega
      simp [F_are_days, b_are_days, F_is_row_eq, areDays, hr, x_len hr, hz, hz', hc, filter_not_empty]
theorem F_is_ring_eq {many : Int} {d : D} {h : Hs} : F_is_ring [.int many, d] h = .ok (.bl (isRing h many d)) h := by
  cases hr : rowOf h d with
  | none => simp [F_is_ring, b_is_ring, F_are_days_eq, areDays, isRing, hr]
  | some xs =>
    cases hb : decide ((xs.length : Int) ≤ 4000) && xs.all (isDay h many) with
    | false => simp only [F_is_ring, b_is_ring, t_is_ring_0]; simp [F_are_days_eq, areDays, isRing, hr, hb, x_len hr]
    | true => simp [F_is_ring, b_is_ring, F_are_days_eq, areDays, isRing, hr, hb, x_len hr]
/-- good rings -/
def DayOk (many : Int) (d : List Int) : Prop := risL 0 (many - 1) (d.map D.int) = true ∧ d.length ≤ 2
structure RingOk (many : Int) (r : List (List Int)) : Prop where
  pos : 0 < r.length
  most : r.length ≤ 4000
  day : ∀ d ∈ r, DayOk many d
theorem isDay_ok {h : Hs} {n : Nat} {x : D} {d : List Int} {many : Int} (e : vq h n x = some (dayQ d)) (hd : DayOk many d) : isDay h many x = true := by
  obtain ⟨m, _, hr⟩ := dayQ_inv e
  have := hd.2
  simp [isDay, hr, hd.1]
  omega
theorem mapM_days {h : Hs} {n : Nat} : ∀ {xs : List D} {r : List (List Int)}, xs.mapM (vq h n) = some (r.map dayQ) → ∀ x ∈ xs, ∃ d ∈ r, vq h n x = some (dayQ d) := by
  intro xs r e x hx
  obtain ⟨y, hy, ey⟩ := mapM_mem e x hx
  obtain ⟨d, hd, rfl⟩ := List.mem_map.mp hy
  exact ⟨d, hd, ey⟩
theorem isRing_ok {h : Hs} {n : Nat} {x : D} {r : List (List Int)} {many : Int} (e : vq h n x = some (ringQ r)) (hr : RingOk many r) : isRing h many x = true := by
  obtain ⟨m, xs, _, h2, h3⟩ := ringQ_inv e
  have hl := mapM_len h3
  rw [List.length_map] at hl
  have h4 := hr.pos
  have h5 := hr.most
  simp only [isRing, h2, Bool.and_eq_true, decide_eq_true_eq, List.all_eq_true]
  refine ⟨⟨by omega, fun y hy => ?_⟩, by omega⟩
  obtain ⟨d, hd, ed⟩ := mapM_days h3 y hy
  exact isDay_ok ed (hr.day d hd)
theorem F_asked_ring_eq {h : Hs} {n : Nat} {x : D} {r : List (List Int)} {many : Int} (e : vq h n x = some (ringQ r)) (hn : n ≤ 40) (hr : RingOk many r) : F_asked_ring [.int many, x] h = .ok (dT r) h := by
  have h1 := isRing_ok e hr
  have h2 := F_told_eq n x (ringQ r) h 45 (by omega) e (nd_ring r)
  rw [qD_ring] at h2
  simp [F_asked_ring, b_asked_ring, F_is_ring_eq, h1, h2, exitT_same]
theorem risL_mono {hi hi' : Int} (hh : hi ≤ hi') : ∀ (xs : List D) (lo : Int), risL lo hi xs = true → risL lo hi' xs = true
  | [], _, _ => rfl
  | .int n :: xs, lo, h => by
    simp only [risL, Bool.and_eq_true, decide_eq_true_eq] at h ⊢
    exact ⟨⟨h.1.1, by omega⟩, risL_mono hh xs _ h.2⟩
  | .non :: _, _, h => by cases h
  | .bl _ :: _, _, h => by cases h
  | .str _ :: _, _, h => by cases h
  | .tup _ :: _, _, h => by cases h
  | .lst _ :: _, _, h => by cases h
  | .scr _ :: _, _, h => by cases h
  | .dic _ _ :: _, _, h => by cases h
  | .loc _ :: _, _, h => by cases h
theorem DayOk.mono {m m' : Int} {d : List Int} (h : DayOk m d) (hm : m ≤ m') : DayOk m' d := ⟨risL_mono (by omega) _ _ h.1, h.2⟩
theorem dayOk_nil {m : Int} : DayOk m [] := ⟨rfl, by simp⟩
theorem dayOk_one {m i : Int} (h0 : 0 ≤ i) (h1 : i < m) : DayOk m [i] := ⟨by simp [risL]; omega, by simp⟩
/-- the day at a place, round and round -/
def dayAt (r : List (List Int)) (a : Int) : List Int := r.getD (a % (r.length : Int)).toNat []
theorem ix_at {r : List (List Int)} {a : Int} {h : Hs} (hr : 0 < r.length) : ixD (dT r) (.int (a % (r.length : Int))) h = .ok (iT (dayAt r a)) h :=
  ix_dT (Int.emod_nonneg _ (by omega)) (Int.emod_lt_of_pos _ (by omega))

end WD
namespace WD
open PySem PySem.Spec PyProof.Rows L2
theorem risL_ints {hi : Int} : ∀ (xs : List D) (lo : Int), risL lo hi xs = true → ∃ ns : List Int, xs = ns.map D.int
  | [], _, _ => ⟨[], rfl⟩
  | .int n :: xs, lo, h => by
    have h2 : risL (n + 1) hi xs = true := by simp [risL] at h; exact h.2
    obtain ⟨ns, e⟩ := risL_ints xs _ h2
    exact ⟨n :: ns, by simp [e]⟩
theorem isDay_conv {h : Hs} {x : D} {many : Int} (e : isDay h many x = true) : ∃ d, DayOk many d ∧ rowOf h x = some (d.map D.int) := by
  cases hr : rowOf h x with
  | none => simp [isDay, hr] at e
  | some xs =>
    simp [isDay, hr] at e
    obtain ⟨ns, rfl⟩ := risL_ints xs _ e.1
    exact ⟨ns, ⟨e.1, by have := e.2; simp at this; omega⟩, rfl⟩
theorem isRing_conv {h : Hs} {x : D} {many : Int} (e : isRing h many x = true) : ∃ (r : List (List Int)) (xs : List D), RingOk many r ∧ vq h 2 x = some (ringQ r) ∧ rowOf h x = some xs ∧ xs.length = r.length := by
  cases hr : rowOf h x with
  | none => simp [isRing, hr] at e
  | some xs =>
    simp only [isRing, hr, Bool.and_eq_true, decide_eq_true_eq, List.all_eq_true] at e
    obtain ⟨⟨e1, e2⟩, e3⟩ := e
    have key : ∀ ys : List D, (∀ y ∈ ys, isDay h many y = true) → ∃ r : List (List Int), ys.length = r.length ∧ (∀ d ∈ r, DayOk many d) ∧ ys.mapM (vq h 1) = some (r.map dayQ) := by
      intro ys
      induction ys with
      | nil => intro _; exact ⟨[], rfl, by simp, rfl⟩
      | cons y ys ih =>
        intro hy
        obtain ⟨r, h1, h2, h3⟩ := ih fun z hz => hy z (List.mem_cons_of_mem _ hz)
        obtain ⟨d, hd, hrd⟩ := isDay_conv (hy y List.mem_cons_self)
        refine ⟨d :: r, by simp [h1], ?_, ?_⟩
        · intro z hz
          rcases List.mem_cons.mp hz with rfl | hz
          · exact hd
          · exact h2 z hz
        · have hv : vq h 1 y = some (dayQ d) := by
            have h4 : vq h (0 + 1) (iT d) = some (dayQ d) := vq_iT
            rw [vq_row (xs := d.map D.int) rfl] at h4
            rw [show (1 : Nat) = 0 + 1 from rfl, vq_row hrd]; exact h4
          simp [List.mapM_cons, hv, h3]
    obtain ⟨r, h1, h2, h3⟩ := key xs e2
    refine ⟨r, xs, ⟨by omega, by omega, h2⟩, ?_, rfl, h1⟩
    rw [show (2 : Nat) = 1 + 1 from rfl, vq_row hr, h3]; rfl
theorem F_asked_ring_no {h : Hs} {x : D} {many : Int} (e : isRing h many x = false) : F_asked_ring [.int many, x] h = .err ⟨"NoRing", none⟩ h := by
  simp [F_asked_ring, b_asked_ring, F_is_ring_eq, e]

end WD
namespace WD
open PySem PySem.Spec PyProof.Rows L2
/-- the places of the days that have a thing -/
def placesN (r : List (List Int)) (i : Int) : List Nat := ((r.zipIdx).filter fun x => x.1.contains i).map (·.2)
def places (r : List (List Int)) (i : Int) : List Int := (placesN r i).map fun (n : Nat) => (n : Int)
def gapsOf (r : List (List Int)) (i : Int) : List Int := ((places r i).zip ((places r i).drop 1 ++ (places r i).take 1)).map fun x => (x.2 - x.1 - 1) % (r.length : Int) + 1
theorem gaps_loop {ring i pl : Option D} {g : Hs} {r : List (List Int)} (hr : 0 < r.length) : ∀ (zs : List (Int × Int)) (acc : List Int), acc.length + zs.length < 16777216 →
   loopS (gUn [gVar 6, gVar 7]) k_gaps_of_2 (zs.map fun x => .tup [.int x.1, .int x.2]) [some (dT r), i, pl, none, none, some (.loc g.length), none, none] (g ++ [.lst (acc.map D.int)])
    = .nx [some (dT r), i, pl, none, none, some (.loc g.length), none, none] (g ++ [.lst ((acc ++ zs.map fun x => (x.2 - x.1 - 1) % (r.length : Int) + 1).map D.int)]) := by
  intro zs
  induction zs with
  | nil => intro acc h1; simp [x_loop_nil]
  | cons z zs ih =>
    intro acc h1
    simp only [List.length_cons] at h1
    have ih := ih (acc ++ [(z.2 - z.1 - 1) % (r.length : Int) + 1]) (by simp; omega)
    have ha := app_last (g := g) (xs := acc.map D.int) (d := .int ((z.2 - z.1 - 1) % (r.length : Int) + 1)) (by simp; omega)
    rw [List.map_cons, x_loop_cons]
    simpa [hr, ha] using ih
theorem placesN_le (r : List (List Int)) (i : Int) : (placesN r i).length ≤ r.length := by
  unfold placesN
  rw [List.length_map]
  exact Nat.le_trans (List.length_filter_le _ _) (by simp)
theorem places_le (r : List (List Int)) (i : Int) : (places r i).length ≤ r.length := by
  unfold places
  rw [List.length_map]
  exact placesN_le r i
theorem F_gaps_of_eq {r : List (List Int)} {i : Int} {h : Hs} (hr : 0 < r.length) (hm : r.length ≤ 4000) : F_gaps_of [dT r, .int i] h = .ok (.lst ((gapsOf r i).map D.int)) h := by
  have hp := places_le r i
  have hc : eComp false [3, 4] (iEnumerate (aCons (eVar 0) aNil)) (gUn [gVar 3, gVar 4]) (tV (eBin (inD false) (eVar 1) (eVar 4))) (eVar 3) [some (dT r), some (.int i), none, none, none, none, none, none] h = .ok (.lst ((places r i).map D.int)) h := by
    have hi : Itr (iEnumerate (aCons (eVar 0) aNil)) [some (dT r), some (.int i), none, none, none, none, none, none] h h ((r.zipIdx).map fun x => .tup [.int (x.2 : Nat), iT x.1]) := by
      rw [← enL_map]
      exact Itr.enT rfl
    rw [comp_ty (fun x => x.1.contains i) (fun x => .int (x.2 : Nat)) hi fun x hx => ?_]
    · simp [places, placesN]
    · simp
  have hz : zpL ((places r i).map D.int) (((places r i).drop 1 ++ (places r i).take 1).map D.int) = ((places r i).zip ((places r i).drop 1 ++ (places r i).take 1)).map fun x => .tup [.int x.1, .int x.2] := zpL_map _ _
  have hf : ∀ s : Ss, sFor (iZip (aCons (eVar 2) (aCons (eBin addD (eSl false (eVar 2) (oSome (eC (.int 1))) oNone) (eSl false (eVar 2) oNone (oSome (eC (.int 1))))) aNil))) (gUn [gVar 6, gVar 7]) k_gaps_of_2 [some (dT r), some (.int i), some (.lst ((places r i).map D.int)), none, none, some (.loc h.length), none, none] (h ++ [.lst []]) =
      .nx [some (dT r), some (.int i), some (.lst ((places r i).map D.int)), none, none, some (.loc h.length), none, none] (h ++ [.lst ((gapsOf r i).map D.int)]) := fun s => by
    rw [for_zpL (xs := (places r i).map D.int) (ys := ((places r i).drop 1 ++ (places r i).take 1).map D.int) (h1 := h ++ [.lst []]), hz]
    · have := gaps_loop (ring := none) (i := some (.int i)) (pl := some (.lst ((places r i).map D.int))) (g := h) hr ((places r i).zip ((places r i).drop 1 ++ (places r i).take 1)) [] (by simp; omega)
      simpa [gapsOf] using this
    · have hz1 : ((places r i).length - 1 + min 1 (places r i).length) ≤ 16777216 := by omega
      simp [cutG_map, hz1]
  have hf := hf []
  have he := exitT_frz (h := h) (t := [.lst ((gapsOf r i).map D.int)]) (m := h.length) (xs := (gapsOf r i).map D.int) (Nat.le_refl _) (by simp) (by simp)
  simp [F_gaps_of, b_gaps_of, hc, hf, he]
theorem F_gaps_eq {r : List (List Int)} {i : Int} {n : Nat} {d : D} {h : Hs} (e : vq h n d = some (ringQ r)) (hn : n ≤ 40) (hr : RingOk 8 r) : F_gaps [d, .int i] h = .ok (iT (gapsOf r i)) h := by
  simp [F_gaps, b_gaps, F_asked_ring_eq e hn hr, F_gaps_of_eq hr.pos hr.most, tup_ints, exitT_same]
theorem F_widest_eq {r : List (List Int)} {i : Int} {n : Nat} {d : D} {h : Hs} (e : vq h n d = some (ringQ r)) (hn : n ≤ 40) (hr : RingOk 8 r) : F_widest [d, .int i] h = .ok (.int (maxL (0 :: gapsOf r i))) h := by
  have hp := places_le r i
  have hm := hr.most
  have hz : 1 + (gapsOf r i).length ≤ 16777216 := by
    have : (gapsOf r i).length ≤ (places r i).length := by unfold gapsOf; simp; omega
    omega
  have hx : maxD [.lst (.int 0 :: (gapsOf r i).map D.int)] h = .ok (.int (maxL (0 :: gapsOf r i))) h := max_row (ns := 0 :: gapsOf r i) rfl (by simp)
  simp [F_widest, b_widest, F_asked_ring_eq e hn hr, F_gaps_of_eq hr.pos hr.most, hz, hx, exitT_same]

end WD
namespace WD
open PySem PySem.Spec PyProof.Rows L2
theorem deck_turn {a m : D} {g : Hs} {kk odd : Int} {row deck : List Int} (hrow : 0 < row.length) (hk0 : 0 ≤ kk) (hk : kk < 100000) (hd : deck.length < 100000) :
    ∃ (row' : List Int) (one : Int), row'.length = row.length ∧ k__law_deck_5 [some a, some m, some (.loc g.length), some (.int odd), some (.loc (g.length + 1)), some (.int kk), none, none] (g ++ [.lst (row.map D.int), .lst (deck.map D.int)]) =
      .nx [some a, some m, some (.loc g.length), some (.int odd), some (.loc (g.length + 1)), none, none, none] (g ++ [.lst (row'.map D.int), .lst ((deck ++ [one]).map D.int)]) := by
  have hm0 : 0 ≤ kk % (row.length : Int) := Int.emod_nonneg _ (by omega)
  have hm1 : kk % (row.length : Int) < row.length := Int.emod_lt_of_pos _ (by omega)
  have hlen : ∀ ds : List D, lenD [.loc g.length] (g ++ [.lst (row.map D.int), .lst ds]) = .ok (.int row.length) (g ++ [.lst (row.map D.int), .lst ds]) := fun ds => by
    rw [x_len (d := .loc g.length) at2a]; simp
  have hix : ∀ ds : List D, ixD (.loc g.length) (.int (kk % (row.length : Int))) (g ++ [.lst (row.map D.int), .lst ds]) = .ok (.int (row.getD (kk % (row.length : Int)).toNat 0)) (g ++ [.lst (row.map D.int), .lst ds]) := fun ds => ix_ints (d := .loc g.length) at2a hm0 hm1
  generalize row.getD (kk % (row.length : Int)).toNat 0 = one0 at hix
  have hap : ∀ (row' : List Int) (v : Int), appendD (.loc (g.length + 1)) [.int v] (g ++ [.lst (row'.map D.int), .lst (deck.map D.int)]) = .ok .non (g ++ [.lst (row'.map D.int), .lst (deck.map D.int ++ [.int v])]) := fun row' v => by
    rw [app_at at2b (by simp; omega), set2b]
  have hpos : (0 : Int) < row.length := by omega
  have b1 : -18446744073709551616 < kk := by omega
  have b2 : kk < 18446744073709551616 := by omega
  by_cases ho : odd = 0
  · have sm1 : ∀ c : Int, -18446744073709551616 < c % 2147483629 ∧ c % 2147483629 < 18446744073709551616 := fun c => by omega
    have sm2 : ∀ c : Int, -18446744073709551616 < c % 2147483647 ∧ c % 2147483647 < 18446744073709551616 := fun c => by omega
    have h4 : ∀ h : Hs, ixD (.lst [.int 48271, .int 69621, .int 39373, .int 40692]) (.int (kk % 4)) h = .ok (.int ([48271, 69621, 39373, 40692].getD (kk % 4).toNat 0)) h := fun h => ix_ints (ns := [48271, 69621, 39373, 40692]) rfl (by omega) (by simp; omega)
    refine ⟨row, ?_⟩
    simp [hlen, hix, ho, b1, b2, sm1, sm2, h4, hap, hrow]
  · refine ⟨row.set (kk % (row.length : Int)).toNat (one0 / 1000000), ?_⟩
    have hs := set_ints (h := g ++ [.lst (row.map D.int), .lst (deck.map D.int)]) (n := g.length) (v := one0 / 1000000) at2a hm0 hm1
    rw [set2a] at hs
    have hap2 := hap (row.set (kk % (row.length : Int)).toNat (one0 / 1000000))
    simp at hs hap2
    simp [hlen, hix, ho, hs, hap2, hrow]
theorem deck_loop {a m : D} {g : Hs} {odd : Int} : ∀ (ks row deck : List Int), (∀ k ∈ ks, 0 ≤ k ∧ k < 100000) → 0 < row.length → deck.length + ks.length ≤ 100000 →
    ∃ (row' deck' : List Int), deck'.length = deck.length + ks.length ∧ loopS (gVar 5) k__law_deck_5 (ks.map D.int) [some a, some m, some (.loc g.length), some (.int odd), some (.loc (g.length + 1)), none, none, none] (g ++ [.lst (row.map D.int), .lst (deck.map D.int)]) =
      .nx [some a, some m, some (.loc g.length), some (.int odd), some (.loc (g.length + 1)), none, none, none] (g ++ [.lst (row'.map D.int), .lst (deck'.map D.int)])
  | [], row, deck, _, _, _ => ⟨row, deck, by simp, rfl⟩
  | k :: ks, row, deck, hk, hrow, hd => by
    simp only [List.length_cons] at hd
    obtain ⟨row1, one, h1, h2⟩ := deck_turn (a := a) (m := m) (g := g) (odd := odd) hrow (hk k List.mem_cons_self).1 (hk k List.mem_cons_self).2 (deck := deck) (by omega)
    obtain ⟨row2, deck2, h3, h4⟩ := deck_loop (a := a) (m := m) (g := g) (odd := odd) ks row1 (deck ++ [one]) (fun k hk' => hk k (List.mem_cons_of_mem _ hk')) (by omega) (by simp; omega)
    refine ⟨row2, deck2, by simp at h3 ⊢; omega, ?_⟩
    exact (loop_nx rfl h2).trans h4
theorem rgI_bd {lo : Int} {n : Nat} {k : Int} (h : k ∈ rgI lo n) : lo ≤ k ∧ k < lo + n := by
  unfold rgI at h
  simp only [List.mem_map, List.mem_range] at h
  obtain ⟨i, hi, rfl⟩ := h
  omega
@[simp] theorem rgI_len {lo : Int} {n : Nat} : (rgI lo n).length = n := by simp [rgI]
theorem deck_rest {a : D} {g : Hs} {n : Nat} {row : List Int} (hn : n ≤ 1000) (hrow : 0 < row.length) :
    ∃ (row' deck : List Int), deck.length = n ∧ (sSeq t__law_deck_2 (sSeq t__law_deck_3 (sSeq t__law_deck_4 (sSeq t__law_deck_5 (sSeq t__law_deck_6 t__law_deck_7))))) [some a, some (.int n), some (.loc g.length), none, none, none, none, none] (g ++ [.lst (row.map D.int)]) =
      .rt (.loc (g.length + 1)) (g ++ [.lst (row'.map D.int), .lst (deck.map D.int)]) := by
  have hix := ix_ints (h := g ++ [.lst (row.map D.int)]) (d := .loc g.length) (ns := row) (i := 0) (by simp) (by decide) (by omega)
  generalize row.getD (0 : Int).toNat 0 = one0 at hix
  have hs := set_ints (h := g ++ [.lst (row.map D.int)]) (n := g.length) (ns := row) (i := 0) (v := one0 / 2) locAt_end (by decide) (by omega)
  rw [set_end] at hs
  obtain ⟨row2, deck2, h3, h4⟩ := deck_loop (a := a) (m := .int n) (g := g) (odd := one0 % 2) (rgI 0 n) (row.set 0 (one0 / 2)) [] (fun k hk => by have := rgI_bd hk; omega) (by simpa using hrow) (by simp; omega)
  refine ⟨row2, deck2.reverse, by simpa using h3, ?_⟩
  have hf : sFor (iRng1 (aCons (eVar 1) aNil)) (gVar 5) k__law_deck_5 [some a, some (.int n), some (.loc g.length), some (.int (one0 % 2)), some (.loc (g.length + 1)), none, none, none] (g ++ [.lst ((row.set 0 (one0 / 2)).map D.int), .lst []]) = _ := (for_rng (n := n) rfl (by omega) (by omega)).trans h4
  have hrev : ∀ ds : List D, reverseD (.loc (g.length + 1)) [] (g ++ [.lst (row2.map D.int), .lst ds]) = .ok .non (g ++ [.lst (row2.map D.int), .lst ds.reverse]) := fun ds => by simp [reverseD]
  simp at hf hs
  simp [hix, hs, hf, hrev]
theorem F_deck {ns : List Int} {n : Nat} (hn : n ≤ 1000) : ∃ deck : List Int, deck.length = n ∧ F__law_deck [.scr (ns.map D.int), .int n] [] = .ok (.loc 0) [.lst (deck.map D.int)] := by
  have fin : ∀ (g : Hs) (row : List Int), 0 < row.length → (∀ k : FS, (sSeq t__law_deck_0 (sSeq t__law_deck_1 k)) [some (.scr (ns.map D.int)), some (.int n), none, none, none, none, none, none] [] = k [some (.scr (ns.map D.int)), some (.int n), some (.loc g.length), none, none, none, none, none] (g ++ [.lst (row.map D.int)])) →
      ∃ deck : List Int, deck.length = n ∧ F__law_deck [.scr (ns.map D.int), .int n] [] = .ok (.loc 0) [.lst (deck.map D.int)] := fun g row hrow hk => by
    obtain ⟨row', deck, h1, h2⟩ := deck_rest (a := .scr (ns.map D.int)) (g := g) hn hrow
    refine ⟨deck, h1, ?_⟩
    have e : b__law_deck [some (.scr (ns.map D.int)), some (.int n), none, none, none, none, none, none] [] = .rt (.loc (g.length + 1)) (g ++ [.lst (row'.map D.int), .lst (deck.map D.int)]) := (hk _).trans h2
    have hx : exitM [] (g.length + 1) (g ++ [.lst (row'.map D.int), .lst (deck.map D.int)]) = .ok (.loc 0) [.lst (deck.map D.int)] := by
      unfold exitM
      rw [if_pos ⟨fun i o hi => absurd hi (Nat.not_lt_zero _), Nat.zero_le _⟩, at2b]
      simp
    simp only [F__law_deck, x_run, List.length_cons, List.length_nil]
    simp only [Nat.zero_add, Nat.reduceAdd, if_true, List.map_cons, List.map_nil, Nat.reduceSub, List.replicate, List.cons_append, List.nil_append, e]
    exact hx
  cases ns with
  | nil =>
    refine fin [.lst []] [4] (by decide) fun k => ?_
    have he : eqD false (.loc 0) (.lst []) [.lst []] = .ok (.bl true) [.lst []] := by
      rw [x_eqL (ns := []) (ms := []) (by simp) (by simp)]; simp
    simp [he]
  | cons a ns =>
    refine fin [] (a :: ns) (by simp) fun k => ?_
    have he : eqD false (.loc 0) (.lst []) [.lst ((a :: ns).map D.int)] = .ok (.bl false) [.lst ((a :: ns).map D.int)] := by
      rw [x_eqL (ns := a :: ns) (ms := []) (by simp) (by simp)]; simp
    simp only [List.map_cons] at he
    simp [he]

end WD
namespace WD
open PySem PySem.Spec PyProof.Rows L2
/-- whether the day at a place, round and round, has a thing -/
def hasAt (r : List (List Int)) (i : Int) (p : Nat) : Bool := (r.getD (p % r.length) []).contains i
structure IsGap (r : List (List Int)) (i : Int) (p g : Nat) : Prop where
  lo : 1 ≤ g
  hi : g ≤ r.length
  has : hasAt r i (p + g) = true
  no : ∀ f, 1 ≤ f → f < g → hasAt r i (p + f) = false
theorem least_of {P : Nat → Bool} : ∀ n, P n = true → ∃ m, m ≤ n ∧ P m = true ∧ ∀ k, k < m → P k = false := by
  intro n
  induction n using Nat.strongRecOn with
  | ind n ih =>
    intro hn
    by_cases h : ∃ k, k < n ∧ P k = true
    · obtain ⟨k, hk, pk⟩ := h
      obtain ⟨m, h1, h2, h3⟩ := ih k hk pk
      exact ⟨m, by omega, h2, h3⟩
    · exact ⟨n, Nat.le_refl _, hn, fun k hk => by
        cases e : P k with
        | false => rfl
        | true => exact absurd ⟨k, hk, e⟩ h⟩
theorem gap_ex {r : List (List Int)} {i : Int} {p : Nat} (hp : p < r.length) (hh : hasAt r i p = true) : ∃ g, IsGap r i p g := by
  have e : hasAt r i (p + (r.length - 1 + 1)) = true := by
    unfold hasAt at hh ⊢
    rw [show p + (r.length - 1 + 1) = p + r.length by omega, Nat.add_mod_right]
    exact hh
  obtain ⟨m, h1, h2, h3⟩ := least_of (P := fun k => hasAt r i (p + (k + 1))) (r.length - 1) e
  refine ⟨m + 1, by omega, by omega, h2, fun f hf1 hf2 => ?_⟩
  have := h3 (f - 1) (by omega)
  rwa [show f - 1 + 1 = f by omega] at this
theorem IsGap.uniq {r : List (List Int)} {i : Int} {p g g' : Nat} (a : IsGap r i p g) (b : IsGap r i p g') : g = g' := by
  rcases Nat.lt_trichotomy g g' with h | h | h
  · have := b.no g a.lo h; rw [a.has] at this; cases this
  · exact h
  · have := a.no g' b.lo h; rw [b.has] at this; cases this
open Classical in
noncomputable def gapN (r : List (List Int)) (i : Int) (p : Nat) : Nat := if h : ∃ g, IsGap r i p g then Classical.choose h else 1
theorem gapN_is {r : List (List Int)} {i : Int} {p : Nat} (hp : p < r.length) (hh : hasAt r i p = true) : IsGap r i p (gapN r i p) := by
  have h := gap_ex hp hh
  unfold gapN
  rw [dif_pos h]
  exact Classical.choose_spec h
theorem placesN_eq (r : List (List Int)) (i : Int) : placesN r i = (List.range r.length).filter fun p => hasAt r i p := by
  unfold placesN
  have key : ∀ (xs : List (List Int)) (k : Nat), (∀ j, j < xs.length → hasAt r i (k + j) = (xs.getD j []).contains i) → ((xs.zipIdx k).filter fun x => x.1.contains i).map (·.2) = (List.range' k xs.length).filter fun p => hasAt r i p := by
    intro xs
    induction xs with
    | nil => intro k _; rfl
    | cons x xs ih =>
      intro k hk
      have h0 := hk 0 (by simp)
      have h1 := ih (k + 1) fun j hj => by
        have := hk (j + 1) (by simp; omega)
        rw [show k + 1 + j = k + (j + 1) by omega, this]
        rfl
      simp only [Nat.add_zero, List.getD_cons_zero] at h0
      rw [List.zipIdx_cons, List.length_cons, List.range'_succ]
      cases hx : x.contains i with
      | true => rw [List.filter_cons_of_pos (by simpa using hx), List.filter_cons_of_pos (by rw [h0]; exact hx), List.map_cons, h1]
      | false => rw [List.filter_cons_of_neg (by simpa using hx), List.filter_cons_of_neg (by rw [h0, hx]; simp), h1]
  rw [List.range_eq_range']
  refine key r 0 fun j hj => ?_
  unfold hasAt
  rw [Nat.zero_add, Nat.mod_eq_of_lt hj]
theorem mem_places {r : List (List Int)} {i : Int} {p : Nat} : p ∈ placesN r i ↔ p < r.length ∧ hasAt r i p = true := by
  rw [placesN_eq]; simp
theorem places_sorted (r : List (List Int)) (i : Int) : (placesN r i).Pairwise (· < ·) := by
  rw [placesN_eq]
  exact List.Pairwise.filter _ List.pairwise_lt_range
theorem wrap_gap {a b n : Nat} (h : a ≤ b) (hb : b < n) : ((a : Int) - (b : Int) - 1) % (n : Int) + 1 = a + n - b := by
  rw [show (a : Int) - (b : Int) - 1 = ((a : Int) - (b : Int) - 1 + n) + (n : Int) * (-1) by omega, Int.add_mul_emod_self_left, Int.emod_eq_of_lt (by omega) (by omega)]
  omega
/-- the told gaps are the gaps -/
theorem gaps_are {r : List (List Int)} {i : Int} (hr : 0 < r.length) : gapsOf r i = ((placesN r i).map (gapN r i)).map fun (n : Nat) => (n : Int) := by
  have hs := List.pairwise_iff_getElem.mp (places_sorted r i)
  have hn : (0 : Int) < r.length := by omega
  apply List.ext_getElem
  · simp [gapsOf, places]
    omega
  · intro k h1 h2
    have hk : k < (placesN r i).length := by simpa using h2
    have hp := mem_places.mp (List.getElem_mem hk)
    have hg := gapN_is hp.1 hp.2
    simp only [List.getElem_map]
    generalize hgd : gapN r i (placesN r i)[k] = g at hg
    have hmem : ∀ x, x < r.length → hasAt r i x = true → ∃ j, ∃ hj : j < (placesN r i).length, (placesN r i)[j] = x := fun x hx hh => List.mem_iff_getElem.mp (mem_places.mpr ⟨hx, hh⟩)
    have hq0 : hasAt r i ((placesN r i)[k] + g) = true := hg.has
    by_cases hl : k + 1 < (placesN r i).length
    · have hq := mem_places.mp (List.getElem_mem hl)
      have hlt := hs k (k + 1) hk hl (by omega)
      have e : g = (placesN r i)[k + 1] - (placesN r i)[k] := by
        refine hg.uniq ⟨by omega, by omega, ?_, fun f h1 h2 => ?_⟩
        · rw [show (placesN r i)[k] + ((placesN r i)[k + 1] - (placesN r i)[k]) = (placesN r i)[k + 1] by omega]; exact hq.2
        · cases eh : hasAt r i ((placesN r i)[k] + f) with
          | false => rfl
          | true =>
            obtain ⟨j, hj, ej⟩ := hmem _ (by omega) eh
            have c1 : k < j := by
              rcases Nat.lt_trichotomy k j with c | c | c
              · exact c
              · subst c; omega
              · have := hs j k hj hk c; omega
            rcases Nat.lt_trichotomy j (k + 1) with c | c | c
            · omega
            · subst c; omega
            · have := hs (k + 1) j hl hj c; omega
      have er : ((places r i).drop 1 ++ (places r i).take 1)[k]'(by simp [places]; omega) = ((placesN r i)[k + 1] : Int) := by
        rw [List.getElem_append_left (by simp [places]; omega)]
        simp [places]
      simp only [gapsOf, List.getElem_map, List.getElem_zip, er]
      simp only [places, List.getElem_map]
      rw [Int.emod_eq_of_lt (by omega) (by omega)]
      omega
    · have hk0 : 0 < (placesN r i).length := by omega
      have hq := mem_places.mp (List.getElem_mem hk0)
      have hle : (placesN r i)[0] ≤ (placesN r i)[k] := by
        rcases Nat.eq_zero_or_pos k with c | c
        · subst c; exact Nat.le_refl _
        · exact Nat.le_of_lt (hs 0 k hk0 hk c)
      have e : g = (placesN r i)[0] + r.length - (placesN r i)[k] := by
        refine hg.uniq ⟨by omega, by omega, ?_, fun f h1 h2 => ?_⟩
        · rw [show (placesN r i)[k] + ((placesN r i)[0] + r.length - (placesN r i)[k]) = (placesN r i)[0] + r.length by omega]
          unfold hasAt
          rw [Nat.add_mod_right]
          exact hq.2
        · cases eh : hasAt r i ((placesN r i)[k] + f) with
          | false => rfl
          | true =>
            by_cases hw : (placesN r i)[k] + f < r.length
            · obtain ⟨j, hj, ej⟩ := hmem _ hw eh
              rcases Nat.lt_trichotomy j k with c | c | c
              · have := hs j k hj hk c; omega
              · subst c; omega
              · omega
            · have eh2 : hasAt r i ((placesN r i)[k] + f - r.length) = true := by
                unfold hasAt at eh ⊢
                rwa [show (placesN r i)[k] + f = ((placesN r i)[k] + f - r.length) + r.length by omega, Nat.add_mod_right] at eh
              obtain ⟨j, hj, ej⟩ := hmem _ (by omega) eh2
              rcases Nat.eq_zero_or_pos j with c | c
              · subst c; omega
              · have := hs 0 j hk0 hj c; omega
      have er : ((places r i).drop 1 ++ (places r i).take 1)[k]'(by simp [places]; omega) = ((placesN r i)[0] : Int) := by
        rw [List.getElem_append_right (by simp [places]; omega)]
        simp only [places, List.length_drop, List.length_map, List.getElem_take, List.getElem_map]
        congr 2; omega
      simp only [gapsOf, List.getElem_map, List.getElem_zip, er]
      simp only [places, List.getElem_map]
      rw [wrap_gap hle hp.1]
      omega
theorem at_has {r : List (List Int)} {i : Int} {p : Nat} {a : Int} (e : a = (p : Int)) : (dayAt r a).contains i = hasAt r i p := by
  subst e
  unfold dayAt hasAt
  rw [← Int.natCast_emod, Int.toNat_natCast]
/-- what reads as a ring of days -/
structure RL (h : Hs) (d : D) (r : List (List Int)) : Prop where
  len : lenD [d] h = .ok (.int r.length) h
  ix : ∀ a : Int, 0 ≤ a → a < r.length → ∃ e, ixD d (.int a) h = .ok e h ∧ rowOf h e = some ((r.getD a.toNat []).map D.int)
theorem rl_dT {h : Hs} {r : List (List Int)} : RL h (dT r) r := ⟨len_dT, fun a h0 h1 => ⟨_, ix_dT h0 h1, row_iT⟩⟩
theorem RL.at {h : Hs} {d : D} {r : List (List Int)} (x : RL h d r) (hr : 0 < r.length) (a : Int) : ∃ e, ixD d (.int (a % (r.length : Int))) h = .ok e h ∧ ∀ (n : Bool) (i : Int), inD n (.int i) e h = .ok (.bl (if n = true then !(dayAt r a).contains i else (dayAt r a).contains i)) h := by
  obtain ⟨e, h1, h2⟩ := x.ix (a % (r.length : Int)) (Int.emod_nonneg _ (by omega)) (Int.emod_lt_of_pos _ (by omega))
  exact ⟨e, h1, fun n i => in_ints h2⟩
end WD
namespace WD
open PySem PySem.Spec PyProof.Rows L2
def isNums (h : Hs) (d : D) : Bool := match rowOf h d with
  | some xs => decide ((xs.length : Int) ≤ 8) && xs.all (isW 1 40)
  | none => false
theorem F_is_numbers_eq {d : D} {h : Hs} : F_is_numbers [d] h = .ok (.bl (isNums h d)) h := by
  cases hr : rowOf h d with
  | none => simp [F_is_numbers, b_is_numbers, F_is_row_eq, isNums, hr]
  | some xs =>
    have hc : eComp false [1] (iRow (eVar 0)) (gVar 1) (tNotF (tV (eCall 3 F_is_whole (aCons (eVar 1) (aCons (eC (.int 1)) (aCons (eC (.int 40)) aNil)))))) (eVar 1) [some d, none] h = .ok (.lst (xs.filter fun x => !isW 1 40 x)) h := by
      rw [comp_ty (em := id) (fun x => !isW 1 40 x) id (by rw [List.map_id]; exact Itr.row rfl hr) fun x hx => ?_]
      · simp
      · simp [F_is_whole_eq]
    by_cases hz : (8 : Int) < xs.length
    · have hz' : ¬ (xs.length : Int) ≤ 8 := by omega
      simp [F_is_numbers, b_is_numbers, F_is_row_eq, isNums, hr, x_len hr, hz, hz']
    · have hz' : (xs.length : Int) ≤ 8 := by omega
      simp [F_is_numbers, b_is_numbers, F_is_row_eq, isNums, hr, x_len hr, hz, hz', hc, filter_not_empty]
/-- good numbers -/
def NumOk (ns : List Int) : Prop := ns.length ≤ 8 ∧ ∀ n ∈ ns, 1 ≤ n ∧ n ≤ 40
theorem isNums_ok {h : Hs} {d : D} {ns : List Int} (hr : rowOf h d = some (ns.map D.int)) (hn : NumOk ns) : isNums h d = true := by
  have := hn.1
  simp only [isNums, hr, Bool.and_eq_true, decide_eq_true_eq, List.all_eq_true, List.length_map]
  refine ⟨by omega, fun x hx => ?_⟩
  obtain ⟨n, h1, rfl⟩ := List.mem_map.mp hx
  have := hn.2 n h1
  simp; omega
theorem F_asked_numbers_eq {h : Hs} {d : D} {ns : List Int} (hr : rowOf h d = some (ns.map D.int)) (hn : NumOk ns) : F_asked_numbers [d] h = .ok (iT ns) h := by
  simp [F_asked_numbers, b_asked_numbers, F_is_numbers_eq, isNums_ok hr hn, x_tuple hr, tup_ints, exitT_same]
theorem F_asked_numbers_no {h : Hs} {d : D} (hn : isNums h d = false) : F_asked_numbers [d] h = .err ⟨"NoNumbers", none⟩ h := by
  simp [F_asked_numbers, b_asked_numbers, F_is_numbers_eq, hn]

end WD
namespace WD
open PySem PySem.Spec PyProof.Rows L2
def keptB (r : List (List Int)) (i m : Int) : Bool := !decide (gapsOf r i = []) && decide (maxL (gapsOf r i) ≤ m)
theorem F_is_kept_eq {r : List (List Int)} {i m : Int} {h : Hs} (hr : 0 < r.length) (hm : r.length ≤ 4000) : F_is_kept [dT r, .int i, .int m] h = .ok (.bl (keptB r i m)) h := by
  have hg := F_gaps_of_eq (i := i) (h := h) hr hm
  rw [lst_ints] at hg
  by_cases he : gapsOf r i = []
  · simp [F_is_kept, b_is_kept, hg, keptB, he]
  · have hx : maxD [iL (gapsOf r i)] h = .ok (.int (maxL (gapsOf r i))) h := max_row row_iL (List.length_pos_iff.mpr he)
    simp [F_is_kept, b_is_kept, hg, keptB, he, hx]
/-- so many days from a place on lack a thing -/
def lacksAt (r : List (List Int)) (i p : Int) (m : Nat) : Bool := (List.range m).all fun k => !(dayAt r (p + k)).contains i
theorem lacks_loop {r : List (List Int)} {i p : Int} {x3 : Option D} {h : Hs} (hr : 0 < r.length) : ∀ (ks : List Nat), loopS (gVar 4) k_lacks_0 (ks.map fun (k : Nat) => .int k) [some (dT r), some (.int i), some (.int p), x3, none] h = if (ks.all fun k => !(dayAt r (p + k)).contains i) = true then .nx [some (dT r), some (.int i), some (.int p), x3, none] h else .rt (.bl false) h := by
  intro ks
  induction ks with
  | nil => simp [x_loop_nil]
  | cons k ks ih =>
    rw [List.map_cons, x_loop_cons]
    cases hc : (dayAt r (p + k)).contains i with
    | true => simp at hc; simp [hr, ix_at, hc]
    | false => simp at hc; simpa [hr, ix_at, hc] using ih
theorem F_lacks_eq {r : List (List Int)} {i p : Int} {m : Nat} {h : Hs} (hr : 0 < r.length) (hm : m ≤ 1000) : F_lacks [dT r, .int i, .int p, .int m] h = .ok (.bl (lacksAt r i p m)) h := by
  have hl := lacks_loop (i := i) (p := p) (x3 := some (.int m)) (h := h) hr (List.range m)
  have hf := (for_rngN (f := aCons (eVar 3) aNil) (g := gVar 4) (b := k_lacks_0) (s := [some (dT r), some (.int i), some (.int p), some (.int m), none]) (h := h) (h1 := h) (n := m) rfl (by omega)).trans hl
  cases hb : lacksAt r i p m with
  | true =>
    unfold lacksAt at hb
    rw [if_pos hb] at hf
    simp [F_lacks, b_lacks, hf]
  | false =>
    unfold lacksAt at hb
    rw [if_neg (by rw [hb]; decide)] at hf
    simp [F_lacks, b_lacks, hf]
theorem lacks_has {r : List (List Int)} {i : Int} {p m : Nat} : lacksAt r i p m = true ↔ ∀ k, k < m → hasAt r i (p + k) = false := by
  unfold lacksAt
  simp only [List.all_eq_true, List.mem_range]
  constructor
  · intro h k hk
    have := h k hk
    rw [at_has (p := p + k) (by omega)] at this
    simpa using this
  · intro h k hk
    rw [at_has (p := p + k) (by omega), h k hk]; rfl
theorem has_per {r : List (List Int)} {i : Int} (p k : Nat) : hasAt r i (p + r.length * k) = hasAt r i p := by
  unfold hasAt
  rw [Nat.add_mul_mod_self_left]
theorem gap_mod {r : List (List Int)} {i : Int} {p g : Nat} (h : IsGap r i p g) : IsGap r i (p % r.length) g := by
  have e : ∀ f, hasAt r i (p % r.length + f) = hasAt r i (p + f) := fun f => by
    unfold hasAt
    rw [Nat.mod_add_mod]
  exact ⟨h.lo, h.hi, by rw [e]; exact h.has, fun f h1 h2 => by rw [e]; exact h.no f h1 h2⟩
theorem gap_in {r : List (List Int)} {i : Int} {p g : Nat} (hr : 0 < r.length) (hh : hasAt r i p = true) (hg : IsGap r i p g) : (g : Int) ∈ gapsOf r i := by
  rw [gaps_are hr]
  have hp : p % r.length < r.length := Nat.mod_lt _ hr
  have hh' : hasAt r i (p % r.length) = true := by
    unfold hasAt at hh ⊢
    rwa [Nat.mod_mod]
  have := (gapN_is hp hh').uniq (gap_mod hg)
  refine List.mem_map.mpr ⟨g, List.mem_map.mpr ⟨p % r.length, mem_places.mpr ⟨hp, hh'⟩, this⟩, rfl⟩
theorem kept_not {r : List (List Int)} {i : Int} {m p : Nat} (hr : 0 < r.length) (hm : 1 ≤ m) (hk : keptB r i m = true) : lacksAt r i p m = false := by
  unfold keptB at hk
  simp only [Bool.and_eq_true, Bool.not_eq_true', decide_eq_false_iff_not, decide_eq_true_eq] at hk
  obtain ⟨h1, h2⟩ := hk
  have hall : ∀ {q g : Nat}, hasAt r i q = true → IsGap r i q g → g ≤ m := fun hh hg => by
    have := maxL_le _ (gap_in hr hh hg); omega
  -- some place
  obtain ⟨q0, hq0, hhq⟩ : ∃ q, q < r.length ∧ hasAt r i q = true := by
    rw [gaps_are hr] at h1
    simp only [List.map_eq_nil_iff] at h1
    obtain ⟨q, hq⟩ := List.exists_mem_of_ne_nil _ h1
    exact ⟨q, mem_places.mp hq⟩
  cases hl : lacksAt r i p m with
  | false => rfl
  | true =>
    exfalso
    rw [lacks_has] at hl
    -- the first one behind
    have hbig : p ≤ q0 + r.length * p := by
      have : 1 * p ≤ r.length * p := Nat.mul_le_mul_right p hr
      omega
    obtain ⟨f, hf1, hf2, hf3⟩ := least_of (P := fun k => hasAt r i (p + k)) (q0 + r.length * p - p) (by
      show hasAt r i (p + (q0 + r.length * p - p)) = true
      rw [show p + (q0 + r.length * p - p) = q0 + r.length * p by omega, has_per]; exact hhq)
    have hfm : m ≤ f := by
      rcases Nat.lt_or_ge f m with c | c
      · have := hl f c; rw [hf2] at this; cases this
      · exact c
    -- the last one ahead, a round later
    obtain ⟨e, he1, he2, he3⟩ := least_of (P := fun k => hasAt r i (p + r.length * (p + 1) - (k + 1))) (p + r.length * (p + 1) - (q0 + 1)) (by
      show hasAt r i (p + r.length * (p + 1) - (p + r.length * (p + 1) - (q0 + 1) + 1)) = true
      have h5 : r.length * 1 ≤ r.length * (p + 1) := Nat.mul_le_mul_left _ (by omega)
      rw [show p + r.length * (p + 1) - (p + r.length * (p + 1) - (q0 + 1) + 1) = q0 by omega]; exact hhq)
    have h5 : r.length * 1 ≤ r.length * (p + 1) := Nat.mul_le_mul_left _ (by omega)
    -- from there the next one is far
    have hnext : ∀ x, 1 ≤ x → x < e + 1 + f → hasAt r i (p + r.length * (p + 1) - (e + 1) + x) = false := fun x hx1 hx2 => by
      by_cases hc : x ≤ e
      · have := he3 (e - x) (by omega)
        rw [← this]; congr 1; omega
      · have := hf3 (x - (e + 1)) (by omega)
        rw [← this]
        rw [show p + r.length * (p + 1) - (e + 1) + x = (p + (x - (e + 1))) + r.length * (p + 1) by omega, has_per]
    obtain ⟨g, hg⟩ := gap_ex (i := i) (Nat.mod_lt (p + r.length * (p + 1) - (e + 1)) hr) (by
      have : hasAt r i (p + r.length * (p + 1) - (e + 1)) = true := he2
      unfold hasAt at this ⊢
      rwa [Nat.mod_mod])
    have hg2 : g ≤ m := by
      refine hall (q := (p + r.length * (p + 1) - (e + 1)) % r.length) ?_ hg
      have : hasAt r i (p + r.length * (p + 1) - (e + 1)) = true := he2
      unfold hasAt at this ⊢
      rwa [Nat.mod_mod]
    have h6 := hnext g hg.lo (by omega)
    have h7 : hasAt r i (p + r.length * (p + 1) - (e + 1) + g) = true := by
      have := hg.has
      unfold hasAt at this ⊢
      rwa [Nat.mod_add_mod] at this
    rw [h6] at h7; cases h7
theorem unkept_has {r : List (List Int)} {i : Int} {m : Nat} (hr : 0 < r.length) (hm : 1 ≤ m) (hk : keptB r i m = false) : ∃ p, p < r.length ∧ lacksAt r i (p : Nat) m = true := by
  by_cases he : gapsOf r i = []
  · refine ⟨0, hr, lacks_has.mpr fun k hk => ?_⟩
    cases hh : hasAt r i (0 + k) with
    | false => rfl
    | true =>
      exfalso
      have hp : (0 + k) % r.length < r.length := Nat.mod_lt _ hr
      have : hasAt r i ((0 + k) % r.length) = true := by
        unfold hasAt at hh ⊢
        rwa [Nat.mod_mod]
      obtain ⟨g, hg⟩ := gap_ex hp this
      have := gap_in hr this hg
      rw [he] at this; cases this
  · unfold keptB at hk
    have hk' : ¬ maxL (gapsOf r i) ≤ (m : Int) := by simpa [he] using hk
    have hmem := maxL_mem he
    generalize maxL (gapsOf r i) = M at hk' hmem
    rw [gaps_are hr] at hmem
    obtain ⟨g, hg, rfl⟩ := List.mem_map.mp hmem
    obtain ⟨p, hp, rfl⟩ := List.mem_map.mp hg
    obtain ⟨hp1, hp2⟩ := mem_places.mp hp
    have hgp := gapN_is hp1 hp2
    refine ⟨(p + 1) % r.length, Nat.mod_lt _ hr, lacks_has.mpr fun k hk => ?_⟩
    have := hgp.no (k + 1) (by omega) (by omega)
    rw [← this]
    unfold hasAt
    rw [Nat.mod_add_mod]
    congr 3; omega

end WD
namespace WD
open PySem PySem.Spec PyProof.Rows L2
/-- the first place from which on a row lacks it -/
structure IsPlace (r : List (List Int)) (i : Int) (m p : Nat) : Prop where
  lt : p < r.length
  lacks : lacksAt r i (p : Nat) m = true
  first : ∀ q : Nat, q < p → lacksAt r i (q : Nat) m = false
theorem place_ex {r : List (List Int)} {i : Int} {m : Nat} (hr : 0 < r.length) (hm : 1 ≤ m) (hk : keptB r i m = false) : ∃ p, IsPlace r i m p := by
  obtain ⟨p, h1, h2⟩ := unkept_has hr hm hk
  obtain ⟨q, k1, k2, k3⟩ := least_of (P := fun p => lacksAt r i (p : Nat) m) p h2
  exact ⟨q, by omega, k2, k3⟩
open Classical in
noncomputable def placeOf (r : List (List Int)) (i : Int) (m : Nat) : Nat := if h : ∃ p, IsPlace r i m p then Classical.choose h else 0
theorem placeOf_is {r : List (List Int)} {i : Int} {m : Nat} (hr : 0 < r.length) (hm : 1 ≤ m) (hk : keptB r i m = false) : IsPlace r i m (placeOf r i m) := by
  have h := place_ex hr hm hk
  unfold placeOf
  rw [dif_pos h]
  exact Classical.choose_spec h
/-- the first lack of numbers from the thing k on -/
noncomputable def lackFrom (r : List (List Int)) : Nat → List Int → Option (Int × Int)
  | _, [] => none
  | k, m :: ms => if keptB r k m = true then lackFrom r (k + 1) ms else some ((k : Int), (placeOf r k m.toNat : Int))
def lackD : Option (Int × Int) → D
  | none => .non
  | some (i, p) => iT [i, p]
@[simp] theorem und_lackD {o : Option (Int × Int)} {n : Nat} : (lackD o).und n = true := by
  cases o with
  | none => rfl
  | some x => exact und_iT
theorem first_loop {r : List (List Int)} {x0 : Option D} {h : Hs} (hr : 0 < r.length) (hm : r.length ≤ 4000) : ∀ (ms : List Int) (k : Nat), (∀ m ∈ ms, 1 ≤ m ∧ m ≤ 40) →
    loopS (gUn [gVar 2, gVar 3]) k_first_lack_2 ((ms.zipIdx k).map fun x => .tup [.int (x.2 : Nat), .int x.1]) [x0, some (dT r), none, none, none] h = match lackFrom r k ms with
      | none => .nx [x0, some (dT r), none, none, none] h
      | some y => .rt (lackD (some y)) h := by
  intro ms
  induction ms with
  | nil => intro k _; rfl
  | cons m ms ih =>
    intro k hk
    have hm1 := hk m List.mem_cons_self
    have hkept := F_is_kept_eq (i := k) (m := m) (h := h) hr hm
    rw [List.zipIdx_cons, List.map_cons, x_loop_cons]
    cases hb : keptB r k m with
    | true =>
      rw [hb] at hkept
      have := ih (k + 1) fun a ha => hk a (List.mem_cons_of_mem _ ha)
      simpa [hkept, lackFrom, hb] using this
    | false =>
      rw [hb] at hkept
      obtain ⟨mm, rfl⟩ : ∃ mm : Nat, m = mm := ⟨m.toNat, by omega⟩
      have hp := placeOf_is (i := k) (m := mm) hr (by omega) hb
      have hw := while_steps (t := tNotF (tV (eCall 4 F_lacks (aCons (eVar 1) (aCons (eVar 2) (aCons (eVar 4) (aCons (eVar 3) aNil))))))) (b := k_first_lack_2_0a_1) (fun p => [x0, some (dT r), some (.int k), some (.int mm), some (.int p)]) h (placeOf r k mm) (fun p hlt => by
        have := F_lacks_eq (i := k) (p := p) (m := mm) (h := h) hr (by omega)
        rw [hp.first p hlt] at this
        simp [this]) (by
        have := F_lacks_eq (i := k) (p := placeOf r k mm) (m := mm) (h := h) hr (by omega)
        rw [hp.lacks] at this
        simp [this])
      simp at hw
      simp [hkept, lackFrom, hb, hw, lackD, tup2]
theorem F_first_lack_eq {r : List (List Int)} {ns : List Int} {n : Nat} {d e : D} {h : Hs} (hd : rowOf h d = some (ns.map D.int)) (hn : NumOk ns) (he : vq h n e = some (ringQ r)) (h40 : n ≤ 40) (hr : RingOk ns.length r) : F_first_lack [d, e] h = .ok (lackD (lackFrom r 0 ns)) h := by
  have hl := first_loop (x0 := some (iT ns)) (h := h) hr.pos hr.most ns 0 hn.2
  have hf := (for_enT (f := aCons (eVar 0) aNil) (g := gUn [gVar 2, gVar 3]) (b := k_first_lack_2) (s := [some (iT ns), some (dT r), none, none, none]) (h := h) (h1 := h) (xs := ns.map D.int) rfl)
  rw [enL_map, hl] at hf
  cases hk : lackFrom r 0 ns with
  | none =>
    rw [hk] at hf
    simp [F_first_lack, b_first_lack, F_asked_numbers_eq hd hn, F_asked_ring_eq he h40 hr, hf, lackD]
  | some y =>
    rw [hk] at hf
    simp [F_first_lack, b_first_lack, F_asked_numbers_eq hd hn, F_asked_ring_eq he h40 hr, hf, exitT_same]
theorem lack_none {r : List (List Int)} : ∀ (ns : List Int) (k : Nat), (lackFrom r k ns).isNone = (ns.zipIdx k).all fun x => keptB r x.2 x.1
  | [], _ => rfl
  | m :: ms, k => by
    rw [List.zipIdx_cons, List.all_cons, lackFrom]
    cases hb : keptB r k m with
    | true => simp [lack_none ms]
    | false => simp
theorem F_keeps_eq {r : List (List Int)} {ns : List Int} {n : Nat} {d e : D} {h : Hs} (hd : rowOf h d = some (ns.map D.int)) (hn : NumOk ns) (he : vq h n e = some (ringQ r)) (h40 : n ≤ 40) (hr : RingOk ns.length r) : F_keeps [d, e] h = .ok (.bl (lackFrom r 0 ns).isNone) h := by
  have hc : eComp false [2, 3] (iEnumerate (aCons (eVar 0) aNil)) (gUn [gVar 2, gVar 3]) (tNotF (tV (eCall 3 F_is_kept (aCons (eVar 1) (aCons (eVar 2) (aCons (eVar 3) aNil)))))) (eVar 2) [some (iT ns), some (dT r), none, none] h = .ok (iL (((ns.zipIdx).filter fun x => !keptB r x.2 x.1).map fun x => (x.2 : Int))) h := by
    have hi : Itr (iEnumerate (aCons (eVar 0) aNil)) [some (iT ns), some (dT r), none, none] h h ((ns.zipIdx).map fun x => .tup [.int (x.2 : Nat), .int x.1]) := by
      rw [← enL_map]
      exact Itr.enT rfl
    rw [comp_ty (fun x => !keptB r x.2 x.1) (fun x => .int (x.2 : Nat)) hi fun x hx => ?_]
    · simp [iL]
    · simp [F_is_kept_eq hr.pos hr.most]
  have hb : decide ((((ns.zipIdx).filter fun x => !keptB r x.2 x.1).map fun x => (x.2 : Int)) = []) = (lackFrom r 0 ns).isNone := by
    rw [lack_none, Bool.eq_iff_iff]
    simp
  simp [F_keeps, b_keeps, F_asked_numbers_eq hd hn, F_asked_ring_eq he h40 hr, hc]
  simpa using hb
theorem F_keeps_no {d e : D} {h : Hs} (hn : isNums h d = false) : F_keeps [d, e] h = .err ⟨"NoNumbers", none⟩ h := by
  simp [F_keeps, b_keeps, F_asked_numbers_no hn]
theorem F_first_lack_no {d e : D} {h : Hs} (hn : isNums h d = false) : F_first_lack [d, e] h = .err ⟨"NoNumbers", none⟩ h := by
  simp [F_first_lack, b_first_lack, F_asked_numbers_no hn]

end WD
namespace WD
open PySem PySem.Spec PyProof.Rows L2
theorem dayAt_per {r : List (List Int)} (a k : Int) : dayAt r (a + r.length * k) = dayAt r a := by
  unfold dayAt
  rw [Int.add_mul_emod_self_left]
theorem dayAt_nat {r : List (List Int)} {k : Nat} (hk : k < r.length) : dayAt r k = r[k] := by
  unfold dayAt
  rw [← Int.natCast_emod, Int.toNat_natCast, Nat.mod_eq_of_lt hk]
  simp [List.getD, List.getElem?_eq_getElem hk]
/-- the days from a place on -/
def turnN (r : List (List Int)) (b : Int) (n : Nat) : List (List Int) := (List.range n).map fun (k : Nat) => dayAt r (b + k)
theorem turn_eq {r : List (List Int)} (hr : 0 < r.length) (b : Int) : r.drop (b % (r.length : Int)).toNat ++ r.take (b % (r.length : Int)).toNat = turnN r b r.length := by
  have h0 := Int.emod_nonneg b (show (r.length : Int) ≠ 0 by omega)
  have h1 := Int.emod_lt_of_pos b (show (0 : Int) < r.length by omega)
  obtain ⟨c, hc⟩ : ∃ c : Nat, b % (r.length : Int) = c := ⟨(b % (r.length : Int)).toNat, by omega⟩
  rw [hc, Int.toNat_natCast]
  rw [hc] at h0 h1
  have hb : b = (c : Int) + r.length * (b / r.length) := by have := Int.emod_add_mul_ediv b r.length; omega
  apply List.ext_getElem
  · simp [turnN]; omega
  · intro k h2 h3
    have hk : k < r.length := by simpa [turnN] using h3
    simp only [turnN, List.getElem_map, List.getElem_range]
    have e : dayAt r (b + k) = dayAt r ((c + k : Nat) : Int) := by
      rw [hb, show (c : Int) + r.length * (b / r.length) + k = ((c + k : Nat) : Int) + r.length * (b / r.length) by omega, dayAt_per]
    rw [e]
    by_cases hl : k < r.length - c
    · rw [List.getElem_append_left (by simpa using hl), dayAt_nat (by omega)]
      simp
    · rw [List.getElem_append_right (by simp; omega)]
      have e2 : dayAt r ((c + k : Nat) : Int) = dayAt r ((c + k - r.length : Nat) : Int) := by
        rw [show ((c + k : Nat) : Int) = ((c + k - r.length : Nat) : Int) + r.length * 1 by omega, dayAt_per]
      rw [e2, dayAt_nat (by omega)]
      simp
      congr 1; omega
theorem F_turned_eq {r : List (List Int)} {b : Int} {n : Nat} {d : D} {h : Hs} (e : vq h n d = some (ringQ r)) (hn : n ≤ 40) (hr : RingOk 8 r) : F_turned [d, .int b] h = .ok (dT (turnN r b r.length)) h := by
  have hp := hr.pos
  have hm := hr.most
  have h0 := Int.emod_nonneg b (show (r.length : Int) ≠ 0 by omega)
  have ht := turn_eq hp b
  have hz : (r.length - (b % (r.length : Int)).toNat) + min (b % (r.length : Int)).toNat r.length ≤ 16777216 := by omega
  simp [F_turned, b_turned, F_asked_ring_eq e hn hr, hp, cut_lo h0, cut_hi h0, hz, ht, exitT_same]
def Per (r : List (List Int)) (s : Nat) : Prop := ∀ a : Int, dayAt r (a + s) = dayAt r a
theorem Per.mul {r : List (List Int)} {s : Nat} (h : Per r s) : ∀ (k : Nat) (a : Int), dayAt r (a + s * k) = dayAt r a
  | 0, a => by simp
  | k + 1, a => by
    have := h.mul k (a + s)
    rw [h a] at this
    rw [← this, show a + (s : Int) * ((k + 1 : Nat) : Int) = a + s + s * k by rw [Int.natCast_add, Int.mul_add]; omega]
theorem Per.mulI {r : List (List Int)} {s : Nat} (h : Per r s) (k : Int) (a : Int) : dayAt r (a + s * k) = dayAt r a := by
  rcases Int.le_total 0 k with hk | hk
  · obtain ⟨m, rfl⟩ : ∃ m : Nat, k = m := ⟨k.toNat, by omega⟩
    exact h.mul m a
  · obtain ⟨m, rfl⟩ : ∃ m : Nat, k = -(m : Int) := ⟨(-k).toNat, by omega⟩
    have := h.mul m (a + s * (-(m : Int)))
    rw [← this]
    congr 1
    rw [Int.mul_neg]; omega
theorem Per.mod {r : List (List Int)} {s : Nat} (h : Per r s) (a : Int) : dayAt r (a % (s : Int)) = dayAt r a := by
  have := h.mulI (a / s) (a % s)
  rw [Int.emod_add_mul_ediv] at this
  exact this.symm
theorem per_len (r : List (List Int)) : Per r r.length := fun a => by
  have := dayAt_per (r := r) a 1
  rwa [Int.mul_one] at this
open Classical in
theorem short_ex {r : List (List Int)} (hr : 0 < r.length) : ∃ s : Nat, 1 ≤ s ∧ s ≤ r.length ∧ Per r s ∧ ∀ t : Nat, 1 ≤ t → t < s → ¬ Per r t := by
  have key : ∀ n : Nat, 1 ≤ n → Per r n → ∃ s : Nat, 1 ≤ s ∧ s ≤ n ∧ Per r s ∧ ∀ t : Nat, 1 ≤ t → t < s → ¬ Per r t := by
    intro n
    induction n using Nat.strongRecOn with
    | ind n ih =>
      intro h1 h2
      by_cases h : ∃ t, 1 ≤ t ∧ t < n ∧ Per r t
      · obtain ⟨t, a1, a2, a3⟩ := h
        obtain ⟨s, b1, b2, b3, b4⟩ := ih t a2 a1 a3
        exact ⟨s, b1, by omega, b3, b4⟩
      · exact ⟨n, h1, Nat.le_refl _, h2, fun t a1 a2 a3 => h ⟨t, a1, a2, a3⟩⟩
  exact key r.length hr (per_len r)
noncomputable def shortN (r : List (List Int)) : Nat := if hr : 0 < r.length then Classical.choose (short_ex hr) else 1
structure IsShort (r : List (List Int)) (s : Nat) : Prop where
  lo : 1 ≤ s
  hi : s ≤ r.length
  per : Per r s
  least : ∀ t : Nat, 1 ≤ t → t < s → ¬ Per r t
theorem short_is {r : List (List Int)} (hr : 0 < r.length) : IsShort r (shortN r) := by
  unfold shortN
  rw [dif_pos hr]
  obtain ⟨h1, h2, h3, h4⟩ := Classical.choose_spec (short_ex hr)
  exact ⟨h1, h2, h3, h4⟩
theorem IsShort.uniq {r : List (List Int)} {s t : Nat} (a : IsShort r s) (b : IsShort r t) : s = t := by
  rcases Nat.lt_trichotomy s t with h | h | h
  · exact absurd a.per (b.least s a.lo h)
  · exact h
  · exact absurd b.per (a.least t b.lo h)
theorem IsShort.dvd {r : List (List Int)} {s : Nat} (a : IsShort r s) : r.length % s = 0 := by
  have h0 := a.lo
  rcases Nat.eq_zero_or_pos (r.length % s) with h | h
  · exact h
  · refine absurd ?_ (a.least (r.length % s) h (Nat.mod_lt _ (by omega)))
    intro b
    have h1 := a.per.mul (r.length / s) (b + ((r.length % s : Nat) : Int))
    rw [← h1]
    have h2 := per_len r b
    rw [← h2]
    congr 1
    have := Nat.mod_add_div r.length s
    have e : ((r.length % s : Nat) : Int) + (s : Int) * ((r.length / s : Nat) : Int) = r.length := by
      rw [← Int.natCast_mul, ← Int.natCast_add, this]
    omega
/-- again and again -/
theorem rep_get {α : Type} (xs : List α) : ∀ (m k : Nat), k < m * xs.length → (List.replicate m xs).flatten[k]? = xs[k % xs.length]?
  | 0, k, h => by simp at h
  | m + 1, k, h => by
    rw [List.replicate_succ, List.flatten_cons]
    by_cases hk : k < xs.length
    · rw [List.getElem?_append_left hk, Nat.mod_eq_of_lt hk]
    · have e : k % xs.length = (k - xs.length) % xs.length := Nat.mod_eq_sub_mod (by omega)
      rw [List.getElem?_append_right (by omega), rep_get xs m (k - xs.length) (by rw [Nat.add_one_mul] at h; omega), e]
theorem rep_iff {r : List (List Int)} {s : Nat} (h1 : 1 ≤ s) (h2 : s ≤ r.length) (hd : r.length % s = 0) : (List.replicate (r.length / s) (r.take s)).flatten = r ↔ Per r s := by
  have hl : (r.take s).length = s := by simp; omega
  have hm : r.length / s * s = r.length := Nat.div_mul_cancel (Nat.dvd_of_mod_eq_zero hd)
  have hlen : ((List.replicate (r.length / s) (r.take s)).flatten).length = r.length := by rw [len_rep, hl, hm]
  have get : ∀ k, k < r.length → (List.replicate (r.length / s) (r.take s)).flatten[k]? = r[k % s]? := fun k hk => by
    rw [rep_get _ _ _ (by rw [hl, hm]; exact hk), hl, List.getElem?_take_of_lt (Nat.mod_lt _ (by omega))]
  constructor
  · intro e
    have base : ∀ k : Nat, k < r.length → dayAt r k = dayAt r ((k % s : Nat) : Int) := fun k hk => by
      have hks : k % s < r.length := Nat.lt_of_lt_of_le (Nat.mod_lt _ (by omega)) h2
      rw [dayAt_nat hk, dayAt_nat hks]
      have := get k hk
      rw [e, List.getElem?_eq_getElem hk, List.getElem?_eq_getElem hks] at this
      exact Option.some.inj this
    intro a
    have hn : (0 : Int) < r.length := by omega
    have red : ∀ b : Int, dayAt r b = dayAt r (b % (s : Int)) := fun b => by
      obtain ⟨c, hc⟩ : ∃ c : Nat, b % (r.length : Int) = c := ⟨(b % (r.length : Int)).toNat, by have := Int.emod_nonneg b (show (r.length : Int) ≠ 0 by omega); omega⟩
      have hcl : c < r.length := by have := Int.emod_lt_of_pos b hn; omega
      have e1 : dayAt r b = dayAt r c := by rw [← hc]; exact ((per_len r).mod b).symm
      rw [e1, base c hcl]
      congr 1
      rw [Int.natCast_emod, ← hc]
      exact Int.emod_emod_of_dvd b (Int.natCast_dvd_natCast.mpr (Nat.dvd_of_mod_eq_zero hd))
    rw [red (a + s), red a, Int.add_emod_right]
  · intro h
    apply List.ext_getElem?
    intro k
    by_cases hk : k < r.length
    · rw [get k hk]
      have hks : k % s < r.length := Nat.lt_of_lt_of_le (Nat.mod_lt _ (by omega)) h2
      rw [List.getElem?_eq_getElem hk, List.getElem?_eq_getElem hks, ← dayAt_nat hk, ← dayAt_nat hks]
      congr 1
      rw [Int.natCast_emod]
      exact h.mod k
    · rw [List.getElem?_eq_none (by rw [hlen]; omega), List.getElem?_eq_none (by omega)]
theorem short_while {r : List (List Int)} {h : Hs} (hp : 0 < r.length) (hm : r.length ≤ 4000) :
    sWhile (tOrF (tV (eBin gtD (eBin modD (eB lenD (aCons (eVar 0) aNil)) (eVar 1)) (eC (.int 0)))) (tV (eBin (eqD true) (eBin mulD (eSl false (eVar 0) oNone (oSome (eVar 1))) (eBin fdivD (eB lenD (aCons (eVar 0) aNil)) (eVar 1))) (eVar 0)))) k_short_2 [some (dT r), some (.int 1)] h = .nx [some (dT r), some (.int (shortN r))] h := by
  have hs := short_is hp
  generalize shortN r = s at hs
  have h1 := hs.lo
  have test : ∀ t : Nat, 1 ≤ t → t ≤ r.length → (tOrF (tV (eBin gtD (eBin modD (eB lenD (aCons (eVar 0) aNil)) (eVar 1)) (eC (.int 0)))) (tV (eBin (eqD true) (eBin mulD (eSl false (eVar 0) oNone (oSome (eVar 1))) (eBin fdivD (eB lenD (aCons (eVar 0) aNil)) (eVar 1))) (eVar 0)))) [some (dT r), some (.int t)] h = .ok (decide (¬ (r.length % t = 0 ∧ (List.replicate (r.length / t) (r.take t)).flatten = r))) h := fun t ht1 ht2 => by
    have ht : 0 < t := by omega
    have htb : (t : Int) < 18446744073709551616 := by omega
    by_cases hd : r.length % t = 0
    · have hq : r.length / t * t = r.length := Nat.div_mul_cancel (Nat.dvd_of_mod_eq_zero hd)
      have hdI : (r.length : Int) % (t : Int) = 0 := by rw [← Int.natCast_emod, hd]; rfl
      have hmul : mulD (dT (r.take t)) (.int ((r.length : Int) / (t : Int))) h = .ok (dT (List.replicate (r.length / t) (r.take t)).flatten) h := by
        have e2 : (r.length : Int) / (t : Int) = ((r.length / t : Nat) : Int) := rfl
        have hle := Nat.div_le_self r.length t
        rw [e2]
        generalize r.length / t = c at *
        rw [mul_dT (by omega) ?_ (by omega), Int.toNat_natCast]
        rw [Int.toNat_natCast, List.length_take, Nat.min_eq_left ht2, Nat.mul_comm, hq]; omega
      have hc : cutG r none (some (t : Int)) = r.take t := by rw [cut_hi (by omega), Int.toNat_natCast]
      simp [ht, htb, hdI, hd, hc, hmul]
    · have : (0 : Int) < (r.length : Int) % (t : Int) := by rw [← Int.natCast_emod]; omega
      simp [ht, this, hd]
  have key := while_steps (t := (tOrF (tV (eBin gtD (eBin modD (eB lenD (aCons (eVar 0) aNil)) (eVar 1)) (eC (.int 0)))) (tV (eBin (eqD true) (eBin mulD (eSl false (eVar 0) oNone (oSome (eVar 1))) (eBin fdivD (eB lenD (aCons (eVar 0) aNil)) (eVar 1))) (eVar 0))))) (b := k_short_2) (fun k => [some (dT r), some (.int ((k : Int) + 1))]) h (s - 1) (fun k hk => ?_) ?_
  · rw [show ((s - 1 : Nat) : Int) + 1 = s by omega] at key
    exact key
  · refine ⟨?_, by simp⟩
    have := test (k + 1) (by omega) (by have := hs.hi; omega)
    rw [decide_eq_true] at this
    · exact this
    · rintro ⟨a1, a2⟩
      exact hs.least (k + 1) (by omega) (by omega) ((rep_iff (by omega) (by have := hs.hi; omega) a1).mp a2)
  · have := test s hs.lo hs.hi
    rw [decide_eq_false (fun hn => hn ⟨hs.dvd, (rep_iff hs.lo hs.hi hs.dvd).mpr hs.per⟩)] at this
    rw [show ((s - 1 : Nat) : Int) + 1 = s by omega]
    exact this
theorem F_short_eq {r : List (List Int)} {n : Nat} {d : D} {h : Hs} (e : vq h n d = some (ringQ r)) (hn : n ≤ 40) (hr : RingOk 8 r) : F_short [d] h = .ok (dT (r.take (shortN r))) h := by
  have hw := short_while (h := h) hr.pos hr.most
  have hc : cutG r none (some (shortN r : Int)) = r.take (shortN r) := by rw [cut_hi (by omega), Int.toNat_natCast]
  simp [F_short, b_short, F_asked_ring_eq e hn hr, hw, hc, exitT_same]

end WD
namespace WD
open PySem PySem.Spec PyProof.Rows L2
theorem F_divisor_eq {h : Hs} {a b : Nat} : F_divisor [.int a, .int b] h = .ok (.int (Nat.gcd a b)) h := by
  have hw : ∀ (b a : Nat), fgS [1] (sWhile (tV (eBin gtD (eVar 1) (eC (.int 0)))) k_divisor_0 [some (.int a), some (.int b)] h) = .nx [some (.int (Nat.gcd a b)), none] h := by
    intro b
    induction b using Nat.strongRecOn with
    | ind b ih =>
      intro a
      by_cases hb : b = 0
      · subst hb
        rw [sWhile_false (h1 := h) (by simp)]
        simp
      · have hb0 : 0 < b := by omega
        rw [sWhile_true (h1 := h) (s' := [some (.int b), some (.int ((a % b : Nat) : Int))]) (h' := h) (by simp [hb0]) (by simp [hb0])]
        have := ih (a % b) (Nat.mod_lt _ hb0) b
        rw [this, Nat.gcd_comm b, ← Nat.gcd_rec, Nat.gcd_comm]
  simp [F_divisor, b_divisor, hw]
theorem common_loop {h : Hs} {x0 : Option D} : ∀ (ms : List Nat) (f : Nat), (∀ m ∈ ms, 1 ≤ m ∧ m ≤ 100000) → 1 ≤ f → loopS (gVar 2) k_common_of_1 (ms.map fun (m : Nat) => .int m) [x0, some (.int f), none] h = .nx [x0, some (.int (ms.foldl Nat.lcm f : Nat)), none] h := by
  intro ms
  induction ms with
  | nil => intro f _ _; rfl
  | cons m ms ih =>
    intro f hm hf
    have hm1 := hm m List.mem_cons_self
    have hg : 0 < Nat.gcd f m := Nat.gcd_pos_of_pos_left _ hf
    have hg2 : Nat.gcd f m ≤ m := Nat.gcd_le_right _ (by omega)
    have hgb : ((Nat.gcd f m : Nat) : Int) < 18446744073709551616 := by omega
    have b1 : -18446744073709551616 < (m : Int) := by omega
    have b2 : (m : Int) < 18446744073709551616 := by omega
    have e : (f : Int) / ((Nat.gcd f m : Nat) : Int) * (m : Int) = ((Nat.lcm f m : Nat) : Int) := by
      rw [Nat.lcm, ← Int.natCast_ediv, ← Int.natCast_mul]
      congr 1
      rw [Nat.mul_comm f m, Nat.mul_div_assoc _ (Nat.gcd_dvd_left f m), Nat.mul_comm]
    have hl : 1 ≤ Nat.lcm f m := Nat.lcm_pos (by omega) (by omega)
    have := ih (Nat.lcm f m) (fun a ha => hm a (List.mem_cons_of_mem _ ha)) hl
    rw [List.foldl_cons, ← this, List.map_cons, x_loop_cons]
    have hd := F_divisor_eq (a := f) (b := m) (h := h)
    generalize Nat.gcd f m = g at *
    simp [hd, hg, hgb, x_mlR, b1, b2, e]
theorem F_common2_eq {h : Hs} {a b : Nat} (ha : 1 ≤ a ∧ a ≤ 100000) (hb : 1 ≤ b ∧ b ≤ 100000) : F_common_of [.lst [.int a, .int b]] h = .ok (.int (Nat.lcm a b)) h := by
  have hl := common_loop (h := h) (x0 := some (.lst [.int a, .int b])) [a, b] 1 (by intro m hm; simp at hm; rcases hm with rfl | rfl <;> assumption) (by omega)
  have hf := (for_lst (f := eVar 0) (g := gVar 2) (b := k_common_of_1) (s := [some (.lst [.int a, .int b]), some (.int 1), none]) (h := h) (h1 := h) (xs := [.int a, .int b]) rfl).trans hl
  simp [F_common_of, b_common_of, hf]
def slowL (t : Nat) (r : List (List Int)) : List (List Int) := r.flatMap fun d => d :: List.replicate (t - 1) []
theorem slow_len {t : Nat} (ht : 1 ≤ t) : ∀ r : List (List Int), (slowL t r).length = r.length * t
  | [] => by simp [slowL]
  | d :: r => by
    have := slow_len ht r
    unfold slowL at *
    rw [List.flatMap_cons, List.length_append, this, List.length_cons, List.length_replicate, List.length_cons, Nat.add_mul]
    omega
theorem pad_mul {t : Nat} {h : Hs} (ht : 1 ≤ t) (h4 : t ≤ 40) : mulD (.lst [iT []]) (.int ((t : Int) - 1)) h = .ok (dL (List.replicate (t - 1) [])) h := by
  rw [show (t : Int) - 1 = ((t - 1 : Nat) : Int) by omega, mul_lst (by omega) (by simp; omega) (by omega)]
  simp [dL]
theorem slow_loop {t : Nat} {x0 : Option D} {g : Hs} (ht : 1 ≤ t) (h4 : t ≤ 40) : ∀ (r acc : List (List Int)), acc.length + r.length * t ≤ 16777215 →
    loopS (gVar 3) k_slowed_3 (r.map iT) [x0, some (.int t), some (.loc g.length), none] (g ++ [.lst (acc.map iT)]) = .nx [x0, some (.int t), some (.loc g.length), none] (g ++ [.lst ((acc ++ slowL t r).map iT)]) := by
  intro r
  induction r with
  | nil => intro acc _; simp [x_loop_nil, slowL]
  | cons d r ih =>
    intro acc hz
    rw [List.length_cons, Nat.add_mul] at hz
    have ha := app_last (g := g) (xs := acc.map iT) (d := iT d) (by simp; omega)
    have hex : extendD (.loc g.length) [dL (List.replicate (t - 1) [])] (g ++ [.lst (acc.map iT ++ [iT d])]) = .ok .non (g ++ [.lst ((acc ++ d :: List.replicate (t - 1) []).map iT)]) := by
      rw [ext_last (ys := (List.replicate (t - 1) ([] : List Int)).map iT) rfl (by simp; omega)]
      simp
    have := ih (acc ++ d :: List.replicate (t - 1) []) (by simp; omega)
    rw [show (acc ++ slowL t (d :: r)) = (acc ++ d :: List.replicate (t - 1) []) ++ slowL t r by simp [slowL], ← this, List.map_cons, x_loop_cons]
    simp [ha, tup0, pad_mul ht h4, hex]
theorem F_slowed_eq {t n : Nat} {d : D} {r : List (List Int)} {h : Hs} (e : vq h n d = some (ringQ r)) (hn : n ≤ 40) (hr : RingOk 8 r) (ht : 1 ≤ t) (h4 : t ≤ 40) : F_slowed [d, .int t] h = if r.length * t ≤ 4000 then .ok (dT (slowL t r)) h else .err ⟨"NoRing", none⟩ h := by
  have hm := hr.most
  have b1 : -18446744073709551616 < (t : Int) := by omega
  have b2 : (t : Int) < 18446744073709551616 := by omega
  have hmul : (r.length : Int) * (t : Int) = ((r.length * t : Nat) : Int) := (Int.natCast_mul _ _).symm
  by_cases hz : r.length * t ≤ 4000
  · have hz' : ¬ (4000 : Int) < (r.length : Int) * (t : Int) := by rw [hmul]; omega
    have hl := slow_loop (x0 := some (dT r)) (g := h) ht h4 r [] (by simp; omega)
    have hf := (for_tup (f := eVar 0) (g := gVar 3) (b := k_slowed_3) (s := [some (dT r), some (.int t), some (.loc h.length), none]) (h := h ++ [.lst []]) (h1 := h ++ [.lst []]) (xs := r.map iT) rfl).trans hl
    have htp := x_tupL (h := h ++ [.lst ((slowL t r).map iT)]) (n := h.length) locAt_end
    rw [tup_days] at htp
    rw [if_pos hz]
    simp at hf
    simp [F_slowed, b_slowed, F_asked_ring_eq e hn hr, x_mlR, b1, b2, hz', hf, htp, exitT_app]
  · have hz' : (4000 : Int) < (r.length : Int) * (t : Int) := by rw [hmul]; omega
    rw [if_neg hz]
    simp [F_slowed, b_slowed, F_asked_ring_eq e hn hr, x_mlR, b1, b2, hz']
def plusD (m : Int) (d : List Int) : List Int := d.map (· + m)
theorem plus_comp {i j : Nat} {s : Ss} {d : List Int} {m : Int} {h : Hs} {f : FE} (hf : f s h = .ok (iT d) h) (hj : ∀ x : D, (s.set i (some x))[i]? = some (some x) ∧ (s.set i (some x))[j]? = some (some (.int m))) (hw : (wipeS s [i]) = s) : eComp false [i] (iRow f) (gVar i) tYesF (eBin addD (eVar i) (eVar j)) s h = .ok (iL (plusD m d)) h := by
  rw [comp_map (em := D.int) (xs := d) (fun x => .int (x + m)) (Itr.tup hf) fun x hx => ⟨_, rfl, ?_⟩]
  · simp [iL, plusD]
  · rw [hw]
    have := hj (.int x)
    simp [this.1, this.2]
theorem F_renumbered_eq {r : List (List Int)} {m : Int} {h : Hs} : F_renumbered [dT r, .int m] h = .ok (dL (r.map (plusD m))) h := by
  have hc : eComp false [3] (iRow (eVar 0)) (gVar 3) tYesF (eB tupleD (aCons (eComp false [2] (iRow (eVar 3)) (gVar 2) tYesF (eBin addD (eVar 2) (eVar 1))) aNil)) [some (dT r), some (.int m), none, none] h = .ok (dL (r.map (plusD m))) h := by
    rw [comp_map (em := iT) (xs := r) (fun d => iT (plusD m d)) (Itr.tup rfl) fun x hx => ⟨_, rfl, ?_⟩]
    · simp [dL]
    · have := plus_comp (i := 2) (j := 1) (s := [some (dT r), some (.int m), none, some (iT x)]) (d := x) (m := m) (h := h) (f := eVar 3) rfl (fun x => ⟨rfl, rfl⟩) rfl
      simp [this]
  simp [F_renumbered, b_renumbered, hc, exitT_same]
/-- a day with a thing above 7 -/
def badDay (m : Int) (d : List Int) : Bool := d.any fun x => decide (7 < x + m)
theorem bad_last {d : List Int} {m : Int} (hd : DayOk 8 d) : ∀ h : Hs, (∃ b : Bool, (truth (eqD true (iT (plusD m d)) (iT []) h) = .ok b h) ∧ (b = true → ∃ v, ixD (iT (plusD m d)) (.int (-1)) h = .ok (.int v) h ∧ badDay m d = decide (8 ≤ v)) ∧ (b = false → badDay m d = false)) := by
  intro h
  have hlen := hd.2
  rcases d with _ | ⟨a, _ | ⟨b, _ | ⟨c, d⟩⟩⟩
  · exact ⟨false, by simp [plusD], by simp, fun _ => rfl⟩
  · refine ⟨true, by simp [plusD], fun _ => ⟨a + m, x_ix_row (xs := [.int (a + m)]) rfl rfl, ?_⟩, by simp⟩
    rw [Bool.eq_iff_iff]; simp [badDay]; omega
  · refine ⟨true, by simp [plusD], fun _ => ⟨b + m, x_ix_row (xs := [.int (a + m), .int (b + m)]) rfl rfl, ?_⟩, by simp⟩
    have h1 := hd.1
    simp [risL] at h1
    rw [Bool.eq_iff_iff]; simp [badDay]; omega
  · simp at hlen
def pairL (a b : List (List Int)) (m : Int) (n : Nat) : List (List Int) := (List.range n).flatMap fun (k : Nat) => [dayAt a k, plusD m (dayAt b k)]
theorem pair_len {a b : List (List Int)} {m : Int} (n : Nat) : (pairL a b m n).length = 2 * n := by
  unfold pairL
  induction n with
  | zero => rfl
  | succ n ih => rw [List.range_succ, List.flatMap_append, List.length_append, ih]; simp; omega
theorem plus_at {r : List (List Int)} {m : Int} {a : Int} (hr : 0 < r.length) {h : Hs} : ixD (dL (r.map (plusD m))) (.int (a % (r.length : Int))) h = .ok (iT (plusD m (dayAt r a))) h := by
  have h0 := Int.emod_nonneg a (show (r.length : Int) ≠ 0 by omega)
  have h1 := Int.emod_lt_of_pos a (show (0 : Int) < r.length by omega)
  rw [ix_mem row_dL h0 (by simpa using h1)]
  simp [dayAt, List.getElem?_eq_getElem (show (a % (r.length : Int)).toNat < r.length by omega)]
theorem pair_loop {a b : List (List Int)} {m : Int} {x2 x3 x4 : Option D} {g : Hs} (ha : 0 < a.length) (hb : 0 < b.length) : ∀ (ks : List Nat) (acc : List (List Int)), acc.length + 2 * ks.length ≤ 16777216 →
    loopS (gVar 6) k_paired_6 (ks.map fun (k : Nat) => .int k) [some (dT a), some (dL (b.map (plusD m))), x2, x3, x4, some (.loc g.length), none] (g ++ [.lst (acc.map iT)]) = .nx [some (dT a), some (dL (b.map (plusD m))), x2, x3, x4, some (.loc g.length), none] (g ++ [.lst ((acc ++ ks.flatMap fun (k : Nat) => [dayAt a k, plusD m (dayAt b k)]).map iT)]) := by
  intro ks
  induction ks with
  | nil => intro acc _; simp [x_loop_nil]
  | cons k ks ih =>
    intro acc hz
    simp only [List.length_cons] at hz
    have hex : extendD (.loc g.length) [.lst [iT (dayAt a k), iT (plusD m (dayAt b k))]] (g ++ [.lst (acc.map iT)]) = .ok .non (g ++ [.lst ((acc ++ [dayAt a k, plusD m (dayAt b k)]).map iT)]) := by
      rw [ext_last (ys := [iT (dayAt a k), iT (plusD m (dayAt b k))]) rfl (by simp; omega)]
      simp
    have := ih (acc ++ [dayAt a k, plusD m (dayAt b k)]) (by simp; omega)
    rw [show (acc ++ (k :: ks).flatMap fun (k : Nat) => [dayAt a k, plusD m (dayAt b k)]) = (acc ++ [dayAt a k, plusD m (dayAt b k)]) ++ ks.flatMap fun (k : Nat) => [dayAt a k, plusD m (dayAt b k)] by simp, ← this, List.map_cons, x_loop_cons]
    have e1 := ix_at (r := a) (a := k) (h := g ++ [.lst (acc.map iT)]) ha
    have e2 := plus_at (r := b) (m := m) (a := k) (h := g ++ [.lst (acc.map iT)]) hb
    simp [ha, hb, e1, e2, hex]
theorem F_paired_eq {a b : List (List Int)} {d e : D} {m : Int} {n : Nat} {h : Hs} (ea : vq h n d = some (ringQ a)) (eb : vq h n e = some (ringQ b)) (hn : n ≤ 40) (ha : RingOk 8 a) (hb : RingOk 8 b) : F_paired [d, e, .int m] h = if b.any (badDay m) = true ∨ 2000 < Nat.lcm a.length b.length then .err ⟨"NoRing", none⟩ h else .ok (dT (pairL a b m (Nat.lcm a.length b.length))) h := by
  have hap := ha.pos
  have hbp := hb.pos
  have ham := ha.most
  have hbm := hb.most
  have hc : ∀ s3 : Option D, eComp false [3] (iRow (eVar 1)) (gVar 3) (tAndF (tV (eBin (eqD true) (eVar 3) (eTup aNil))) (tV (eBin geD (eBin ixD (eVar 3) (negD (eC (.int 1)))) (eC (.int 8))))) (eVar 3) [some (dT a), some (dL (b.map (plusD m))), some (.int m), none, none, none, none] h = .ok (dL ((b.filter (badDay m)).map (plusD m))) h := fun _ => by
    have hi : Itr (iRow (eVar 1)) [some (dT a), some (dL (b.map (plusD m))), some (.int m), none, none, none, none] h h (b.map fun d => iT (plusD m d)) := by
      have := Itr.lst (f := eVar 1) (s := [some (dT a), some (dL (b.map (plusD m))), some (.int m), none, none, none, none]) (h := h) (h1 := h) (xs := (b.map (plusD m)).map iT) rfl
      rwa [List.map_map] at this
    rw [comp_ty (badDay m) (fun d => iT (plusD m d)) hi fun x hx => ⟨_, rfl, ?_, ?_⟩]
    · simp [dL]
    · obtain ⟨bb, k1, k2, k3⟩ := bad_last (m := m) (hb.day x hx) h
      cases bb with
      | false => 
        have : badDay m x = false := k3 rfl
        have k1' : eqD true (iT (plusD m x)) (iT []) h = .ok (.bl false) h := by
          simp at k1 ⊢; simpa using k1
        simp at k1'
        simp [tup0, this, k1']
      | true =>
        obtain ⟨v, v1, v2⟩ := k2 rfl
        have k1' : ¬ plusD m x = [] := by simpa using k1
        simp [tup0, k1', v1, v2]
    · simp
  have hc := hc none
  by_cases hbad : b.any (badDay m) = true
  · have hne : (b.filter (badDay m)) ≠ [] := by
      obtain ⟨x, h1, h2⟩ := List.any_eq_true.mp hbad
      exact fun hf => by have := List.mem_filter.mpr ⟨h1, h2⟩; rw [hf] at this; cases this
    rw [if_pos (.inl hbad)]
    simp [F_paired, b_paired, F_asked_ring_eq ea hn ha, F_asked_ring_eq eb hn hb, F_renumbered_eq, hc, hne]
  · have hnil : (b.filter (badDay m)) = [] := by
      rw [List.filter_eq_nil_iff]
      intro x hx hb2
      exact hbad (List.any_eq_true.mpr ⟨x, hx, hb2⟩)
    rw [hnil] at hc
    have hco := F_common2_eq (h := h) (a := a.length) (b := b.length) (by omega) (by omega)
    by_cases hbig : 2000 < Nat.lcm a.length b.length
    · have hz : (4000 : Int) < 2 * (Nat.lcm a.length b.length : Nat) := by omega
      rw [if_pos (.inr hbig)]
      simp [F_paired, b_paired, F_asked_ring_eq ea hn ha, F_asked_ring_eq eb hn hb, F_renumbered_eq, hc, hco, hz]
    · have hz : ¬ (4000 : Int) < 2 * (Nat.lcm a.length b.length : Nat) := by omega
      have hl := pair_loop (m := m) (x2 := some (.int m)) (x3 := none) (x4 := some (.int (Nat.lcm a.length b.length : Nat))) (g := h) hap hbp (List.range (Nat.lcm a.length b.length)) [] (by simp; omega)
      have hf := (for_rngN (f := aCons (eVar 4) aNil) (g := gVar 6) (b := k_paired_6) (s := [some (dT a), some (dL (b.map (plusD m))), some (.int m), none, some (.int (Nat.lcm a.length b.length : Nat)), some (.loc h.length), none]) (h := h ++ [.lst []]) (h1 := h ++ [.lst []]) (n := Nat.lcm a.length b.length) rfl (by omega)).trans hl
      have htp := x_tupL (h := h ++ [.lst ((pairL a b m (Nat.lcm a.length b.length)).map iT)]) (n := h.length) locAt_end
      rw [tup_days] at htp
      rw [if_neg (by rintro (h | h); exact hbad h; exact hbig h)]
      rw [List.nil_append] at hf
      change _ = RS.nx _ (h ++ [.lst ((pairL a b m (Nat.lcm a.length b.length)).map iT)]) at hf
      generalize pairL a b m (Nat.lcm a.length b.length) = w at *
      simp [F_paired, b_paired, F_asked_ring_eq ea hn ha, F_asked_ring_eq eb hn hb, F_renumbered_eq, hc, hco, hz, hf, htp, exitT_app]

end WD
namespace WD
open PySem PySem.Spec PyProof.Rows L2
/-- some day -/
theorem F_law_day_eq {dk : List Int} {d many : Int} {r : Hs} (h0 : 0 ≤ many) (h8 : many ≤ 8) : ∃ day, DayOk many day ∧ F__law_day [.loc 0, .int many] (.lst ((dk ++ [d]).map D.int) :: r) = .ok (iT day) (.lst (dk.map D.int) :: r) := by
  by_cases hm : many = 0
  · subst hm
    exact ⟨[], ⟨rfl, by simp⟩, by simp [F__law_day, b__law_day, tup0, exitT_head0]⟩
  · have hp : 0 < many := by omega
    have hb : many < 18446744073709551616 := by omega
    by_cases h5 : d % 5 = 0
    · exact ⟨[], ⟨rfl, by simp⟩, by simp [F__law_day, b__law_day, hm, h5, tup0, exitT_head0]⟩
    · have hi := Int.emod_nonneg (d / 5) hm
      have hi2 := Int.emod_lt_of_pos (d / 5) hp
      have hj := Int.emod_nonneg (d / 64) hm
      have hj2 := Int.emod_lt_of_pos (d / 64) hp
      by_cases hc : 0 < d / 1024 % 3 ∨ d / 5 % many = d / 64 % many
      · refine ⟨[d / 5 % many], ⟨?_, by simp⟩, ?_⟩
        · simp [risL]; omega
        · by_cases hc1 : 0 < d / 1024 % 3
          · simp [F__law_day, b__law_day, hm, h5, hp, hc1, tup1, exitT_head0]
          · have hc2 : d / 5 % many = d / 64 % many := by omega
            simp [F__law_day, b__law_day, hm, h5, hp, hc1, hc2, tup1, exitT_head0]
      · have hc1 : ¬ 0 < d / 1024 % 3 := by omega
        have hc2 : ¬ d / 5 % many = d / 64 % many := by omega
        refine ⟨[if d / 64 % many < d / 5 % many then d / 64 % many else d / 5 % many, if d / 64 % many > d / 5 % many then d / 64 % many else d / 5 % many], ⟨?_, by simp⟩, ?_⟩
        · generalize d / 5 % many = i at *
          generalize d / 64 % many = j at *
          by_cases hij : j < i
          · have : ¬ i < j := by omega
            simp [risL, hij, this]; omega
          · have : i < j := by omega
            simp [risL, hij, this]; omega
        · simp [F__law_day, b__law_day, hm, h5, hp, hc1, hc2, tup2, exitT_head0]

end WD
namespace WD
open PySem PySem.Spec PyProof.Rows L2
theorem x_neNil {h : Hs} {ys : List D} (hy : (toP h 64 (.lst ys)).isSome = true) : eqD true (.lst ys) (.lst []) h = .ok (.bl (!ys.isEmpty)) h := by
  unfold eqD
  have e0 : toP h 64 (.lst []) = some (.list []) := toP_lst (d := .lst []) (xs := []) rfl rfl
  cases ys with
  | nil => rw [e0]; rfl
  | cons y ys =>
    cases e : toP h 64 (.lst (y :: ys)) with
    | none => rw [e] at hy; cases hy
    | some p =>
      rw [e0]
      obtain ⟨q, qs, rfl⟩ := toP_cons e
      simp [PyData.eqv, PyData.eqvAll]
theorem F_law_whole_eq {d : D} {lo hi : Int} {h : Hs} : F__law_whole [d, .int lo, .int hi] h = .ok (.bl (isW lo hi d)) h := by
  have := F_is_whole_eq (d := d) (lo := lo) (hi := hi) (h := h)
  simpa [F_is_whole, b_is_whole, F__law_whole, b__law_whole] using this
theorem isW_iff {lo hi : Int} {d : D} (h : isW lo hi d = true) : ∃ i, d = .int i ∧ lo ≤ i ∧ i ≤ hi := by
  cases d <;> simp [isW] at h
  exact ⟨_, rfl, h⟩
theorem toP_fil {h : Hs} {xs : List D} (hp : ∀ x ∈ xs, (toP h 63 x).isSome = true) (f : D → Bool) : (toP h 64 (.lst (xs.filter f))).isSome = true := by
  have : (xs.filter f).mapM (toP h 63) = some ((xs.filter f).map fun x => (toP h 63 x).getD .none) := mapM_some fun x hx => by
    have := hp x (List.mem_filter.mp hx).1
    cases e : toP h 63 x with
    | none => rw [e] at this; cases this
    | some p => rfl
  rw [toP_lst (d := .lst (xs.filter f)) rfl this]; rfl
theorem F_law_is_day_eq {many : Int} {d : D} {h : Hs} (hp : ∀ xs, rowOf h d = some xs → ∀ x ∈ xs, (toP h 63 x).isSome = true) : F__law_is_day [.int many, d] h = .ok (.bl (isDay h many d)) h := by
  cases hr : rowOf h d with
  | none =>
    have h1 := F_is_row_eq (d := d) (h := h)
    simp [F_is_row, b_is_row, hr] at h1
    simp [F__law_is_day, b__law_is_day, isDay, hr, h1]
  | some xs =>
    have h1 := F_is_row_eq (d := d) (h := h)
    simp [F_is_row, b_is_row, hr] at h1
    have hc : eComp false [2] (iRow (eVar 1)) (gVar 2) (tNotF (tV (eCall 3 F__law_whole (aCons (eVar 2) (aCons (eC (.int 0)) (aCons (eBin subD (eVar 0) (eC (.int 1))) aNil)))))) (eVar 2) [some (.int many), some d, none] h = .ok (.lst (xs.filter fun x => !isW 0 (many - 1) x)) h := by
      rw [comp_ty (em := id) (fun x => !isW 0 (many - 1) x) id (by rw [List.map_id]; exact Itr.row rfl hr) fun x hx => ?_]
      · simp
      · simp [F_law_whole_eq]
    have hne := x_neNil (toP_fil (hp xs hr) fun x => !isW 0 (many - 1) x)
    by_cases hz : (2 : Int) < xs.length
    · have hz' : ¬ (xs.length : Int) ≤ 2 := by omega
      simp [F__law_is_day, b__law_is_day, isDay, hr, h1, x_len hr, hz, hz']
    · have hz' : (xs.length : Int) ≤ 2 := by omega
      match xs, hr, hc, hz, hz', h1, hne with
      | [], hr, hc, hz, hz', h1, hne =>
        simp at hc hne
        simp [F__law_is_day, b__law_is_day, isDay, hr, h1, x_len hr, hc, hne, risL]
      | [x], hr, hc, hz, hz', h1, hne =>
        cases hx : isW 0 (many - 1) x with
        | false =>
          have hn : risL 0 (many - 1) [x] = false := by
            cases x <;> simp [risL, isW] at hx ⊢
            exact hx
          simp [hx] at hc hne
          simp [F__law_is_day, b__law_is_day, isDay, hr, h1, x_len hr, hc, hne, hn]
        | true =>
          obtain ⟨i, rfl, hi⟩ := isW_iff hx
          simp [hx] at hc hne
          have hn : risL 0 (many - 1) [.int i] = true := by simp [risL]; omega
          simp [F__law_is_day, b__law_is_day, isDay, hr, h1, x_len hr, hc, hne, hn]
      | [x, y], hr, hc, hz, hz', h1, hne =>
        cases hx : isW 0 (many - 1) x with
        | false =>
          have hn : risL 0 (many - 1) [x, y] = false := by
            cases x <;> simp [risL, isW] at hx ⊢
            intro a b; omega
          simp [hx] at hc hne
          simp [F__law_is_day, b__law_is_day, isDay, hr, h1, x_len hr, hc, hne, hn]
        | true =>
          obtain ⟨i, rfl, hi⟩ := isW_iff hx
          cases hy : isW 0 (many - 1) y with
          | false =>
            have hn : risL 0 (many - 1) [.int i, y] = false := by
              cases y <;> simp [risL, isW] at hy ⊢
              intros; omega
            simp [hx, hy] at hc hne
            simp [F__law_is_day, b__law_is_day, isDay, hr, h1, x_len hr, hc, hne, hn]
          | true =>
            obtain ⟨j, rfl, hj⟩ := isW_iff hy
            have hn : risL 0 (many - 1) [.int i, .int j] = decide (i < j) := by
              simp [risL]; rw [Bool.eq_iff_iff]; simp; omega
            have i0 : ixD d (.int 0) h = .ok (.int i) h := x_ix_row hr rfl
            have i1 : ixD d (.int 1) h = .ok (.int j) h := x_ix_row hr rfl
            simp [hx, hy] at hc hne
            simp [F__law_is_day, b__law_is_day, isDay, hr, h1, x_len hr, hc, hne, hn, i0, i1]
      | _ :: _ :: _ :: _, _, _, hz, hz', _, _ => simp at hz; omega
/-- what the law hands in as a day: nothing live, items that == can look at -/
def OkD (d : D) : Prop := (∀ n, d.und n = true) ∧ ∀ h xs, rowOf h d = some xs → ∀ x ∈ xs, (toP h 63 x).isSome = true
def OkR (d : D) : Prop := (∀ n, d.und n = true) ∧ (∀ h, rowOf h d = rowOf [] d) ∧ ∀ xs, rowOf [] d = some xs → (xs.length ≤ 1000 ∨ 4000 ≤ xs.length) ∧ ∀ x ∈ xs, OkD x
theorem F_law_is_ring_eq {many : Int} {d : D} {h : Hs} (hp : OkR d) : F__law_is_ring [.int many, d] h = .ok (.bl (isRing h many d)) h := by
  have h1 := F_is_row_eq (d := d) (h := h)
  cases hr : rowOf h d with
  | none =>
    simp [F_is_row, b_is_row, hr] at h1
    simp [F__law_is_ring, b__law_is_ring, isRing, hr, h1]
  | some xs =>
    simp [F_is_row, b_is_row, hr] at h1
    have hx : ∀ x ∈ xs, OkD x := ((hp.2.2 xs) ((hp.2.1 h).symm.trans hr)).2
    have hc : eComp false [2] (iRow (eVar 1)) (gVar 2) (tNotF (tV (eCall 2 F__law_is_day (aCons (eVar 0) (aCons (eVar 2) aNil))))) (eVar 2) [some (.int many), some d, none] h = .ok (.lst (xs.filter fun x => !isDay h many x)) h := by
      rw [comp_ty (em := id) (fun x => !isDay h many x) id (by rw [List.map_id]; exact Itr.row rfl hr) fun x hx' => ?_]
      · simp
      · simp [F_law_is_day_eq fun ys => (hx x hx').2 h ys]
    by_cases hz : (1 : Int) ≤ xs.length
    · by_cases hz2 : (xs.length : Int) ≤ 4000
      · have h0 : (0 : Int) < xs.length := by omega
        simp [F__law_is_ring, b__law_is_ring, isRing, hr, h1, x_len hr, hz, hz2, hc, filter_not_empty, h0]
        exact fun _ => by omega
      · simp [F__law_is_ring, b__law_is_ring, isRing, hr, h1, x_len hr, hz, hz2]
    · have h0 : ¬ (0 : Int) < xs.length := by omega
      have hn : xs = [] := List.eq_nil_of_length_eq_zero (by omega)
      simp [F__law_is_ring, b__law_is_ring, isRing, hr, h1, x_len hr, hz, h0, hn]
theorem OkD.tups {xs : List D} (hu : ∀ n, undL n xs = true) (hx : ∀ h, ∀ x ∈ xs, (toP h 63 x).isSome = true) : OkD (.tup xs) := ⟨fun n => by simp [hu], fun h ys e => by cases e; exact hx h⟩
theorem OkD.lsts {xs : List D} (hu : ∀ n, undL n xs = true) (hx : ∀ h, ∀ x ∈ xs, (toP h 63 x).isSome = true) : OkD (.lst xs) := ⟨fun n => by simp [hu], fun h ys e => by cases e; exact hx h⟩
theorem OkD.day {day : List Int} : OkD (iT day) := .tups (fun n => by simp) fun h x hx => by obtain ⟨i, _, rfl⟩ := List.mem_map.mp hx; simp
theorem OkD.dayL {day : List Int} : OkD (iL day) := .lsts (fun n => by simp) fun h x hx => by obtain ⟨i, _, rfl⟩ := List.mem_map.mp hx; simp
theorem toP_str3 {h : Hs} {n : Nat} {x : Str} : toP h n (.str x) = toP [] 0 (.str x) := by cases n <;> rfl
theorem okD_none {d : D} (hu : ∀ n, d.und n = true) (h : ∀ h, rowOf h d = none) : OkD d := ⟨hu, fun g xs e => by rw [h g] at e; cases e⟩
def oddL : List D := [.non, .bl true, .bl false, .str "3", .str "", .tup [], .lst [], .dic [] [], .tup [.int 1], .lst [.lst [.int 2]], .int (-1), .int (10 ^ 60), .int (0 - 10 ^ 60), .str "abc", .dic [.inl 1] [.int 2], .tup [.non]]
theorem toP_l2 {h : Hs} : (toP h 63 (.lst [.int 2])).isSome = true := by
  have : toP h 63 (.lst [.int 2]) = some (.list [.int 2]) := toP_lst (xs := [.int 2]) rfl (by simp [List.mapM_cons])
  rw [this]; rfl
theorem oddD : ∀ x ∈ oddL, OkD x := by
  intro x hx
  simp only [oddL, List.mem_cons, List.not_mem_nil, or_false] at hx
  rcases hx with rfl | rfl | rfl | rfl | rfl | rfl | rfl | rfl | rfl | rfl | rfl | rfl | rfl | rfl | rfl | rfl
  all_goals first
    | exact okD_none (fun n => rfl) (fun h => rfl)
    | (refine .tups (fun n => rfl) (fun h x hx => ?_); simp only [List.mem_cons, List.not_mem_nil, or_false] at hx <;> first | (subst hx; simp only [toP_int, toP_non, Option.isSome_some]; done) | exact hx.elim)
    | (refine .lsts (fun n => rfl) (fun h x hx => ?_); simp only [List.mem_cons, List.not_mem_nil, or_false] at hx <;> first | (subst hx; exact toP_l2) | exact hx.elim)
theorem oddR : ∀ x ∈ oddL, OkR x := by
  intro x hx
  refine ⟨(oddD x hx).1, ?_, ?_⟩
  · intro h
    simp only [oddL, List.mem_cons, List.not_mem_nil, or_false] at hx
    rcases hx with rfl | rfl | rfl | rfl | rfl | rfl | rfl | rfl | rfl | rfl | rfl | rfl | rfl | rfl | rfl | rfl <;> rfl
  · intro xs e
    simp only [oddL, List.mem_cons, List.not_mem_nil, or_false] at hx
    rcases hx with rfl | rfl | rfl | rfl | rfl | rfl | rfl | rfl | rfl | rfl | rfl | rfl | rfl | rfl | rfl | rfl
    all_goals first
      | (cases e; done)
      | (cases e; refine ⟨.inl (by simp), fun x hx => ?_⟩; simp at hx; done)
      | (cases e; refine ⟨.inl (by simp), fun x hx => ?_⟩; simp at hx; subst hx; exact okD_none (fun n => rfl) (fun h => rfl))
      | (cases e; refine ⟨.inl (by simp), fun x hx => ?_⟩; simp at hx; subst hx; exact .lsts (fun n => rfl) (fun h x hx => by simp at hx; subst hx; simp))
theorem F_odd_eq {i : Int} {h : Hs} : ∃ x ∈ oddL, F__law_odd [.int i] h = .ok x h := by
  obtain ⟨e, he, hx⟩ := ix_any (h := h) (d := .lst oddL) (xs := oddL) (i := i % 16) rfl (by omega) (by simp [oddL]; omega)
  refine ⟨e, he, ?_⟩
  simp [oddL] at hx
  simp [F__law_odd, b__law_odd, hx, exitT_same, (oddD e he).1]
theorem F_lists_day1 {n : Nat} {day : List Int} {h : Hs} : F__law_lists (n + 2) [iT day] h = .ok (iL day) h := by
  have hc : eComp false [1] (iRow (eVar 0)) (gVar 1) tYesF (eCall 1 (F__law_lists (n + 1)) (aCons (eVar 1) aNil)) [some (iT day), none] h = .ok (iL day) h := by
    rw [comp_map (em := D.int) D.int (Itr.tup rfl) fun x hx => ?_]
    · simp [iL]
    · refine ⟨_, rfl, ?_⟩
      simp [F__law_lists, b__law_lists]
  have hu : F__law_lists (n + 2) = runF 1 2 .trunc (b__law_lists (F__law_lists (n + 1))) := rfl
  rw [hu]
  generalize F__law_lists (n + 1) = g at hc ⊢
  simp [b__law_lists, hc, exitT_same]
theorem F_handed_eq {day : List Int} {i : Int} {h : Hs} : ∃ x, OkD x ∧ F__law_handed [iT day, .int i] h = .ok x h := by
  by_cases hi : i % 2 = 0
  · exact ⟨iT day, .day, by simp [F__law_handed, b__law_handed, hi, exitT_same]⟩
  · exact ⟨iL day, .dayL, by simp [F__law_handed, b__law_handed, hi, exitT_same, F_lists_day1]⟩
def bentA (i many : Int) : List D := [.tup [.int 1, .int 0], .tup [.int i, .int i], .tup [.int 0, .int 1, .int 2], .tup [.int many], .tup [.int (-1)], .tup [.bl true], .tup [.str "0"], .tup [.int i, .int many], .tup [.int 8, .int 9], .tup [.int 0, .bl true], .lst [.int i, .non]]
def bentB (o : D) (many : Int) : List D := [o, .tup [.int (many - 1), .int many], .lst [.int 1, .int 0], .tup [.int 0, .int 8]]
theorem toP_0 {h : Hs} : (toP h 63 (.str "0")).isSome = true := by
  have hs : PyData.strOk "0" = true := by decide +kernel
  simp [toP, hs]
theorem bent_ok {i many : Int} {o : D} (ho : OkD o) : ∀ x ∈ (bentA i many ++ [.tup [.int i, .int (-1)]]) ++ bentB o many, OkD x := by
  have t2 : ∀ a b : Int, OkD (.tup [.int a, .int b]) := fun a b => OkD.day (day := [a, b])
  intro x hx
  simp only [bentA, bentB, List.cons_append, List.nil_append, List.mem_cons, List.not_mem_nil, or_false] at hx
  rcases hx with rfl | rfl | rfl | rfl | rfl | rfl | rfl | rfl | rfl | rfl | rfl | rfl | rfl | rfl | rfl | rfl
  · exact t2 _ _
  · exact t2 _ _
  · exact OkD.day (day := [0, 1, 2])
  · exact OkD.day (day := [many])
  · exact OkD.day (day := [-1])
  · exact .tups (fun n => rfl) fun h x hx => by simp only [List.mem_cons, List.not_mem_nil, or_false] at hx; subst hx; simp
  · exact .tups (fun n => rfl) fun h x hx => by simp only [List.mem_cons, List.not_mem_nil, or_false] at hx; subst hx; exact toP_0
  · exact t2 _ _
  · exact t2 _ _
  · exact .tups (fun n => rfl) fun h x hx => by simp only [List.mem_cons, List.not_mem_nil, or_false] at hx; rcases hx with rfl | rfl <;> simp
  · exact .lsts (fun n => rfl) fun h x hx => by simp only [List.mem_cons, List.not_mem_nil, or_false] at hx; rcases hx with rfl | rfl <;> simp
  · exact t2 _ _
  · exact ho
  · exact t2 _ _
  · exact OkD.dayL (day := [1, 0])
  · exact t2 _ _
theorem F_bent_eq {dk : List Int} {d many : Int} {r : Hs} : ∃ x, OkD x ∧ F__law_bent [.loc 0, .int many] (.lst ((dk ++ [d]).map D.int) :: r) = .ok x (.lst (dk.map D.int) :: r) := by
  obtain ⟨o, ho, eo⟩ := F_odd_eq (i := d / 144) (h := .lst (dk.map D.int) :: (r ++ [.lst (bentA (d / 16 % 9) many ++ [.tup [.int (d / 16 % 9), .int (-1)]])]))
  have hap : appendD (.loc (r.length + 1)) [.tup [.int (d / 16 % 9), .int (-1)]] (.lst (dk.map D.int) :: (r ++ [.lst (bentA (d / 16 % 9) many)])) = .ok .non (.lst (dk.map D.int) :: (r ++ [.lst (bentA (d / 16 % 9) many ++ [.tup [.int (d / 16 % 9), .int (-1)]])])) := by
    rw [app_at locAt_cons_end (by simp [bentA]), set_cons_end]
  have hadd : addD (.loc (r.length + 1)) (.lst (bentB o many)) (.lst (dk.map D.int) :: (r ++ [.lst (bentA (d / 16 % 9) many ++ [.tup [.int (d / 16 % 9), .int (-1)]])])) = .ok (.lst ((bentA (d / 16 % 9) many ++ [.tup [.int (d / 16 % 9), .int (-1)]]) ++ bentB o many)) (.lst (dk.map D.int) :: (r ++ [.lst (bentA (d / 16 % 9) many ++ [.tup [.int (d / 16 % 9), .int (-1)]])])) :=
    add_row (x := .loc (r.length + 1)) (xs := bentA (d / 16 % 9) many ++ [.tup [.int (d / 16 % 9), .int (-1)]]) (ys := bentB o many) (show locAt _ _ = _ from locAt_cons_end) rfl (by simp [bentA, bentB])
  obtain ⟨x, hx, ex⟩ := ix_any (h := .lst (dk.map D.int) :: (r ++ [.lst (bentA (d / 16 % 9) many ++ [.tup [.int (d / 16 % 9), .int (-1)]])])) (d := .lst ((bentA (d / 16 % 9) many ++ [.tup [.int (d / 16 % 9), .int (-1)]]) ++ bentB o many)) (xs := (bentA (d / 16 % 9) many ++ [.tup [.int (d / 16 % 9), .int (-1)]]) ++ bentB o many) (i := d % 16) rfl (by omega) (by simp [bentA, bentB]; omega)
  have hok := bent_ok (oddD o ho) x hx
  refine ⟨x, hok, ?_⟩
  have hlo : lstOf (.lst (dk.map D.int) :: (r ++ [.lst (bentA (d / 16 % 9) many)])) (.loc (r.length + 1)) = some (bentA (d / 16 % 9) many) := locAt_cons_end
  have hex : exitT (.lst (dk.map D.int ++ [.int d]) :: r) x (.lst (dk.map D.int) :: (r ++ [.lst (bentA (d / 16 % 9) many ++ [.tup [.int (d / 16 % 9), .int (-1)]])])) = .ok x (.lst (dk.map D.int) :: r) := exitT_head (by simp) (hok.1 _)
  have lA : (bentA (d / 16 % 9) many).length ≤ 16777216 := by simp [bentA]
  have lB : (bentB o many).length ≤ 16777216 := by simp [bentB]
  generalize hA : bentA (d / 16 % 9) many = A at *
  generalize hB : bentB o many = B at *
  simp only [bentA] at hA
  simp only [bentB] at hB
  simp at eo hap hadd ex hex
  simp [F__law_bent, b__law_bent, hA, lA, lB, hap, hlo, eo, hB, hadd, ex, hex]
theorem OkR.tups {xs : List D} (hl : xs.length ≤ 1000 ∨ 4000 ≤ xs.length) (hx : ∀ x ∈ xs, OkD x) : OkR (.tup xs) := ⟨fun n => by rw [und_tup]; exact undL_iff.mpr fun x h => (hx x h).1 n, fun h => rfl, fun ys e => by cases e; exact ⟨hl, hx⟩⟩
theorem OkR.lsts {xs : List D} (hl : xs.length ≤ 1000 ∨ 4000 ≤ xs.length) (hx : ∀ x ∈ xs, OkD x) : OkR (.lst xs) := ⟨fun n => by rw [und_lst]; exact undL_iff.mpr fun x h => (hx x h).1 n, fun h => rfl, fun ys e => by cases e; exact ⟨hl, hx⟩⟩
theorem rep_one {α : Type} {x : α} : ∀ k : Nat, (List.replicate k [x]).flatten = List.replicate k x
  | 0 => rfl
  | k + 1 => by rw [List.replicate_succ, List.flatten_cons, rep_one k]; rfl
theorem F_other_eq {i : Int} {h : Hs} : ∃ x, OkR x ∧ F__law_other [.int i] h = .ok x h := by
  by_cases hi : i % 3 = 0
  · have m1 : ∀ (x : D) (k : Int), 0 ≤ k → k ≤ 5000 → mulD (.tup [x]) (.int k) h = .ok (.tup (List.replicate k.toNat x)) h := fun x k h0 h1 => by
      rw [mul_tup (by omega) (by simp; omega) (by omega), rep_one]
    have m2 : ∀ (x : D) (k : Int), 0 ≤ k → k ≤ 5000 → mulD (.lst [x]) (.int k) h = .ok (.lst (List.replicate k.toNat x)) h := fun x k h0 h1 => by
      rw [mul_lst (by omega) (by simp; omega) (by omega), rep_one]
    have e1 := m1 (.tup []) 4000 (by omega) (by omega)
    have e2 := m1 (.tup []) 4001 (by omega) (by omega)
    have e3 := m2 (.lst []) 4001 (by omega) (by omega)
    have e4 := m1 (.tup [.int 0]) 4000 (by omega) (by omega)
    have ok : ∀ x ∈ [.tup [], .lst [], .tup (List.replicate 4000 (.tup [])), .tup (List.replicate 4001 (.tup [])), .lst (List.replicate 4001 (.lst [])), .tup (List.replicate 4000 (.tup [.int 0]))], OkR x := by
      intro x hx
      simp only [List.mem_cons, List.not_mem_nil, or_false] at hx
      have d0 : OkD (.tup []) := OkD.day (day := [])
      have d1 : OkD (.lst []) := OkD.dayL (day := [])
      have d2 : OkD (.tup [.int 0]) := OkD.day (day := [0])
      rcases hx with rfl | rfl | rfl | rfl | rfl | rfl
      · exact .tups (.inl (by simp)) (by simp)
      · exact .lsts (.inl (by simp)) (by simp)
      · exact .tups (.inr (by rw [List.length_replicate]; omega)) fun x hx => by rw [List.eq_of_mem_replicate hx]; exact d0
      · exact .tups (.inr (by rw [List.length_replicate]; omega)) fun x hx => by rw [List.eq_of_mem_replicate hx]; exact d0
      · exact .lsts (.inr (by rw [List.length_replicate]; omega)) fun x hx => by rw [List.eq_of_mem_replicate hx]; exact d1
      · exact .tups (.inr (by rw [List.length_replicate]; omega)) fun x hx => by rw [List.eq_of_mem_replicate hx]; exact d2
    have eT : ∀ k : Int, k = 4000 → k.toNat = 4000 := fun k e => by omega
    rw [show (4000 : Int).toNat = 4000 from rfl] at e1 e4
    rw [show (4001 : Int).toNat = 4001 from rfl] at e2 e3
    generalize List.replicate 4000 (D.tup []) = A at *
    generalize List.replicate 4001 (D.tup []) = B at *
    generalize List.replicate 4001 (D.lst []) = C at *
    generalize List.replicate 4000 (D.tup [.int 0]) = E at *
    obtain ⟨x, hx, ex⟩ := ix_any (h := h) (d := .lst [.tup [], .lst [], .tup A, .tup B, .lst C, .tup E]) (i := i / 3 % 6) rfl (by omega) (by simp; omega)
    have hk := ok x hx
    refine ⟨x, hk, ?_⟩
    simp [F__law_other, b__law_other, hi, e1, e2, e3, e4, ex, exitT_same, hk.1]
  · obtain ⟨o, ho, eo⟩ := F_odd_eq (i := i / 3) (h := h)
    exact ⟨o, oddR o ho, by simp [F__law_other, b__law_other, hi, eo, exitT_same, (oddD o ho).1]⟩
/-- a ring of at most twelve days -/
theorem F_ring4_eq {dk : List Int} {many : Int} {r : Hs} (h0 : 0 ≤ many) (h8 : many ≤ 8) (hd : 26 ≤ dk.length) : ∃ (x : D) (dk' : List Int), OkR x ∧ dk.length ≤ dk'.length + 26 ∧ F__law_ring [.loc 0, .int many] (.lst (dk.map D.int) :: r) = .ok x (.lst (dk'.map D.int) :: r) := by
  obtain ⟨dk1, dr, rfl⟩ := split_last (l := dk) (by omega)
  simp only [List.length_append, List.length_cons, List.length_nil] at hd
  have hm0 : 0 ≤ dr % 12 := by omega
  have hm1 : dr % 12 < 12 := by omega
  have key := comp_inv (m := true) (vs := [4]) (fi := iRng1 (aCons (eBin addD (eC (.int 1)) (eBin modD (eVar 2) (eC (.int 12)))) aNil)) (g := gVar 4) (tt := tYesF) (te := eCall 2 F__law_handed (aCons (eCall 2 F__law_day (aCons (eVar 0) (aCons (eVar 1) aNil))) (aCons (eML popD (eVar 0) aNil) aNil))) (s := [some (.loc 0), some (.int many), some (.int dr), none, none]) (h := .lst (dk1.map D.int) :: r)
    (fun acc rest h => ∃ (dk' : List Int), h = .lst (dk'.map D.int) :: r ∧ (∀ x ∈ acc, OkD x) ∧ acc.length + rest.length = (1 + dr % 12).toNat ∧ dk1.length + 2 * rest.length = dk'.length + 2 * (1 + dr % 12).toNat)
    (Itr.rng (n := 1 + dr % 12) (by simp) (by omega) (by omega)) (fun n => rng_noloc) ⟨dk1, rfl, by simp, by simp, by simp⟩ fun acc x rest h hI => by
    obtain ⟨dk', rfl, a1, a2, a3⟩ := hI
    simp only [List.length_cons] at a2 a3
    obtain ⟨dk2, d2, rfl⟩ := split_last (l := dk') (by omega)
    simp only [List.length_append, List.length_cons, List.length_nil] at a3
    obtain ⟨dk3, d3, rfl⟩ := split_last (l := dk2) (by omega)
    obtain ⟨day, b1, b2⟩ := F_law_day_eq (dk := dk3 ++ [d3]) (d := d2) (r := r) h0 h8
    obtain ⟨y, c1, c2⟩ := F_handed_eq (day := day) (i := d3) (h := .lst (dk3.map D.int) :: r)
    simp only [List.length_append, List.length_cons, List.length_nil] at a3
    refine ⟨_, rfl, .inr ⟨rfl, y, _, ?_, ⟨dk3, rfl, ?_, by simp; omega, by omega⟩⟩⟩
    · simp at b2 c2
      simp [b2, c2]
    · intro d hd
      rcases List.mem_append.mp hd with hd | hd
      · exact a1 d hd
      · have : d = y := by simpa using hd
        subst this; exact c1
  obtain ⟨acc, h', ⟨dk2, rfl, a1, a2, a3⟩, e⟩ := key
  simp only [List.length_nil, Nat.add_zero, Nat.mul_zero] at a2 a3
  have hfin : ∀ (dk3 : List Int) (ys : List D), ys.length = acc.length → (∀ y ∈ ys, OkD y) → ∃ (x d : D) (h' : Hs), OkR x ∧ t__law_ring_3 [some (.loc 0), some (.int many), some (.int dr), some (.loc (r.length + 1)), none] (.lst (dk3.map D.int) :: (r ++ [.lst ys])) = .rt d h' ∧ exitT (.lst ((dk1 ++ [dr]).map D.int) :: r) d h' = .ok x (.lst (dk3.map D.int) :: r) := fun dk3 ys hy1 hy2 => by
    have hloc : locAt (.lst (dk3.map D.int) :: (r ++ [.lst ys])) (r.length + 1) = some ys := locAt_cons_end
    have hu : undL (r.length + 1) ys = true := undL_iff.mpr fun y hy => (hy2 y hy).1 _
    have hle : ys.length ≤ 1000 := by omega
    by_cases hi : dr / 1024 % 2 = 0
    · have hx : ixD (.lst [.loc (r.length + 1), .tup ys]) (.int 0) (.lst (dk3.map D.int) :: (r ++ [.lst ys])) = .ok (.loc (r.length + 1)) (.lst (dk3.map D.int) :: (r ++ [.lst ys])) := x_ix_row (xs := [.loc (r.length + 1), .tup ys]) rfl rfl
      refine ⟨.lst ys, .loc (r.length + 1), .lst (dk3.map D.int) :: (r ++ [.lst ys]), .lsts (.inl hle) hy2, ?_, ?_⟩
      · simp [x_tupL hloc, hi, hx]
      exact exitT_headF (o := .lst ((dk1 ++ [dr]).map D.int)) (o' := .lst (dk3.map D.int)) (r := r) (t := []) (xs := ys) (by simp) hu
    · have hi' : dr / 1024 % 2 = 1 := by omega
      have hx : ixD (.lst [.loc (r.length + 1), .tup ys]) (.int 1) (.lst (dk3.map D.int) :: (r ++ [.lst ys])) = .ok (.tup ys) (.lst (dk3.map D.int) :: (r ++ [.lst ys])) := x_ix_row (xs := [.loc (r.length + 1), .tup ys]) rfl rfl
      refine ⟨.tup ys, .tup ys, .lst (dk3.map D.int) :: (r ++ [.lst ys]), .tups (.inl hle) hy2, ?_, ?_⟩
      · simp [x_tupL hloc, hi', hx]
      exact exitT_head (o := .lst ((dk1 ++ [dr]).map D.int)) (o' := .lst (dk3.map D.int)) (r := r) (t := [.lst ys]) (d := .tup ys) (by simp) (by simp [hu])
  have hpos : 0 < acc.length := by omega
  by_cases h16 : dr / 16 % 2 = 0
  · obtain ⟨dk3, d3, rfl⟩ := split_last (l := dk2) (by omega)
    simp only [List.length_append, List.length_cons, List.length_nil] at a3
    obtain ⟨b, c1, c2⟩ := F_bent_eq (dk := dk3) (d := d3) (many := many) (r := r ++ [.lst acc])
    have hpi : (0 : Int) < acc.length := by omega
    have hj0 := Int.emod_nonneg (dr / 32) (show (acc.length : Int) ≠ 0 by omega)
    have hj1 := Int.emod_lt_of_pos (dr / 32) hpi
    obtain ⟨x, d', h', hx1, hx2, hx3⟩ := hfin dk3 (acc.set (dr / 32 % (acc.length : Int)).toNat b) (by simp) fun y hy => by
      rcases List.mem_or_eq_of_mem_set hy with hy | rfl
      · exact a1 y hy
      · exact c1
    refine ⟨x, dk3, hx1, by simp; omega, ?_⟩
    have hloc : locAt (.lst (dk3.map D.int) :: (r ++ [.lst acc])) (r.length + 1) = some acc := locAt_cons_end
    have hset : setD (.loc (r.length + 1)) (.int (dr / 32 % (acc.length : Int))) b (.lst (dk3.map D.int) :: (r ++ [.lst acc])) = some (.lst (dk3.map D.int) :: (r ++ [.lst (acc.set (dr / 32 % (acc.length : Int)).toNat b)])) := by
      simp only [setD, hloc, ixN_in hj0 hj1, set_cons_end]
    have hb : b__law_ring [some (.loc 0), some (.int many), none, none, none] (.lst ((dk1 ++ [dr]).map D.int) :: r) = .rt d' h' := by
      simp at c2 e hx2
      simp [b__law_ring, e, h16, c2, x_len (d := .loc (r.length + 1)) hloc, hpos, hset]
      exact hx2
    simp only [F__law_ring, x_run, List.length_cons, List.length_nil]
    simp only [Nat.zero_add, Nat.reduceAdd, if_true, List.map_cons, List.map_nil, Nat.reduceSub, List.replicate, List.cons_append, List.nil_append, hb]
    exact hx3
  · obtain ⟨x, d', h', hx1, hx2, hx3⟩ := hfin dk2 acc rfl a1
    refine ⟨x, dk2, hx1, by simp; omega, ?_⟩
    have hb : b__law_ring [some (.loc 0), some (.int many), none, none, none] (.lst ((dk1 ++ [dr]).map D.int) :: r) = .rt d' h' := by
      simp only [t__law_ring_3] at hx2
      simp at e hx2
      simp [b__law_ring, e, h16]
      exact hx2
    simp only [F__law_ring, x_run, List.length_cons, List.length_nil]
    simp only [Nat.zero_add, Nat.reduceAdd, if_true, List.map_cons, List.map_nil, Nat.reduceSub, List.replicate, List.cons_append, List.nil_append, hb]
    exact hx3

end WD
namespace WD
open PySem PySem.Spec PyProof.Rows L2
def nums40 (many : Int) : D := iT (List.replicate many.toNat 40)
theorem num40 {many : Int} (h8 : many ≤ 8) : NumOk (List.replicate many.toNat (40 : Int)) := ⟨by simp; omega, fun n hn => by rw [List.eq_of_mem_replicate hn]; omega⟩
theorem ringOk2 : RingOk 8 [[0], []] := ⟨by simp, by simp, fun d hd => by
  simp only [List.mem_cons, List.not_mem_nil, or_false] at hd
  rcases hd with rfl | rfl
  · exact dayOk_one (by omega) (by omega)
  · exact dayOk_nil⟩
theorem good2 : D.tup [.tup [.int 0], .tup []] = dT [[0], []] := rfl
theorem asked_no {w many : Int} {x : D} {h : Hs} (h0 : 0 ≤ many) (h8 : many ≤ 8) (w0 : 0 ≤ w) (w9 : w < 9) (hr : isRing h (if 6 < w then many else 8) x = false) : F__law_asked [.int w, x, nums40 many] h = .err ⟨"NoRing", none⟩ h := by
  have hn := F_asked_numbers_eq (h := h) (d := nums40 many) rfl (num40 h8)
  have hl : ((List.replicate many.toNat (40 : Int)).length : Int) = many := by simp; omega
  have hg := F_asked_ring_eq (h := h) (n := 2) (x := dT [[0], []]) vq_dT (by omega) ringOk2
  have hmx : max many 0 = many := by omega
  rcases (by omega : w = 0 ∨ w = 1 ∨ w = 2 ∨ w = 3 ∨ w = 4 ∨ w = 5 ∨ w = 6 ∨ w = 7 ∨ w = 8) with rfl | rfl | rfl | rfl | rfl | rfl | rfl | rfl | rfl
  · have := F_asked_ring_no (show isRing h 8 x = false from hr)
    simp [F__law_asked, b__law_asked, F_gaps, b_gaps, this]
  · have := F_asked_ring_no (show isRing h 8 x = false from hr)
    simp [F__law_asked, b__law_asked, F_widest, b_widest, this]
  · have := F_asked_ring_no (show isRing h 8 x = false from hr)
    simp [F__law_asked, b__law_asked, F_turned, b_turned, this]
  · have := F_asked_ring_no (show isRing h 8 x = false from hr)
    simp [F__law_asked, b__law_asked, F_short, b_short, this]
  · have := F_asked_ring_no (show isRing h 8 x = false from hr)
    simp [F__law_asked, b__law_asked, F_slowed, b_slowed, this]
  · have := F_asked_ring_no (show isRing h 8 x = false from hr)
    simp [F__law_asked, b__law_asked, F_paired, b_paired, this]
  · have := F_asked_ring_no (show isRing h 8 x = false from hr)
    simp [F__law_asked, b__law_asked, good2, F_paired, b_paired, this, hg]
  · have := F_asked_ring_no (show isRing h many x = false from hr)
    simp [F__law_asked, b__law_asked, F_keeps, b_keeps, hn, this, hl, hmx]
  · have := F_asked_ring_no (show isRing h many x = false from hr)
    simp [F__law_asked, b__law_asked, F_first_lack, b_first_lack, hn, this, hl, hmx]
theorem bad0 {r : List (List Int)} (hr : RingOk 8 r) : r.any (badDay 0) = false := by
  rw [List.any_eq_false]
  intro d hd
  obtain ⟨h1, h2⟩ := hr.day d hd
  simp only [badDay]
  have key : ∀ (xs : List Int) (lo : Int), risL lo (8 - 1) (xs.map D.int) = true → ∀ x ∈ xs, x ≤ 7 := by
    intro xs
    induction xs with
    | nil => intro lo _ x hx; cases hx
    | cons a xs ih =>
      intro lo e x hx
      simp [risL] at e
      rcases List.mem_cons.mp hx with rfl | hx
      · omega
      · exact ih _ e.2 x hx
  have := key d 0 h1
  rw [Bool.not_eq_true, List.any_eq_false]
  intro x hx
  have := this x hx
  simp; omega
theorem asked_yes {w many : Int} {x : D} {h : Hs} (h0 : 0 ≤ many) (h8 : many ≤ 8) (w0 : 0 ≤ w) (w9 : w < 9) (hr : isRing h (if 6 < w then many else 8) x = true) (hx : OkR x) :
    ∃ xs, rowOf h x = some xs ∧ if (w = 5 ∨ w = 6) ∧ 1000 < xs.length then F__law_asked [.int w, x, nums40 many] h = .err ⟨"NoRing", none⟩ h else ∃ v, F__law_asked [.int w, x, nums40 many] h = .ok v h := by
  obtain ⟨r, xs, hro, hv, hrow, hlen⟩ := isRing_conv hr
  have hbig : xs.length ≤ 1000 ∨ 4000 ≤ xs.length := (hx.2.2 xs ((hx.2.1 h).symm.trans hrow)).1
  refine ⟨xs, hrow, ?_⟩
  have hmx : max many 0 = many := by omega
  rcases (by omega : w = 0 ∨ w = 1 ∨ w = 2 ∨ w = 3 ∨ w = 4 ∨ w = 5 ∨ w = 6 ∨ w = 7 ∨ w = 8) with rfl | rfl | rfl | rfl | rfl | rfl | rfl | rfl | rfl
  · have := F_gaps_eq (i := 0) hv (by omega) hro
    rw [if_neg (by omega)]
    exact ⟨_, by simp [F__law_asked, b__law_asked, this, exitT_same]; rfl⟩
  · have := F_widest_eq (i := 7) hv (by omega) hro
    rw [if_neg (by omega)]
    exact ⟨_, by simp [F__law_asked, b__law_asked, this, exitT_same]; rfl⟩
  · have := F_turned_eq (b := 5) hv (by omega) hro
    rw [if_neg (by omega)]
    exact ⟨_, by simp [F__law_asked, b__law_asked, this, exitT_same]; rfl⟩
  · have := F_short_eq hv (by omega) hro
    rw [if_neg (by omega)]
    exact ⟨_, by simp [F__law_asked, b__law_asked, this, exitT_same]; rfl⟩
  · have := F_slowed_eq (t := 1) hv (by omega) hro (by omega) (by omega)
    rw [if_pos (by have := hro.most; omega)] at this
    rw [if_neg (by omega)]
    simp only [Int.natCast_one] at this
    exact ⟨_, by simp [F__law_asked, b__law_asked, this, exitT_same]; rfl⟩
  · have := F_paired_eq (m := 0) hv (vq_dT (n := 0) (r := [[0], []])) (by omega) hro ringOk2
    rw [show List.any [[0], []] (badDay 0) = false from bad0 ringOk2] at this
    by_cases hb : xs.length ≤ 1000
    · rw [if_neg (by omega)]
      have hl : ¬ 2000 < Nat.lcm r.length [[0], ([] : List Int)].length := by
        have h1 := Nat.le_of_dvd (by have := hro.pos; simp; omega) (Nat.lcm_dvd (Nat.dvd_mul_right r.length 2) (Nat.dvd_mul_left 2 r.length))
        simp only [List.length_cons, List.length_nil, Nat.zero_add, Nat.reduceAdd]
        omega
      rw [if_neg (by simpa using hl)] at this
      exact ⟨_, by simp [F__law_asked, b__law_asked, good2, this, exitT_same]; rfl⟩
    · rw [if_pos ⟨.inl rfl, by omega⟩]
      have hl : 2000 < Nat.lcm r.length [[0], ([] : List Int)].length := by
        have h1 := Nat.le_of_dvd (Nat.lcm_pos (show 0 < r.length by omega) (by simp)) (Nat.dvd_lcm_left r.length [[0], ([] : List Int)].length)
        omega
      rw [if_pos (.inr hl)] at this
      simp [F__law_asked, b__law_asked, good2, this]
  · have := F_paired_eq (m := 0) (vq_dT (n := 0) (r := [[0], []])) hv (by omega) ringOk2 hro
    rw [show r.any (badDay 0) = false from bad0 hro] at this
    by_cases hb : xs.length ≤ 1000
    · rw [if_neg (by omega)]
      have hl : ¬ 2000 < Nat.lcm [[0], ([] : List Int)].length r.length := by
        have h1 := Nat.le_of_dvd (by have := hro.pos; simp; omega) (Nat.lcm_dvd (Nat.dvd_mul_left 2 r.length) (Nat.dvd_mul_right r.length 2))
        simp only [List.length_cons, List.length_nil, Nat.zero_add, Nat.reduceAdd]
        omega
      rw [if_neg (by simpa using hl)] at this
      exact ⟨_, by simp [F__law_asked, b__law_asked, good2, this, exitT_same]; rfl⟩
    · rw [if_pos ⟨.inr rfl, by omega⟩]
      have hl : 2000 < Nat.lcm [[0], ([] : List Int)].length r.length := by
        have h1 := Nat.le_of_dvd (Nat.lcm_pos (by simp) (show 0 < r.length by omega)) (Nat.dvd_lcm_right [[0], ([] : List Int)].length r.length)
        omega
      rw [if_pos (.inr hl)] at this
      simp [F__law_asked, b__law_asked, good2, this]
  · have := F_keeps_eq (h := h) (d := nums40 many) (ns := List.replicate many.toNat 40) rfl (num40 h8) hv (by omega) (by simpa [hmx] using hro)
    rw [if_neg (by omega)]
    exact ⟨_, by simp [F__law_asked, b__law_asked, this, exitT_same]; rfl⟩
  · have := F_first_lack_eq (h := h) (d := nums40 many) (ns := List.replicate many.toNat 40) rfl (num40 h8) hv (by omega) (by simpa [hmx] using hro)
    rw [if_neg (by omega)]
    have hu : (lackD (lackFrom r 0 (List.replicate many.toNat 40))).und h.length = true := by
      cases lackFrom r 0 (List.replicate many.toNat 40) <;> simp [lackD]
    exact ⟨_, by simp [F__law_asked, b__law_asked, this, exitT_same, hu]; rfl⟩
theorem refused_err {w many : Int} {x : D} {h : Hs} (e : F__law_asked [.int w, x, nums40 many] h = .err ⟨"NoRing", none⟩ h) : F__law_refused [.int w, x, nums40 many] h = .ok (.bl true) h := by
  have e1 : subX "NoRing" "NoNumbers" = false := by decide +kernel
  have e2 : subX "NoRing" "NoRing" = true := by decide +kernel
  have e3 : subX "NoRing" "ValueError" = true := by decide +kernel
  have e4 : subX "NoRing" "DaysError" = true := by decide +kernel
  simp [F__law_refused, b__law_refused, sTry, e, e1, e2, e3, e4, unset]
theorem refused_ok {w many : Int} {x v : D} {h : Hs} (e : F__law_asked [.int w, x, nums40 many] h = .ok v h) : F__law_refused [.int w, x, nums40 many] h = .ok .non h := by
  simp [F__law_refused, b__law_refused, sTry, e]
@[simp] theorem eq_bn {n : Bool} {a : Bool} {h : Hs} : eqD n (.bl a) .non h = .ok (.bl n) h := by
  unfold eqD; simp [PyData.eqv]
@[simp] theorem eq_nn {n : Bool} {h : Hs} : eqD n .non .non h = .ok (.bl (!n)) h := by
  unfold eqD; simp [PyData.eqv]
theorem which_turn {a dk td dd : D} {w many : Int} {x : D} {h : Hs} (h0 : 0 ≤ many) (h8 : many ≤ 8) (w0 : 0 ≤ w) (w9 : w < 9) (hx : OkR x) :
    k_law_1_6 [some a, some dk, some td, some (.int many), some dd, some x, some (.int w), none, none] h = .nx [some a, some dk, some td, some (.int many), some dd, some x, none, none, none] h := by
  have hmul : mulD (.tup [.int 40]) (.int many) h = .ok (nums40 many) h := by
    rw [mul_tup (by omega) (by simp; omega) (by omega), rep_one]; simp [nums40, iT]
  have hix : ixD (.lst [.int 8, .int many]) (.int (if 6 < w then 1 else 0)) h = .ok (.int (if 6 < w then many else 8)) h := by
    by_cases hw : 6 < w
    · rw [if_pos hw, if_pos hw]; exact x_ix_row (xs := [.int 8, .int many]) rfl rfl
    · rw [if_neg hw, if_neg hw]; exact x_ix_row (xs := [.int 8, .int many]) rfl rfl
  have hir := F_law_is_ring_eq (many := if 6 < w then many else 8) (h := h) hx
  have i0 : ixD (.lst [.bl true, .non]) (.int 0) h = .ok (.bl true) h := x_ix_row (xs := [.bl true, .non]) rfl rfl
  have i1 : ixD (.lst [.bl true, .non]) (.int 1) h = .ok .non h := x_ix_row (xs := [.bl true, .non]) rfl rfl
  have hin : inD false (.int w) (.tup [.int 5, .int 6]) h = .ok (.bl ([5, 6].contains w)) h := in_ints (ns := [5, 6]) rfl
  have hc : [(5 : Int), 6].contains w = decide (w = 5 ∨ w = 6) := by
    rw [Bool.eq_iff_iff]; simp
  rw [hc] at hin
  cases hb : isRing h (if 6 < w then many else 8) x with
  | false =>
    rw [hb] at hir
    have hre := refused_err (asked_no h0 h8 w0 w9 hb)
    simp [hix, hir, i0, hin, hmul, hre, isNonD, D.isNon]
  | true =>
    rw [hb] at hir
    obtain ⟨xs, hrow, hif⟩ := asked_yes h0 h8 w0 w9 hb hx
    by_cases h56 : (w = 5 ∨ w = 6) ∧ 1000 < xs.length
    · rw [if_pos h56] at hif
      have hre := refused_err hif
      have hl : (1000 : Int) < xs.length := by omega
      simp [hix, hir, i1, hin, hmul, hre, isNonD, D.isNon, h56.1, x_len hrow, hl]
    · rw [if_neg h56] at hif
      obtain ⟨v, hv⟩ := hif
      have hre := refused_ok hv
      by_cases h5 : w = 5 ∨ w = 6
      · have hl : ¬ (1000 : Int) < xs.length := fun hz => h56 ⟨h5, by omega⟩
        simp [hix, hir, i1, hin, hmul, hre, isNonD, D.isNon, h5, x_len hrow, hl]
      · simp [hix, hir, i1, hin, hmul, hre, isNonD, D.isNon, h5]
theorem which_loop {a dk td dd : D} {many : Int} {x : D} {h : Hs} (h0 : 0 ≤ many) (h8 : many ≤ 8) (hx : OkR x) : ∀ ws : List Int, (∀ w ∈ ws, 0 ≤ w ∧ w < 9) →
    loopS (gVar 6) k_law_1_6 (ws.map D.int) [some a, some dk, some td, some (.int many), some dd, some x, none, none, none] h = .nx [some a, some dk, some td, some (.int many), some dd, some x, none, none, none] h
  | [], _ => rfl
  | w :: ws, hw => by
    have h1 := which_turn (a := a) (dk := dk) (td := td) (dd := dd) (h := h) h0 h8 (hw w List.mem_cons_self).1 (hw w List.mem_cons_self).2 hx
    exact (loop_nx rfl h1).trans (which_loop h0 h8 hx ws fun v hv => hw v (List.mem_cons_of_mem _ hv))
theorem truth_eq {a : Bool} {h : Hs} : F__law_truth [.bl a, .bl a] h = .ok (.bl true) h := by
  simp [F__law_truth, b__law_truth]
theorem law_turn {a : D} {dk : List Int} {t : Int} (hd : 31 ≤ dk.length) : ∃ dk' : List Int, dk.length ≤ dk'.length + 31 ∧
    k_law_1 [some a, some (.loc 0), some (.int t), none, none, none, none, none, none] [.lst (dk.map D.int)] = .nx [some a, some (.loc 0), none, none, none, none, none, none, none] [.lst (dk'.map D.int)] := by
  obtain ⟨dk1, d1, e1⟩ := split_last (l := dk) (by omega)
  have l1 : dk.length = dk1.length + 1 := by rw [e1]; simp
  obtain ⟨dk2, d2, e2⟩ := split_last (l := dk1) (by omega)
  have l2 : dk1.length = dk2.length + 1 := by rw [e2]; simp
  obtain ⟨dk3, d3, e3⟩ := split_last (l := dk2) (by omega)
  have l3 : dk2.length = dk3.length + 1 := by rw [e3]; simp
  obtain ⟨dk4, d4, e4⟩ := split_last (l := dk3) (by omega)
  have l4 : dk3.length = dk4.length + 1 := by rw [e4]; simp
  have p1 : popD (.loc 0) [] [.lst (dk.map D.int)] = .ok (.int d1) [.lst (dk1.map D.int)] := by rw [e1]; exact pop_head
  have p4 : popD (.loc 0) [] [.lst (dk3.map D.int)] = .ok (.int d4) [.lst (dk4.map D.int)] := by rw [e4]; exact pop_head
  have m0 : 0 ≤ d1 % 9 := by omega
  have m8 : d1 % 9 ≤ 8 := by omega
  generalize hm : d1 % 9 = many at m0 m8
  obtain ⟨day, q1, q2⟩ := F_law_day_eq (dk := dk2) (d := d2) (r := []) m0 m8
  rw [← e2] at q2
  obtain ⟨bt, q3, q4⟩ := F_bent_eq (dk := dk3) (d := d3) (many := many) (r := [])
  rw [← e3] at q4
  obtain ⟨y, hy, ey⟩ := ix_any (h := [.lst (dk4.map D.int)]) (d := .lst [iT day, bt]) (i := d4 % 2) rfl (by omega) (by simp; omega)
  have hyo : OkD y := by
    simp only [List.mem_cons, List.not_mem_nil, or_false] at hy
    rcases hy with rfl | rfl
    · exact .day
    · exact q3
  have hday := F_is_day_eq (many := many) (d := y) (h := [.lst (dk4.map D.int)])
  have hlday := F_law_is_day_eq (many := many) (d := y) (h := [.lst (dk4.map D.int)]) (hyo.2 _)
  obtain ⟨rg, dk5, r1, r2, r3⟩ := F_ring4_eq (dk := dk4) (r := []) m0 m8 (by omega)
  have fin : ∀ (x : D) (dk6 : List Int), OkR x → (sSeq t_law_1_5 t_law_1_6) [some a, some (.loc 0), some (.int t), some (.int many), some y, some x, none, none, none] [.lst (dk6.map D.int)] = .nx [some a, some (.loc 0), some (.int t), some (.int many), some y, some x, none, none, none] [.lst (dk6.map D.int)] := fun x dk6 hx => by
    have hf : sFor (iRng1 (aCons (eC (.int 9)) aNil)) (gVar 6) k_law_1_6 [some a, some (.loc 0), some (.int t), some (.int many), some y, some x, none, none, none] [.lst (dk6.map D.int)] = .nx [some a, some (.loc 0), some (.int t), some (.int many), some y, some x, none, none, none] [.lst (dk6.map D.int)] :=
      (for_rng (n := 9) rfl (by omega) (by omega)).trans (which_loop m0 m8 hx _ fun w hw => by have := rgI_bd hw; omega)
    simp [F_is_ring_eq, F_law_is_ring_eq hx, truth_eq, hf]
  clear e1 e2 e3 e4
  by_cases ht : 5 < t
  · obtain ⟨dk6, d6, e6⟩ := split_last (l := dk5) (by omega)
    have l6 : dk5.length = dk6.length + 1 := by rw [e6]; simp
    have p6 : popD (.loc 0) [] [.lst (dk5.map D.int)] = .ok (.int d6) [.lst (dk6.map D.int)] := by rw [e6]; exact pop_head
    clear e6
    obtain ⟨o, o1, o2⟩ := F_other_eq (i := d6) (h := [.lst (dk6.map D.int)])
    have hfin := fin o dk6 o1
    refine ⟨dk6, by omega, ?_⟩
    simp [F_is_ring_eq, F_law_is_ring_eq o1, truth_eq] at hfin
    simp [hm, p1, p4, p6, q2, q4, ey, hday, hlday, truth_eq, r3, ht, o2, F_is_ring_eq, F_law_is_ring_eq o1, hfin]
  · have hfin := fin rg dk5 r1
    refine ⟨dk5, by omega, ?_⟩
    simp [F_is_ring_eq, F_law_is_ring_eq r1, truth_eq] at hfin
    simp [hm, p1, p4, q2, q4, ey, hday, hlday, truth_eq, r3, ht, F_is_ring_eq, F_law_is_ring_eq r1, hfin]
theorem law_loop {a : D} : ∀ (ts dk : List Int), 31 * ts.length ≤ dk.length → ∃ dk' : List Int, loopS (gVar 2) k_law_1 (ts.map D.int) [some a, some (.loc 0), none, none, none, none, none, none, none] [.lst (dk.map D.int)] = .nx [some a, some (.loc 0), none, none, none, none, none, none, none] [.lst (dk'.map D.int)]
  | [], dk, _ => ⟨dk, rfl⟩
  | t :: ts, dk, hd => by
    simp only [List.length_cons] at hd
    obtain ⟨dk1, h1, h2⟩ := law_turn (a := a) (dk := dk) (t := t) (by omega)
    obtain ⟨dk2, h3⟩ := law_loop (a := a) ts dk1 (by omega)
    exact ⟨dk2, (loop_nx rfl h2).trans h3⟩
theorem law_pure : ∀ ns : List Int, ns.length ≤ 63 → ∃ h, F_law [.scr (ns.map D.int)] [] = .ok (.bl true) h := by
  intro ns _
  obtain ⟨deck, h1, h2⟩ := F_deck (ns := ns) (n := 260) (by omega)
  obtain ⟨dk, h3⟩ := law_loop (a := .scr (ns.map D.int)) (rgI 0 8) deck (by simp; omega)
  have hf : sFor (iRng1 (aCons (eC (.int 8)) aNil)) (gVar 2) k_law_1 [some (.scr (ns.map D.int)), some (.loc 0), none, none, none, none, none, none, none] [.lst (deck.map D.int)] = .nx [some (.scr (ns.map D.int)), some (.loc 0), none, none, none, none, none, none, none] [.lst (dk.map D.int)] :=
    (for_rng (n := 8) rfl (by omega) (by omega)).trans h3
  refine ⟨[], ?_⟩
  simp at h2
  simp [F_law, b_law, h2, hf]
  exact exitT_app (h := []) rfl

end WD
namespace WD
open PySem PySem.Spec PyProof.Rows L2
theorem law_sp {K : PySem.W.Frag} (pure : ∀ ns : List Int, ns.length ≤ 63 → ∃ h, F_law [.scr (ns.map D.int)] [] = .ok (.bl true) h) (H : Hp) (a : Addr) (ns : List Int) (hl : ns.length ≤ 63) (hO : Only H) (hS : SqL K H a (ns.map V.int)) : spL K F_law [.ref a] H (fun v _ => v = .bl true) fun _ _ _ => False := by
  obtain ⟨h, e⟩ := pure ns hl
  have key : ∀ g : Hp, Same g H → (∀ b o, g b = some o → SzO o) → SqL K g a (ns.map V.int) → spL K F_law [.ref a] H (fun v _ => v = .bl true) fun _ _ _ => False := fun g hg hz hs => by
    refine ⟨rfl, (g, fun _ => none), [], [.scr (ns.map D.int)], [], ⟨hg, hz, fun _ _ e => (nomatch e), fun _ _ e => (nomatch e), rfl, .nil, fun _ h => (nomatch h), fun n a o e => by simp at e⟩, ⟨.ref a, [], rfl, ⟨a, _, rfl, hs, .of_ints ns⟩, rfl⟩, ?_⟩
    rw [e]
    intro v H' G' ms' _ _ _ i
    exact i
  have one : ∀ u, H a = some u → SzO u → SqL K (fun b => if b = a then some u else none) a (ns.map V.int) → spL K F_law [.ref a] H (fun v _ => v = .bl true) fun _ _ _ => False := fun u hu hz hs => by
    refine key _ (fun b o e => ?_) (fun b o e => ?_) hs
    · split at e
      · rename_i hb; cases e; rw [hb]; exact hu
      · cases e
    · split at e
      · cases e; exact hz
      · cases e
  have len : (ns.map V.int).length ≤ sizeLine := by rw [List.length_map]; exact Nat.le_trans hl (by decide)
  rcases hS with (q | ⟨o, q⟩) | q
  · exact one _ q len (.inl (.inl (if_pos rfl)))
  · exact one _ q len (.inl (.inr ⟨o, if_pos rfl⟩))
  · exact key (fun _ => none) (fun _ _ e => (nomatch e)) (fun _ _ e => (nomatch e)) (.inr q)
end WD
open PySem PySem.W PyProof.Rows
set_option maxHeartbeats 0 in
theorem PySem.Challenge.cw_withindays_k04_days_and_rings_told_holds : PySem.Challenge.rw_withindays_k04_days_and_rings_told.Holds := by
  w_on; o_law; k_head; (case hw => w_witness2)
  k_fill
  refine L2.walk_of (l := PySem.Challenge.rw_withindays_k04_days_and_rings_told) (n := 63) (k := 52) (x := "_law_script") (CX := fun w => L2.CX (PySem.Challenge.rw_withindays_k04_days_and_rings_told).prog w) (sp := fun w => WD.spL _ WD.F_law) rfl (by decide) rfl ⟨rfl, by decide, by decide⟩ (fun w h Y => PySem.W.kIn_of Y) ?F (fun _ H a ns hl hO hS => WD.law_sp WD.law_pure H a ns hl hO hS) (fun _ _ _ _ _ (h : L2.CX _ _ _ _ _ _ _ _) => by obtain ⟨_, _, _, _, _, _, _, _, _, _, _, _, z⟩ := h; exact z.elim)
  case F =>
    intro w mg fa h KX G hmg
    refine' WD.all_mk KX G hmg ?a0 ?l0 ?c0 ?k0 ?a1 ?l1 ?c1 ?k1 ?a2 ?l2 ?c2 ?k2 ?a3 ?l3 ?c3 ?k3 ?a4 ?l4 ?c4 ?k4 ?a5 ?l5 ?c5 ?k5 ?a6 ?l6 ?c6 ?k6 ?a7 ?l7 ?c7 ?k7 ?a8 ?l8 ?c8 ?k8 ?a9 ?l9 ?c9 ?k9 ?a10 ?l10 ?c10 ?k10 ?a11 ?l11 ?c11 ?k11 ?a12 ?l12 ?c12 ?k12 ?a13 ?l13 ?c13 ?k13 ?a14 ?l14 ?c14 ?k14 ?a15 ?l15 ?c15 ?k15 ?a16 ?l16 ?c16 ?k16 ?a17 ?l17 ?c17 ?k17 ?a18 ?l18 ?c18 ?k18 ?a19 ?l19 ?c19 ?k19 ?a20 ?l20 ?c20 ?k20 ?a21 ?l21 ?c21 ?k21 ?a22 ?l22 ?c22 ?k22 ?a23 ?l23 ?c23 ?k23 ?a24 ?l24 ?c24 ?k24 ?a25 ?l25 ?c25 ?k25 ?a26 ?l26 ?c26 ?k26 ?a27 ?l27 ?c27 ?k27 ?a28 ?l28 ?c28 ?k28 ?a29 ?l29 ?c29 ?k29 ?a30 ?l30 ?c30 ?k30 ?a31 ?l31 ?c31 ?k31 ?a32 ?l32 ?c32 ?k32 ?a33 ?l33 ?c33 ?k33 ?a34 ?l34 ?c34 ?k34 ?a35 ?l35 ?c35 ?k35 ?a36 ?l36 ?c36 ?k36 ?a37 ?l37 ?c37 ?k37 ?a38 ?l38 ?c38 ?k38 ?z_ValueError ?z_bool ?z_enumerate ?z_int ?z_isinstance ?z_len ?z_list ?z_max ?z_min ?z_range ?z_tuple ?z_zip ?xa_DaysError ?xq_DaysError ?xk_DaysError ?xb_DaysError ?xt_DaysError ?xa_NoNumbers ?xq_NoNumbers ?xk_NoNumbers ?xb_NoNumbers ?xt_NoNumbers ?xa_NoRing ?xq_NoRing ?xk_NoRing ?xb_NoRing ?xt_NoRing ?ehg_NoNumbers ?ehk_NoNumbers ?ehs_NoNumbers ?ehd_NoNumbers ?eha_NoNumbers ?ehn_NoNumbers ?eht_NoNumbers ?ehm_NoNumbers ?ehg_NoRing ?ehk_NoRing ?ehs_NoRing ?ehd_NoRing ?eha_NoRing ?ehn_NoRing ?eht_NoRing ?ehm_NoRing ?m_NoNumbers_DaysError ?m_NoRing_DaysError ?k_NoNumbers_NoNumbers ?k_NoRing_NoNumbers ?k_NoNumbers_NoRing ?k_NoRing_NoRing ?k_NoNumbers_ValueError ?k_NoRing_ValueError ?cc_GREATEST ?cc_LONGEST ?cc_MOST_ON_A_DAY ?cc_MOST_THINGS_gaps ?cc_MOST_THINGS_numbers ?cc_MOST_THINGS_turning
    (case a0 => k_is); (case l0 => k_is); (case c0 => k_is); (case k0 => k_is); (case a1 => k_is); (case l1 => k_is); (case c1 => k_is); (case k1 => k_is); (case a2 => k_is); (case l2 => k_is); (case c2 => k_is); (case k2 => k_is); (case a3 => k_is); (case l3 => k_is); (case c3 => k_is); (case k3 => k_is); (case a4 => k_is); (case l4 => k_is); (case c4 => k_is); (case k4 => k_is); (case a5 => k_is); (case l5 => k_is); (case c5 => k_is); (case k5 => k_is); (case a6 => k_is); (case l6 => k_is); (case c6 => k_is); (case k6 => k_is); (case a7 => k_is); (case l7 => k_is); (case c7 => k_is); (case k7 => k_is); (case a8 => k_is); (case l8 => k_is); (case c8 => k_is); (case k8 => k_is); (case a9 => k_is); (case l9 => k_is); (case c9 => k_is); (case k9 => k_is); (case a10 => k_is); (case l10 => k_is); (case c10 => k_is); (case k10 => k_is); (case a11 => k_is); (case l11 => k_is); (case c11 => k_is); (case k11 => k_is); (case a12 => k_is); (case l12 => k_is); (case c12 => k_is); (case k12 => k_is); (case a13 => k_is); (case l13 => k_is); (case c13 => k_is); (case k13 => k_is); (case a14 => k_is); (case l14 => k_is); (case c14 => k_is); (case k14 => k_is); (case a15 => k_is); (case l15 => k_is); (case c15 => k_is); (case k15 => k_is); (case a16 => k_is); (case l16 => k_is); (case c16 => k_is); (case k16 => k_is); (case a17 => k_is); (case l17 => k_is); (case c17 => k_is); (case k17 => k_is); (case a18 => k_is); (case l18 => k_is); (case c18 => k_is); (case k18 => k_is); (case a19 => k_is); (case l19 => k_is); (case c19 => k_is); (case k19 => k_is); (case a20 => k_is); (case l20 => k_is); (case c20 => k_is); (case k20 => k_is); (case a21 => k_is); (case l21 => k_is); (case c21 => k_is); (case k21 => k_is); (case a22 => k_is); (case l22 => k_is); (case c22 => k_is); (case k22 => k_is); (case a23 => k_is); (case l23 => k_is); (case c23 => k_is); (case k23 => k_is); (case a24 => k_is); (case l24 => k_is); (case c24 => k_is); (case k24 => k_is); (case a25 => k_is); (case l25 => k_is); (case c25 => k_is); (case k25 => k_is); (case a26 => k_is); (case l26 => k_is); (case c26 => k_is); (case k26 => k_is); (case a27 => k_is); (case l27 => k_is); (case c27 => k_is); (case k27 => k_is); (case a28 => k_is); (case l28 => k_is); (case c28 => k_is); (case k28 => k_is); (case a29 => k_is); (case l29 => k_is); (case c29 => k_is); (case k29 => k_is); (case a30 => k_is); (case l30 => k_is); (case c30 => k_is); (case k30 => k_is); (case a31 => k_is); (case l31 => k_is); (case c31 => k_is); (case k31 => k_is); (case a32 => k_is); (case l32 => k_is); (case c32 => k_is); (case k32 => k_is); (case a33 => k_is); (case l33 => k_is); (case c33 => k_is); (case k33 => k_is); (case a34 => k_is); (case l34 => k_is); (case c34 => k_is); (case k34 => k_is); (case a35 => k_is); (case l35 => k_is); (case c35 => k_is); (case k35 => k_is); (case a36 => k_is); (case l36 => k_is); (case c36 => k_is); (case k36 => k_is); (case a37 => k_is); (case l37 => k_is); (case c37 => k_is); (case k37 => k_is); (case a38 => k_is); (case l38 => k_is); (case c38 => k_is); (case k38 => k_is); (case z_ValueError => k_is); (case z_bool => k_is); (case z_enumerate => k_is); (case z_int => k_is); (case z_isinstance => k_is); (case z_len => k_is); (case z_list => k_is); (case z_max => k_is); (case z_min => k_is); (case z_range => k_is); (case z_tuple => k_is); (case z_zip => k_is); (case xa_DaysError => k_is); (case xq_DaysError => k_exc); (case xk_DaysError => k_is); (case xb_DaysError => k_is); (case xt_DaysError => k_is); (case xa_NoNumbers => k_is); (case xq_NoNumbers => k_exc); (case xk_NoNumbers => k_is); (case xb_NoNumbers => k_is); (case xt_NoNumbers => k_is); (case xa_NoRing => k_is); (case xq_NoRing => k_exc); (case xk_NoRing => k_is); (case xb_NoRing => k_is); (case xt_NoRing => k_is); (case ehg_NoNumbers => k_is); (case ehk_NoNumbers => k_is); (case ehs_NoNumbers => k_is); (case ehd_NoNumbers => k_is); (case eha_NoNumbers => k_is); (case ehn_NoNumbers => k_is); (case eht_NoNumbers => k_is); (case ehm_NoNumbers => k_is); (case ehg_NoRing => k_is); (case ehk_NoRing => k_is); (case ehs_NoRing => k_is); (case ehd_NoRing => k_is); (case eha_NoRing => k_is); (case ehn_NoRing => k_is); (case eht_NoRing => k_is); (case ehm_NoRing => k_is); (case m_NoNumbers_DaysError => kts_exm); (case m_NoRing_DaysError => kts_exm); (case k_NoNumbers_NoNumbers => kit_is); (case k_NoRing_NoNumbers => kit_is); (case k_NoNumbers_NoRing => kit_is); (case k_NoRing_NoRing => kit_is); (case k_NoNumbers_ValueError => kit_is); (case k_NoRing_ValueError => kit_is); (case cc_GREATEST => k_is); (case cc_LONGEST => k_is); (case cc_MOST_ON_A_DAY => k_is); (case cc_MOST_THINGS_gaps => k_is); (case cc_MOST_THINGS_numbers => k_is); (case cc_MOST_THINGS_turning => k_is)
