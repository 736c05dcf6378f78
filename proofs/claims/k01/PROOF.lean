import PyProof.Rows.All
import Wide.All
import OpenK.AllK
import Wide.FinOn
import HandS.ForMost
import HandS.ForExc
import HandS.IsInst
import HandS.ExcIs
import HandS.ExcField
import HandS.Zip
import HandS.TupAny
import HandS.TupMul
import HandS.Wide
import KE.KTupSum
import HandS.Dict
import PySem.Challenge.RW_withindays_k01_numbers_told
set_option Elab.async false
set_option linter.all false
set_option autoImplicit false
set_option maxRecDepth 100000
set_option maxHeartbeats 4000000
namespace WD
open PySem PySem.Spec PyProof.Rows L2

inductive D where
  | non | bl (b : Bool) | int (i : Int) | str (x : Str) | ty (n : String)
  | tup (xs : List D) | lst (xs : List D) | scr (xs : List D) | dic (ks : List Key) (xs : List D) | loc (n : Nat)
/-- a changeable thing -/
inductive O where
  | lst (xs : List D)
abbrev Hs : Type := List O
/-- an error: its class's name, its one field -/
structure Xn where
  name : Str
  val : Option (Str × D) := none

/-- the still part of the heap, and what is kept aside -/
abbrev GG : Type := Hp × Hp
structure GLe (G G' : GG) : Prop where
  le : Same G.1 G'.1
  fr : G'.2 = G.2
theorem GLe.refl (G : GG) : GLe G G := ⟨Same.refl _, rfl⟩
theorem GLe.trans {G G1 G2 : GG} (a : GLe G G1) (b : GLe G1 G2) : GLe G G2 := ⟨a.le.trans b.le, b.fr.trans a.fr⟩
def gupd (G : GG) (p : Addr) (o : HO) : GG := (upd G.1 p o, G.2)
mutual
def Is (K : PySem.W.Frag) (G : GG) (ms : List Addr) : D → V → Prop
  | .non, v => v = .non
  | .bl b, v => v = .bl b
  | .int i, v => v = .int i
  | .str x, v => v = .str x
  | .ty n, v => v = .ty n
  | .tup xs, v => ∃ a vs, v = .ref a ∧ G.1 a = some (.tup vs) ∧ IsL K G ms xs vs
  | .lst xs, v => ∃ a vs, v = .ref a ∧ G.1 a = some (.lst vs) ∧ IsL K G ms xs vs
  | .scr xs, v => ∃ a vs, v = .ref a ∧ SqL K G.1 a vs ∧ IsL K G ms xs vs
  | .dic ks xs, v => ∃ a vs, v = .ref a ∧ G.1 a = some (.dK (ks.zip vs)) ∧ ks.length = vs.length ∧ IsL K G ms xs vs
  | .loc n, v => ∃ a, ms[n]? = some a ∧ v = .ref a
def IsL (K : PySem.W.Frag) (G : GG) (ms : List Addr) : List D → List V → Prop
  | [], vs => vs = []
  | x :: xs, vs => ∃ v r, vs = v :: r ∧ Is K G ms x v ∧ IsL K G ms xs r
end
section
variable {K : PySem.W.Frag} {G G' : GG} {H : Hp} {ms ms' : List Addr}
theorem Same.sqT {H H' : Hp} {a : Addr} {xs : List V} (e : Same H H') (h : SqT K H a xs) : SqT K H' a xs := by
  rcases h with (h | ⟨o, h⟩) | h
  · exact .inl (.inl (e _ _ h))
  · exact .inl (.inr ⟨o, e _ _ h⟩)
  · exact .inr h
theorem pre_get {n : Nat} {a : Addr} (p : ms <+: ms') (h : ms[n]? = some a) : ms'[n]? = some a := by
  obtain ⟨t, rfl⟩ := p
  have hl : n < ms.length := by
    rcases Nat.lt_or_ge n ms.length with q | q
    · exact q
    · rw [List.getElem?_eq_none q] at h; cases h
  rw [List.getElem?_append_left hl]; exact h
mutual
theorem Is.mono' (e : Same G.1 G'.1) (p : ms <+: ms') : ∀ (d : D) (v : V), Is K G ms d v → Is K G' ms' d v
  | .non, _, h => h
  | .bl _, _, h => h
  | .int _, _, h => h
  | .str _, _, h => h
  | .ty _, _, h => h
  | .tup xs, v, h => by
    obtain ⟨a, vs, h1, h2, h3⟩ := h
    exact ⟨a, vs, h1, e _ _ h2, IsL.mono' e p xs vs h3⟩
  | .lst xs, v, h => by
    obtain ⟨a, vs, h1, h2, h3⟩ := h
    exact ⟨a, vs, h1, e _ _ h2, IsL.mono' e p xs vs h3⟩
  | .scr xs, v, h => by
    obtain ⟨a, vs, h1, h2, h3⟩ := h
    exact ⟨a, vs, h1, e.seq h2, IsL.mono' e p xs vs h3⟩
  | .dic ks xs, v, h => by
    obtain ⟨a, vs, h1, h2, hl, h3⟩ := h
    exact ⟨a, vs, h1, e _ _ h2, hl, IsL.mono' e p xs vs h3⟩
  | .loc n, v, h => by
    obtain ⟨a, h1, h2⟩ := h
    exact ⟨a, pre_get p h1, h2⟩
theorem IsL.mono' (e : Same G.1 G'.1) (p : ms <+: ms') : ∀ (xs : List D) (vs : List V), IsL K G ms xs vs → IsL K G' ms' xs vs
  | [], _, h => h
  | x :: xs, vs, h => by
    obtain ⟨v, r, h1, h2, h3⟩ := h
    exact ⟨v, r, h1, Is.mono' e p x v h2, IsL.mono' e p xs r h3⟩
end
theorem Is.mono (e : GLe G G') (p : ms <+: ms') (d : D) (v : V) (h : Is K G ms d v) : Is K G' ms' d v := Is.mono' e.le p d v h
theorem IsL.mono (e : GLe G G') (p : ms <+: ms') (xs : List D) (vs : List V) (h : IsL K G ms xs vs) : IsL K G' ms' xs vs := IsL.mono' e.le p xs vs h
theorem IsL.length : ∀ {xs : List D} {vs : List V}, IsL K G ms xs vs → xs.length = vs.length
  | [], _, h => by cases h; rfl
  | x :: xs, _, h => by
    obtain ⟨v, r, rfl, _, h3⟩ := h
    simp [IsL.length h3]
theorem IsL.get : ∀ {xs : List D} {vs : List V} {i : Nat} {d : D}, IsL K G ms xs vs → xs[i]? = some d → ∃ v, vs[i]? = some v ∧ Is K G ms d v
  | [], _, _, _, _, e => by simp at e
  | x :: xs, _, 0, d, h, e => by
    obtain ⟨v, r, rfl, h2, h3⟩ := h
    simp at e; subst e
    exact ⟨v, rfl, h2⟩
  | x :: xs, _, i + 1, d, h, e => by
    obtain ⟨v, r, rfl, h2, h3⟩ := h
    obtain ⟨w, q1, q2⟩ := IsL.get (i := i) h3 (by simpa using e)
    exact ⟨w, by simpa using q1, q2⟩
theorem IsL.getV : ∀ {xs : List D} {vs : List V} {i : Nat} {v : V}, IsL K G ms xs vs → vs[i]? = some v → ∃ d, xs[i]? = some d ∧ Is K G ms d v
  | [], _, _, _, h, e => by cases h; simp at e
  | x :: xs, _, 0, v, h, e => by
    obtain ⟨w, r, rfl, h2, h3⟩ := h
    simp at e; subst e
    exact ⟨x, rfl, h2⟩
  | x :: xs, _, i + 1, v, h, e => by
    obtain ⟨w, r, rfl, h2, h3⟩ := h
    obtain ⟨d, q1, q2⟩ := IsL.getV (i := i) h3 (by simpa using e)
    exact ⟨d, by simpa using q1, q2⟩
theorem IsL.append : ∀ {xs ys : List D} {vs ws : List V}, IsL K G ms xs vs → IsL K G ms ys ws → IsL K G ms (xs ++ ys) (vs ++ ws)
  | [], _, _, _, h, q => by cases h; exact q
  | x :: xs, _, _, _, h, q => by
    obtain ⟨v, r, rfl, h2, h3⟩ := h
    exact ⟨v, _, rfl, h2, IsL.append h3 q⟩
theorem IsL.take : ∀ {xs : List D} {vs : List V} (n : Nat), IsL K G ms xs vs → IsL K G ms (xs.take n) (vs.take n)
  | _, _, 0, _ => by simp [IsL]
  | [], _, n + 1, h => by cases h; simp [IsL]
  | x :: xs, _, n + 1, h => by
    obtain ⟨v, r, rfl, h2, h3⟩ := h
    exact ⟨v, _, rfl, h2, IsL.take n h3⟩
theorem IsL.drop : ∀ {xs : List D} {vs : List V} (n : Nat), IsL K G ms xs vs → IsL K G ms (xs.drop n) (vs.drop n)
  | _, _, 0, h => h
  | [], _, n + 1, h => by cases h; simp [IsL]
  | x :: xs, _, n + 1, h => by
    obtain ⟨v, r, rfl, h2, h3⟩ := h
    exact IsL.drop n h3
theorem IsL.one {d : D} {v : V} (h : Is K G ms d v) : IsL K G ms [d] [v] := ⟨v, [], rfl, h, rfl⟩
theorem IsL.rev : ∀ {xs : List D} {vs : List V}, IsL K G ms xs vs → IsL K G ms xs.reverse vs.reverse
  | [], _, h => by cases h; simp [IsL]
  | x :: xs, _, h => by
    obtain ⟨v, r, rfl, h2, h3⟩ := h
    rw [List.reverse_cons, List.reverse_cons]
    exact (IsL.rev h3).append (.one h2)
theorem IsL.set : ∀ {xs : List D} {vs : List V} {d : D} {v : V} (i : Nat), IsL K G ms xs vs → Is K G ms d v → IsL K G ms (xs.set i d) (vs.set i v)
  | [], _, _, _, _, h, _ => by cases h; simp [IsL]
  | x :: xs, _, d, v, 0, h, q => by
    obtain ⟨w, r, rfl, h2, h3⟩ := h
    exact ⟨v, r, rfl, q, h3⟩
  | x :: xs, _, d, v, i + 1, h, q => by
    obtain ⟨w, r, rfl, h2, h3⟩ := h
    exact ⟨w, _, rfl, h2, IsL.set i h3 q⟩
theorem IsL.dropLast {xs : List D} {vs : List V} (h : IsL K G ms xs vs) : IsL K G ms xs.dropLast vs.dropLast := by
  rw [List.dropLast_eq_take, List.dropLast_eq_take, h.length]
  exact h.take _
theorem IsL.rep {xs : List D} {vs : List V} (h : IsL K G ms xs vs) : ∀ k : Nat, IsL K G ms (List.replicate k xs).flatten (List.replicate k vs).flatten
  | 0 => by simp [IsL]
  | k + 1 => by
    rw [List.replicate_succ, List.replicate_succ, List.flatten_cons, List.flatten_cons]
    exact h.append (IsL.rep h k)
theorem IsL.ints : ∀ {ns : List Int} {vs : List V}, IsL K G ms (ns.map D.int) vs → vs = ns.map V.int
  | [], _, h => h
  | n :: ns, _, h => by
    obtain ⟨v, r, rfl, h2, h3⟩ := h
    rw [IsL.ints h3]; cases h2; rfl
theorem IsL.of_ints : ∀ (ns : List Int), IsL K G ms (ns.map D.int) (ns.map V.int)
  | [] => rfl
  | n :: ns => ⟨_, _, rfl, rfl, IsL.of_ints ns⟩
theorem IsL.bls : ∀ {ns : List Bool} {vs : List V}, IsL K G ms (ns.map D.bl) vs → vs = ns.map V.bl
  | [], _, h => h
  | n :: ns, _, h => by
    obtain ⟨v, r, rfl, h2, h3⟩ := h
    rw [IsL.bls h3]; cases h2; rfl
end

def ObjIs (K : PySem.W.Frag) (G : GG) (ms : List Addr) (H : Hp) (a : Addr) : O → Prop
  | .lst xs => ∃ vs, H a = some (.lst vs) ∧ IsL K G ms xs vs ∧ xs.length ≤ sizeLine
def SzO : HO → Prop
  | .lst vs => vs.length ≤ sizeLine
  | .tup vs => vs.length ≤ sizeLine
  | .frz _ u => SzO u
  | _ => True
structure Hh (K : PySem.W.Frag) (G : GG) (ms : List Addr) (h : Hs) (H : Hp) : Prop where
  sub : Same G.1 H
  gsz : ∀ a o, G.1 a = some o → SzO o
  frm : Same G.2 H
  frd : ∀ a o, G.2 a = some o → G.1 a = none ∧ a ∉ ms
  len : ms.length = h.length
  nd : ms.Nodup
  dis : ∀ a ∈ ms, G.1 a = none
  obj : ∀ (n : Nat) (a : Addr) (o : O), ms[n]? = some a → h[n]? = some o → ObjIs K G ms H a o
section
variable {K : PySem.W.Frag} {G G' : GG} {H H' : Hp} {ms ms' : List Addr} {h h' : Hs}
theorem Hh.at (x : Hh K G ms h H) {n : Nat} {xs : List D} (e : h[n]? = some (.lst xs)) : ∃ a vs, ms[n]? = some a ∧ H a = some (.lst vs) ∧ IsL K G ms xs vs := by
  have hl : n < h.length := by
    rcases Nat.lt_or_ge n h.length with q | q
    · exact q
    · rw [List.getElem?_eq_none q] at e; cases e
  have hm : n < ms.length := by rw [x.len]; exact hl
  obtain ⟨vs, h1, h2, _⟩ := x.obj n ms[n] _ (List.getElem?_eq_getElem hm) e
  exact ⟨ms[n], vs, List.getElem?_eq_getElem hm, h1, h2⟩
theorem Hh.atz (x : Hh K G ms h H) {n : Nat} {xs : List D} (e : h[n]? = some (.lst xs)) : xs.length ≤ sizeLine := by
  have hl : n < h.length := by
    rcases Nat.lt_or_ge n h.length with q | q
    · exact q
    · rw [List.getElem?_eq_none q] at e; cases e
  have hm : n < ms.length := by rw [x.len]; exact hl
  obtain ⟨vs, h1, h2, h3⟩ := x.obj n ms[n] _ (List.getElem?_eq_getElem hm) e
  exact h3
theorem Hh.some_at (x : Hh K G ms h H) {n : Nat} {a : Addr} (e : ms[n]? = some a) : ∃ vs, H a = some (.lst vs) := by
  have hm : n < ms.length := by
    rcases Nat.lt_or_ge n ms.length with q | q
    · exact q
    · rw [List.getElem?_eq_none q] at e; cases e
  have hl : n < h.length := by rw [← x.len]; exact hm
  have q := x.obj n a h[n] e (List.getElem?_eq_getElem hl)
  cases ho : h[n] with
  | lst xs => rw [ho] at q; obtain ⟨vs, q1, _, _⟩ := q; exact ⟨vs, q1⟩
theorem Hh.ne (x : Hh K G ms h H) {a p : Addr} (ha : a ∈ ms) (hp : H p = none) : a ≠ p := by
  obtain ⟨n, hn⟩ := List.getElem?_of_mem ha
  obtain ⟨vs, q⟩ := x.some_at hn
  exact ne_of_none q hp
theorem ObjIs.mono' {o : O} {a : Addr} (e : Same G.1 G'.1) (p : ms <+: ms') (q : ObjIs K G ms H a o) (hh : H' a = H a) : ObjIs K G' ms' H' a o := by
  cases o with
  | lst xs =>
    obtain ⟨vs, h1, h2, h3⟩ := q
    exact ⟨vs, by rw [hh]; exact h1, IsL.mono' e p _ _ h2, h3⟩
theorem ObjIs.mono {o : O} {a : Addr} (e : GLe G G') (p : ms <+: ms') (q : ObjIs K G ms H a o) (hh : H' a = H a) : ObjIs K G' ms' H' a o := q.mono' e.le p hh
theorem same_upd {H : Hp} {p : Addr} {o : HO} (h : H p = none) : Same H (upd H p o) := fun b x e => by
  rw [upd_ne (ne_of_none e h)]
  exact e
theorem Hh.gnone (x : Hh K G ms h H) {p : Addr} (hp : H p = none) : G.1 p = none := x.sub.free hp
theorem Hh.fnone (x : Hh K G ms h H) {p : Addr} (hp : H p = none) : G.2 p = none := x.frm.free hp
theorem gle_upd {p : Addr} {o : HO} (h : G.1 p = none) : GLe G (gupd G p o) := ⟨same_upd h, rfl⟩
theorem pre_refl (l : List Addr) : l <+: l := ⟨[], by simp⟩
theorem upd_some {H : Hp} {p a : Addr} {o u : HO} (hp : H p = none) (e : H a = some u) : upd H p o a = some u := by
  rw [upd_ne (ne_of_none e hp)]; exact e
/-- a new still object -/
theorem Hh.still (x : Hh K G ms h H) {p : Addr} {o : HO} (hp : H p = none) (hz : SzO o) : Hh K (gupd G p o) ms h (upd H p o) := by
  have eg : GLe G (gupd G p o) := gle_upd (x.gnone hp)
  refine ⟨fun a u e => ?_, fun a u e => ?_, fun a u e => upd_some hp (x.frm a u e), fun a u e => ⟨?_, (x.frd a u e).2⟩, x.len, x.nd, fun a ha => ?_, fun n a u e1 e2 => ?_⟩
  · by_cases hz : a = p
    · subst hz
      have e : upd G.1 a o a = some u := e
      rw [upd_same] at e ⊢; exact e
    · have e : upd G.1 p o a = some u := e
      rw [upd_ne hz] at e ⊢; exact x.sub a u e
  · by_cases hq : a = p
    · subst hq
      have e : upd G.1 a o a = some u := e
      rw [upd_same] at e; cases e; exact hz
    · have e : upd G.1 p o a = some u := e
      rw [upd_ne hq] at e; exact x.gsz a u e
  · show upd G.1 p o a = none
    rw [upd_ne (ne_of_none (x.frm a u e) hp)]; exact (x.frd a u e).1
  · show upd G.1 p o a = none
    rw [upd_ne (x.ne ha hp)]; exact x.dis a ha
  · exact (x.obj n a u e1 e2).mono eg (pre_refl _) (upd_ne (x.ne (List.mem_of_getElem? e1) hp))
/-- a new changeable list -/
theorem Hh.alloc (x : Hh K G ms h H) {p : Addr} {xs : List D} {vs : List V} (hp : H p = none) (hx : IsL K G ms xs vs) (hz : xs.length ≤ sizeLine) : Hh K G (ms ++ [p]) (h ++ [.lst xs]) (upd H p (.lst vs)) := by
  have pp : ms <+: ms ++ [p] := ⟨[p], rfl⟩
  refine ⟨fun a u e => upd_some hp (x.sub a u e), x.gsz, fun a u e => upd_some hp (x.frm a u e), fun a u e => ⟨(x.frd a u e).1, fun hm => ?_⟩, by simp [x.len], ?_, fun a ha => ?_, fun n a u e1 e2 => ?_⟩
  · rcases List.mem_append.mp hm with q | q
    · exact (x.frd a u e).2 q
    · have : a = p := by simpa using q
      exact ne_of_none (x.frm a u e) hp this
  · refine List.nodup_append.mpr ⟨x.nd, by simp, fun a ha b hb => ?_⟩
    have : b = p := by simpa using hb
    subst this
    exact x.ne ha hp
  · rcases List.mem_append.mp ha with q | q
    · exact x.dis a q
    · have : a = p := by simpa using q
      subst this; exact x.gnone hp
  · by_cases hn : n < ms.length
    · rw [List.getElem?_append_left hn] at e1
      rw [List.getElem?_append_left (by rw [← x.len]; exact hn)] at e2
      exact (x.obj n a u e1 e2).mono (GLe.refl _) pp (upd_ne (x.ne (List.mem_of_getElem? e1) hp))
    · have hn' : n = ms.length := by
        have hl : n < (ms ++ [p]).length := by
          rcases Nat.lt_or_ge n (ms ++ [p]).length with q | q
          · exact q
          · rw [List.getElem?_eq_none q] at e1; cases e1
        simp at hl; omega
      subst hn'
      simp at e1
      rw [x.len] at e2
      simp at e2
      subst e1 e2
      exact ⟨vs, upd_same, IsL.mono (GLe.refl _) pp _ _ hx, hz⟩
/-- a list changed -/
theorem Hh.write (x : Hh K G ms h H) {n : Nat} {a : Addr} {xs : List D} {vs : List V} (e : ms[n]? = some a) (hx : IsL K G ms xs vs) (hz : xs.length ≤ sizeLine) : Hh K G ms (h.set n (.lst xs)) (upd H a (.lst vs)) := by
  have ha := List.mem_of_getElem? e
  have hg : G.1 a = none := x.dis a ha
  refine ⟨fun b u q => ?_, x.gsz, fun b u q => ?_, x.frd, by simp [x.len], x.nd, x.dis, fun m b u e1 e2 => ?_⟩
  · rw [upd_ne (fun z => by rw [z, hg] at q; cases q)]; exact x.sub b u q
  · rw [upd_ne (fun z => (x.frd b u q).2 (by rw [z]; exact ha))]; exact x.frm b u q
  · by_cases hm : m = n
    · subst hm
      rw [e] at e1; cases e1
      have hl : m < h.length := by
        rcases Nat.lt_or_ge m ms.length with q | q
        · rw [← x.len]; exact q
        · rw [List.getElem?_eq_none q] at e; cases e
      rw [List.getElem?_set_self hl] at e2
      cases e2
      exact ⟨vs, upd_same, hx, hz⟩
    · rw [List.getElem?_set_ne (Ne.symm hm)] at e2
      have hne : b ≠ a := fun z => hm (nd_ix x.nd e1 (by rw [z]; exact e))
      exact (x.obj m b u e1 e2).mono (GLe.refl _) (pre_refl _) (upd_ne hne)
def fupd (G : GG) (p : Addr) (o : HO) : GG := (G.1, upd G.2 p o)
theorem Hh.frame (x : Hh K G ms h H) {p : Addr} {o : HO} (hp : H p = none) : Hh K (fupd G p o) ms h (upd H p o) := by
  refine ⟨fun a u e => upd_some hp (x.sub a u e), x.gsz, fun a u e => ?_, fun a u e => ?_, x.len, x.nd, x.dis, fun n a u e1 e2 => ?_⟩
  · by_cases hz : a = p
    · subst hz
      have e : upd G.2 a o a = some u := e
      rw [upd_same] at e ⊢; exact e
    · have e : upd G.2 p o a = some u := e
      rw [upd_ne hz] at e ⊢; exact x.frm a u e
  · by_cases hz : a = p
    · subst hz; exact ⟨x.gnone hp, fun hm => x.ne hm hp rfl⟩
    · have e : upd G.2 p o a = some u := e
      rw [upd_ne hz] at e; exact x.frd a u e
  · exact ObjIs.mono' (G := G) (q := x.obj n a u e1 e2) (e := Same.refl G.1) (p := pre_refl _) (hh := upd_ne (x.ne (List.mem_of_getElem? e1) hp))
theorem Hh.reframe (x : Hh K G ms h H) {p : Addr} {o o' : HO} (hp : G.2 p = some o) : Hh K (fupd G p o') ms h (upd H p o') := by
  obtain ⟨g0, m0⟩ := x.frd p o hp
  refine ⟨fun a u e => ?_, x.gsz, fun a u e => ?_, fun a u e => ?_, x.len, x.nd, x.dis, fun n a u e1 e2 => ?_⟩
  · rw [upd_ne (fun z => by have e : G.1 a = some u := e; rw [z, g0] at e; cases e)]; exact x.sub a u e
  · by_cases hz : a = p
    · subst hz
      have e : upd G.2 a o' a = some u := e
      rw [upd_same] at e ⊢; exact e
    · have e : upd G.2 p o' a = some u := e
      rw [upd_ne hz] at e ⊢; exact x.frm a u e
  · by_cases hz : a = p
    · subst hz; exact ⟨g0, m0⟩
    · have e : upd G.2 p o' a = some u := e
      rw [upd_ne hz] at e; exact x.frd a u e
  · exact ObjIs.mono' (G := G) (q := x.obj n a u e1 e2) (e := Same.refl G.1) (p := pre_refl _) (hh := upd_ne fun z => m0 (by rw [← z]; exact List.mem_of_getElem? e1))
/-- what was kept aside becomes still; the rest aside as F -/
theorem Hh.thaw (x : Hh K G ms h H) {p : Addr} {o : HO} {F : Hp} (hp : G.2 p = some o) (hF : ∀ a u, F a = some u → a ≠ p ∧ G.2 a = some u) (hz : SzO o) : Hh K (upd G.1 p o, F) ms h H := by
  obtain ⟨g0, m0⟩ := x.frd p o hp
  refine ⟨fun a u e => ?_, fun a u e => ?_, fun a u e => x.frm a u (hF a u e).2, fun a u e => ⟨?_, (x.frd a u (hF a u e).2).2⟩, x.len, x.nd, fun a ha => ?_, fun n a u e1 e2 => ?_⟩
  · by_cases hz : a = p
    · subst hz
      have e : upd G.1 a o a = some u := e
      rw [upd_same] at e; cases e; exact x.frm a _ hp
    · have e : upd G.1 p o a = some u := e
      rw [upd_ne hz] at e; exact x.sub a u e
  · by_cases hq : a = p
    · subst hq
      have e : upd G.1 a o a = some u := e
      rw [upd_same] at e; cases e; exact hz
    · have e : upd G.1 p o a = some u := e
      rw [upd_ne hq] at e; exact x.gsz a u e
  · show upd G.1 p o a = none
    rw [upd_ne (hF a u e).1]; exact (x.frd a u (hF a u e).2).1
  · show upd G.1 p o a = none
    rw [upd_ne (fun z => m0 (by rw [← z]; exact ha))]; exact x.dis a ha
  · exact (x.obj n a u e1 e2).mono' (same_upd g0) (pre_refl _) rfl
/-- .. becomes changeable -/
theorem Hh.adopt (x : Hh K G ms h H) {p : Addr} {xs : List D} {vs : List V} {F : Hp} (hp : G.2 p = some (.lst vs)) (hF : ∀ a u, F a = some u → a ≠ p ∧ G.2 a = some u) (hx : IsL K G ms xs vs) (hz : xs.length ≤ sizeLine) : Hh K (G.1, F) (ms ++ [p]) (h ++ [.lst xs]) H := by
  obtain ⟨g0, m0⟩ := x.frd p _ hp
  have pp : ms <+: ms ++ [p] := ⟨[p], rfl⟩
  refine ⟨x.sub, x.gsz, fun a u e => x.frm a u (hF a u e).2, fun a u e => ⟨(x.frd a u (hF a u e).2).1, fun hm => ?_⟩, by simp [x.len], ?_, fun a ha => ?_, fun n a u e1 e2 => ?_⟩
  · rcases List.mem_append.mp hm with q | q
    · exact (x.frd a u (hF a u e).2).2 q
    · exact (hF a u e).1 (by simpa using q)
  · refine List.nodup_append.mpr ⟨x.nd, by simp, fun a ha b hb => ?_⟩
    have : b = p := by simpa using hb
    subst this
    exact fun z => m0 (by rw [← z]; exact ha)
  · rcases List.mem_append.mp ha with q | q
    · exact x.dis a q
    · have : a = p := by simpa using q
      subst this; exact g0
  · by_cases hn : n < ms.length
    · rw [List.getElem?_append_left hn] at e1
      rw [List.getElem?_append_left (by rw [← x.len]; exact hn)] at e2
      exact ObjIs.mono' (G := G) (q := x.obj n a u e1 e2) (e := Same.refl G.1) (p := pp) (hh := rfl)
    · have hn' : n = ms.length := by
        have hl : n < (ms ++ [p]).length := by
          rcases Nat.lt_or_ge n (ms ++ [p]).length with q | q
          · exact q
          · rw [List.getElem?_eq_none q] at e1; cases e1
        simp at hl; omega
      subst hn'
      simp at e1
      rw [x.len] at e2
      simp at e2
      subst e1 e2
      exact ⟨vs, x.frm _ _ hp, IsL.mono' (G := G) (G' := (G.1, F)) (Same.refl G.1) pp _ _ hx, hz⟩
end
end WD
namespace WD
open PySem PySem.Spec PyProof.Rows L2

inductive R (α : Type) where
  | ok (a : α) (h : Hs)
  | err (x : Xn) (h : Hs)
  | bad
def R.bind {α β : Type} (r : R α) (k : α → Hs → R β) : R β := match r with
  | .ok a h => k a h
  | .err x h => .err x h
  | .bad => .bad
@[simp] theorem R.bind_ok {α β : Type} (a : α) (h : Hs) (k : α → Hs → R β) : (R.ok a h).bind k = k a h := rfl
@[simp] theorem R.bind_err {α β : Type} (x : Xn) (h : Hs) (k : α → Hs → R β) : (R.err x h).bind k = .err x h := rfl
@[simp] theorem R.bind_bad {α β : Type} (k : α → Hs → R β) : (R.bad : R α).bind k = .bad := rfl
abbrev Ss : Type := List (Option D)
abbrev FE : Type := Ss → Hs → R D
abbrev FA : Type := Ss → Hs → R (List D)
abbrev FT : Type := Ss → Hs → R Bool
inductive RS where
  | nx (s : Ss) (h : Hs)
  | rt (d : D) (h : Hs)
  | bk (s : Ss) (h : Hs)
  | ct (s : Ss) (h : Hs)
  | er (x : Xn) (s : Ss) (h : Hs)
  | bad
abbrev FS : Type := Ss → Hs → RS

def clsV (mg : Str → Option Value) (x : Xn) : Value := (mg x.name).getD .none
/-- the error's own dict -/
def XIs (K : PySem.W.Frag) (G : GG) (ms : List Addr) (H : Hp) (x : Xn) (d : Option Addr) : Prop :=
  match x.val with
  | none => d = none
  | some (f, e) => ∃ a v, d = some a ∧ H a = some (.xd [(f, v)]) ∧ Is K G ms e v
section
variable (X : Cx) (W : WX)
/-- what is wanted behind a step -/
def Post {α β : Type} (K : PySem.W.Frag) (mg : Str → Option Value) (E : XK) (G : GG) (ms : List Addr) (I : GG → List Addr → α → β → Prop) (r : R α) (Q : β → Hp → Prop) : Prop :=
  match r with
  | .ok a h' => ∀ b H' G' ms', GLe G G' → ms <+: ms' → Hh K G' ms' h' H' → I G' ms' a b → Q b H'
  | .err x h' => ∀ H' G' ms' d, GLe G G' → ms <+: ms' → Hh K G' ms' h' H' → XIs K G' ms' H' x d → E (clsV mg x) d H'
  | .bad => False
/-- the slots -/
structure Sl (K : PySem.W.Frag) (G : GG) (ms : List Addr) (pin : List (Nat × V)) (s : Ss) (σ : L2.St) : Prop where
  len : s.length = σ.length
  get : ∀ (i : Nat) (d : D), s[i]? = some (some d) → ∃ v, σ[i]? = some (some v) ∧ Is K G ms d v
  pin : ∀ p ∈ pin, σ[p.1]? = some (some p.2)
def rdE (pin : List (Nat × V)) (f : FE) : TE := fun σ H Q => ∃ G ms s h, Hh X.K G ms h H ∧ Sl X.K G ms pin s σ ∧ Post X.K X.mg (fun c d H => W c d σ H) G ms (Is X.K) (f s h) Q
def rdA (pin : List (Nat × V)) (f : FA) : TA := fun σ H Q => ∃ G ms s h, Hh X.K G ms h H ∧ Sl X.K G ms pin s σ ∧ Post X.K X.mg (fun c d H => W c d σ H) G ms (IsL X.K) (f s h) Q
def rdT (pin : List (Nat × V)) (f : FT) : TT := fun σ H Q => ∃ G ms s h, Hh X.K G ms h H ∧ Sl X.K G ms pin s σ ∧ Post X.K X.mg (fun c d H => W c d σ H) G ms (fun _ _ (a b : Bool) => a = b) (f s h) Q
def PostS (K : PySem.W.Frag) (mg : Str → Option Value) (pin : List (Nat × V)) (σ : L2.St) (G : GG) (ms : List Addr) (r : RS) (D : Ends) : Prop :=
  match r with
  | .nx s' h' => ∀ σ' H' G' ms', GLe G G' → ms <+: ms' → Hh K G' ms' h' H' → Sl K G' ms' pin s' σ' → D.nx σ' H'
  | .rt d h' => ∀ v H' G' ms', GLe G G' → ms <+: ms' → Hh K G' ms' h' H' → Is K G' ms' d v → D.rt v H'
  | .bk s' h' => ∀ σ' H' G' ms', GLe G G' → ms <+: ms' → Hh K G' ms' h' H' → Sl K G' ms' pin s' σ' → D.bk σ' H'
  | .ct s' h' => ∀ σ' H' G' ms', GLe G G' → ms <+: ms' → Hh K G' ms' h' H' → Sl K G' ms' pin s' σ' → D.ct σ' H'
  | .er x s' h' => ∀ σ' H' G' ms' d, GLe G G' → ms <+: ms' → Hh K G' ms' h' H' → Sl K G' ms' pin s' σ' → XIs K G' ms' H' x d → W (clsV mg x) d σ' H'
  | .bad => False
def rdS (pin : List (Nat × V)) (f : FS) : TS := fun D σ H => ∃ G ms s h, Hh X.K G ms h H ∧ Sl X.K G ms pin s σ ∧ PostS W X.K X.mg pin σ G ms (f s h) D
end
/-- the judgements -/
abbrev VE (X : Cx) (W : WX) (pin : List (Nat × V)) (e : Expr) (f : FE) : Prop := PE X e (rdE X W pin f)
abbrev VT (X : Cx) (W : WX) (pin : List (Nat × V)) (e : Expr) (f : FT) : Prop := PT X e (rdT X W pin f)
abbrev VW (X : Cx) (W : WX) (pin : List (Nat × V)) (e : Expr) (f : FT) : Prop := PW X e (rdT X W pin f)
abbrev VA (X : Cx) (W : WX) (pin : List (Nat × V)) (es : List Expr) (f : FA) : Prop := PA X es (rdA X W pin f)
abbrev VS (X : Cx) (W : WX) (pin : List (Nat × V)) (st : Stmt) (f : FS) : Prop := PS X st (rdS X W pin f)
abbrev VSs (X : Cx) (W : WX) (pin : List (Nat × V)) (st : List Stmt) (f : FS) : Prop := PSs X st (rdS X W pin f)
/-- weaker readings -/
theorem pe_imp {X : Cx} {e : Expr} {t t' : TE} (h : PE X e t) (q : ∀ σ H Q, t' σ H Q → t σ H Q) : PE X e t' := ⟨fun pins s σ H Q I w => h.run pins s σ H Q I (q _ _ _ w)⟩
theorem pt_imp {X : Cx} {e : Expr} {t t' : TT} (h : PT X e t) (q : ∀ σ H Q, t' σ H Q → t σ H Q) : PT X e t' := ⟨fun pins s σ H Q I w => h.run pins s σ H Q I (q _ _ _ w)⟩
theorem pw_imp {X : Cx} {e : Expr} {t t' : TT} (h : PW X e t) (q : ∀ σ H Q, t' σ H Q → t σ H Q) : PW X e t' := ⟨fun wh pins s σ H Q I w => h.run wh pins s σ H Q I (q _ _ _ w)⟩
theorem pa_imp {X : Cx} {e : List Expr} {t t' : TA} (h : PA X e t) (q : ∀ σ H Q, t' σ H Q → t σ H Q) : PA X e t' := ⟨fun pos pins s σ H Q I w => h.run pos pins s σ H Q I (q _ _ _ w)⟩
theorem ps_imp {X : Cx} {e : Stmt} {t t' : TS} (h : PS X e t) (q : ∀ D σ H, t' D σ H → t D σ H) : PS X e t' := ⟨fun pins s σ H D I w => h.run pins s σ H D I (q _ _ _ w)⟩
theorem pss_imp {X : Cx} {e : List Stmt} {t t' : TS} (h : PSs X e t) (q : ∀ D σ H, t' D σ H → t D σ H) : PSs X e t' := ⟨fun pins s σ H D I w => h.run pins s σ H D I (q _ _ _ w)⟩

section
variable {X : Cx} {W : WX} {pin : List (Nat × V)} {K : PySem.W.Frag} {mg : Str → Option Value} {E : XK} {G G' : GG} {ms ms' : List Addr}
theorem Sl.mono {s : Ss} {σ : L2.St} (x : Sl K G ms pin s σ) (e : GLe G G') (p : ms <+: ms') : Sl K G' ms' pin s σ :=
  ⟨x.len, fun i d q => by obtain ⟨v, h1, h2⟩ := x.get i d q; exact ⟨v, h1, Is.mono e p d v h2⟩, x.pin⟩
theorem pre_trans {a b c : List Addr} (h : a <+: b) (q : b <+: c) : a <+: c := List.IsPrefix.trans h q
theorem Post.mono {α β : Type} {I : GG → List Addr → α → β → Prop} {r : R α} {Q : β → Hp → Prop} (x : Post K mg E G ms I r Q) (e : GLe G G') (p : ms <+: ms') : Post K mg E G' ms' I r Q := by
  cases r with
  | ok a h' => exact fun b H' G2 ms2 h1 h2 => x b H' G2 ms2 (e.trans h1) (pre_trans p h2)
  | err y h' => exact fun H' G2 ms2 d h1 h2 => x H' G2 ms2 d (e.trans h1) (pre_trans p h2)
  | bad => exact x
theorem Post.imp {α β : Type} {I : GG → List Addr → α → β → Prop} {r : R α} {Q Q' : β → Hp → Prop} (x : Post K mg E G ms I r Q) (f : ∀ b H, Q b H → Q' b H) : Post K mg E G ms I r Q' := by
  cases r with
  | ok a h' => exact fun b H' G2 ms2 h1 h2 h3 h4 => f _ _ (x b H' G2 ms2 h1 h2 h3 h4)
  | err y h' => exact x
  | bad => exact x
/-- one step, then another: the second starts where the first has come to -/
theorem Post.bind {α β γ δ : Type} {I : GG → List Addr → α → γ → Prop} {J : GG → List Addr → β → δ → Prop} {r : R α} {k : α → Hs → R β} {Q : δ → Hp → Prop} {Q' : γ → Hp → Prop}
    (x : Post K mg E G ms J (r.bind k) Q)
    (f : ∀ a h1 b H1 G1 ms1, GLe G G1 → ms <+: ms1 → Hh K G1 ms1 h1 H1 → I G1 ms1 a b → Post K mg E G1 ms1 J (k a h1) Q → Q' b H1) : Post K mg E G ms I r Q' := by
  cases r with
  | ok a h' => exact fun b H' G2 ms2 h1 h2 h3 h4 => f a h' b H' G2 ms2 h1 h2 h3 h4 (Post.mono (r := k a h') x h1 h2)
  | err y h' => exact x
  | bad => exact x
theorem Post.fin {α β : Type} {I : GG → List Addr → α → β → Prop} {a : α} {b : β} {h : Hs} {H : Hp} {Q : β → Hp → Prop} (x : Post K mg E G ms I (.ok a h) Q) (hh : Hh K G ms h H) (q : I G ms a b) : Q b H :=
  x b H G ms (GLe.refl _) (pre_refl _) hh q
theorem Post.fin2 {α β : Type} {I : GG → List Addr → α → β → Prop} {a : α} {b : β} {h : Hs} {H : Hp} {Q : β → Hp → Prop} (x : Post K mg E G ms I (.ok a h) Q) (e : GLe G G') (p : ms <+: ms') (hh : Hh K G' ms' h H) (q : I G' ms' a b) : Q b H :=
  x b H G' ms' e p hh q

def eVar (i : Nat) : FE := fun s h => match s[i]? with
  | some (some d) => .ok d h
  | _ => .bad
theorem ve_var (i : Nat) {x : Str} {pos : Pos} (hN : X.N[i]? = some x := by rfl) (hv : Vis X.env.scope x := by first | exact Or.inl rfl | exact Or.inr (Or.inl rfl) | exact Or.inr (Or.inr rfl)) (hd : (x == ("__debug__" : Str)) = false := by decide)
    (hcd : (x == ("__classdict__" : Str)) = false := by decide) : VE X W pin (.Name x pos) (eVar i) := by
  refine pe_imp (pe_var hN hv hd hcd) fun σ H Q ⟨G, ms, s, h, hh, sl, q⟩ => ?_
  unfold eVar at q
  split at q
  · rename_i d e
    obtain ⟨v, e1, e2⟩ := sl.get i d e
    exact ⟨v, e1, q.fin hh e2⟩
  · exact q.elim
def eC (d : D) : FE := fun _ h => .ok d h
theorem ve_int {i : Int} {j : Nat} {pos : Pos} : VE X W pin (.Constant (.int i) j pos) (eC (.int i)) := pe_imp pe_int fun σ H Q ⟨G, ms, s, h, hh, sl, q⟩ => Post.fin (b := V.int i) q hh rfl
theorem ve_bl {i : Bool} {j : Nat} {pos : Pos} : VE X W pin (.Constant (.bool i) j pos) (eC (.bl i)) := pe_imp pe_bl fun σ H Q ⟨G, ms, s, h, hh, sl, q⟩ => Post.fin (b := V.bl i) q hh rfl
theorem ve_str {i : Str} {j : Nat} {pos : Pos} : VE X W pin (.Constant (.str i) j pos) (eC (.str i)) := pe_imp pe_str fun σ H Q ⟨G, ms, s, h, hh, sl, q⟩ => Post.fin (b := V.str i) q hh rfl
theorem ve_non {j : Nat} {pos : Pos} : VE X W pin (.Constant .none j pos) (eC .non) := pe_imp pe_non fun σ H Q ⟨G, ms, s, h, hh, sl, q⟩ => Post.fin (b := V.non) q hh rfl
/-- a constant of the module, an int -/
theorem ve_globI {x : Str} {i : Int} {t : Tok} {pos : Pos} (hg : Gl X x) (hm : X.mg x = some (.int i t)) (hd : (x == ("__debug__" : Str)) = false := by decide) : VE X W pin (.Name x pos) (eC (.int i)) :=
  pe_imp (pe_glob (v := .int i) hg hm ⟨t, rfl⟩ hd) fun σ H Q ⟨G, ms, s, h, hh, sl, q⟩ => Post.fin (b := V.int i) q hh rfl
/-- a built-in class -/
theorem ve_ty {x : Str} {n : String} {pos : Pos} (hg : Gl X x) (hm : X.mg x = none) (hv : bootBuiltins x = some (.type n)) (hn : x ≠ "__name__" := by decide) (hd : (x == ("__debug__" : Str)) = false := by decide) : VE X W pin (.Name x pos) (eC (.ty n)) :=
  pe_imp (pe_bltn (v := .ty n) hg hm hv rfl hn hd) fun σ H Q ⟨G, ms, s, h, hh, sl, q⟩ => Post.fin (b := V.ty n) q hh rfl

def aNil : FA := fun _ h => .ok [] h
def aCons (f : FE) (r : FA) : FA := fun s h => (f s h).bind fun d h1 => (r s h1).bind fun ds h2 => .ok (d :: ds) h2
theorem va_nil : VA X W pin [] aNil := pa_imp pa_nil fun σ H Q ⟨G, ms, s, h, hh, sl, q⟩ => Post.fin (b := ([] : List V)) q hh rfl
theorem va_cons {e : Expr} {es : List Expr} {f : FE} {r : FA} (h1 : VE X W pin e f) (h2 : VA X W pin es r) (hs : starEach (e :: es) X.env = (false, eval e X.env) :: starEach es X.env := by rfl) : VA X W pin (e :: es) (aCons f r) := by
  refine pa_imp (pa_cons h1 h2 hs) fun σ H Q ⟨G, ms, s, h, hh, sl, q⟩ => ?_
  refine ⟨G, ms, s, h, hh, sl, q.bind fun d h1 v H1 G1 ms1 e1 p1 hh1 i1 q1 => ?_⟩
  refine ⟨G1, ms1, s, h1, hh1, sl.mono e1 p1, q1.bind fun ds h2 vs H2 G2 ms2 e2 p2 hh2 i2 q2 => ?_⟩
  exact q2.fin hh2 ⟨v, vs, rfl, Is.mono e2 p2 _ _ i1, i2⟩

def rd2 (K : PySem.W.Frag) (g : D → D → Hs → R D) : R2 := fun x y H Q => ∃ G ms h a b, Hh K G ms h H ∧ Is K G ms a x ∧ Is K G ms b y ∧ Post K (fun _ => none) (fun _ _ _ => False) G ms (Is K) (g a b h) Q
def OpD (X : Cx) (f : Value → Value → Sem Value) (g : D → D → Hs → R D) : Prop := OpR X f (rd2 X.K g)
/-- an operation gives no error -/
def calm2 (g : D → D → Hs → R D) : D → D → Hs → R D := fun a b h => match g a b h with
  | .ok d h' => .ok d h'
  | _ => .bad
def eBin (g : D → D → Hs → R D) (fa fb : FE) : FE := fun s h => (fa s h).bind fun a h1 => (fb s h1).bind fun b h2 => calm2 g a b h2
theorem calm_post {g : D → D → Hs → R D} {a b : D} {h : Hs} {Q : VK} (q : Post K mg E G ms (Is K) (calm2 g a b h) Q) : Post K (fun _ => none) (fun _ _ _ => False) G ms (Is K) (g a b h) Q := by
  unfold calm2 at q
  cases e : g a b h with
  | ok d h' => rw [e] at q; exact q
  | err x h' => rw [e] at q; exact q.elim
  | bad => rw [e] at q; exact q.elim
theorem op_read {g : D → D → Hs → R D} {fa fb : FE} {σ : L2.St} {H : Hp} {Q : VK} (h : rdE X W pin (eBin g fa fb) σ H Q) : tOp (rd2 X.K g) (rdE X W pin fa) (rdE X W pin fb) σ H Q := by
  obtain ⟨G, ms, s, h, hh, sl, q⟩ := h
  refine ⟨G, ms, s, h, hh, sl, q.bind fun a h1 x H1 G1 ms1 e1 p1 hh1 i1 q1 => ?_⟩
  refine ⟨G1, ms1, s, h1, hh1, sl.mono e1 p1, q1.bind fun b h2 y H2 G2 ms2 e2 p2 hh2 i2 q2 => ?_⟩
  exact ⟨G2, ms2, h2, a, b, hh2, Is.mono e2 p2 _ _ i1, i2, calm_post q2⟩
theorem ve_bin {op : Operator} {g : D → D → Hs → R D} {a b : Expr} {fa fb : FE} {pos : Pos} (ho : OpD X (binaryOp op) g) (ha : VE X W pin a fa) (hb : VE X W pin b fb) : VE X W pin (.BinOp a op b pos) (eBin g fa fb) :=
  pe_imp (pe_op ho ha hb) fun _ _ _ h => op_read h
theorem ve_cmp {op : CmpOp} {g : D → D → Hs → R D} {a b : Expr} {fa fb : FE} {pos : Pos} (ho : OpD X (compareOp op) g) (ha : VE X W pin a fa) (hb : VE X W pin b fb) (hm : behindInMarks op b = false := by first | exact nomark _ | rfl) : VE X W pin (.Compare a [op] [b] pos) (eBin g fa fb) :=
  pe_imp (pe_cmpR ho ha hb hm) fun _ _ _ h => op_read h
/-- a truth -/
def truth (r : R D) : R Bool := r.bind fun d h => match d with
  | .bl b => .ok b h
  | _ => .bad
def tV (f : FE) : FT := fun s h => truth (f s h)
theorem test_read {f : FE} {σ : L2.St} {H : Hp} {Q : Bool → Hp → Prop} (h : rdT X W pin (tV f) σ H Q) : rdE X W pin f σ H fun x H' => ∃ k, x = .bl k ∧ Q k H' := by
  obtain ⟨G, ms, s, h, hh, sl, q⟩ := h
  refine ⟨G, ms, s, h, hh, sl, Post.bind q fun a h1 x H1 G1 ms1 e1 p1 hh1 i1 q1 => ?_⟩
  cases a with
  | bl b => cases i1; exact ⟨b, rfl, q1.fin hh1 rfl⟩
  | _ => exact q1.elim
theorem vt_val {e : Expr} {f : FE} (h : VE X W pin e f) (he : ∀ whole, isTrue e X.env whole = (do let v ← whole; standAt e.pos; holding [v] (truthy v)) := by intro _; rfl) : VT X W pin e (tV f) :=
  pt_imp (pt_val h he) fun _ _ _ h => test_read h
theorem vt_cmp {op : CmpOp} {g : D → D → Hs → R D} {a b : Expr} {fa fb : FE} {pos : Pos} (ho : OpD X (compareOp op) g) (ha : VE X W pin a fa) (hb : VE X W pin b fb) (hm : behindInMarks op b = false := by first | exact nomark _ | rfl) : VT X W pin (.Compare a [op] [b] pos) (tV (eBin g fa fb)) := by
  refine pt_imp (pt_cmpR ho ha hb hm) fun σ H Q h => ?_
  exact op_read (test_read h)
end
end WD
namespace WD
open PySem PySem.Spec PyProof.Rows L2
section
variable {X : Cx} {W : WX} {pin : List (Nat × V)} {K : PySem.W.Frag} {mg : Str → Option Value} {E : XK} {G G' : GG} {ms ms' : List Addr} {pos : Pos} {a b c : Expr} {rest : List Expr}
def tNotF (f : FT) : FT := fun s h => (f s h).bind fun b h1 => .ok (!b) h1
def tAndF (f g : FT) : FT := fun s h => (f s h).bind fun b h1 => if b = true then g s h1 else .ok false h1
def tOrF (f g : FT) : FT := fun s h => (f s h).bind fun b h1 => if b = true then .ok true h1 else g s h1
theorem vt_not {f : FT} (h : VT X W pin a f) : VT X W pin (.UnaryOp .Not a pos) (tNotF f) := by
  refine pt_imp (pt_not h) fun σ H Q ⟨G, ms, s, h, hh, sl, q⟩ => ?_
  exact ⟨G, ms, s, h, hh, sl, Post.bind q fun d h1 x H1 G1 ms1 e1 p1 hh1 i1 q1 => q1.fin hh1 (by rw [i1])⟩
theorem vw_and1 {f : FT} (h : VT X W pin a f) : VW X W pin (.BoolOp .And [a] pos) f := pw_and1 h
theorem vw_or1 {f : FT} (h : VT X W pin a f) : VW X W pin (.BoolOp .Or [a] pos) f := pw_or1 h
theorem vw_and {f g : FT} (ha : VT X W pin a f) (hb : VW X W pin (.BoolOp .And (b :: rest) pos) g) : VW X W pin (.BoolOp .And (a :: b :: rest) pos) (tAndF f g) := by
  refine pw_imp (pw_and ha hb) fun σ H Q ⟨G, ms, s, h, hh, sl, q⟩ => ?_
  refine ⟨G, ms, s, h, hh, sl, Post.bind q fun d h1 x H1 G1 ms1 e1 p1 hh1 i1 q1 => ?_⟩
  subst i1
  cases d with
  | true => exact ⟨G1, ms1, s, h1, hh1, sl.mono e1 p1, q1⟩
  | false => exact q1.fin hh1 rfl
theorem vw_or {f g : FT} (ha : VT X W pin a f) (hb : VW X W pin (.BoolOp .Or (b :: rest) pos) g) : VW X W pin (.BoolOp .Or (a :: b :: rest) pos) (tOrF f g) := by
  refine pw_imp (pw_or ha hb) fun σ H Q ⟨G, ms, s, h, hh, sl, q⟩ => ?_
  refine ⟨G, ms, s, h, hh, sl, Post.bind q fun d h1 x H1 G1 ms1 e1 p1 hh1 i1 q1 => ?_⟩
  subst i1
  cases d with
  | false => exact ⟨G1, ms1, s, h1, hh1, sl.mono e1 p1, q1⟩
  | true => exact q1.fin hh1 rfl
theorem vt_w {e : Expr} {f : FT} (h : VW X W pin e f) : VT X W pin e f := PW.pt h
/-- .. as values -/
def eAndF (fa fb : FE) : FE := fun s h => (truth (fa s h)).bind fun k h1 => if k = true then fb s h1 else .ok (.bl false) h1
def eOrF (fa fb : FE) : FE := fun s h => (truth (fa s h)).bind fun k h1 => if k = true then .ok (.bl true) h1 else fb s h1
def eNotF (fa : FE) : FE := fun s h => (truth (fa s h)).bind fun k h1 => .ok (.bl (!k)) h1
def eIfF (t : FT) (fa fb : FE) : FE := fun s h => (t s h).bind fun k h1 => if k = true then fa s h1 else fb s h1
theorem Post.truth {r : R D} {β : Type} {γ : Type} {J : GG → List Addr → γ → β → Prop} {k : Bool → Hs → R γ} {Q : β → Hp → Prop} {Q' : VK} (x : Post K mg E G ms J ((truth r).bind k) Q)
    (f : ∀ c h1 H1 G1 ms1, GLe G G1 → ms <+: ms1 → Hh K G1 ms1 h1 H1 → Post K mg E G1 ms1 J (k c h1) Q → Q' (.bl c) H1) : Post K mg E G ms (Is K) r Q' := by
  cases r with
  | ok d h1 =>
    cases d with
    | bl c =>
      intro v H1 G1 ms1 e1 p1 hh1 i1
      cases i1
      exact f c h1 H1 G1 ms1 e1 p1 hh1 (Post.mono (r := k c h1) x e1 p1)
    | _ => exact x.elim
  | err y h1 => exact x
  | bad => exact x
theorem ve_one {op : BoolOp} {f : FE} (h : VE X W pin a f) : VE X W pin (.BoolOp op [a] pos) f := pe_one h
theorem ve_and {fa fb : FE} (ha : VE X W pin a fa) (hb : VE X W pin (.BoolOp .And (b :: rest) pos) fb) : VE X W pin (.BoolOp .And (a :: b :: rest) pos) (eAndF fa fb) := by
  refine pe_imp (pe_and ha hb) fun σ H Q ⟨G, ms, s, h, hh, sl, q⟩ => ?_
  refine ⟨G, ms, s, h, hh, sl, Post.truth q fun c h1 H1 G1 ms1 e1 p1 hh1 q1 => ⟨c, rfl, ?_⟩⟩
  cases c with
  | true => exact ⟨G1, ms1, s, h1, hh1, sl.mono e1 p1, q1⟩
  | false => exact q1.fin hh1 rfl
theorem ve_or {fa fb : FE} (ha : VE X W pin a fa) (hb : VE X W pin (.BoolOp .Or (b :: rest) pos) fb) : VE X W pin (.BoolOp .Or (a :: b :: rest) pos) (eOrF fa fb) := by
  refine pe_imp (pe_or ha hb) fun σ H Q ⟨G, ms, s, h, hh, sl, q⟩ => ?_
  refine ⟨G, ms, s, h, hh, sl, Post.truth q fun c h1 H1 G1 ms1 e1 p1 hh1 q1 => ⟨c, rfl, ?_⟩⟩
  cases c with
  | false => exact ⟨G1, ms1, s, h1, hh1, sl.mono e1 p1, q1⟩
  | true => exact q1.fin hh1 rfl
theorem ve_not {fa : FE} (ha : VE X W pin a fa) : VE X W pin (.UnaryOp .Not a pos) (eNotF fa) := by
  refine pe_imp (pe_not ha) fun σ H Q ⟨G, ms, s, h, hh, sl, q⟩ => ?_
  exact ⟨G, ms, s, h, hh, sl, Post.truth q fun c h1 H1 G1 ms1 e1 p1 hh1 q1 => ⟨c, rfl, q1.fin hh1 rfl⟩⟩
theorem ve_if {t : FT} {fa fb : FE} (hc : VT X W pin c t) (ha : VE X W pin a fa) (hb : VE X W pin b fb) : VE X W pin (.IfExp c a b pos) (eIfF t fa fb) := by
  refine pe_imp (pe_ifExp hc ha hb) fun σ H Q ⟨G, ms, s, h, hh, sl, q⟩ => ?_
  refine ⟨G, ms, s, h, hh, sl, Post.bind q fun d h1 x H1 G1 ms1 e1 p1 hh1 i1 q1 => ?_⟩
  subst i1
  cases d with
  | true => exact ⟨G1, ms1, s, h1, hh1, sl.mono e1 p1, q1⟩
  | false => exact ⟨G1, ms1, s, h1, hh1, sl.mono e1 p1, q1⟩
/-- a < b < c -/
def eChain (g g' : D → D → Hs → R D) (fa fb fc : FE) : FE := fun s h => (fa s h).bind fun x h1 => (fb s h1).bind fun y h2 => (truth (calm2 g x y h2)).bind fun k h3 => if k = true then (fc s h3).bind fun z h4 => calm2 g' y z h4 else .ok (.bl false) h3
theorem chain_read {g g' : D → D → Hs → R D} {fa fb fc : FE} {σ : L2.St} {H : Hp} {Q : VK} (h : rdE X W pin (eChain g g' fa fb fc) σ H Q) : tChain (rd2 X.K g) (rd2 X.K g') (rdE X W pin fa) (rdE X W pin fb) (rdE X W pin fc) σ H Q := by
  obtain ⟨G, ms, s, h, hh, sl, q⟩ := h
  refine ⟨G, ms, s, h, hh, sl, Post.bind q fun x h1 xv H1 G1 ms1 e1 p1 hh1 i1 q1 => ?_⟩
  refine ⟨G1, ms1, s, h1, hh1, sl.mono e1 p1, Post.bind q1 fun y h2 yv H2 G2 ms2 e2 p2 hh2 i2 q2 => ?_⟩
  refine ⟨G2, ms2, h2, x, y, hh2, Is.mono e2 p2 _ _ i1, i2, calm_post (Post.truth q2 fun k h3 H3 G3 ms3 e3 p3 hh3 q3 => ⟨k, rfl, ?_⟩)⟩
  cases k with
  | false => exact q3.fin hh3 rfl
  | true =>
    refine ⟨G3, ms3, s, h3, hh3, ((sl.mono e1 p1).mono e2 p2).mono e3 p3, Post.bind q3 fun z h4 zv H4 G4 ms4 e4 p4 hh4 i4 q4 => ?_⟩
    exact ⟨G4, ms4, h4, y, z, hh4, Is.mono (e3.trans e4) (pre_trans p3 p4) _ _ i2, i4, calm_post q4⟩
theorem ve_chain {op op' : CmpOp} {g g' : D → D → Hs → R D} {fa fb fc : FE} (ho : OpD X (compareOp op) g) (ho' : OpD X (compareOp op') g') (ha : VE X W pin a fa) (hb : VE X W pin b fb) (hc : VE X W pin c fc)
    (hm : lastMarks [op, op'] [b, c] = false := by with_unfolding_all rfl) : VE X W pin (.Compare a [op, op'] [b, c] pos) (eChain g g' fa fb fc) :=
  pe_imp (pe_chain ho ho' ha hb hc hm) fun _ _ _ h => chain_read h
theorem vt_chain {op op' : CmpOp} {g g' : D → D → Hs → R D} {fa fb fc : FE} (ho : OpD X (compareOp op) g) (ho' : OpD X (compareOp op') g') (ha : VE X W pin a fa) (hb : VE X W pin b fb) (hc : VE X W pin c fc)
    (hm : lastMarks [op, op'] [b, c] = false := by with_unfolding_all rfl) : VT X W pin (.Compare a [op, op'] [b, c] pos) (tV (eChain g g' fa fb fc)) :=
  pt_imp (pt_chain ho ho' ha hb hc hm) fun _ _ _ h => chain_read (test_read h)

def RS.ofR (s : Ss) (r : R D) (k : D → Hs → RS) : RS := match r with
  | .ok d h => k d h
  | .err x h => .er x s h
  | .bad => .bad
@[simp] theorem RS.ofR_ok (s : Ss) (d : D) (h : Hs) (k : D → Hs → RS) : RS.ofR s (.ok d h) k = k d h := rfl
@[simp] theorem RS.ofR_err (s : Ss) (x : Xn) (h : Hs) (k : D → Hs → RS) : RS.ofR s (.err x h) k = .er x s h := rfl
@[simp] theorem RS.ofR_bad (s : Ss) (k : D → Hs → RS) : RS.ofR s .bad k = .bad := rfl
def sNext : FS := fun s h => .nx s h
def sSeq (f g : FS) : FS := fun s h => match f s h with
  | .nx s' h' => g s' h'
  | r => r
def sIf (t : FT) (f g : FS) : FS := fun s h => match t s h with
  | .ok k h1 => if k = true then f s h1 else g s h1
  | .err x h1 => .er x s h1
  | .bad => .bad
def sSet (i : Nat) (f : FE) : FS := fun s h => RS.ofR s (f s h) fun d h1 => .nx (s.set i (some d)) h1
def sRet (f : FE) : FS := fun s h => RS.ofR s (f s h) fun d h1 => .rt d h1
def sExpr (f : FE) : FS := fun s h => RS.ofR s (f s h) fun _ h1 => .nx s h1
def sBreak : FS := fun s h => .bk s h
def sCont : FS := fun s h => .ct s h
theorem PostS.mono {σ σ' : L2.St} {r : RS} {D : Ends} (x : PostS W K mg pin σ G ms r D) (e : GLe G G') (p : ms <+: ms') : PostS W K mg pin σ' G' ms' r D := by
  cases r with
  | nx s h => exact fun σ' H' G2 ms2 h1 h2 => x σ' H' G2 ms2 (e.trans h1) (pre_trans p h2)
  | rt d h => exact fun v H' G2 ms2 h1 h2 => x v H' G2 ms2 (e.trans h1) (pre_trans p h2)
  | bk s h => exact fun σ' H' G2 ms2 h1 h2 => x σ' H' G2 ms2 (e.trans h1) (pre_trans p h2)
  | ct s h => exact fun σ' H' G2 ms2 h1 h2 => x σ' H' G2 ms2 (e.trans h1) (pre_trans p h2)
  | er y s h => exact fun σ' H' G2 ms2 d h1 h2 => x σ' H' G2 ms2 d (e.trans h1) (pre_trans p h2)
  | bad => exact x
/-- an expression, then a statement's end -/
theorem PostS.ofR {σ : L2.St} {s : Ss} {r : R D} {k : D → Hs → RS} {D0 : Ends} {Q' : VK} (sl : Sl K G ms pin s σ) (x : PostS W K mg pin σ G ms (RS.ofR s r k) D0)
    (f : ∀ d h1 v H1 G1 ms1, GLe G G1 → ms <+: ms1 → Hh K G1 ms1 h1 H1 → Is K G1 ms1 d v → PostS W K mg pin σ G1 ms1 (k d h1) D0 → Q' v H1) : Post K mg (fun c d H => W c d σ H) G ms (Is K) r Q' := by
  cases r with
  | ok d h' => exact fun v H' G2 ms2 h1 h2 h3 h4 => f d h' v H' G2 ms2 h1 h2 h3 h4 (PostS.mono (r := k d h') x h1 h2)
  | err y h' => exact fun H' G2 ms2 d h1 h2 h3 h4 => x σ H' G2 ms2 d h1 h2 h3 (sl.mono h1 h2) h4
  | bad => exact x
theorem vss_nil : VSs X W pin [] sNext := pss_imp pss_nil fun D σ H ⟨G, ms, s, h, hh, sl, q⟩ => q σ H G ms (GLe.refl _) (pre_refl _) hh sl
theorem vss_one {st : Stmt} {f : FS} (h : VS X W pin st f) : VSs X W pin [st] f := pss_one h
theorem vss_cons {st : Stmt} {r : List Stmt} {f g : FS} (h1 : VS X W pin st f) (h2 : VSs X W pin r g) : VSs X W pin (st :: r) (sSeq f g) := by
  refine pss_imp (pss_cons h1 h2) fun D σ H ⟨G, ms, s, h, hh, sl, q⟩ => ⟨G, ms, s, h, hh, sl, ?_⟩
  unfold sSeq at q
  cases e : f s h with
  | nx s' h' =>
    rw [e] at q
    exact fun σ' H' G2 ms2 h1 h2 h3 h4 => ⟨G2, ms2, s', h', h3, h4, PostS.mono (r := g s' h') q h1 h2⟩
  | rt d h' => rw [e] at q; exact q
  | bk s' h' => rw [e] at q; exact q
  | ct s' h' => rw [e] at q; exact q
  | er y s' h' => rw [e] at q; exact q
  | bad => rw [e] at q; exact q
theorem vs_pass : VS X W pin (.Pass pos) sNext := ps_imp ps_pass fun D σ H ⟨G, ms, s, h, hh, sl, q⟩ => q σ H G ms (GLe.refl _) (pre_refl _) hh sl
theorem vs_break : VS X W pin (.Break pos) sBreak := ps_imp ps_break fun D σ H ⟨G, ms, s, h, hh, sl, q⟩ => q σ H G ms (GLe.refl _) (pre_refl _) hh sl
theorem vs_cont : VS X W pin (.Continue pos) sCont := ps_imp ps_continue fun D σ H ⟨G, ms, s, h, hh, sl, q⟩ => q σ H G ms (GLe.refl _) (pre_refl _) hh sl
theorem vs_expr {e : Expr} {f : FE} (he : VE X W pin e f) (hs : swapsWith e none pos.line X.env = pure false := by rfl) : VS X W pin (.Expr e pos) (sExpr f) := by
  refine ps_imp (ps_expr he hs) fun D σ H ⟨G, ms, s, h, hh, sl, q⟩ => ⟨G, ms, s, h, hh, sl, PostS.ofR sl q fun d h1 v H1 G1 ms1 e1 p1 hh1 i1 q1 => ?_⟩
  exact q1 σ H1 G1 ms1 (GLe.refl _) (pre_refl _) hh1 (sl.mono e1 p1)
theorem vs_ret {e : Expr} {f : FE} (he : VE X W pin e f) : VS X W pin (.Return (some e) pos) (sRet f) := by
  refine ps_imp (ps_ret he) fun D σ H ⟨G, ms, s, h, hh, sl, q⟩ => ⟨G, ms, s, h, hh, sl, PostS.ofR sl q fun d h1 v H1 G1 ms1 e1 p1 hh1 i1 q1 => ?_⟩
  exact q1 v H1 G1 ms1 (GLe.refl _) (pre_refl _) hh1 i1
theorem vs_if {ya na : List Stmt} {t : FT} {f g : FS} (hc : VT X W pin c t) (ha : VSs X W pin ya f) (hb : VSs X W pin na g) : VS X W pin (.If c ya na pos) (sIf t f g) := by
  refine ps_imp (ps_if hc ha hb) fun D σ H ⟨G, ms, s, h, hh, sl, q⟩ => ⟨G, ms, s, h, hh, sl, ?_⟩
  unfold sIf at q
  cases e : t s h with
  | ok k h1 =>
    rw [e] at q
    intro b H1 G1 ms1 e1 p1 hh1 i1
    subst i1
    cases k with
    | true => exact ⟨G1, ms1, s, h1, hh1, sl.mono e1 p1, PostS.mono (r := f s h1) q e1 p1⟩
    | false => exact ⟨G1, ms1, s, h1, hh1, sl.mono e1 p1, PostS.mono (r := g s h1) q e1 p1⟩
  | err y h1 =>
    rw [e] at q
    exact fun H' G2 ms2 d h1 h2 h3 h4 => q σ H' G2 ms2 d h1 h2 h3 (sl.mono h1 h2) h4
  | bad => rw [e] at q; exact q
/-- free of the pinned slots -/
def NotPin (pin : List (Nat × V)) (i : Nat) : Prop := ∀ p ∈ pin, p.1 ≠ i
theorem notPin_nil {i : Nat} : NotPin [] i := fun _ h => nomatch h
theorem Sl.set {s : Ss} {σ : L2.St} {i : Nat} {d : D} {v : V} (x : Sl K G ms pin s σ) (q : Is K G ms d v) (np : NotPin pin i) : Sl K G ms pin (s.set i (some d)) (σ.set i (some v)) := by
  refine ⟨by simp [x.len], fun j d' e => ?_, fun p hp => ?_⟩
  · by_cases hj : j = i
    · subst hj
      have hl : j < s.length := by
        rcases Nat.lt_or_ge j s.length with z | z
        · exact z
        · rw [List.getElem?_eq_none (by simpa using z)] at e; cases e
      rw [List.getElem?_set_self hl] at e
      cases e
      exact ⟨v, List.getElem?_set_self (by rw [← x.len]; exact hl), q⟩
    · rw [List.getElem?_set_ne (Ne.symm hj)] at e ⊢
      exact x.get j d' e
  · rw [List.getElem?_set_ne (Ne.symm (np p hp))]
    exact x.pin p hp
theorem vs_set (i : Nat) {x : Str} {e : Expr} {f : FE} {pos' : Pos} (hN : X.N.Nodup) (he : VE X W pin e f) (hi : X.N[i]? = some x := by rfl) (hx : Loc X.env.scope x := by first | exact Or.inl rfl | exact Or.inr rfl) (np : NotPin pin i := by first | exact notPin_nil | decide)
    (hs : swapsWith e (some (.Name x pos')) pos.line X.env = pure false := by rfl) (hf : X.fn x = true ∨ X.env.scope.names.lookup x = some .local := by first | exact .inl rfl | exact .inr rfl | assumption) : VS X W pin (.Assign [.Name x pos'] e pos) (sSet i f) := by
  refine ps_imp (ps_set hN hi hx he hs hf) fun D σ H ⟨G, ms, s, h, hh, sl, q⟩ => ⟨G, ms, s, h, hh, sl, PostS.ofR sl q fun d h1 v H1 G1 ms1 e1 p1 hh1 i1 q1 => ?_⟩
  exact q1 _ H1 G1 ms1 (GLe.refl _) (pre_refl _) hh1 ((sl.mono e1 p1).set i1 np)
end
end WD
namespace WD
open PySem PySem.Spec PyProof.Rows L2
def O.items : O → Option (List D)
  | .lst xs => some xs
def locAt (h : Hs) (n : Nat) : Option (List D) := (h[n]?).bind O.items
theorem locAt_some {h : Hs} {n : Nat} {xs : List D} (e : locAt h n = some xs) : h[n]? = some (.lst xs) := by
  unfold locAt at e
  cases q : h[n]? with
  | none => rw [q] at e; cases e
  | some o =>
    rw [q] at e
    cases o with
    | lst ys => cases e; rfl
theorem locAt_of {h : Hs} {n : Nat} {xs : List D} (e : h[n]? = some (.lst xs)) : locAt h n = some xs := by
  unfold locAt; rw [e]; rfl
def lstX (h : Hs) : D → Option (List D)
  | .lst xs => some xs
  | .loc n => locAt h n
  | _ => none
def lstOf (h : Hs) : D → Option (List D)
  | .scr xs => some xs
  | d => lstX h d
def rowOf (h : Hs) : D → Option (List D)
  | .tup xs => some xs
  | d => lstOf h d
section
variable {X : Cx} {W : WX} {pin : List (Nat × V)} {K : PySem.W.Frag} {mg : Str → Option Value} {E : XK} {G G' : GG} {H : Hp} {ms ms' : List Addr} {h : Hs} {pos : Pos} {a b c : Expr} {rest : List Expr}
theorem Hh.listX (hh : Hh K G ms h H) {d : D} {v : V} {xs : List D} (i : Is K G ms d v) (e : lstX h d = some xs) : ∃ a vs, v = .ref a ∧ H a = some (.lst vs) ∧ IsL K G ms xs vs := by
  cases d with
  | lst ys =>
    cases e
    obtain ⟨a, vs, h1, h2, h3⟩ := i
    exact ⟨a, vs, h1, hh.sub _ _ h2, h3⟩
  | loc n =>
    obtain ⟨a, h1, h2⟩ := i
    obtain ⟨a', vs, q1, q2, q3⟩ := hh.at (locAt_some e)
    rw [h1] at q1; cases q1
    exact ⟨a, vs, h2, q2, q3⟩
  | _ => cases e
theorem Hh.list (hh : Hh K G ms h H) {d : D} {v : V} {xs : List D} (i : Is K G ms d v) (e : lstOf h d = some xs) : ∃ a vs, v = .ref a ∧ SqL K H a vs ∧ IsL K G ms xs vs := by
  cases d with
  | scr ys =>
    cases e
    obtain ⟨a, vs, h1, h2, h3⟩ := i
    exact ⟨a, vs, h1, hh.sub.seq h2, h3⟩
  | _ =>
    obtain ⟨a, vs, h1, h2, h3⟩ := hh.listX i e
    exact ⟨a, vs, h1, .of h2, h3⟩
theorem Hh.tuple (hh : Hh K G ms h H) {v : V} {xs : List D} (i : Is K G ms (.tup xs) v) : ∃ a vs, v = .ref a ∧ SqT K H a vs ∧ IsL K G ms xs vs := by
  obtain ⟨a, vs, h1, h2, h3⟩ := i
  exact ⟨a, vs, h1, .of (hh.sub _ _ h2), h3⟩
theorem Hh.row (hh : Hh K G ms h H) {d : D} {v : V} {xs : List D} (i : Is K G ms d v) (e : rowOf h d = some xs) : ∃ a vs, v = .ref a ∧ (SqL K H a vs ∨ SqT K H a vs) ∧ IsL K G ms xs vs := by
  cases d with
  | tup ys =>
    cases e
    obtain ⟨a, vs, h1, h2, h3⟩ := hh.tuple i
    exact ⟨a, vs, h1, .inr h2, h3⟩
  | _ =>
    obtain ⟨a, vs, h1, h2, h3⟩ := hh.list i e
    exact ⟨a, vs, h1, .inl h2, h3⟩
theorem Hh.rowz (hh : Hh K G ms h H) {d : D} {v : V} {xs : List D} (i : Is K G ms d v) (e : rowOf h d = some xs) : xs.length ≤ sizeLine := by
  cases d with
  | tup ys =>
    cases e
    obtain ⟨a, vs, h1, h2, h3⟩ := i
    rw [h3.length]; exact hh.gsz _ _ h2
  | lst ys =>
    cases e
    obtain ⟨a, vs, h1, h2, h3⟩ := i
    rw [h3.length]; exact hh.gsz _ _ h2
  | scr ys =>
    cases e
    obtain ⟨a, vs, h1, h2, h3⟩ := i
    rw [h3.length]
    rcases h2 with (h2 | ⟨o, h2⟩) | ⟨o, its, n, _, _, _, _, hz, hv⟩
    · exact hh.gsz _ _ h2
    · exact hh.gsz _ _ h2
    · rw [hv.length, Array.length_toList]; exact hz
  | loc n => exact hh.atz (locAt_some e)
  | _ => cases e
/-- a new still list, tuple: the end of a step -/
theorem Post.newT {xs : List D} {vs : List V} {Q : VK} {p : Addr} (q : Post K mg E G ms (Is K) (.ok (.tup xs) h) Q) (hh : Hh K G ms h H) (i : IsL K G ms xs vs) (hz : xs.length ≤ sizeLine) (hp : H p = none) : Q (.ref p) (upd H p (.tup vs)) := by
  have eg : GLe G (gupd G p (.tup vs)) := gle_upd (hh.gnone hp)
  exact q.fin2 eg (pre_refl _) (hh.still hp (show vs.length ≤ sizeLine by rw [← i.length]; exact hz)) ⟨p, vs, rfl, upd_same, IsL.mono eg (pre_refl _) _ _ i⟩
/-- a list that comes to be: still (false) or changeable (true) -/
def newL (m : Bool) (xs : List D) (h : Hs) : R D := if m = true then .ok (.loc h.length) (h ++ [.lst xs]) else .ok (.lst xs) h
theorem Post.newL {m : Bool} {xs : List D} {vs : List V} {Q : VK} {p : Addr} (q : Post K mg E G ms (Is K) (newL m xs h) Q) (hh : Hh K G ms h H) (i : IsL K G ms xs vs) (hz : xs.length ≤ sizeLine) (hp : H p = none) : Q (.ref p) (upd H p (.lst vs)) := by
  cases m with
  | false =>
    have eg : GLe G (gupd G p (.lst vs)) := gle_upd (hh.gnone hp)
    exact Post.fin2 (a := D.lst xs) q eg (pre_refl _) (hh.still hp (show vs.length ≤ sizeLine by rw [← i.length]; exact hz)) ⟨p, vs, rfl, upd_same, IsL.mono eg (pre_refl _) _ _ i⟩
  | true =>
    refine Post.fin2 (a := D.loc h.length) q (GLe.refl _) ⟨[p], rfl⟩ (hh.alloc hp i hz) ⟨p, ?_, rfl⟩
    rw [← hh.len]
    simp

def eTup (f : FA) : FE := fun s h => (f s h).bind fun ds h1 => if ds.length ≤ sizeLine then .ok (.tup ds) h1 else .bad
def eLst (m : Bool) (f : FA) : FE := fun s h => (f s h).bind fun ds h1 => if ds.length ≤ sizeLine then newL m ds h1 else .bad
theorem ve_tup {es : List Expr} {f : FA} {x1 : Nat} (h : VA X W pin es f) : VE X W pin (.Tuple es x1 pos) (eTup f) := by
  refine pe_imp (pe_tup h) fun σ H Q ⟨G, ms, s, h, hh, sl, q⟩ => ⟨G, ms, s, h, hh, sl, Post.bind q fun ds h1 vs H1 G1 ms1 e1 p1 hh1 i1 q1 => ?_⟩
  by_cases hz : ds.length ≤ sizeLine
  · rw [if_pos hz] at q1
    exact ⟨by rw [← i1.length]; exact hz, fun p hp => q1.newT hh1 i1 hz hp⟩
  · rw [if_neg hz] at q1; exact q1.elim
theorem ve_lst (m : Bool) {es : List Expr} {f : FA} (h : VA X W pin es f) : VE X W pin (.List es pos) (eLst m f) := by
  refine pe_imp (pe_lst h) fun σ H Q ⟨G, ms, s, h, hh, sl, q⟩ => ⟨G, ms, s, h, hh, sl, Post.bind q fun ds h1 vs H1 G1 ms1 e1 p1 hh1 i1 q1 => ?_⟩
  by_cases hz : ds.length ≤ sizeLine
  · rw [if_pos hz] at q1
    exact ⟨by rw [← i1.length]; exact hz, fun p hp => q1.newL hh1 i1 hz hp⟩
  · rw [if_neg hz] at q1; exact q1.elim

theorem len_rep {α : Type} (xs : List α) (k : Nat) : (List.replicate k xs).flatten.length = k * xs.length := by
  induction k with
  | zero => simp
  | succ k ih => rw [List.replicate_succ, List.flatten_cons, List.length_append, ih, Nat.succ_mul, Nat.add_comm]
theorem rep_small {k : Int} {n : Nat} (h1 : k ≤ 1000) (h2 : n ≤ 1000) : k.toNat * n ≤ sizeLine := by
  have : k.toNat ≤ 1000 := by omega
  calc k.toNat * n ≤ 1000 * 1000 := Nat.mul_le_mul this h2
    _ ≤ sizeLine := by decide
def addD : D → D → Hs → R D
  | .int i, .int j, h => .ok (.int (i + j)) h
  | .str x, .str y, h => if x.length + y.length ≤ sizeLine then .ok (.str (x ++ y)) h else .bad
  | .tup xs, .tup ys, h => if xs.length + ys.length ≤ sizeLine then .ok (.tup (xs ++ ys)) h else .bad
  | x, y, h => match lstX h x, lstX h y with
    | some xs, some ys => if xs.length + ys.length ≤ sizeLine then .ok (.lst (xs ++ ys)) h else .bad
    | _, _ => .bad
theorem cat_ok {x y : V} {da db : D} {xs ys : List D} {Q : VK} (hh : Hh K G ms h H) (ia : Is K G ms da x) (ib : Is K G ms db y) (ea : lstX h da = some xs) (eb : lstX h db = some ys)
    (q : Post K mg E G ms (Is K) (if xs.length + ys.length ≤ sizeLine then .ok (.lst (xs ++ ys)) h else .bad) Q) : rCat x y H Q := by
  obtain ⟨l, vs, rfl, h2, h3⟩ := hh.listX ia ea
  obtain ⟨l', ws, rfl, k2, k3⟩ := hh.listX ib eb
  by_cases hz : xs.length + ys.length ≤ sizeLine
  · rw [if_pos hz] at q
    exact ⟨l, l', vs, ws, rfl, rfl, h2, k2, by rw [← h3.length, ← k3.length]; exact hz, fun p hp => Post.newL (m := false) q hh (h3.append k3) (by rw [List.length_append]; exact hz) hp⟩
  · rw [if_neg hz] at q; exact q.elim
theorem od_add : OpD X (binaryOp .Add) addD := by
  intro pins s σ H x y v u Q I rx ry ⟨G, ms, h, da, db, hh, ia, ib, q⟩
  unfold addD at q
  split at q
  · cases ia; cases ib
    exact op_add pins s σ H _ _ v u Q I rx ry ⟨_, _, rfl, rfl, q.fin hh rfl⟩
  · cases ia; cases ib
    split at q
    · rename_i hz
      exact op_add_str pins s σ H _ _ v u Q I rx ry ⟨_, _, rfl, rfl, hz, q.fin hh rfl⟩
    · exact q.elim
  · rename_i xs ys
    split at q
    · rename_i hz
      obtain ⟨l, vs, rfl, h2, h3⟩ := hh.tuple ia
      obtain ⟨l', ws, rfl, k2, k3⟩ := hh.tuple ib
      refine op_catA pins s σ H _ _ v u Q I rx ry ⟨l, l', vs, ws, rfl, rfl, h2, k2, by rw [← h3.length, ← k3.length]; exact hz, fun e0 => ?_, fun _ e0 => ?_, fun _ _ p hp => q.newT hh (h3.append k3) (by rw [List.length_append]; exact hz) hp⟩
      · subst e0
        have : xs = [] := by
          have hl := h3.length
          exact List.length_eq_zero_iff.mp (by simpa using hl)
        subst this
        exact q.fin hh ib
      · subst e0
        have : ys = [] := by
          have hl := k3.length
          exact List.length_eq_zero_iff.mp (by simpa using hl)
        subst this
        rw [List.append_nil] at q
        exact q.fin hh ia
    · exact q.elim
  · split at q
    · rename_i xs ys e1 e2
      exact op_cat pins s σ H _ _ v u Q I rx ry (cat_ok hh ia ib e1 e2 q)
    · exact q.elim
def subD : D → D → Hs → R D
  | .int i, .int j, h => .ok (.int (i - j)) h
  | _, _, _ => .bad
theorem od_sub : OpD X (binaryOp .Sub) subD := by
  intro pins s σ H x y v u Q I rx ry ⟨G, ms, h, da, db, hh, ia, ib, q⟩
  unfold subD at q
  split at q
  · cases ia; cases ib
    exact op_sub pins s σ H _ _ v u Q I rx ry ⟨_, _, rfl, rfl, q.fin hh rfl⟩
  · exact q.elim
def smallI (i : Int) : Prop := -(2 ^ 64) < i ∧ i < 2 ^ 64
open Classical in
noncomputable def mulD : D → D → Hs → R D
  | .int i, .int j, h => if smallI i ∨ smallI j then .ok (.int (i * j)) h else .bad
  | .lst xs, .int k, h => if -(2 ^ 63) ≤ k ∧ k < 2 ^ 63 ∧ xs.length * k.toNat ≤ sizeLine then .ok (.lst (List.replicate k.toNat xs).flatten) h else .bad
  | .tup xs, .int k, h => if xs ≠ [] ∧ 2 ≤ k ∧ k ≤ 1000 ∧ xs.length ≤ 1000 then .ok (.tup (List.replicate k.toNat xs).flatten) h else .bad
  | _, _, _ => .bad
theorem od_mul : OpD X (binaryOp .Mult) mulD := by
  intro pins s σ H x y v u Q I rx ry ⟨G, ms, h, da, db, hh, ia, ib, q⟩
  unfold mulD at q
  split at q
  · cases ia; cases ib
    split at q
    · rename_i hz
      exact op_mul pins s σ H _ _ v u Q I rx ry ⟨_, _, rfl, rfl, hz, q.fin hh rfl⟩
    · exact q.elim
  · rename_i xs k
    cases ib
    split at q
    · rename_i hz
      obtain ⟨l, vs, rfl, h2, h3⟩ := hh.listX ia rfl
      exact op_rep pins s σ H _ _ v u Q I rx ry ⟨l, k, vs, rfl, rfl, h2, hz.1, hz.2.1, by rw [← h3.length]; exact hz.2.2, fun p hp => Post.newL (m := false) q hh (h3.rep _) (by rw [len_rep]; rw [Nat.mul_comm]; exact hz.2.2) hp⟩
    · exact q.elim
  · rename_i xs k
    cases ib
    split at q
    · rename_i hz
      obtain ⟨l, vs, rfl, h2, h3⟩ := hh.tuple ia
      refine op_repT pins s σ H _ _ v u Q I rx ry ⟨l, k, vs, rfl, rfl, h2, fun e0 => ?_, hz.2.1, hz.2.2.1, by rw [← h3.length]; exact hz.2.2.2, fun p hp => q.newT hh (h3.rep _) (by rw [len_rep]; exact rep_small hz.2.2.1 hz.2.2.2) hp⟩
      subst e0
      have hl := h3.length
      exact hz.1 (List.length_eq_zero_iff.mp (by simpa using hl))
    · exact q.elim
  · exact q.elim
open Classical in
noncomputable def fdivD : D → D → Hs → R D
  | .int i, .int j, h => if 0 < j ∧ j.natAbs.log2 < 9000 then .ok (.int (i / j)) h else .bad
  | _, _, _ => .bad
theorem od_fdiv : OpD X (binaryOp .FloorDiv) fdivD := by
  intro pins s σ H x y v u Q I rx ry ⟨G, ms, h, da, db, hh, ia, ib, q⟩
  unfold fdivD at q
  split at q
  · cases ia; cases ib
    split at q
    · rename_i hz
      exact op_fdivW pins s σ H _ _ v u Q I rx ry ⟨_, _, rfl, rfl, hz, q.fin hh rfl⟩
    · exact q.elim
  · exact q.elim
def modD : D → D → Hs → R D
  | .int i, .int j, h => if 0 < j then .ok (.int (i % j)) h else .bad
  | _, _, _ => .bad
theorem od_mod : OpD X (binaryOp .Mod) modD := by
  intro pins s σ H x y v u Q I rx ry ⟨G, ms, h, da, db, hh, ia, ib, q⟩
  unfold modD at q
  split at q
  · cases ia; cases ib
    split at q
    · rename_i hz
      exact op_mod pins s σ H _ _ v u Q I rx ry ⟨_, _, rfl, rfl, hz, q.fin hh rfl⟩
    · exact q.elim
  · exact q.elim
open Classical in
noncomputable def powD : D → D → Hs → R D
  | .int i, .int j, h => if 0 ≤ j ∧ j ≤ 1000000 ∧ i.natAbs < 2 ^ 64 then .ok (.int (i ^ j.toNat)) h else .bad
  | _, _, _ => .bad
theorem od_pow : OpD X (binaryOp .Pow) powD := by
  intro pins s σ H x y v u Q I rx ry ⟨G, ms, h, da, db, hh, ia, ib, q⟩
  unfold powD at q
  split at q
  · cases ia; cases ib
    split at q
    · rename_i hz
      exact op_pow pins s σ H _ _ v u Q I rx ry ⟨_, _, rfl, rfl, hz, q.fin hh rfl⟩
    · exact q.elim
  · exact q.elim
/-- -a -/
def negD (fa : FE) : FE := fun s h => (fa s h).bind fun d h1 => match d with
  | .int i => .ok (.int (-i)) h1
  | _ => .bad
theorem ve_neg {fa : FE} (ha : VE X W pin a fa) : VE X W pin (.UnaryOp .USub a pos) (negD fa) := by
  refine pe_imp (pe_un un_neg ha) fun σ H Q ⟨G, ms, s, h, hh, sl, q⟩ => ⟨G, ms, s, h, hh, sl, Post.bind q fun d h1 v H1 G1 ms1 e1 p1 hh1 i1 q1 => ?_⟩
  cases d with
  | int i => cases i1; exact ⟨i, rfl, q1.fin hh1 rfl⟩
  | _ => exact q1.elim

def cmpI (p : Int → Int → Bool) : D → D → Hs → R D
  | .int i, .int j, h => .ok (.bl (p i j)) h
  | _, _, _ => .bad
theorem od_cmpI {op : CmpOp} {p : Int → Int → Bool} (r : OpR X (compareOp op) (rI0 fun i j => .bl (p i j))) : OpD X (compareOp op) (cmpI p) := by
  intro pins s σ H x y v u Q I rx ry ⟨G, ms, h, da, db, hh, ia, ib, q⟩
  unfold cmpI at q
  split at q
  · cases ia; cases ib
    exact r pins s σ H _ _ v u Q I rx ry ⟨_, _, rfl, rfl, q.fin hh rfl⟩
  · exact q.elim
abbrev ltD := cmpI fun i j => decide (i < j)
abbrev leD := cmpI fun i j => decide (i ≤ j)
abbrev gtD := cmpI fun i j => decide (j < i)
abbrev geD := cmpI fun i j => decide (j ≤ i)
theorem od_lt : OpD X (compareOp .Lt) ltD := od_cmpI op_lt
theorem od_le : OpD X (compareOp .LtE) leD := od_cmpI op_le
theorem od_gt : OpD X (compareOp .Gt) gtD := od_cmpI op_gt
theorem od_ge : OpD X (compareOp .GtE) geD := od_cmpI op_ge
/-- is None -/
def D.isNon : D → Bool
  | .non => true
  | _ => false
def isNonD (n : Bool) : D → D → Hs → R D
  | d, .non, h => .ok (.bl (if n = true then !d.isNon else d.isNon)) h
  | _, _, _ => .bad
theorem is_non {d : D} {v : V} (i : Is K G ms d v) : decide (v = .non) = d.isNon := by
  cases d with
  | non => cases i; rfl
  | bl _ => cases i; rfl
  | int _ => cases i; rfl
  | str _ => cases i; rfl
  | ty _ => cases i; rfl
  | tup _ => obtain ⟨_, _, rfl, _⟩ := i; rfl
  | lst _ => obtain ⟨_, _, rfl, _⟩ := i; rfl
  | scr _ => obtain ⟨_, _, rfl, _⟩ := i; rfl
  | dic _ _ => obtain ⟨_, _, rfl, _⟩ := i; rfl
  | loc _ => obtain ⟨_, _, rfl⟩ := i; rfl
theorem od_is : OpD X (compareOp .Is) (isNonD false) := by
  intro pins s σ H x y v u Q I rx ry ⟨G, ms, h, da, db, hh, ia, ib, q⟩
  unfold isNonD at q
  split at q
  · cases ib
    refine op_isN pins s σ H _ _ v u Q I rx ry ⟨rfl, ?_⟩
    rw [is_non ia]
    exact q.fin hh rfl
  · exact q.elim
theorem od_isnot : OpD X (compareOp .IsNot) (isNonD true) := by
  intro pins s σ H x y v u Q I rx ry ⟨G, ms, h, da, db, hh, ia, ib, q⟩
  unfold isNonD at q
  split at q
  · cases ib
    refine op_notN pins s σ H _ _ v u Q I rx ry ⟨rfl, ?_⟩
    rw [is_non ia]
    exact q.fin hh rfl
  · exact q.elim
end
end WD
namespace WD
open PySem PySem.Spec PyProof.Rows L2
def toP (h : Hs) : Nat → D → Option PyData
  | 0, d => match d with
    | .non => some .none
    | .bl b => some (.bool b)
    | .int i => some (.int i)
    | .str x => if PyData.strOk x = true then some (.str x) else none
    | _ => none
  | n + 1, d => match d with
    | .non => some .none
    | .bl b => some (.bool b)
    | .int i => some (.int i)
    | .str x => if PyData.strOk x = true then some (.str x) else none
    | .tup xs => (xs.mapM (toP h n)).map PyData.tuple
    | d => match lstOf h d with
      | some xs => (xs.mapM (toP h n)).map PyData.list
      | none => none
theorem mapM_cons_some {α β : Type} {f : α → Option β} {x : α} {xs : List α} {r : List β} (e : (x :: xs).mapM f = some r) : ∃ y ys, f x = some y ∧ xs.mapM f = some ys ∧ r = y :: ys := by
  rw [List.mapM_cons] at e
  cases h1 : f x with
  | none => rw [h1] at e; cases e
  | some y =>
    rw [h1] at e
    cases h2 : xs.mapM f with
    | none => rw [h2] at e; cases e
    | some ys =>
      rw [h2] at e
      cases e
      exact ⟨y, ys, rfl, rfl, rfl⟩
theorem mapM_all {α : Type} {f : α → Option PyData} (n : Nat) (hf : ∀ x p, f x = some p → p.canLay0 = true ∧ p.depth ≤ n) : ∀ {xs : List α} {ps : List PyData}, xs.mapM f = some ps → PyData.canLayAll0 ps = true ∧ PyData.depthAll ps ≤ n
  | [], ps, e => by
    have : ps = [] := by cases e; rfl
    subst this
    exact ⟨by simp [PyData.canLayAll0], by simp [PyData.depthAll]⟩
  | x :: xs, ps, e => by
    obtain ⟨y, ys, h1, h2, rfl⟩ := mapM_cons_some e
    obtain ⟨q1, q2⟩ := mapM_all n hf h2
    obtain ⟨r1, r2⟩ := hf x y h1
    exact ⟨by simp [PyData.canLayAll0, r1, q1], by simp only [PyData.depthAll]; omega⟩
theorem toP_ok (h : Hs) : ∀ (n : Nat) (d : D) (p : PyData), toP h n d = some p → p.canLay0 = true ∧ p.depth ≤ n
  | 0, d, p, e => by
    cases d <;> simp only [toP] at e
    case str =>
      split at e
      · rename_i hs
        cases e; exact ⟨by simp [PyData.canLay0, hs], by simp [PyData.depth]⟩
      · cases e
    all_goals first | (cases e; done) | (cases e; exact ⟨by simp [PyData.canLay0], by simp [PyData.depth]⟩)
  | n + 1, d, p, e => by
    have lists : ∀ d, (match lstOf h d with | some xs => (xs.mapM (toP h n)).map PyData.list | none => none) = some p → p.canLay0 = true ∧ p.depth ≤ n + 1 := fun d e => by
      split at e
      · rename_i xs _
        cases q : xs.mapM (toP h n) with
        | none => rw [q] at e; cases e
        | some ps =>
          rw [q] at e; cases e
          obtain ⟨q1, q2⟩ := mapM_all n (toP_ok h n) q
          exact ⟨by simp [PyData.canLay0, q1], by simp only [PyData.depth]; omega⟩
      · cases e
    cases d with
    | non => cases e; exact ⟨by simp [PyData.canLay0], by simp [PyData.depth]⟩
    | bl b => cases e; exact ⟨by simp [PyData.canLay0], by simp [PyData.depth]⟩
    | int i => cases e; exact ⟨by simp [PyData.canLay0], by simp [PyData.depth]⟩
    | str x =>
      simp only [toP] at e
      split at e
      · rename_i hs
        cases e; exact ⟨by simp [PyData.canLay0, hs], by simp [PyData.depth]⟩
      · cases e
    | tup xs =>
      simp only [toP] at e
      cases q : xs.mapM (toP h n) with
      | none => rw [q] at e; cases e
      | some ps =>
        rw [q] at e; cases e
        obtain ⟨q1, q2⟩ := mapM_all n (toP_ok h n) q
        exact ⟨by simp [PyData.canLay0, q1], by simp only [PyData.depth]; omega⟩
    | lst xs => exact lists (.lst xs) e
    | scr xs => exact lists (.scr xs) e
    | loc m => exact lists (.loc m) e
    | ty m => exact lists (.ty m) e
    | dic ks xs => exact lists (.dic ks xs) e
section
variable {X : Cx} {W : WX} {pin : List (Nat × V)} {K : PySem.W.Frag} {mg : Str → Option Value} {E : XK} {G G' : GG} {H : Hp} {ms ms' : List Addr} {h : Hs} {pos : Pos} {a b c : Expr} {rest : List Expr}
theorem dpAll_of {n : Nat} (hf : ∀ d v p, Is K G ms d v → toP h n d = some p → Dp K H v p) : ∀ {xs : List D} {vs : List V} {ps : List PyData}, IsL K G ms xs vs → xs.mapM (toP h n) = some ps → DpAll K H vs ps
  | [], _, ps, i, e => by
    cases i
    have : ps = [] := by cases e; rfl
    subst this
    exact .nil
  | x :: xs, _, ps, i, e => by
    obtain ⟨v, r, rfl, i1, i2⟩ := i
    obtain ⟨y, ys, h1, h2, rfl⟩ := mapM_cons_some e
    exact .cons (hf x v y i1 h1) (dpAll_of hf i2 h2)
theorem dp_of (hh : Hh K G ms h H) : ∀ (n : Nat) (d : D) (v : V) (p : PyData), Is K G ms d v → toP h n d = some p → Dp K H v p
  | 0, d, v, p, i, e => by
    cases d <;> simp only [toP] at e
    case non => cases e; cases i; exact .non
    case bl => cases e; cases i; exact .bl _
    case int => cases e; cases i; exact .int _
    case str =>
      split at e
      · cases e; cases i; exact .str _
      · cases e
    all_goals cases e
  | n + 1, d, v, p, i, e => by
    have lists : ∀ d, Is K G ms d v → (match lstOf h d with | some xs => (xs.mapM (toP h n)).map PyData.list | none => none) = some p → Dp K H v p := fun d i e => by
      split at e
      · rename_i xs hx
        cases q : xs.mapM (toP h n) with
        | none => rw [q] at e; cases e
        | some ps =>
          rw [q] at e; cases e
          obtain ⟨a, vs, rfl, h2, h3⟩ := hh.list i hx
          exact .lst h2 (dpAll_of (dp_of hh n) h3 q)
      · cases e
    cases d with
    | non => cases e; cases i; exact .non
    | bl b => cases e; cases i; exact .bl _
    | int j => cases e; cases i; exact .int _
    | str x =>
      simp only [toP] at e
      split at e
      · cases e; cases i; exact .str _
      · cases e
    | tup xs =>
      simp only [toP] at e
      cases q : xs.mapM (toP h n) with
      | none => rw [q] at e; cases e
      | some ps =>
        rw [q] at e; cases e
        obtain ⟨a, vs, rfl, h2, h3⟩ := hh.tuple i
        exact .tup h2 (dpAll_of (dp_of hh n) h3 q)
    | lst xs => exact lists (.lst xs) i e
    | scr xs => exact lists (.scr xs) i e
    | loc m => exact lists (.loc m) i e
    | ty m => exact lists (.ty m) i e
    | dic ks xs => exact lists (.dic ks xs) i e
def eqD (n : Bool) : D → D → Hs → R D := fun x y h => match toP h 64 x, toP h 64 y with
  | some p, some q => .ok (.bl (if n = true then !PyData.eqv p q else PyData.eqv p q)) h
  | _, _ => match lstX h x, lstX h y with
    | some xs, some ys => if n = false ∧ xs.length ≠ ys.length then .ok (.bl false) h else .bad
    | _, _ => .bad
theorem shaped_of {n : Nat} {d : D} {p : PyData} (e : toP h n d = some p) (hn : n ≤ 64) : SeqAt.shaped p = true := by
  obtain ⟨q1, q2⟩ := toP_ok h n d p e
  unfold SeqAt.shaped
  rw [q1, Bool.true_and]
  exact decide_eq_true (by omega)
theorem od_eq (hu : X.A.units + 64 < cLine) : OpD X (compareOp .Eq) (eqD false) := by
  intro pins s σ H x y v u Q I rx ry ⟨G, ms, h, da, db, hh, ia, ib, q⟩
  unfold eqD at q
  split at q
  · rename_i p r e1 e2
    exact op_eqD hu pins s σ H _ _ v u Q I rx ry ⟨p, r, dp_of hh _ _ _ _ ia e1, dp_of hh _ _ _ _ ib e2, shaped_of e1 (Nat.le_refl _), shaped_of e2 (Nat.le_refl _), q.fin hh rfl⟩
  · split at q
    · rename_i xs ys e1 e2
      split at q
      · rename_i hn
        obtain ⟨a, vs, rfl, a2, a3⟩ := hh.listX ia e1
        obtain ⟨b, ws, rfl, b2, b3⟩ := hh.listX ib e2
        cases (show v = Value.ref a from rx)
        cases (show u = Value.ref b from ry)
        obtain ⟨_, its, n1, p1, l1, g1⟩ := I.lstM a2
        obtain ⟨_, jts, n2, p2, l2, g2⟩ := I.lstM b2
        refine SeqAt.eq_list_lengthsAt (PySem.IsL.isList g1) (PySem.IsL.isList g2) ?_ (by omega) ⟨.bl false, H, I, rfl, q.fin hh rfl⟩
        have z1 := a3.length
        have z2 := b3.length
        have z3 := hn.2
        simp
        omega
      · exact q.elim
    · exact q.elim
theorem od_ne (hu : X.A.units + 64 < cLine) : OpD X (compareOp .NotEq) (eqD true) := by
  intro pins s σ H x y v u Q I rx ry ⟨G, ms, h, da, db, hh, ia, ib, q⟩
  unfold eqD at q
  split at q
  · rename_i p r e1 e2
    exact op_neD hu pins s σ H _ _ v u Q I rx ry ⟨p, r, dp_of hh _ _ _ _ ia e1, dp_of hh _ _ _ _ ib e2, shaped_of e1 (Nat.le_refl _), shaped_of e2 (Nat.le_refl _), q.fin hh rfl⟩
  · split at q
    · simp at q
      exact q.elim
    · exact q.elim

def flatD : D → Bool
  | .non => true
  | .bl _ => true
  | .int _ => true
  | .str _ => true
  | _ => false
def eqF : D → D → Bool
  | .non, .non => true
  | .bl a, .bl b => a == b
  | .bl a, .int b => (if a then 1 else 0) == b
  | .int a, .bl b => a == (if b then 1 else 0)
  | .int a, .int b => a == b
  | .str a, .str b => a == b
  | _, _ => false
theorem flat_of {d : D} {v : V} (i : Is K G ms d v) (f : flatD d = true) : flatV v = true := by
  cases d <;> first | (cases i; rfl) | cases f
theorem eqF_of {d e : D} {v w : V} (i : Is K G ms d v) (j : Is K G ms e w) (f : flatD d = true) (g : flatD e = true) : eqV v w = eqF d e := by
  cases d <;> first | (cases f; done) | (cases i; cases e <;> first | (cases g; done) | (cases j; rfl))
theorem anyF {x : D} {v : V} (i : Is K G ms x v) (f : flatD x = true) : ∀ {xs : List D} {vs : List V}, IsL K G ms xs vs → xs.all flatD = true → vs.all flatV = true ∧ inV v vs = xs.any fun y => eqF y x
  | [], _, h, _ => by cases h; exact ⟨rfl, rfl⟩
  | d :: xs, _, h, g => by
    obtain ⟨w, r, rfl, h2, h3⟩ := h
    simp only [List.all_cons, Bool.and_eq_true] at g
    obtain ⟨q1, q2⟩ := anyF i f h3 g.2
    refine ⟨by simp [flat_of h2 g.1, q1], ?_⟩
    show (eqV w v || inV v r) = _
    rw [List.any_cons, q2, eqF_of h2 i g.1 f]
def inD (n : Bool) : D → D → Hs → R D := fun x y h => match rowOf h y with
  | some xs => if flatD x = true ∧ xs.all flatD = true then .ok (.bl (if n = true then !(xs.any fun y => eqF y x) else xs.any fun y => eqF y x)) h else .bad
  | none => .bad
theorem od_in : OpD X (compareOp .In) (inD false) := by
  intro pins s σ H x y v u Q I rx ry ⟨G, ms, h, da, db, hh, ia, ib, q⟩
  unfold inD at q
  split at q
  · rename_i xs e
    split at q
    · rename_i hf
      obtain ⟨p, vs, rfl, h2, h3⟩ := hh.row ib e
      obtain ⟨f1, f2⟩ := anyF ia hf.1 h3 hf.2
      refine op_in_seq pins s σ H _ _ v u Q I rx ry ⟨p, vs, rfl, h2, flat_of ia hf.1, f1, ?_⟩
      rw [f2]
      exact q.fin hh rfl
    · exact q.elim
  · exact q.elim
theorem od_notin : OpD X (compareOp .NotIn) (inD true) := by
  intro pins s σ H x y v u Q I rx ry ⟨G, ms, h, da, db, hh, ia, ib, q⟩
  unfold inD at q
  split at q
  · rename_i xs e
    split at q
    · rename_i hf
      obtain ⟨p, vs, rfl, h2, h3⟩ := hh.row ib e
      obtain ⟨f1, f2⟩ := anyF ia hf.1 h3 hf.2
      refine op_notIn_seq pins s σ H _ _ v u Q I rx ry ⟨p, vs, rfl, h2, flat_of ia hf.1, f1, ?_⟩
      rw [f2]
      exact q.fin hh rfl
    · exact q.elim
  · exact q.elim

def rdC (K : PySem.W.Frag) (g : List D → Hs → R D) : List V → Hp → VK → Prop := fun xs H Q => ∃ G ms h ds, Hh K G ms h H ∧ IsL K G ms ds xs ∧ Post K (fun _ => none) (fun _ _ _ => False) G ms (Is K) (g ds h) Q
def CallD (X : Cx) (f : Value) (g : List D → Hs → R D) : Prop := CallR X f (rdC X.K g)
def calm1 (r : R D) : R D := match r with
  | .ok d h' => .ok d h'
  | _ => .bad
theorem calm1_post {r : R D} {Q : VK} (q : Post K mg E G ms (Is K) (calm1 r) Q) : Post K (fun _ => none) (fun _ _ _ => False) G ms (Is K) r Q := by
  cases r with
  | ok d h' => exact q
  | err x h' => exact q.elim
  | bad => exact q.elim
def eB (g : List D → Hs → R D) (f : FA) : FE := fun s h => (f s h).bind fun ds h1 => calm1 (g ds h1)
theorem ve_callB {id : String} {x : Str} {e : Expr} {es : List Expr} {g : List D → Hs → R D} {f : FA} {p : Pos} (hc : CallD X (.builtin id) g) (hg : Gl X x) (hm : X.mg x = none) (hv : bootBuiltins x = some (.builtin id)) (ha : VA X W pin (e :: es) f) (hn : x ≠ "__name__" := by decide) (hdb : (x == ("__debug__" : Str)) = false := by decide)
    (he : starEach (e :: es) X.env = (false, eval e X.env) :: starEach es X.env := by rfl) (hpl : (backTo pos (starEach es X.env)).any (·.1) = false := by rfl) : VE X W pin (.Call (.Name x p) (e :: es) [] pos) (eB g f) := by
  refine pe_imp (pe_callB hc hg hm hv ha hn hdb he hpl) fun σ H Q ⟨G, ms, s, h, hh, sl, q⟩ => ⟨G, ms, s, h, hh, sl, Post.bind q fun ds h1 vs H1 G1 ms1 e1 p1 hh1 i1 q1 => ?_⟩
  exact ⟨G1, ms1, h1, ds, hh1, i1, calm1_post q1⟩
theorem ve_callTy {id : String} {x : Str} {e : Expr} {es : List Expr} {g : List D → Hs → R D} {f : FA} {p : Pos} (hc : CallD X (.type id) g) (hg : Gl X x) (hm : X.mg x = none) (hv : bootBuiltins x = some (.type id)) (ha : VA X W pin (e :: es) f) (hn : x ≠ "__name__" := by decide) (hdb : (x == ("__debug__" : Str)) = false := by decide)
    (he : starEach (e :: es) X.env = (false, eval e X.env) :: starEach es X.env := by rfl) (hpl : (backTo pos (starEach es X.env)).any (·.1) = false := by rfl) : VE X W pin (.Call (.Name x p) (e :: es) [] pos) (eB g f) := by
  refine pe_imp (pe_callTy hc hg hm hv ha hn hdb he hpl) fun σ H Q ⟨G, ms, s, h, hh, sl, q⟩ => ⟨G, ms, s, h, hh, sl, Post.bind q fun ds h1 vs H1 G1 ms1 e1 p1 hh1 i1 q1 => ?_⟩
  exact ⟨G1, ms1, h1, ds, hh1, i1, calm1_post q1⟩
theorem isL1 {ds : List D} {d : D} {vs : List V} (i : IsL K G ms [d] vs) : ∃ v, vs = [v] ∧ Is K G ms d v := by
  obtain ⟨v, r, rfl, i1, i2⟩ := i
  cases i2
  exact ⟨v, rfl, i1⟩
theorem isL2 {d e : D} {vs : List V} (i : IsL K G ms [d, e] vs) : ∃ v w, vs = [v, w] ∧ Is K G ms d v ∧ Is K G ms e w := by
  obtain ⟨v, r, rfl, i1, w, r2, rfl, i2, i3⟩ := i
  cases i3
  exact ⟨v, w, rfl, i1, i2⟩
def lenD : List D → Hs → R D
  | [.str x], h => if x.length ≤ sizeLine then .ok (.int x.length) h else .bad
  | [d], h => match rowOf h d with
    | some xs => .ok (.int xs.length) h
    | none => .bad
  | _, _ => .bad
theorem cd_len : CallD X (.builtin "len") lenD := by
  intro pins s σ H xs us Q I r ⟨G, ms, h, ds, hh, i, q⟩
  unfold lenD at q
  split at q
  · obtain ⟨v, rfl, i1⟩ := isL1 (ds := []) i
    cases i1
    split at q
    · rename_i hz
      exact call_len_str pins s σ H _ us Q I r ⟨_, rfl, hz, q.fin hh rfl⟩
    · exact q.elim
  · obtain ⟨v, rfl, i1⟩ := isL1 (ds := []) i
    split at q
    · rename_i ys e
      obtain ⟨p, vs, rfl, h2, h3⟩ := hh.row i1 e
      refine call_len_seq pins s σ H _ us Q I r ⟨p, vs, rfl, h2, ?_⟩
      rw [← h3.length]
      exact q.fin hh rfl
    · exact q.elim
  · exact q.elim
/-- isinstance -/
def tyD : D → Option String
  | .non => some "NoneType"
  | .bl _ => some "bool"
  | .int _ => some "int"
  | .str _ => some "str"
  | .tup _ => some "tuple"
  | .lst _ => some "list"
  | .scr _ => some "list"
  | .loc _ => some "list"
  | .dic _ _ => some "dict"
  | .ty _ => none
def tysD : List String := ["NoneType", "bool", "int", "str", "tuple", "list", "dict"]
def clsD : List String := ["int", "bool", "str", "list", "tuple", "dict"]
def isSub (t n : String) : Bool := t == n || (t == "bool" && n == "int")
theorem kit_tab : ∀ t ∈ tysD, ∀ n ∈ clsD, kitB t n = some (isSub t n) := by decide +kernel
theorem tyD_mem {d : D} {t : String} (e : tyD d = some t) : t ∈ tysD := by
  cases d <;> cases e <;> decide
theorem tyX_of (hh : Hh K G ms h H) {d : D} {v : V} {t : String} (i : Is K G ms d v) (e : tyD d = some t) : TyX K H v (.type t) := by
  cases d with
  | non => cases i; cases e; exact .base .non
  | bl b => cases i; cases e; exact .base (.bl _)
  | int j => cases i; cases e; exact .base (.int _)
  | str x => cases i; cases e; exact .base (.str _)
  | tup xs =>
    cases e
    obtain ⟨a, vs, rfl, h2, _⟩ := hh.tuple i
    rcases h2 with (h2 | ⟨o, h2⟩) | ⟨o, its, n, hk, hc, _⟩
    · exact .base (.tup h2)
    · exact .fTuple h2
    · exact .kTuple hk hc
  | lst xs =>
    cases e
    obtain ⟨a, vs, rfl, h2, _⟩ := hh.listX i rfl
    exact .base (.lst h2)
  | scr xs =>
    cases e
    obtain ⟨a, vs, rfl, h2, _⟩ := hh.list i rfl
    rcases h2 with (h2 | ⟨o, h2⟩) | ⟨o, its, n, hk, hc, _⟩
    · exact .base (.lst h2)
    · exact .base (.frz h2)
    · exact .kList hk hc
  | loc m =>
    cases e
    obtain ⟨a, h1, rfl⟩ := i
    obtain ⟨vs, h2⟩ := hh.some_at h1
    exact .base (.lst h2)
  | dic ks xs =>
    cases e
    obtain ⟨a, vs, rfl, h2, _⟩ := i
    exact .base (.dK (hh.sub _ _ h2))
  | ty n => cases e
def tysOf : List D → Option (List String)
  | [] => some []
  | .ty n :: r => match tysOf r with
    | some ns => if n ∈ clsD then some (n :: ns) else none
    | none => none
  | _ => none
def isiD : List D → Hs → R D
  | [x, .ty n], h => match tyD x with
    | some t => if n ∈ clsD then .ok (.bl (isSub t n)) h else .bad
    | none => .bad
  | [x, .tup ts], h => match tyD x, tysOf ts with
    | some t, some ns => .ok (.bl (ns.any fun n => isSub t n)) h
    | _, _ => .bad
  | _, _ => .bad
theorem tys_paired : ∀ {ts : List D} {ns : List String} {vs : List V}, tysOf ts = some ns → IsL K G ms ts vs → (∀ n ∈ ns, n ∈ clsD) ∧ Paired ClsV vs (ns.map Value.type)
  | [], ns, vs, e, i => by
    cases e; cases i
    exact ⟨fun _ h => (nomatch h), .nil⟩
  | d :: ts, ns, vs, e, i => by
    obtain ⟨v, r, rfl, i1, i2⟩ := i
    cases d with
    | ty n =>
      unfold tysOf at e
      split at e
      · rename_i ns' e'
        split at e
        · rename_i hn
          cases e
          obtain ⟨q1, q2⟩ := tys_paired e' i2
          cases i1
          exact ⟨fun m hm => by rcases List.mem_cons.mp hm with rfl | hm; exact hn; exact q1 m hm, .cons (.ty n) q2⟩
        · cases e
      · cases e
    | _ => simp [tysOf] at e
theorem kitAny_of {t : String} (ht : t ∈ tysD) : ∀ {ns : List String}, (∀ n ∈ ns, n ∈ clsD) → PySem.W.kitAny K (.type t) (ns.map Value.type) = some (ns.any fun n => isSub t n)
  | [], _ => rfl
  | n :: ns, h => by
    have e := kit_tab t ht n (h n List.mem_cons_self)
    refine kitAny_cons (kit_ty e) (fun hb => ?_) fun hb => ?_
    · rw [List.any_cons, hb, Bool.false_or]
      exact kitAny_of ht fun m hm => h m (List.mem_cons_of_mem _ hm)
    · rw [List.any_cons, hb, Bool.true_or]
theorem cd_isi : CallD X (.builtin "isinstance") isiD := by
  intro pins s σ H xs us Q I r ⟨G, ms, h, ds, hh, i, q⟩
  unfold isiD at q
  split at q
  · obtain ⟨v, w, rfl, i1, i2⟩ := isL2 i
    cases i2
    split at q
    · rename_i t e
      split at q
      · rename_i hn
        exact call_isi pins s σ H _ us Q I r ⟨v, _, _, _, _, rfl, .ty _, tyX_of hh i1 e, kit_ty (kit_tab t (tyD_mem e) _ hn), q.fin hh rfl⟩
      · exact q.elim
    · exact q.elim
  · rename_i x ts
    obtain ⟨v, w, rfl, i1, i2⟩ := isL2 i
    split at q
    · rename_i t ns e1 e2
      obtain ⟨a, vs, rfl, h2, h3⟩ := id i2
      obtain ⟨p1, p2⟩ := tys_paired e2 h3
      have fin := Post.fin (b := V.bl (ns.any fun n => isSub t n)) q hh rfl
      exact call_isiT pins s σ H _ us Q I r ⟨v, a, vs, _, _, _, rfl, hh.sub _ _ h2, p2, tyX_of hh i1 e1, kitAny_of (tyD_mem e1) p1, fin⟩
    · exact q.elim
  · exact q.elim
end
end WD
namespace WD
open PySem PySem.Spec PyProof.Rows L2
def intsOf : List D → Option (List Int)
  | [] => some []
  | .int i :: r => match intsOf r with
    | some ns => some (i :: ns)
    | none => none
  | _ => none
theorem intsOf_eq : ∀ {ds : List D} {ns : List Int}, intsOf ds = some ns → ds = ns.map D.int
  | [], ns, e => by cases e; rfl
  | d :: ds, ns, e => by
    cases d with
    | int i =>
      unfold intsOf at e
      split at e
      · rename_i ns' e'
        cases e
        rw [intsOf_eq e']; rfl
      · cases e
    | _ => simp [intsOf] at e
@[simp] theorem intsOf_map : ∀ (ns : List Int), intsOf (ns.map D.int) = some ns
  | [] => rfl
  | n :: ns => by simp [intsOf, intsOf_map ns]
def bolsOf : List D → Option (List Bool)
  | [] => some []
  | .bl i :: r => match bolsOf r with
    | some ns => some (i :: ns)
    | none => none
  | _ => none
theorem bolsOf_eq : ∀ {ds : List D} {ns : List Bool}, bolsOf ds = some ns → ds = ns.map D.bl
  | [], ns, e => by cases e; rfl
  | d :: ds, ns, e => by
    cases d with
    | bl i =>
      unfold bolsOf at e
      split at e
      · rename_i ns' e'
        cases e
        rw [bolsOf_eq e']; rfl
      · cases e
    | _ => simp [bolsOf] at e
@[simp] theorem bolsOf_map : ∀ (ns : List Bool), bolsOf (ns.map D.bl) = some ns
  | [] => rfl
  | n :: ns => by simp [bolsOf, bolsOf_map ns]
section
variable {X : Cx} {W : WX} {pin : List (Nat × V)} {K : PySem.W.Frag} {mg : Str → Option Value} {E : XK} {G G' : GG} {H : Hp} {ms ms' : List Addr} {h : Hs} {pos : Pos} {a b c : Expr} {rest : List Expr}
theorem cr_sumT (hc : X.calm = true) : CallR X (.builtin "sum") (fun vs H Q => ∃ (a : Addr) (ns : List Int), vs = [V.ref a] ∧ SqT X.K H a (ns.map V.int) ∧ Q (.int ns.sum) H) := by
  intro pins s σ H vs us Q I r h
  obtain ⟨a, ns, rfl, hs, q⟩ := h
  obtain ⟨its, rv, hl, _⟩ := I.tuple hs
  rw [Vals.ref1 r]
  have hi : IntsAre its ns := rv.ints
  obtain ⟨xs, e⟩ := hi.allInts.items
  have hn : numsOf (intItems xs).toList = ns := by rw [← e]; exact hi.numsOf
  have hl2 : s.heap.IsTuple a (intItems xs) := by rw [← e]; exact hl
  refine PySem.W.ktm_sumG (I.ok.hd hc) hl2 fun h' tk t' hk => ⟨.int _, H, I.kept hk, ⟨_, rfl⟩, ?_⟩
  rw [nums_intItems] at hn
  rw [preSum_eq, List.take_of_length_le (by simp), hn]
  exact q
def sumD : List D → Hs → R D
  | [d], h => match rowOf h d with
    | some xs => match intsOf xs with
      | some ns => .ok (.int ns.sum) h
      | none => .bad
    | none => .bad
  | _, _ => .bad
theorem cd_sum (hc : X.calm = true) : CallD X (.builtin "sum") sumD := by
  intro pins s σ H xs us Q I r ⟨G, ms, h, ds, hh, i, q⟩
  unfold sumD at q
  split at q
  · obtain ⟨v, rfl, i1⟩ := isL1 (ds := []) i
    split at q
    · rename_i ys e
      split at q
      · rename_i ns e2
        obtain ⟨p, vs, rfl, h2, h3⟩ := hh.row i1 e
        rw [intsOf_eq e2] at h3
        rw [h3.ints] at h2
        rcases h2 with h2 | h2
        · exact cr_sum hc pins s σ H _ us Q I r ⟨p, ns, rfl, h2, q.fin hh rfl⟩
        · exact cr_sumT hc pins s σ H _ us Q I r ⟨p, ns, rfl, h2, q.fin hh rfl⟩
      · exact q.elim
    · exact q.elim
  · exact q.elim
def maxL : List Int → Int
  | [] => 0
  | n :: ns => ns.foldl (fun a b => if b > a then b else a) n
def minL : List Int → Int
  | [] => 0
  | n :: ns => ns.foldl (fun a b => if b < a then b else a) n
theorem foldl_max : ∀ (ns : List Int) (n : Int), n ≤ ns.foldl (fun a b => if b > a then b else a) n ∧ (∀ m ∈ ns, m ≤ ns.foldl (fun a b => if b > a then b else a) n) ∧ (ns.foldl (fun a b => if b > a then b else a) n = n ∨ ns.foldl (fun a b => if b > a then b else a) n ∈ ns)
  | [], n => ⟨Int.le_refl _, fun _ h => (nomatch h), .inl rfl⟩
  | m :: ns, n => by
    obtain ⟨h1, h2, h3⟩ := foldl_max ns (if m > n then m else n)
    rw [List.foldl_cons]
    refine ⟨?_, fun k hk => ?_, ?_⟩
    · refine Int.le_trans ?_ h1; split <;> omega
    · rcases List.mem_cons.mp hk with rfl | hk
      · refine Int.le_trans ?_ h1; split <;> omega
      · exact h2 k hk
    · rcases h3 with h3 | h3
      · rw [h3]
        split
        · exact .inr List.mem_cons_self
        · exact .inl rfl
      · exact .inr (List.mem_cons_of_mem _ h3)
theorem foldl_min : ∀ (ns : List Int) (n : Int), ns.foldl (fun a b => if b < a then b else a) n ≤ n ∧ (∀ m ∈ ns, ns.foldl (fun a b => if b < a then b else a) n ≤ m) ∧ (ns.foldl (fun a b => if b < a then b else a) n = n ∨ ns.foldl (fun a b => if b < a then b else a) n ∈ ns)
  | [], n => ⟨Int.le_refl _, fun _ h => (nomatch h), .inl rfl⟩
  | m :: ns, n => by
    obtain ⟨h1, h2, h3⟩ := foldl_min ns (if m < n then m else n)
    rw [List.foldl_cons]
    refine ⟨?_, fun k hk => ?_, ?_⟩
    · refine Int.le_trans h1 ?_; split <;> omega
    · rcases List.mem_cons.mp hk with rfl | hk
      · refine Int.le_trans h1 ?_; split <;> omega
      · exact h2 k hk
    · rcases h3 with h3 | h3
      · rw [h3]
        split
        · exact .inr List.mem_cons_self
        · exact .inl rfl
      · exact .inr (List.mem_cons_of_mem _ h3)
theorem maxL_is {ns : List Int} {m : Int} (hm : m ∈ ns) (hl : ∀ y ∈ ns, y ≤ m) : m = maxL ns := by
  cases ns with
  | nil => cases hm
  | cons n ns =>
    obtain ⟨h1, h2, h3⟩ := foldl_max ns n
    have hu : maxL (n :: ns) ≤ m := by
      rcases h3 with h3 | h3
      · show ns.foldl _ n ≤ m; rw [h3]; exact hl n List.mem_cons_self
      · exact hl _ (List.mem_cons_of_mem _ h3)
    have hd : m ≤ maxL (n :: ns) := by
      rcases List.mem_cons.mp hm with rfl | hm
      · exact h1
      · exact h2 m hm
    omega
theorem minL_is {ns : List Int} {m : Int} (hm : m ∈ ns) (hl : ∀ y ∈ ns, m ≤ y) : m = minL ns := by
  cases ns with
  | nil => cases hm
  | cons n ns =>
    obtain ⟨h1, h2, h3⟩ := foldl_min ns n
    have hu : m ≤ minL (n :: ns) := by
      rcases h3 with h3 | h3
      · show m ≤ ns.foldl _ n; rw [h3]; exact hl n List.mem_cons_self
      · exact hl _ (List.mem_cons_of_mem _ h3)
    have hd : minL (n :: ns) ≤ m := by
      rcases List.mem_cons.mp hm with rfl | hm
      · exact h1
      · exact h2 m hm
    omega
def maxD : List D → Hs → R D
  | [.int i, .int j], h => .ok (.int (if j > i then j else i)) h
  | [d], h => match lstOf h d with
    | some xs => match intsOf xs with
      | some ns => if 0 < ns.length then .ok (.int (maxL ns)) h else .bad
      | none => .bad
    | none => .bad
  | _, _ => .bad
def minD : List D → Hs → R D
  | [.int i, .int j], h => .ok (.int (if j < i then j else i)) h
  | [d], h => match lstOf h d with
    | some xs => match intsOf xs with
      | some ns => if 0 < ns.length then .ok (.int (minL ns)) h else .bad
      | none => .bad
    | none => .bad
  | _, _ => .bad
theorem cd_max (hc : X.calm = true) : CallD X (.builtin "max") maxD := by
  intro pins s σ H xs us Q I r ⟨G, ms, h, ds, hh, i, q⟩
  unfold maxD at q
  split at q
  · obtain ⟨v, w, rfl, i1, i2⟩ := isL2 i
    cases i1; cases i2
    exact call_max2 hc pins s σ H _ us Q I r ⟨_, _, rfl, q.fin hh rfl⟩
  · obtain ⟨v, rfl, i1⟩ := isL1 (ds := []) i
    split at q
    · rename_i ys e
      split at q
      · rename_i ns e2
        split at q
        · rename_i hl
          obtain ⟨p, vs, rfl, h2, h3⟩ := hh.list i1 e
          rw [intsOf_eq e2] at h3
          rw [h3.ints] at h2
          exact cr_max hc pins s σ H _ us Q I r ⟨p, ns, rfl, h2, hl, fun m h1 h2 => by rw [maxL_is h1 h2]; exact q.fin hh rfl⟩
        · exact q.elim
      · exact q.elim
    · exact q.elim
  · exact q.elim
theorem cd_min (hc : X.calm = true) : CallD X (.builtin "min") minD := by
  intro pins s σ H xs us Q I r ⟨G, ms, h, ds, hh, i, q⟩
  unfold minD at q
  split at q
  · obtain ⟨v, w, rfl, i1, i2⟩ := isL2 i
    cases i1; cases i2
    exact call_min2 hc pins s σ H _ us Q I r ⟨_, _, rfl, q.fin hh rfl⟩
  · obtain ⟨v, rfl, i1⟩ := isL1 (ds := []) i
    split at q
    · rename_i ys e
      split at q
      · rename_i ns e2
        split at q
        · rename_i hl
          obtain ⟨p, vs, rfl, h2, h3⟩ := hh.list i1 e
          rw [intsOf_eq e2] at h3
          rw [h3.ints] at h2
          exact cr_min hc pins s σ H _ us Q I r ⟨p, ns, rfl, h2, hl, fun m h1 h2 => by rw [minL_is h1 h2]; exact q.fin hh rfl⟩
        · exact q.elim
      · exact q.elim
    · exact q.elim
  · exact q.elim
def allD (any : Bool) : List D → Hs → R D
  | [d], h => match lstOf h d with
    | some xs => match bolsOf xs with
      | some ns => .ok (.bl (if any = true then ns.any id else ns.all id)) h
      | none => .bad
    | none => .bad
  | _, _ => .bad
theorem cd_all (hc : X.calm = true) : CallD X (.builtin "all") (allD false) := by
  intro pins s σ H xs us Q I r ⟨G, ms, h, ds, hh, i, q⟩
  unfold allD at q
  split at q
  · obtain ⟨v, rfl, i1⟩ := isL1 (ds := []) i
    split at q
    · rename_i ys e
      split at q
      · rename_i ns e2
        obtain ⟨p, vs, rfl, h2, h3⟩ := hh.list i1 e
        rw [bolsOf_eq e2] at h3
        rw [h3.bls] at h2
        exact cr_all hc pins s σ H _ us Q I r ⟨p, ns, rfl, h2, q.fin hh rfl⟩
      · exact q.elim
    · exact q.elim
  · exact q.elim
theorem cd_any (hc : X.calm = true) : CallD X (.builtin "any") (allD true) := by
  intro pins s σ H xs us Q I r ⟨G, ms, h, ds, hh, i, q⟩
  unfold allD at q
  split at q
  · obtain ⟨v, rfl, i1⟩ := isL1 (ds := []) i
    split at q
    · rename_i ys e
      split at q
      · rename_i ns e2
        obtain ⟨p, vs, rfl, h2, h3⟩ := hh.list i1 e
        rw [bolsOf_eq e2] at h3
        rw [h3.bls] at h2
        exact cr_any hc pins s σ H _ us Q I r ⟨p, ns, rfl, h2, q.fin hh rfl⟩
      · exact q.elim
    · exact q.elim
  · exact q.elim
def intD : List D → Hs → R D
  | [.int i], h => .ok (.int i) h
  | [.bl k], h => .ok (.int (if k = true then 1 else 0)) h
  | _, _ => .bad
theorem cd_int : CallD X (.type "int") intD := by
  intro pins s σ H xs us Q I r ⟨G, ms, h, ds, hh, i, q⟩
  unfold intD at q
  split at q
  · obtain ⟨v, rfl, i1⟩ := isL1 (ds := []) i
    cases i1
    exact call_int1 pins s σ H _ us Q I r (.inl ⟨_, rfl, q.fin hh rfl⟩)
  · obtain ⟨v, rfl, i1⟩ := isL1 (ds := []) i
    cases i1
    exact call_int1 pins s σ H _ us Q I r (.inr ⟨_, rfl, q.fin hh rfl⟩)
  · exact q.elim
def listD (m : Bool) : List D → Hs → R D
  | [d], h => match rowOf h d with
    | some xs => newL m xs h
    | none => .bad
  | _, _ => .bad
theorem cd_list (m : Bool) : CallD X (.type "list") (listD m) := by
  intro pins s σ H xs us Q I r ⟨G, ms, h, ds, hh, i, q⟩
  unfold listD at q
  split at q
  · obtain ⟨v, rfl, i1⟩ := isL1 (ds := []) i
    split at q
    · rename_i ys e
      obtain ⟨p, vs, rfl, h2, h3⟩ := hh.row i1 e
      exact call_list_of pins s σ H _ us Q I r ⟨p, vs, rfl, h2, fun l hl => q.newL hh h3 (hh.rowz i1 e) hl⟩
    · exact q.elim
  · exact q.elim
def tupleD : List D → Hs → R D
  | [d], h => match rowOf h d with
    | some xs => .ok (.tup xs) h
    | none => .bad
  | _, _ => .bad
theorem cd_tuple : CallD X (.type "tuple") tupleD := by
  intro pins s σ H xs us Q I r ⟨G, ms, h, ds, hh, i, q⟩
  unfold tupleD at q
  split at q
  · rename_i d
    obtain ⟨v, rfl, i1⟩ := isL1 (ds := []) i
    split at q
    · rename_i ys e
      have lists : ∀ p vs, v = V.ref p → SqL X.K H p vs → IsL X.K G ms ys vs → wpAny (model X.prog X.w) X.A (call (.type "tuple") us) (EP X pins σ Q) X.xe s := fun p vs e1 h2 h3 => by
        subst e1
        exact call_tuple_of pins s σ H _ us Q I r ⟨p, vs, rfl, .inl ⟨h2, fun l hl => q.newT hh h3 (hh.rowz i1 e) hl⟩⟩
      cases d with
      | tup zs =>
        cases e
        obtain ⟨p, vs, rfl, h2, h3⟩ := hh.tuple i1
        exact call_tuple_of pins s σ H _ us Q I r ⟨p, vs, rfl, .inr ⟨h2, q.fin hh i1⟩⟩
      | _ =>
        obtain ⟨p, vs, e1, h2, h3⟩ := hh.list i1 e
        exact lists p vs e1 h2 h3
    · exact q.elim
  · exact q.elim
end
end WD
namespace WD
open PySem PySem.Spec PyProof.Rows L2
section
variable {X : Cx} {W : WX} {pin : List (Nat × V)} {K : PySem.W.Frag} {mg : Str → Option Value} {E : XK} {G G' : GG} {H : Hp} {ms ms' : List Addr} {h : Hs} {pos : Pos} {a b c : Expr} {rest : List Expr}
def rdM (K : PySem.W.Frag) (g : D → List D → Hs → R D) : V → List V → Hp → VK → Prop := fun x xs H Q => ∃ G ms h d ds, Hh K G ms h H ∧ Is K G ms d x ∧ IsL K G ms ds xs ∧ Post K (fun _ => none) (fun _ _ _ => False) G ms (Is K) (g d ds h) Q
def MtD (X : Cx) (id : String) (g : D → List D → Hs → R D) : Prop := MtR X id (rdM X.K g)
/-- o.m(..), o a list -/
def eML (g : D → List D → Hs → R D) (fo : FE) (fa : FA) : FE := fun s h => (fo s h).bind fun d h1 => match lstOf h1 d with
  | some _ => (fa s h1).bind fun ds h2 => calm1 (g d ds h2)
  | none => .bad
theorem ve_ml {o e : Expr} {es : List Expr} {name : Str} {apos cpos : Pos} {id : String} {g : D → List D → Hs → R D} {fo : FE} {fa : FA} (slot : Slot "list" name id) (hty : typeOf (.builtin id) = pure (.type "method_descriptor")) (hm : MtD X id g) (ho : VE X W pin o fo) (ha : VA X W pin (e :: es) fa)
    (hbase : attributeBase o name X.env (eval o X.env) = eval o X.env := by rfl)
    (hfew : ((backTo cpos (starEach (e :: es) X.env)).all (fun x => !x.1) && (backToKw cpos (keywordEach [] X.env)).all (fun x => x.1.isSome)
      && decide ((e :: es).length + ([] : List Keyword).length + (if ([] : List Keyword).isEmpty then 0 else 1) < 30)) = true := by rfl)
    (hline : (apos.endLine == cpos.line) = true := by rfl) (hs : starEach (e :: es) X.env = (false, eval e X.env) :: starEach es X.env := by rfl) (hplain : (backTo cpos (starEach es X.env)).any (·.1) = false := by rfl) :
    VE X W pin (.Call (.Attribute o name apos) (e :: es) [] cpos) (eML g fo fa) := by
  refine pe_imp (pe_bm PySem.F.plainAttrs_list slot hty hm ho ha hbase hfew hline hs hplain) fun σ H Q ⟨G, ms, s, h, hh, sl, q⟩ => ⟨G, ms, s, h, hh, sl, Post.bind q fun d h1 v H1 G1 ms1 e1 p1 hh1 i1 q1 => ?_⟩
  split at q1
  · rename_i xs hx
    obtain ⟨p, vs, rfl, h2, h3⟩ := hh1.list i1 hx
    refine ⟨.inl ⟨rfl, vs, h2⟩, G1, ms1, s, h1, hh1, sl.mono e1 p1, Post.bind q1 fun ds h2 ws H2 G2 ms2 e2 p2 hh2 i2 q2 => ?_⟩
    exact ⟨G2, ms2, h2, d, ds, hh2, Is.mono e2 p2 _ _ i1, i2, calm1_post q2⟩
  · exact q1.elim
theorem ve_ml0 {o : Expr} {name : Str} {apos cpos : Pos} {id : String} {g : D → List D → Hs → R D} {fo : FE} (slot : Slot "list" name id) (hty : typeOf (.builtin id) = pure (.type "method_descriptor")) (hm : MtD X id g) (ho : VE X W pin o fo)
    (hbase : attributeBase o name X.env (eval o X.env) = eval o X.env := by rfl) (hline : (apos.endLine == cpos.line) = true := by rfl) :
    VE X W pin (.Call (.Attribute o name apos) [] [] cpos) (eML g fo aNil) := by
  refine pe_imp (pe_bm0 PySem.F.plainAttrs_list slot hty hm ho hbase hline) fun σ H Q ⟨G, ms, s, h, hh, sl, q⟩ => ⟨G, ms, s, h, hh, sl, Post.bind q fun d h1 v H1 G1 ms1 e1 p1 hh1 i1 q1 => ?_⟩
  split at q1
  · rename_i xs hx
    obtain ⟨p, vs, rfl, h2, h3⟩ := hh1.list i1 hx
    exact ⟨.inl ⟨rfl, vs, h2⟩, G1, ms1, h1, d, [], hh1, i1, rfl, calm1_post q1⟩
  · exact q1.elim
/-- a list that may be changed is read, and changed -/
theorem Hh.locW (hh : Hh K G ms h H) {n : Nat} {v : V} {xs : List D} (i : Is K G ms (.loc n) v) (e : locAt h n = some xs) : ∃ a vs, v = .ref a ∧ ms[n]? = some a ∧ H a = some (.lst vs) ∧ IsL K G ms xs vs := by
  obtain ⟨a, h1, h2⟩ := i
  obtain ⟨a', vs, q1, q2, q3⟩ := hh.at (locAt_some e)
  rw [h1] at q1; cases q1
  exact ⟨a, vs, h2, h1, q2, q3⟩
theorem Post.wrote {n : Nat} {d : D} {v : V} {p : Addr} {xs : List D} {vs : List V} {Q : VK} (q : Post K mg E G ms (Is K) (.ok d (h.set n (.lst xs))) Q) (hh : Hh K G ms h H) (e : ms[n]? = some p) (hx : IsL K G ms xs vs) (hz : xs.length ≤ sizeLine) (i : Is K G ms d v) : Q v (upd H p (.lst vs)) :=
  q.fin (hh.write e hx hz) i
def appendD : D → List D → Hs → R D
  | .loc n, [d], h => match locAt h n with
    | some xs => if xs.length < sizeLine then .ok .non (h.set n (.lst (xs ++ [d]))) else .bad
    | none => .bad
  | _, _, _ => .bad
theorem md_append : MtD X "list.append" appendD := by
  intro pins s σ H x xs v us Q I rx rs ⟨G, ms, h, d, ds, hh, i, il, q⟩
  unfold appendD at q
  split at q
  · obtain ⟨w, rfl, i1⟩ := isL1 (ds := []) il
    split at q
    · rename_i ys e
      split at q
      · rename_i hz
        obtain ⟨p, vs, rfl, h1, h2, h3⟩ := hh.locW i e
        exact mt_append pins s σ H _ _ v us Q I rx rs ⟨p, vs, w, rfl, rfl, h2, by rw [← h3.length]; exact hz, q.wrote hh h1 (h3.append (.one i1)) (by rw [List.length_append]; exact hz) rfl⟩
      · exact q.elim
    · exact q.elim
  · exact q.elim
def popD : D → List D → Hs → R D
  | .loc n, [], h => match locAt h n with
    | some xs => match xs.getLast? with
      | some d => .ok d (h.set n (.lst xs.dropLast))
      | none => .bad
    | none => .bad
  | _, _, _ => .bad
theorem md_pop : MtD X "list.pop" popD := by
  intro pins s σ H x xs v us Q I rx rs ⟨G, ms, h, d, ds, hh, i, il, q⟩
  unfold popD at q
  split at q
  · cases il
    split at q
    · rename_i ys e
      split at q
      · rename_i d e2
        obtain ⟨p, vs, rfl, h1, h2, h3⟩ := hh.locW i e
        rw [List.getLast?_eq_getElem?] at e2
        obtain ⟨w, k1, k2⟩ := h3.get e2
        exact mt_pop pins s σ H _ _ v us Q I rx rs ⟨p, vs, w, rfl, rfl, h2, by rw [← h3.length]; exact k1, q.wrote hh h1 h3.dropLast (by rw [List.length_dropLast]; exact Nat.le_trans (Nat.sub_le _ _) (hh.atz (locAt_some e))) k2⟩
      · exact q.elim
    · exact q.elim
  · exact q.elim
def reverseD : D → List D → Hs → R D
  | .loc n, [], h => match locAt h n with
    | some xs => .ok .non (h.set n (.lst xs.reverse))
    | none => .bad
  | _, _, _ => .bad
theorem md_reverse : MtD X "list.reverse" reverseD := by
  intro pins s σ H x xs v us Q I rx rs ⟨G, ms, h, d, ds, hh, i, il, q⟩
  unfold reverseD at q
  split at q
  · cases il
    split at q
    · rename_i ys e
      obtain ⟨p, vs, rfl, h1, h2, h3⟩ := hh.locW i e
      exact mt_reverse pins s σ H _ _ v us Q I rx rs ⟨p, vs, rfl, rfl, h2, q.wrote hh h1 h3.rev (by rw [List.length_reverse]; exact hh.atz (locAt_some e)) rfl⟩
    · exact q.elim
  · exact q.elim
def clearD : D → List D → Hs → R D
  | .loc n, [], h => match locAt h n with
    | some _ => .ok .non (h.set n (.lst []))
    | none => .bad
  | _, _, _ => .bad
theorem md_clear : MtD X "list.clear" clearD := by
  intro pins s σ H x xs v us Q I rx rs ⟨G, ms, h, d, ds, hh, i, il, q⟩
  unfold clearD at q
  split at q
  · cases il
    split at q
    · rename_i ys e
      obtain ⟨p, vs, rfl, h1, h2, h3⟩ := hh.locW i e
      exact mt_clear pins s σ H _ _ v us Q I rx rs ⟨p, vs, rfl, rfl, h2, Post.wrote (vs := ([] : List V)) q hh h1 rfl (Nat.zero_le _) rfl⟩
    · exact q.elim
  · exact q.elim
def extendD : D → List D → Hs → R D
  | .loc n, [d], h => match locAt h n, lstX h d with
    | some xs, some ys => if xs.length + ys.length ≤ sizeLine then .ok .non (h.set n (.lst (xs ++ ys))) else .bad
    | _, _ => .bad
  | _, _, _ => .bad
theorem md_extend : MtD X "list.extend" extendD := by
  intro pins s σ H x xs v us Q I rx rs ⟨G, ms, h, d, ds, hh, i, il, q⟩
  unfold extendD at q
  split at q
  · obtain ⟨w, rfl, i1⟩ := isL1 (ds := []) il
    split at q
    · rename_i ys zs e e2
      split at q
      · rename_i hz
        obtain ⟨p, vs, rfl, h1, h2, h3⟩ := hh.locW i e
        obtain ⟨p2, ws, rfl, k2, k3⟩ := hh.listX i1 e2
        exact mt_extend pins s σ H _ _ v us Q I rx rs ⟨p, p2, vs, ws, rfl, rfl, h2, k2, by rw [← h3.length, ← k3.length]; exact hz, q.wrote hh h1 (h3.append k3) (by rw [List.length_append]; exact hz) rfl⟩
      · exact q.elim
    · exact q.elim
  · exact q.elim

def ixD : D → D → Hs → R D
  | .str x, .int i, h => if x.length ≤ sizeLine then (match atI x.cps.toList i with
    | some c => .ok (.str ⟨#[c]⟩) h
    | none => .bad) else .bad
  | d, .int i, h => match rowOf h d with
    | some xs => match atI xs i with
      | some e => .ok e h
      | none => .bad
    | none => .bad
  | _, _, _ => .bad
theorem atI_is {xs : List D} {vs : List V} {i : Int} {d : D} (il : IsL K G ms xs vs) (e : atI xs i = some d) : ∃ v, atI vs i = some v ∧ Is K G ms d v := by
  unfold atI at e
  cases q : ixN xs.length i with
  | none => rw [q] at e; cases e
  | some j =>
    rw [q] at e
    obtain ⟨v, h1, h2⟩ := il.get (show xs[j]? = some d from e)
    refine ⟨v, ?_, h2⟩
    unfold atI
    rw [← il.length, q]
    exact h1
theorem id_ix : IxR X (rd2 X.K ixD) := by
  intro value slice pins s σ H x y v u Q I rx ry ⟨G, ms, h, da, db, hh, ia, ib, q⟩ hs
  unfold ixD at q
  split at q
  · cases ia; cases ib
    split at q
    · rename_i hz
      split at q
      · rename_i c e
        exact ix_seq value slice pins s σ H _ _ v u Q I rx ry (.inr (.inr ⟨_, _, _, rfl, rfl, hz, e, q.fin hh rfl⟩)) hs
      · exact q.elim
    · exact q.elim
  · cases ib
    split at q
    · rename_i xs e
      split at q
      · rename_i d e2
        obtain ⟨p, vs, rfl, h2, h3⟩ := hh.row ia e
        obtain ⟨w, k1, k2⟩ := atI_is h3 e2
        rcases h2 with h2 | h2
        · exact ix_seq value slice pins s σ H _ _ v u Q I rx ry (.inl ⟨p, vs, _, w, rfl, rfl, h2, k1, q.fin hh k2⟩) hs
        · exact ix_seq value slice pins s σ H _ _ v u Q I rx ry (.inr (.inl ⟨p, vs, _, w, rfl, rfl, h2, k1, q.fin hh k2⟩)) hs
      · exact q.elim
    · exact q.elim
  · exact q.elim
theorem ve_ix {fa fb : FE} (ha : VE X W pin a fa) (hb : VE X W pin b fb) (hs : PlainIx b := by exact fun _ _ => rfl) : VE X W pin (.Subscript a b pos) (eBin ixD fa fb) :=
  pe_imp (pe_ix id_ix ha hb hs) fun _ _ _ h => op_read h
def cutD (xs : List D) (lo hi : Option Int) : List D := (xs.drop (HT.sIx xs.length 0 lo)).take (HT.sIx xs.length xs.length hi - HT.sIx xs.length 0 lo)
theorem cut_is {xs : List D} {vs : List V} {lo hi : Option Int} (i : IsL K G ms xs vs) : IsL K G ms (cutD xs lo hi) (cutV vs lo hi) := by
  unfold cutD cutV
  rw [i.length]
  exact (i.drop _).take _
theorem cut_len (xs : List D) (lo hi : Option Int) : (cutD xs lo hi).length ≤ xs.length := by
  unfold cutD
  rw [List.length_take, List.length_drop]
  omega
theorem row_of_lst {d : D} {xs : List D} (e : lstOf h d = some xs) : rowOf h d = some xs := by
  cases d <;> first | exact e | cases e
def FO : Type := Ss → Hs → R (Option Int)
def oNone : FO := fun _ h => .ok none h
def oSome (f : FE) : FO := fun s h => (f s h).bind fun d h1 => match d with
  | .int i => .ok (some i) h1
  | _ => .bad
def rdO (X : Cx) (W : WX) (pin : List (Nat × V)) (f : FO) : TO := fun σ H Q => ∃ G ms s h, Hh X.K G ms h H ∧ Sl X.K G ms pin s σ ∧ Post X.K X.mg (fun c d H => W c d σ H) G ms (fun _ _ (a b : Option Int) => a = b) (f s h) Q
theorem po_imp {e : Option Expr} {t t' : TO} (h : PO X e t) (q : ∀ σ H Q, t' σ H Q → t σ H Q) : PO X e t' := ⟨fun pins s σ H Q I w => h.run pins s σ H Q I (q _ _ _ w)⟩
abbrev VO (X : Cx) (W : WX) (pin : List (Nat × V)) (e : Option Expr) (f : FO) : Prop := PO X e (rdO X W pin f)
theorem vo_none : VO X W pin none oNone := po_imp po_none fun σ H Q ⟨G, ms, s, h, hh, sl, q⟩ => Post.fin (b := (none : Option Int)) q hh rfl
theorem vo_some {e : Expr} {f : FE} (h : VE X W pin e f) : VO X W pin (some e) (oSome f) := by
  refine po_imp (po_some h) fun σ H Q ⟨G, ms, s, h, hh, sl, q⟩ => ⟨G, ms, s, h, hh, sl, Post.bind q fun d h1 v H1 G1 ms1 e1 p1 hh1 i1 q1 => ?_⟩
  cases d with
  | int i => cases i1; exact ⟨i, rfl, q1.fin hh1 rfl⟩
  | _ => exact q1.elim
def slD (m : Bool) (d : D) (lo hi : Option Int) (h : Hs) : R D := match d with
  | .tup xs => .ok (.tup (cutD xs lo hi)) h
  | d => match lstOf h d with
    | some xs => newL m (cutD xs lo hi) h
    | none => .bad
def eSl (m : Bool) (f : FE) (fl fh : FO) : FE := fun s h => (f s h).bind fun d h1 => (fl s h1).bind fun lo h2 => (fh s h2).bind fun hi h3 => slD m d lo hi h3
theorem whole_cut {xs : List D} {lo hi : Option Int} (h : HT.sIx xs.length 0 lo = 0 ∧ HT.sIx xs.length xs.length hi = xs.length) : cutD xs lo hi = xs := by
  unfold cutD
  rw [h.1, h.2, List.drop_zero, Nat.sub_zero, List.take_length]
theorem ve_slice (m : Bool) {e : Expr} {lo hi : Option Expr} {f : FE} {fl fh : FO} {p2 : Pos} (he : VE X W pin e f) (hl : VO X W pin lo fl) (hu : VO X W pin hi fh) : VE X W pin (.Subscript e (.Slice lo hi none p2) pos) (eSl m f fl fh) := by
  refine pe_imp (pe_slice (sl_list.or sl_tupA) he hl hu) fun σ H Q ⟨G, ms, s, h, hh, sl, q⟩ => ⟨G, ms, s, h, hh, sl, Post.bind q fun d h1 v H1 G1 ms1 e1 p1 hh1 i1 q1 => ?_⟩
  refine ⟨G1, ms1, s, h1, hh1, sl.mono e1 p1, Post.bind q1 fun l h2 l' H2 G2 ms2 e2 p2 hh2 i2 q2 => ?_⟩
  subst i2
  refine ⟨G2, ms2, s, h2, hh2, (sl.mono e1 p1).mono e2 p2, Post.bind q2 fun u h3 u' H3 G3 ms3 e3 p3 hh3 i3 q3 => ?_⟩
  subst i3
  have i4 := Is.mono (e2.trans e3) (pre_trans p2 p3) _ _ i1
  unfold slD at q3
  split at q3
  · rename_i xs
    obtain ⟨p, vs, rfl, k2, k3⟩ := hh3.tuple i4
    refine .inr ⟨p, vs, rfl, k2, fun hw => ?_, fun _ p hp => q3.newT hh3 (cut_is k3) (Nat.le_trans (cut_len _ _ _) (hh3.rowz i4 rfl)) hp⟩
    rw [← k3.length] at hw
    rw [whole_cut hw] at q3
    exact q3.fin hh3 i4
  · split at q3
    · rename_i xs hx
      obtain ⟨p, vs, rfl, k2, k3⟩ := hh3.list i4 hx
      exact .inl ⟨p, vs, rfl, k2, fun p hp => q3.newL hh3 (cut_is k3) (Nat.le_trans (cut_len _ _ _) (hh3.rowz i4 (row_of_lst hx))) hp⟩
    · exact q3.elim
def setD (o i v : D) (h : Hs) : Option Hs := match o, i with
  | .loc n, .int k => match locAt h n with
    | some xs => match ixN xs.length k with
      | some j => some (h.set n (.lst (xs.set j v)))
      | none => none
    | none => none
  | _, _ => none
def sItem (fo fi fe : FE) : FS := fun s h => RS.ofR s (fe s h) fun v h1 => RS.ofR s (fo s h1) fun o h2 => RS.ofR s (fi s h2) fun i h3 => match setD o i v h3 with
  | some h4 => .nx s h4
  | none => .bad
theorem vs_item {o i e : Expr} {fo fi fe : FE} {pos' : Pos} (he : VE X W pin e fe) (ho : VE X W pin o fo) (hi : VE X W pin i fi)
    (ha : ∀ v, assign (.Subscript o i pos') X.env v = (do
      let ov ← holding [v] (eval o X.env)
      let iv ← holding [v, ov] (eval i X.env)
      standAt pos'
      holding [v, ov, iv] (setItem ov iv v)
      release [v, ov, iv] []) := by intro _; rfl)
    (hs : swapsWithSole [.Subscript o i pos'] e pos.line X.env = pure false := by rfl) (hw : swappedStores [.Subscript o i pos'] e X.env = pure none := by rfl)
    (h1 : (assignEach [.Subscript o i pos'] X.env).map (·.2) = [assign (.Subscript o i pos') X.env] := by rfl) : VS X W pin (.Assign [.Subscript o i pos'] e pos) (sItem fo fi fe) := by
  refine ps_imp (ps_asg he (pg_sub ho hi set_list ha) hs hw h1) fun D σ H ⟨G, ms, s, h, hh, sl, q⟩ => ⟨G, ms, s, h, hh, sl, PostS.ofR sl q fun dv h1 v H1 G1 ms1 e1 p1 hh1 i1 q1 => ?_⟩
  refine ⟨G1, ms1, s, h1, hh1, sl.mono e1 p1, PostS.ofR (sl.mono e1 p1) q1 fun od h2 ov H2 G2 ms2 e2 p2 hh2 i2 q2 => ?_⟩
  refine ⟨G2, ms2, s, h2, hh2, (sl.mono e1 p1).mono e2 p2, PostS.ofR ((sl.mono e1 p1).mono e2 p2) q2 fun id h3 iv H3 G3 ms3 e3 p3 hh3 i3 q3 => ?_⟩
  split at q3
  · rename_i h4 es
    have i1' := Is.mono (e2.trans e3) (pre_trans p2 p3) _ _ i1
    have i2' := Is.mono e3 p3 _ _ i2
    unfold setD at es
    split at es
    · rename_i n k
      split at es
      · rename_i xs ex
        split at es
        · rename_i j ej
          cases es
          cases i3
          obtain ⟨p, vs, rfl, k1, k2, k3⟩ := hh3.locW i2' ex
          refine ⟨p, vs, k, j, rfl, rfl, k2, by rw [← k3.length]; exact ej, ?_⟩
          exact q3 σ _ G3 ms3 (GLe.refl _) (pre_refl _) (hh3.write k1 (k3.set j i1') (by rw [List.length_set]; exact hh3.atz (locAt_some ex))) (((sl.mono e1 p1).mono e2 p2).mono e3 p3)
        · cases es
      · cases es
    · cases es
  · exact q3.elim
def ipAddD : D → D → Hs → R D
  | .int i, .int j, h => .ok (.int (i + j)) h
  | _, _, _ => .bad
def ipSubD : D → D → Hs → R D
  | .int i, .int j, h => .ok (.int (i - j)) h
  | _, _, _ => .bad
/-- x += e: ints -/
def sAug (i : Nat) (g : D → D → Hs → R D) (f : FE) : FS := fun s h => match s[i]? with
  | some (some x) => RS.ofR s (f s h) fun y h1 => RS.ofR s (calm2 g x y h1) fun z h2 => .nx (s.set i (some z)) h2
  | _ => .bad
def PIpD (X : Cx) (op : Operator) (g : D → D → Hs → R D) : Prop := PIp X op (rd2 X.K g)
theorem vs_aug (i : Nat) {x : Str} {e : Expr} {f : FE} {op : Operator} {g : D → D → Hs → R D} {pos' : Pos} (hN : X.N.Nodup) (he : VE X W pin e f) (ho : PIpD X op g) (hi : X.N[i]? = some x := by rfl) (hx : Loc X.env.scope x := by first | exact Or.inl rfl | exact Or.inr rfl) (np : NotPin pin i := by first | exact notPin_nil | decide)
    (hf : X.fn x = true ∨ X.env.scope.names.lookup x = some .local := by first | exact .inl rfl | exact .inr rfl | assumption) : VS X W pin (.AugAssign (.Name x pos') op e pos) (sAug i g f) := by
  refine ps_imp (ps_aug hN hi hx he ho hf) fun D σ H ⟨G, ms, s, h, hh, sl, q⟩ => ?_
  unfold sAug at q
  split at q
  · rename_i x ex
    obtain ⟨v, k1, k2⟩ := sl.get i x ex
    refine ⟨v, k1, G, ms, s, h, hh, sl, PostS.ofR sl q fun y h1 w H1 G1 ms1 e1 p1 hh1 i1 q1 => ?_⟩
    refine ⟨G1, ms1, h1, x, y, hh1, Is.mono e1 p1 _ _ k2, i1, calm_post (PostS.ofR (sl.mono e1 p1) q1 fun z h2 zv H2 G2 ms2 e2 p2 hh2 i2 q2 => ?_)⟩
    exact q2 _ H2 G2 ms2 (GLe.refl _) (pre_refl _) hh2 (((sl.mono e1 p1).mono e2 p2).set i2 np)
  · exact q.elim
theorem ip_addD : PIpD X .Add ipAddD := by
  intro pins s σ H x y v u Q I rx ry ⟨G, ms, h, da, db, hh, ia, ib, q⟩
  unfold ipAddD at q
  split at q
  · cases ia; cases ib
    exact ip_add pins s σ H _ _ v u Q I rx ry ⟨_, _, rfl, rfl, q.fin hh rfl⟩
  · exact q.elim
theorem ip_subD : PIpD X .Sub ipSubD := by
  intro pins s σ H x y v u Q I rx ry ⟨G, ms, h, da, db, hh, ia, ib, q⟩
  unfold ipSubD at q
  split at q
  · cases ia; cases ib
    exact ip_sub pins s σ H _ _ v u Q I rx ry ⟨_, _, rfl, rfl, q.fin hh rfl⟩
  · exact q.elim
end
end WD
namespace WD
open PySem PySem.Spec PyProof.Rows L2
abbrev Tg : Type := D → Ss → Hs → Option Ss
def gVar (i : Nat) : Tg := fun d s _ => some (s.set i (some d))
def unp : List Tg → List D → Ss → Hs → Option Ss
  | [], [], s, _ => some s
  | g :: gs, d :: ds, s, h => match g d s h with
    | some s' => unp gs ds s' h
    | none => none
  | _, _, _, _ => none
def gUn (gs : List Tg) : Tg := fun d s h => match rowOf h d with
  | some xs => unp gs xs s h
  | none => none
/-- σ' is σ but for the slots vs -/
structure But (vs : List Nat) (σ σ' : L2.St) : Prop where
  len : σ'.length = σ.length
  out : ∀ j, j ∉ vs → σ'[j]? = σ[j]?
theorem But.refl {vs : List Nat} {σ : L2.St} : But vs σ σ := ⟨rfl, fun _ _ => rfl⟩
theorem But.trans {vs : List Nat} {σ σ1 σ2 : L2.St} (a : But vs σ σ1) (b : But vs σ1 σ2) : But vs σ σ2 := ⟨b.len.trans a.len, fun j hj => (b.out j hj).trans (a.out j hj)⟩
section
variable (X : Cx) (pin : List (Nat × V))
def rdG (vs : List Nat) (g : Tg) : TG := fun v σ H Q => ∃ G ms s h d, Hh X.K G ms h H ∧ Sl X.K G ms pin s σ ∧ Is X.K G ms d v ∧ match g d s h with
  | some s' => ∀ σ', But vs σ σ' → Sl X.K G ms pin s' σ' → Q σ' H
  | none => False
def rdGs (vs : List Nat) (gs : List Tg) : TGs := fun ws σ H Q => ∃ G ms s h ds, Hh X.K G ms h H ∧ Sl X.K G ms pin s σ ∧ IsL X.K G ms ds ws ∧ match unp gs ds s h with
  | some s' => ∀ σ', But vs σ σ' → Sl X.K G ms pin s' σ' → Q σ' H
  | none => False
end
abbrev VG (X : Cx) (pin : List (Nat × V)) (vs : List Nat) (e : Expr) (g : Tg) : Prop := PG X e (rdG X pin vs g)
abbrev VGs (X : Cx) (pin : List (Nat × V)) (vs : List Nat) (es : List Expr) (gs : List Tg) : Prop := PGs X es (rdGs X pin vs gs)
section
variable {X : Cx} {W : WX} {pin : List (Nat × V)} {K : PySem.W.Frag} {mg : Str → Option Value} {E : XK} {G G' : GG} {H : Hp} {ms ms' : List Addr} {h : Hs} {pos : Pos} {a b c : Expr} {rest : List Expr} {vs : List Nat}
theorem pg_imp {e : Expr} {t t' : TG} (h : PG X e t) (q : ∀ v σ H Q, t' v σ H Q → t v σ H Q) : PG X e t' := ⟨fun pins s σ H v u Q I r w => h.run pins s σ H v u Q I r (q _ _ _ _ w)⟩
theorem pgs_imp {e : List Expr} {t t' : TGs} (h : PGs X e t) (q : ∀ v σ H Q, t' v σ H Q → t v σ H Q) : PGs X e t' := ⟨fun pins s σ H v u Q I r w => h.run pins s σ H v u Q I r (q _ _ _ _ w)⟩
theorem vg_name (i : Nat) {x : Str} (hN : X.N.Nodup) (hi : X.N[i]? = some x := by rfl) (hx : Loc X.env.scope x := by first | exact Or.inl rfl | exact Or.inr rfl) (np : NotPin pin i := by first | exact notPin_nil | decide) (hv : i ∈ vs := by decide)
    (hf : X.fn x = true ∨ X.env.scope.names.lookup x = some .local := by first | exact .inl rfl | exact .inr rfl | assumption) : VG X pin vs (.Name x pos) (gVar i) := by
  refine pg_imp (pg_name hN hi hx hf) fun v σ H Q ⟨G, ms, s, h, d, hh, sl, i1, q⟩ => ?_
  refine q _ ⟨by simp, fun j hj => ?_⟩ (sl.set i1 np)
  rw [List.getElem?_set_ne]
  exact fun z => hj (z ▸ hv)
theorem vgs_nil : VGs X pin vs [] [] := by
  refine pgs_imp pgs_nil fun v σ H Q ⟨G, ms, s, h, d, hh, sl, i1, q⟩ => ?_
  cases d with
  | nil => cases i1; exact ⟨rfl, q σ .refl sl⟩
  | cons _ _ => exact q.elim
theorem vgs_cons {e : Expr} {es : List Expr} {g : Tg} {gs : List Tg} (h1 : VG X pin vs e g) (h2 : VGs X pin vs es gs)
    (hs : (assignEach (e :: es) X.env).map (·.2) = assign e X.env :: (assignEach es X.env).map (·.2) := by rfl) : VGs X pin vs (e :: es) (g :: gs) := by
  refine pgs_imp (pgs_cons h1 h2 hs) fun ws σ H Q ⟨G, ms, s, h, ds, hh, sl, i1, q⟩ => ?_
  cases ds with
  | nil => exact q.elim
  | cons d ds =>
    obtain ⟨v, r, rfl, i2, i3⟩ := i1
    refine ⟨v, r, rfl, G, ms, s, h, d, hh, sl, i2, ?_⟩
    unfold unp at q
    cases e1 : g d s h with
    | none => rw [e1] at q; exact q
    | some s' =>
      rw [e1] at q
      intro σ' b' sl'
      refine ⟨G, ms, s', h, ds, hh, sl', i3, ?_⟩
      dsimp only at q
      cases e2 : unp gs ds s' h with
      | none => rw [e2] at q; exact q
      | some s2 =>
        rw [e2] at q
        exact fun σ2 b2 sl2 => q σ2 (b'.trans b2) sl2
theorem PG.or {e : Expr} {t t' : TG} (h : PG X e t) (h' : PG X e t') : PG X e (fun v σ H Q => t v σ H Q ∨ t' v σ H Q) := ⟨fun pins s σ H v u Q I r w => by
  rcases w with w | w
  · exact h.run pins s σ H v u Q I r w
  · exact h'.run pins s σ H v u Q I r w⟩
theorem unp_len : ∀ {gs : List Tg} {ds : List D} {s s' : Ss} {h : Hs}, unp gs ds s h = some s' → ds.length = gs.length
  | [], [], _, _, _, _ => rfl
  | [], _ :: _, _, _, _, e => by cases e
  | _ :: _, [], _, _, _, e => by cases e
  | g :: gs, d :: ds, s, s', h, e => by
    unfold unp at e
    split at e
    · simp [unp_len e]
    · cases e
theorem vg_un {es : List Expr} {k : Nat} {gs : List Tg} (hc : X.calm = true) (h : VGs X pin vs es gs)
    (hn : (assignEach es X.env).length = gs.length := by rfl) (hst : (assignEach es X.env).findIdx? (·.1) = none := by rfl) : VG X pin vs (.Tuple es k pos) (gUn gs) := by
  refine pg_imp (PG.or (pg_lst hc h hn hst) (pg_tup hc h hn hst)) fun v σ H Q ⟨G, ms, s, h, d, hh, sl, i1, q⟩ => ?_
  unfold gUn at q
  cases er : rowOf h d with
  | none => rw [er] at q; exact q.elim
  | some xs =>
    rw [er] at q
    dsimp only at q
    obtain ⟨p, ws, rfl, h2, h3⟩ := hh.row i1 er
    have hl : ws.length = gs.length := by
      rw [← h3.length]
      cases e2 : unp gs xs s h with
      | none => rw [e2] at q; exact q.elim
      | some s' => exact unp_len e2
    rcases h2 with h2 | h2
    · exact .inl ⟨p, ws, rfl, h2, hl, G, ms, s, h, xs, hh, sl, h3, q⟩
    · exact .inr ⟨p, ws, rfl, h2, hl, G, ms, s, h, xs, hh, sl, h3, q⟩
/-- a, b = e -/
def sUn (g : Tg) (f : FE) : FS := fun s h => RS.ofR s (f s h) fun d h1 => match g d s h1 with
  | some s' => .nx s' h1
  | none => .bad
theorem vs_un {tg e : Expr} {f : FE} {g : Tg} (he : VE X W pin e f) (hg : VG X pin vs tg g) (hs : swapsWithSole [tg] e pos.line X.env = pure false := by rfl) (hw : swappedStores [tg] e X.env = pure none := by rfl)
    (h1 : (assignEach [tg] X.env).map (·.2) = [assign tg X.env] := by rfl) : VS X W pin (.Assign [tg] e pos) (sUn g f) := by
  refine ps_imp (ps_asg he hg hs hw h1) fun D σ H ⟨G, ms, s, h, hh, sl, q⟩ => ⟨G, ms, s, h, hh, sl, PostS.ofR sl q fun d h1 v H1 G1 ms1 e1 p1 hh1 i1 q1 => ?_⟩
  refine ⟨G1, ms1, s, h1, d, hh1, sl.mono e1 p1, i1, ?_⟩
  cases e2 : g d s h1 with
  | none => rw [e2] at q1; exact q1
  | some s' =>
    rw [e2] at q1
    exact fun σ' _ sl' => q1 σ' H1 G1 ms1 (GLe.refl _) (pre_refl _) hh1 sl'
/-- a, b = x, y -/
def sPar (i j : Nat) (f : FA) : FS := fun s h => match f s h with
  | .ok [x, y] h1 => .nx ((s.set i (some x)).set j (some y)) h1
  | .ok _ _ => .bad
  | .err x h1 => .er x s h1
  | .bad => .bad
theorem vs_par (i j : Nat) {x y : Str} {f : FA} {px py pt : Pos} {kt k2 : Nat} {pt2 : Pos} (hc : X.calm = true) (hN : X.N.Nodup) (ha : VA X W pin [a, b] f) (hi : X.N[i]? = some x := by rfl) (hj : X.N[j]? = some y := by rfl) (hij : i ≠ j := by decide)
    (hx : X.env.scope.names.lookup x = some .local := by rfl) (hy : X.env.scope.names.lookup y = some .local := by rfl) (np : NotPin pin i := by first | exact notPin_nil | decide) (np2 : NotPin pin j := by first | exact notPin_nil | decide)
    (hw : swappedStores [.Tuple [.Name x px, .Name y py] kt pt] (.Tuple [a, b] k2 pt2) X.env = pure (some [x, y]) := by rfl)
    (hs : swapsWithSole [.Tuple [.Name x px, .Name y py] kt pt] (.Tuple [a, b] k2 pt2) pos.line X.env = pure false := by rfl) :
    VS X W pin (.Assign [.Tuple [.Name x px, .Name y py] kt pt] (.Tuple [a, b] k2 pt2) pos) (sPar i j f) := by
  refine ps_imp (ps_par hc hN hi hj hij hx hy ha hw hs) fun D σ H ⟨G, ms, s, h, hh, sl, q⟩ => ⟨G, ms, s, h, hh, sl, ?_⟩
  unfold sPar at q
  cases e : f s h with
  | bad => rw [e] at q; exact q
  | err z h1 => rw [e] at q; exact fun H' G2 ms2 d h1 h2 h3 h4 => q σ H' G2 ms2 d h1 h2 h3 (sl.mono h1 h2) h4
  | ok ds h1 =>
    rw [e] at q
    intro ws H1 G1 ms1 e1 p1 hh1 i1
    match ds, i1, q with
    | [x, y], i1, q =>
      obtain ⟨v, w, rfl, j1, j2⟩ := isL2 i1
      exact ⟨v, w, rfl, q _ H1 G1 ms1 e1 p1 hh1 (((sl.mono e1 p1).set j1 np).set j2 np2)⟩
    | [], _, q => exact q.elim
    | [_], _, q => exact q.elim
    | _ :: _ :: _ :: _, _, q => exact q.elim

inductive It0 where
  | seq (ds : List D)
  | rng (lo : Int) (n : Nat)
  | loc (n : Nat)
abbrev FI : Type := Ss → Hs → R It0
/-- J yields ds, wherever the still part has grown -/
def Yields (K : PySem.W.Frag) (J : It) (G0 : GG) (ms0 : List Addr) (ds : List D) : Prop := ∀ (i : Nat) (h : Hs) (G : GG) (ms : List Addr) (H : Hp), Hh K G ms h H → Same G0.1 G.1 → ms0 <+: ms →
  (∀ d, ds[i]? = some d → J.go i H ∧ ∀ x H', J.yld i H x H' → ∃ G', GLe G G' ∧ Hh K G' ms h H' ∧ Is K G' ms d x) ∧ (ds.length ≤ i → J.stop i H)
def ItIs (K : PySem.W.Frag) (G : GG) (ms : List Addr) : It0 → It → Prop
  | .seq ds, J => Yields K J G ms ds ∧ ds.length ≤ sizeLine
  | .rng lo n, J => J = Itr lo n
  | .loc n, J => ∃ a, ms[n]? = some a ∧ J = Itl K a
def rdI (X : Cx) (W : WX) (pin : List (Nat × V)) (f : FI) : TI := fun σ H R => ∃ G ms s h, Hh X.K G ms h H ∧ Sl X.K G ms pin s σ ∧ Post X.K X.mg (fun c d H => W c d σ H) G ms (ItIs X.K) (f s h) R
abbrev VI (X : Cx) (W : WX) (pin : List (Nat × V)) (tg e : Expr) (f : FI) : Prop := PI X tg e (rdI X W pin f)
theorem pi_imp {tg e : Expr} {t t' : TI} (h : PI X tg e t) (q : ∀ σ H Q, t' σ H Q → t σ H Q) : PI X tg e t' := ⟨fun pins s σ H Q I w => h.run pins s σ H Q I (q _ _ _ w)⟩
/-- a list or a tuple -/
def iSeq (K : PySem.W.Frag) (tl : TE) : TI := fun σ H R => tl σ H fun x H1 => ∃ a, x = .ref a ∧ (((∃ xs, SqL K H1 a xs) ∧ R (Itl K a) H1) ∨ ((∃ xs, SqT K H1 a xs) ∧ R (Itt K a) H1))
theorem pi_seq {tg l : Expr} {tl : TE} (hl : PE X l tl) : PI X tg l (iSeq X.K tl) := by
  refine ⟨fun pins s σ H R I h => ?_⟩
  refine thn (hl.run pins s σ H _ I h) fun v s1 ⟨x, H1, I1, r1, q1⟩ => ?_
  obtain ⟨a, e, ⟨⟨xs, hq⟩, q⟩ | ⟨⟨xs, hq⟩, q⟩⟩ := q1
  · subst e
    cases r1
    obtain ⟨its, rv, p, hz⟩ := I1.list hq
    refine wpAny_pyIter_list p.isList ?_
    refine ⟨s1.heap.objs.size, [s1.heap.objs.size], _, _, H1, rfl, I1.kept (t' := s1.toks) fun b o e => Heap.get?_push_of_some _ e, turn_list a _, ⟨_, Heap.get?_push_size _ rfl, rfl, rfl⟩, fun b hb => ?_, q⟩
    have e : b = s1.heap.objs.size := by simpa using hb
    subst e
    exact I1.fpOk (Nat.le_refl _) (I1.hok.fresh (Nat.le_refl _))
  · subst e
    cases r1
    obtain ⟨its, rv, p, hz⟩ := I1.tuple hq
    refine wpAny_pyIter_tuple (show s1.heap.IsTuple a its.toArray from p) ?_
    refine ⟨s1.heap.objs.size, [s1.heap.objs.size], _, _, H1, rfl, I1.kept (t' := s1.toks) fun b o e => Heap.get?_push_of_some _ e, turn_tuple a _, ⟨_, Heap.get?_push_size _ rfl, rfl, rfl⟩, fun b hb => ?_, q⟩
    have e : b = s1.heap.objs.size := by simpa using hb
    subst e
    exact I1.fpOk (Nat.le_refl _) (I1.hok.fresh (Nat.le_refl _))
theorem yields_list {a : Addr} {ds : List D} {ws : List V} (q : SqL K G.1 a ws) (i : IsL K G ms ds ws) : Yields K (Itl K a) G ms ds := fun j h G' ms' H hh e p => by
  have q' : SqL K H a ws := hh.sub.seq (e.seq q)
  have i' := IsL.mono' e p _ _ i
  refine ⟨fun d hd => ?_, fun hl => ⟨ws, q', by rw [← i.length]; exact hl⟩⟩
  obtain ⟨v, h1, h2⟩ := i'.get hd
  refine ⟨⟨ws, v, q', h1⟩, fun x H' ⟨e1, e2⟩ => ?_⟩
  subst e1
  have := e2 ws q'
  rw [h1] at this
  cases this
  exact ⟨G', .refl _, hh, h2⟩
theorem yields_tup {a : Addr} {ds : List D} {ws : List V} (q : SqT K G.1 a ws) (i : IsL K G ms ds ws) : Yields K (Itt K a) G ms ds := fun j h G' ms' H hh e p => by
  have q' : SqT K H a ws := Same.sqT hh.sub (Same.sqT e q)
  have i' := IsL.mono' e p _ _ i
  refine ⟨fun d hd => ?_, fun hl => ⟨ws, q', by rw [← i.length]; exact hl⟩⟩
  obtain ⟨v, h1, h2⟩ := i'.get hd
  refine ⟨⟨ws, v, q', h1⟩, fun x H' ⟨e1, e2⟩ => ?_⟩
  subst e1
  have := e2 ws q'
  rw [h1] at this
  cases this
  exact ⟨G', .refl _, hh, h2⟩
def iRow (f : FE) : FI := fun s h => (f s h).bind fun d h1 => match d with
  | .tup xs => .ok (.seq xs) h1
  | .lst xs => .ok (.seq xs) h1
  | .scr xs => .ok (.seq xs) h1
  | .loc n => if n < h1.length then .ok (.loc n) h1 else .bad
  | _ => .bad
theorem vi_row {tg e : Expr} {f : FE} (he : VE X W pin e f) : VI X W pin tg e (iRow f) := by
  refine pi_imp (pi_seq he) fun σ H R ⟨G, ms, s, h, hh, sl, q⟩ => ⟨G, ms, s, h, hh, sl, Post.bind q fun d h1 v H1 G1 ms1 e1 p1 hh1 i1 q1 => ?_⟩
  cases d with
  | tup xs =>
    obtain ⟨a, ws, rfl, k1, k2⟩ := id i1
    exact ⟨a, rfl, .inr ⟨⟨ws, .of (hh1.sub _ _ k1)⟩, q1.fin hh1 ⟨yields_tup (.of k1) k2, hh1.rowz i1 rfl⟩⟩⟩
  | lst xs =>
    obtain ⟨a, ws, rfl, k1, k2⟩ := id i1
    exact ⟨a, rfl, .inl ⟨⟨ws, .of (hh1.sub _ _ k1)⟩, q1.fin hh1 ⟨yields_list (.of k1) k2, hh1.rowz i1 rfl⟩⟩⟩
  | scr xs =>
    obtain ⟨a, ws, rfl, k1, k2⟩ := id i1
    exact ⟨a, rfl, .inl ⟨⟨ws, hh1.sub.seq k1⟩, q1.fin hh1 ⟨yields_list k1 k2, hh1.rowz i1 rfl⟩⟩⟩
  | loc n =>
    dsimp only at q1
    split at q1
    · obtain ⟨a, k1, rfl⟩ := i1
      obtain ⟨ws, k2⟩ := hh1.some_at k1
      exact ⟨a, rfl, .inl ⟨⟨ws, .of k2⟩, q1.fin hh1 ⟨a, k1, rfl⟩⟩⟩
    · exact q1.elim
  | _ => exact q1.elim
/-- range -/
def rgL (lo : Int) (n : Nat) : List D := (List.range n).map fun (i : Nat) => D.int (lo + i)
theorem rgL_get {lo : Int} {n i : Nat} {d : D} (h : (rgL lo n)[i]? = some d) : i < n ∧ d = .int (lo + i) := by
  unfold rgL at h
  rw [List.getElem?_map] at h
  cases q : (List.range n)[i]? with
  | none => rw [q] at h; cases h
  | some j =>
    rw [q] at h
    have hi : i < n := by
      rcases Nat.lt_or_ge i n with z | z
      · exact z
      · rw [List.getElem?_eq_none (by simpa using z)] at q; cases q
    rw [List.getElem?_range hi] at q
    cases q
    exact ⟨hi, (Option.some.inj h).symm⟩
theorem yields_range {lo : Int} {n : Nat} : Yields K (Itr lo n) G ms (rgL lo n) := fun j h G' ms' H hh e p => by
  refine ⟨fun d hd => ?_, fun hl => ?_⟩
  · obtain ⟨hi, rfl⟩ := rgL_get hd
    exact ⟨hi, fun x H' ⟨e1, e2⟩ => by subst e1 e2; exact ⟨G', .refl _, hh, rfl⟩⟩
  · have : (rgL lo n).length = n := by unfold rgL; simp
    rw [this] at hl
    exact hl
def r62 (i : Int) : Prop := -(2 ^ 62) ≤ i ∧ i < 2 ^ 62
open Classical in
noncomputable def iRng1 (f : FA) : FI := fun s h => (f s h).bind fun ds h1 => match ds with
  | [.int j] => if r62 j then .ok (.rng 0 j.toNat) h1 else .bad
  | _ => .bad
open Classical in
noncomputable def iRng2 (f : FA) : FI := fun s h => (f s h).bind fun ds h1 => match ds with
  | [.int i, .int j] => if r62 i ∧ r62 j then .ok (.rng i (j - i).toNat) h1 else .bad
  | _ => .bad
theorem vi_range1 {tg e : Expr} {f : FA} {p : Pos} (hg : Gl X "range") (hm : X.mg "range" = none) (ha : VA X W pin [e] f) (hs : starEach [e] X.env = [(false, eval e X.env)] := by rfl) : VI X W pin tg (.Call (.Name "range" p) [e] [] pos) (iRng1 f) := by
  refine pi_imp (pi_range1 hg hm ha hs) fun σ H R ⟨G, ms, s, h, hh, sl, q⟩ => ⟨G, ms, s, h, hh, sl, Post.bind q fun ds h1 ws H1 G1 ms1 e1 p1 hh1 i1 q1 => ?_⟩
  split at q1
  · obtain ⟨v, rfl, j1⟩ := isL1 (ds := []) i1
    cases j1
    split at q1
    · rename_i hz
      exact ⟨_, rfl, hz.1, hz.2, q1.fin hh1 rfl⟩
    · exact q1.elim
  · exact q1.elim
theorem vi_range2 {tg e e' : Expr} {f : FA} {p : Pos} (hg : Gl X "range") (hm : X.mg "range" = none) (ha : VA X W pin [e, e'] f) (hs : starEach [e, e'] X.env = [(false, eval e X.env), (false, eval e' X.env)] := by rfl) (hs2 : starEach [e'] X.env = [(false, eval e' X.env)] := by rfl) :
    VI X W pin tg (.Call (.Name "range" p) [e, e'] [] pos) (iRng2 f) := by
  refine pi_imp (pi_range2 hg hm ha hs hs2) fun σ H R ⟨G, ms, s, h, hh, sl, q⟩ => ⟨G, ms, s, h, hh, sl, Post.bind q fun ds h1 ws H1 G1 ms1 e1 p1 hh1 i1 q1 => ?_⟩
  split at q1
  · obtain ⟨v, w, rfl, j1, j2⟩ := isL2 i1
    cases j1; cases j2
    split at q1
    · rename_i hz
      exact ⟨_, _, rfl, ⟨hz.1.1, hz.1.2, hz.2.1, hz.2.2⟩, q1.fin hh1 rfl⟩
    · exact q1.elim
  · exact q1.elim
end
end WD
namespace WD
open PySem PySem.Spec PyProof.Rows L2
/-- behind a turn -/
def afterT (r : RS) (k : Ss → Hs → RS) : RS := match r with
  | .nx s h => k s h
  | .ct s h => k s h
  | .bk s h => .nx s h
  | .rt d h => .rt d h
  | .er x s h => .er x s h
  | .bad => .bad
def loopS (g : Tg) (b : FS) : List D → FS
  | [], s, h => .nx s h
  | d :: ds, s, h => match g d s h with
    | some s' => afterT (b s' h) (loopS g b ds)
    | none => .bad
def loopL (g : Tg) (b : FS) (n : Nat) : Nat → Nat → FS
  | 0, _, _, _ => .bad
  | f + 1, i, s, h => match locAt h n with
    | some xs => match xs[i]? with
      | some d => (match g d s h with
        | some s' => afterT (b s' h) (loopL g b n f (i + 1))
        | none => .bad)
      | none => .nx s h
    | none => .bad
def sFor (fi : FI) (g : Tg) (b : FS) : FS := fun s h => match fi s h with
  | .ok (.seq ds) h1 => loopS g b ds s h1
  | .ok (.rng lo n) h1 => loopS g b (rgL lo n) s h1
  | .ok (.loc n) h1 => match locAt h1 n with
    | some xs => loopL g b n (xs.length + 1) 0 s h1
    | none => .bad
  | .err x h1 => .er x s h1
  | .bad => .bad
section
variable {X : Cx} {W : WX} {pin : List (Nat × V)} {K : PySem.W.Frag} {mg : Str → Option Value} {E : XK} {G G' : GG} {H : Hp} {ms ms' : List Addr} {h : Hs} {pos : Pos} {a b c : Expr} {rest : List Expr} {vs : List Nat}
theorem after_post {σ σ' : L2.St} {r : RS} {k : Ss → Hs → RS} {D0 : Ends} {N : L2.St → Hp → Prop} (q : PostS W K mg pin σ G ms (afterT r k) D0)
    (hN : ∀ s1 h1 σ1 H1 G1 ms1, GLe G G1 → ms <+: ms1 → Hh K G1 ms1 h1 H1 → Sl K G1 ms1 pin s1 σ1 → PostS W K mg pin σ1 G1 ms1 (k s1 h1) D0 → N σ1 H1) : PostS W K mg pin σ' G ms r { D0 with nx := N, ct := N, bk := D0.nx } := by
  cases r with
  | nx s1 h1 => exact fun σ1 H1 G1 ms1 e1 p1 hh1 sl1 => hN s1 h1 σ1 H1 G1 ms1 e1 p1 hh1 sl1 (PostS.mono (r := k s1 h1) q e1 p1)
  | ct s1 h1 => exact fun σ1 H1 G1 ms1 e1 p1 hh1 sl1 => hN s1 h1 σ1 H1 G1 ms1 e1 p1 hh1 sl1 (PostS.mono (r := k s1 h1) q e1 p1)
  | bk s1 h1 => exact q
  | rt d h1 => exact q
  | er x s1 h1 => exact q
  | bad => exact q
theorem vs_for {tg iter : Expr} {body : List Stmt} {fi : FI} {g : Tg} {f : FS} (hp : PassesOwn (model X.prog X.w) X.A X.env X.xe) (hc : X.calm = true) (hi : VI X W pin tg iter fi) (hg : VG X pin vs tg g) (hb : VSs X W pin body f)
    (hs : ∀ x, foldedSetIterable iter X.env x = pure x := by intro _; rfl) : VS X W pin (.For tg iter body [] pos) (sFor fi g f) := by
  refine ps_imp (ps_for hp hc hi hg hb hs) fun D σ H ⟨G, ms, s, h, hh, sl, q⟩ => ⟨G, ms, s, h, hh, sl, ?_⟩
  unfold sFor at q
  cases e : fi s h with
  | bad => rw [e] at q; exact q
  | err z h1 => rw [e] at q; exact fun H' G2 ms2 d h1 h2 h3 h4 => q σ H' G2 ms2 d h1 h2 h3 (sl.mono h1 h2) h4
  | ok it h1 =>
    rw [e] at q
    intro J H1 G1 ms1 e1 p1 hh1 ij
    have seqs : ∀ ds, Yields X.K J G1 ms1 ds → PostS W X.K X.mg pin σ G ms (loopS g f ds s h1) D →
        (∃ WW : Nat → Nat → L2.St → Hp → Prop, (∃ m, WW 0 m σ H1) ∧ ∀ i m σ H, WW i m σ H → (J.stop i H ∧ D.nx σ H) ∨ (J.go i H ∧ ∃ N : L2.St → Hp → Prop, (∀ σ' H', N σ' H' → ∃ m', m' < m ∧ WW (i + 1) m' σ' H') ∧
          ∀ x H', J.yld i H x H' → rdG X pin vs g x σ H' fun σ2 H2 => rdS X W pin f { D with nx := N, ct := N, bk := D.nx } σ2 H2)) := fun ds ij q => by
      refine ⟨fun i m σ' H' => ∃ G2 ms2 s2 h2, Hh X.K G2 ms2 h2 H' ∧ Sl X.K G2 ms2 pin s2 σ' ∧ GLe G1 G2 ∧ ms1 <+: ms2 ∧ m = ds.length - i ∧ PostS W X.K X.mg pin σ' G2 ms2 (loopS g f (ds.drop i) s2 h2) D,
        ⟨ds.length, G1, ms1, s, h1, hh1, sl.mono e1 p1, .refl _, pre_refl _, by simp, PostS.mono (r := loopS g f ds s h1) q e1 p1⟩, ?_⟩
      rintro i m σ2 H2 ⟨G2, ms2, s2, h2, hh2, sl2, e2, p2, rfl, q2⟩
      by_cases hi : i < ds.length
      · have hd : ds.drop i = ds[i] :: ds.drop (i + 1) := List.drop_eq_getElem_cons hi
        rw [hd] at q2
        obtain ⟨hgo, hy⟩ := (ij i h2 G2 ms2 H2 hh2 e2.le p2).1 ds[i] (List.getElem?_eq_getElem hi)
        refine .inr ⟨hgo, fun σ' H' => ∃ G3 ms3 s3 h3, Hh X.K G3 ms3 h3 H' ∧ Sl X.K G3 ms3 pin s3 σ' ∧ GLe G1 G3 ∧ ms1 <+: ms3 ∧ PostS W X.K X.mg pin σ' G3 ms3 (loopS g f (ds.drop (i + 1)) s3 h3) D, ?_, ?_⟩
        · rintro σ' H' ⟨G3, ms3, s3, h3, k1, k2, k3, k4, k5⟩
          exact ⟨ds.length - (i + 1), by omega, G3, ms3, s3, h3, k1, k2, k3, k4, rfl, k5⟩
        · intro x H' y
          obtain ⟨G3, e3, hh3, i3⟩ := hy x H' y
          refine ⟨G3, ms2, s2, h2, ds[i], hh3, sl2.mono e3 (pre_refl _), i3, ?_⟩
          unfold loopS at q2
          cases eg : g ds[i] s2 h2 with
          | none => rw [eg] at q2; exact q2
          | some s3 =>
            rw [eg] at q2
            intro σ3 _ sl3
            refine ⟨G3, ms2, s3, h2, hh3, sl3, after_post (PostS.mono (r := afterT (f s3 h2) (loopS g f (ds.drop (i + 1)))) (σ' := σ3) q2 e3 (pre_refl _)) ?_⟩
            exact fun s4 h4 σ4 H4 G4 ms4 e4 p4 hh4 sl4 q4 => ⟨G4, ms4, s4, h4, hh4, sl4, (e2.trans e3).trans e4, pre_trans p2 p4, q4⟩
      · rw [List.drop_eq_nil_of_le (by omega)] at q2
        exact .inl ⟨(ij i h2 G2 ms2 H2 hh2 e2.le p2).2 (by omega), q2 σ2 H2 G2 ms2 (.refl _) (pre_refl _) hh2 sl2⟩
    cases it with
    | seq ds => exact seqs ds ij.1 q
    | rng lo n =>
      cases ij
      exact seqs (rgL lo n) yields_range q
    | loc n =>
      obtain ⟨ad, ha, rfl⟩ := ij
      dsimp only at q
      cases el : locAt h1 n with
      | none => rw [el] at q; exact q.elim
      | some xs =>
        rw [el] at q
        dsimp only at q
        refine ⟨fun i m σ' H' => ∃ G2 ms2 s2 h2, Hh X.K G2 ms2 h2 H' ∧ Sl X.K G2 ms2 pin s2 σ' ∧ GLe G1 G2 ∧ ms1 <+: ms2 ∧ PostS W X.K X.mg pin σ' G2 ms2 (loopL g f n m i s2 h2) D,
          ⟨xs.length + 1, G1, ms1, s, h1, hh1, sl.mono e1 p1, .refl _, pre_refl _, PostS.mono (r := loopL g f n (xs.length + 1) 0 s h1) q e1 p1⟩, ?_⟩
        rintro i m σ2 H2 ⟨G2, ms2, s2, h2, hh2, sl2, e2, p2, q2⟩
        cases m with
        | zero => exact q2.elim
        | succ m =>
          unfold loopL at q2
          cases el2 : locAt h2 n with
          | none => rw [el2] at q2; exact q2.elim
          | some ys =>
            rw [el2] at q2
            dsimp only at q2
            obtain ⟨ad', ws, k1, k2, k3⟩ := hh2.at (locAt_some el2)
            rw [pre_get p2 ha] at k1
            cases k1
            have hq : SqL X.K H2 ad ws := .of k2
            cases ey : ys[i]? with
            | none =>
              rw [ey] at q2
              refine .inl ⟨⟨ws, hq, ?_⟩, q2 σ2 H2 G2 ms2 (.refl _) (pre_refl _) hh2 sl2⟩
              rw [← k3.length]
              exact List.getElem?_eq_none_iff.mp ey
            | some d =>
              rw [ey] at q2
              dsimp only at q2
              obtain ⟨v, j1, j2⟩ := k3.get ey
              refine .inr ⟨⟨ws, v, hq, j1⟩, fun σ' H' => ∃ G3 ms3 s3 h3, Hh X.K G3 ms3 h3 H' ∧ Sl X.K G3 ms3 pin s3 σ' ∧ GLe G1 G3 ∧ ms1 <+: ms3 ∧ PostS W X.K X.mg pin σ' G3 ms3 (loopL g f n m (i + 1) s3 h3) D, ?_, ?_⟩
              · rintro σ' H' ⟨G3, ms3, s3, h3, k1, k2, k3, k4, k5⟩
                exact ⟨m, by omega, G3, ms3, s3, h3, k1, k2, k3, k4, k5⟩
              · rintro x H' ⟨rfl, y⟩
                have := y ws hq
                rw [j1] at this
                cases this
                refine ⟨G2, ms2, s2, h2, d, hh2, sl2, j2, ?_⟩
                cases eg : g d s2 h2 with
                | none => rw [eg] at q2; exact q2
                | some s3 =>
                  rw [eg] at q2
                  dsimp only at q2
                  intro σ3 _ sl3
                  refine ⟨G2, ms2, s3, h2, hh2, sl3, after_post (σ' := σ3) q2 ?_⟩
                  exact fun s4 h4 σ4 H4 G4 ms4 e4 p4 hh4 sl4 q4 => ⟨G4, ms4, s4, h4, hh4, sl4, e2.trans e4, pre_trans p2 p4, q4⟩
end
def whileF (t : FT) (b : FS) : Nat → FS
  | 0, _, _ => .bad
  | n + 1, s, h => match t s h with
    | .ok k h1 => if k = true then afterT (b s h1) (whileF t b n) else .nx s h1
    | .err x h1 => .er x s h1
    | .bad => .bad
open Classical in
noncomputable def sWhile (t : FT) (b : FS) : FS := fun s h => if q : ∃ n, whileF t b n s h ≠ .bad then whileF t b (Classical.choose q) s h else .bad
theorem afterT_bad {r : RS} {k k' : Ss → Hs → RS} (hk : ∀ s h, k s h ≠ .bad → k' s h = k s h) (h : afterT r k ≠ .bad) : afterT r k' = afterT r k := by
  cases r with
  | nx s h1 => exact hk s h1 h
  | ct s h1 => exact hk s h1 h
  | _ => rfl
theorem whileF_mono {t : FT} {b : FS} : ∀ {n m : Nat} {s : Ss} {h : Hs}, n ≤ m → whileF t b n s h ≠ .bad → whileF t b m s h = whileF t b n s h
  | 0, _, _, _, _, h => absurd rfl h
  | n + 1, 0, _, _, hl, _ => absurd hl (by omega)
  | n + 1, m + 1, s, h, hl, hn => by
    unfold whileF at hn ⊢
    cases e : t s h with
    | bad => rfl
    | err x h1 => rfl
    | ok k h1 =>
      rw [e] at hn
      dsimp only at hn ⊢
      cases k with
      | false => rfl
      | true =>
        rw [if_pos rfl] at hn ⊢
        exact afterT_bad (fun s h q => whileF_mono (by omega) q) hn
theorem sWhile_eq {t : FT} {b : FS} {n : Nat} {s : Ss} {h : Hs} {r : RS} (e : whileF t b n s h = r) (hr : r ≠ .bad) : sWhile t b s h = r := by
  have q : ∃ n, whileF t b n s h ≠ .bad := ⟨n, by rw [e]; exact hr⟩
  unfold sWhile
  rw [dif_pos q]
  have h1 := Classical.choose_spec q
  rcases Nat.le_total (Classical.choose q) n with hl | hl
  · rw [← whileF_mono hl h1, e]
  · rw [whileF_mono hl (by rw [e]; exact hr), e]
theorem sWhile_run {t : FT} {b : FS} {s : Ss} {h : Hs} : sWhile t b s h = .bad ∨ ∃ n, whileF t b n s h = sWhile t b s h := by
  unfold sWhile
  split
  · exact .inr ⟨_, rfl⟩
  · exact .inl rfl
section
variable {X : Cx} {W : WX} {pin : List (Nat × V)} {pos : Pos} {c : Expr}
theorem vs_while {body : List Stmt} {t : FT} {f : FS} (hp : PassesOwn (model X.prog X.w) X.A X.env X.xe) (hc : VT X W pin c t) (hb : VSs X W pin body f) : VS X W pin (.While c body [] pos) (sWhile t f) := by
  refine ps_imp (ps_while hp hc hb) fun D σ H ⟨G, ms, s, h, hh, sl, q⟩ => ?_
  rcases sWhile_run (t := t) (b := f) (s := s) (h := h) with e | ⟨n, e⟩
  · rw [e] at q; exact q.elim
  · rw [← e] at q
    refine ⟨fun m σ' H' => ∃ G2 ms2 s2 h2, Hh X.K G2 ms2 h2 H' ∧ Sl X.K G2 ms2 pin s2 σ' ∧ PostS W X.K X.mg pin σ' G2 ms2 (whileF t f m s2 h2) D, ⟨n, G, ms, s, h, hh, sl, q⟩, ?_⟩
    rintro m σ2 H2 ⟨G2, ms2, s2, h2, hh2, sl2, q2⟩
    cases m with
    | zero => exact q2.elim
    | succ m =>
      refine ⟨G2, ms2, s2, h2, hh2, sl2, ?_⟩
      unfold whileF at q2
      cases et : t s2 h2 with
      | bad => rw [et] at q2; exact q2
      | err x h3 => rw [et] at q2; exact fun H' G3 ms3 d h1 h2 h3 h4 => q2 σ2 H' G3 ms3 d h1 h2 h3 (sl2.mono h1 h2) h4
      | ok k h3 =>
        rw [et] at q2
        dsimp only at q2
        intro k' H3 G3 ms3 e3 p3 hh3 ek
        subst ek
        cases k with
        | false => exact q2 σ2 H3 G3 ms3 e3 p3 hh3 (sl2.mono e3 p3)
        | true =>
          rw [if_pos rfl] at q2 ⊢
          refine ⟨fun σ' H' => ∃ G4 ms4 s4 h4, Hh X.K G4 ms4 h4 H' ∧ Sl X.K G4 ms4 pin s4 σ' ∧ PostS W X.K X.mg pin σ' G4 ms4 (whileF t f m s4 h4) D, fun σ' H' hw => ⟨m, by omega, hw⟩, G3, ms3, s2, h3, hh3, sl2.mono e3 p3, ?_⟩
          refine after_post (PostS.mono (σ' := σ2) (r := afterT (f s2 h3) (whileF t f m)) q2 e3 p3) ?_
          exact fun s4 h4 σ4 H4 G4 ms4 e4 p4 hh4 sl4 q4 => ⟨G4, ms4, s4, h4, hh4, sl4, q4⟩
end
end WD
namespace WD
open PySem PySem.Spec PyProof.Rows L2
def wipeS (s : Ss) : List Nat → Ss
  | [] => s
  | v :: vs => (wipeS s vs).set v none
theorem wipeS_length (s : Ss) : ∀ vs : List Nat, (wipeS s vs).length = s.length
  | [] => rfl
  | v :: vs => by unfold wipeS; rw [List.length_set, wipeS_length s vs]
theorem wipeS_some {s : Ss} {i : Nat} {x : D} : ∀ {vs : List Nat}, (wipeS s vs)[i]? = some (some x) → s[i]? = some (some x) ∧ i ∉ vs
  | [], h => ⟨h, by simp⟩
  | v :: vs, h => by
    unfold wipeS at h
    by_cases hi : v = i
    · subst hi
      by_cases hv : v < (wipeS s vs).length
      · rw [List.getElem?_set_self hv] at h; cases h
      · rw [List.getElem?_eq_none (by simpa using hv)] at h; cases h
    · rw [List.getElem?_set_ne hi] at h
      obtain ⟨h1, h2⟩ := wipeS_some h
      exact ⟨h1, by simp only [List.mem_cons, not_or]; exact ⟨fun e => hi e.symm, h2⟩⟩
theorem wipe_in {σ : L2.St} {i : Nat} : ∀ {vs : List Nat}, i ∈ vs → (wipe σ vs)[i]? = if i < σ.length then some none else none
  | [], h => (nomatch h)
  | v :: vs, h => by
    unfold wipe
    by_cases hi : v = i
    · subst hi
      by_cases hv : v < σ.length
      · rw [if_pos hv, List.getElem?_set_self (by rw [wipe_length]; exact hv)]
      · rw [if_neg hv, List.getElem?_eq_none (by rw [List.length_set, wipe_length]; omega)]
    · rw [List.getElem?_set_ne hi]
      exact wipe_in (by rcases List.mem_cons.mp h with e | e; exact absurd e.symm hi; exact e)
theorem wipe_but {σ σ2 : L2.St} {vs : List Nat} (b : But vs (wipe σ vs) σ2) : wipe σ2 vs = wipe σ vs := by
  have hl : σ2.length = σ.length := by rw [b.len, wipe_length]
  apply List.ext_getElem?
  intro j
  by_cases hj : j ∈ vs
  · rw [wipe_in hj, wipe_in hj, hl]
  · rw [wipe_out hj, b.out j hj]
def quiet {α : Type} (r : R α) : R α := match r with
  | .ok d h' => .ok d h'
  | _ => .bad
/-- one turn -/
def stepC (g : Tg) (tt : FT) (te : FE) (s : Ss) (d : D) (h : Hs) (no : Hs → R D) (yes : D → Hs → R D) : R D := match g d s h with
  | none => .bad
  | some s2 => (quiet (tt s2 h)).bind fun b h3 => if b = true then (quiet (te s2 h3)).bind fun y h4 => yes y h4 else no h3
def compA (g : Tg) (tt : FT) (te : FE) (s : Ss) (k : List D → Hs → R D) : List D → List D → Hs → R D
  | [], acc, h => k acc h
  | d :: ds, acc, h => stepC g tt te s d h (fun h3 => compA g tt te s k ds acc h3) fun y h4 => compA g tt te s k ds (acc ++ [y]) h4
def compL (g : Tg) (tt : FT) (te : FE) (s : Ss) (n : Nat) (k : List D → Hs → R D) : Nat → Nat → List D → Hs → R D
  | 0, _, _, _ => .bad
  | f + 1, i, acc, h => match locAt h n with
    | none => .bad
    | some xs => match xs[i]? with
      | none => if acc.length ≤ sizeLine then k acc h else .bad
      | some d => if acc.length < sizeLine then stepC g tt te s d h (fun h3 => compL g tt te s n k f (i + 1) acc h3) fun y h4 => compL g tt te s n k f (i + 1) (acc ++ [y]) h4 else .bad
def eComp (m : Bool) (vs : List Nat) (fi : FI) (g : Tg) (tt : FT) (te : FE) : FE := fun s h => (fi s h).bind fun it h1 => match it with
  | .seq ds => compA g tt te (wipeS s vs) (newL m) ds [] h1
  | .rng lo n => if n ≤ sizeLine then compA g tt te (wipeS s vs) (newL m) (rgL lo n) [] h1 else .bad
  | .loc n => match locAt h1 n with
    | some xs => compL g tt te (wipeS s vs) n (newL m) (xs.length + 1) 0 [] h1
    | none => .bad
def tYesF : FT := fun _ h => .ok true h
abbrev VTs (X : Cx) (W : WX) (pin : List (Nat × V)) (es : List Expr) (f : FT) : Prop := PTs X es (rdT X W pin f)
abbrev W0 : WX := fun _ _ _ _ => False
section
variable {X : Cx} {W : WX} {pin : List (Nat × V)} {K : PySem.W.Frag} {mg : Str → Option Value} {E : XK} {G G' : GG} {H : Hp} {ms ms' : List Addr} {h : Hs} {pos : Pos} {c : Expr} {vs : List Nat}
theorem vts_nil : VTs X W pin [] tYesF := ⟨fun pins s σ H Q I ⟨G, ms, s', h, hh, sl, q⟩ => pts_nil.run pins s σ H Q I (Post.fin (b := true) q hh rfl)⟩
theorem vts_one {f : FT} (h : VT X W pin c f) : VTs X W pin [c] f := pts_one h
theorem Sl.mono' {s : Ss} {σ : L2.St} (x : Sl K G ms pin s σ) (e : Same G.1 G'.1) (p : ms <+: ms') : Sl K G' ms' pin s σ :=
  ⟨x.len, fun i d q => by obtain ⟨v, h1, h2⟩ := x.get i d q; exact ⟨v, h1, Is.mono' e p d v h2⟩, x.pin⟩
theorem Sl.wipe {s : Ss} {σ : L2.St} (x : Sl K G ms pin s σ) : Sl K G ms [] (wipeS s vs) (L2.wipe σ vs) := by
  refine ⟨by rw [wipeS_length, wipe_length]; exact x.len, fun i d e => ?_, fun _ h => (nomatch h)⟩
  obtain ⟨h1, h2⟩ := wipeS_some e
  obtain ⟨v, k1, k2⟩ := x.get i d h1
  exact ⟨v, by rw [wipe_out h2]; exact k1, k2⟩
/-- a turn of a comprehension over the list at D -/
theorem comp_turn {Xb : Cx} (eK : Xb.K = X.K) {g : Tg} {tt : FT} {te : FE} {s : Ss} {σ : L2.St} {d : D} {x : V} {h2 : Hs} {G1 G3 : GG} {ms1 ms2 : List Addr} {H2 : Hp} {Dd : Addr} {acc : List D} {ws : List V} {Q : VK} {no : Hs → R D} {yes : D → Hs → R D} {Nx : Hp → Prop}
    (hh : Hh X.K G3 ms2 h2 H2) (sl : Sl X.K G3 ms2 [] (wipeS s vs) (L2.wipe σ vs)) (i : Is X.K G3 ms2 d x) (e1 : Same G1.1 G3.1) (p1 : ms1 <+: ms2) (ef : G3.2 = upd G1.2 Dd (.lst ws)) (ia : IsL X.K G3 ms2 acc ws) (hz : acc.length < sizeLine)
    (q : Post X.K mg E G1 ms1 (Is X.K) (stepC g tt te (wipeS s vs) d h2 no yes) Q)
    (hno : ∀ h5 G5 ms5 H5, Hh X.K G5 ms5 h5 H5 → Same G1.1 G5.1 → ms1 <+: ms5 → G5.2 = upd G1.2 Dd (.lst ws) → IsL X.K G5 ms5 acc ws → Post X.K mg E G1 ms1 (Is X.K) (no h5) Q → Nx H5)
    (hyes : ∀ y v h5 G5 ms5 H5, Hh X.K G5 ms5 h5 H5 → Same G1.1 G5.1 → ms1 <+: ms5 → G5.2 = upd G1.2 Dd (.lst (ws ++ [v])) → IsL X.K G5 ms5 (acc ++ [y]) (ws ++ [v]) → Post X.K mg E G1 ms1 (Is X.K) (yes y h5) Q → Nx H5) :
    rdG Xb [] vs g x (L2.wipe σ vs) H2 fun σ2 H2 => L2.wipe σ2 vs = L2.wipe σ vs ∧ rdT Xb W0 [] tt σ2 H2 fun b H3 =>
      if b = true then rdE Xb W0 [] te σ2 H3 fun y H4 => ∃ acc, H4 Dd = some (.lst acc) ∧ acc.length < sizeLine ∧ Nx (upd H4 Dd (.lst (acc ++ [y]))) else Nx H3 := by
  unfold stepC at q
  refine ⟨G3, ms2, wipeS s vs, h2, d, by rw [eK]; exact hh, by rw [eK]; exact sl, by rw [eK]; exact i, ?_⟩
  cases eg : g d (wipeS s vs) h2 with
  | none => rw [eg] at q; exact q.elim
  | some s2 =>
    rw [eg] at q
    dsimp only at q
    intro σ2 b2 sl2
    refine ⟨wipe_but b2, G3, ms2, s2, h2, by rw [eK]; exact hh, sl2, ?_⟩
    cases et : tt s2 h2 with
    | bad => rw [et] at q; exact q.elim
    | err z h3 => rw [et] at q; exact q.elim
    | ok b h3 =>
      rw [et] at q
      dsimp only [quiet, R.bind] at q
      intro b' H3 G4 ms4 e4 p4 hh4 eb
      subst eb
      rw [eK] at hh4 sl2
      cases b with
      | false => exact hno h3 G4 ms4 H3 hh4 (e1.trans e4.le) (pre_trans p1 p4) (e4.fr.trans ef) (IsL.mono e4 p4 _ _ ia) q
      | true =>
        rw [if_pos rfl] at q ⊢
        refine ⟨G4, ms4, s2, h3, by rw [eK]; exact hh4, by rw [eK]; exact sl2.mono e4 p4, ?_⟩
        cases ee : te s2 h3 with
        | bad => rw [ee] at q; exact q.elim
        | err z h4 => rw [ee] at q; exact q.elim
        | ok y h4 =>
          rw [ee] at q
          dsimp only [quiet, R.bind] at q
          intro v H4 G5 ms5 e5 p5 hh5 iy
          rw [eK] at hh5 iy
          have ef5 : G5.2 = upd G1.2 Dd (.lst ws) := (e5.fr.trans e4.fr).trans ef
          have hD : G5.2 Dd = some (.lst ws) := by rw [ef5, upd_same]
          refine ⟨ws, hh5.frm _ _ hD, by rw [← ia.length]; exact hz, ?_⟩
          have ia5 := IsL.mono (e4.trans e5) (pre_trans p4 p5) _ _ ia
          refine hyes y v h4 (fupd G5 Dd (.lst (ws ++ [v]))) ms5 _ (hh5.reframe hD) ((e1.trans e4.le).trans e5.le) (pre_trans p1 (pre_trans p4 p5)) ?_ ?_ q
          · show upd G5.2 Dd _ = _
            rw [ef5, upd_upd]
          · exact IsL.mono' (G := G5) (G' := fupd G5 Dd (.lst (ws ++ [v]))) (Same.refl G5.1) (pre_refl _) _ _ (ia5.append (.one iy))
/-- the end of a comprehension -/
theorem comp_end {m : Bool} {G1 G2 : GG} {ms1 ms2 : List Addr} {h2 : Hs} {H2 : Hp} {Dd : Addr} {acc : List D} {ws : List V} {Q : VK}
    (hh : Hh K G2 ms2 h2 H2) (e1 : Same G1.1 G2.1) (p1 : ms1 <+: ms2) (ef : G2.2 = upd G1.2 Dd (.lst ws)) (hF : G1.2 Dd = none) (ia : IsL K G2 ms2 acc ws) (hz : acc.length ≤ sizeLine)
    (q : Post K mg E G1 ms1 (Is K) (newL m acc h2) Q) : Q (.ref Dd) H2 := by
  have hD : G2.2 Dd = some (.lst ws) := by rw [ef, upd_same]
  obtain ⟨g0, m0⟩ := hh.frd _ _ hD
  have hFF : ∀ a u, G1.2 a = some u → a ≠ Dd ∧ G2.2 a = some u := fun a u e => by
    have hne : a ≠ Dd := fun z => by rw [z, hF] at e; cases e
    exact ⟨hne, by rw [ef, upd_ne hne]; exact e⟩
  cases m with
  | false =>
    refine Post.fin2 (a := D.lst acc) (G' := (upd G2.1 Dd (.lst ws), G1.2)) q ⟨e1.trans (same_upd g0), rfl⟩ p1 (hh.thaw hD hFF (show ws.length ≤ sizeLine by rw [← ia.length]; exact hz)) ?_
    exact ⟨Dd, ws, rfl, upd_same, IsL.mono' (G := G2) (same_upd g0) (pre_refl _) _ _ ia⟩
  | true =>
    refine Post.fin2 (a := D.loc h2.length) (G' := (G2.1, G1.2)) (ms' := ms2 ++ [Dd]) q ⟨e1, rfl⟩ (pre_trans p1 ⟨[Dd], rfl⟩) (hh.adopt hD hFF ia hz) ⟨Dd, ?_, rfl⟩
    rw [← hh.len]
    simp
theorem comp_read (m : Bool) {fi : FI} {g : Tg} {tt : FT} {te : FE} {σ : L2.St} {H : Hp} {Q : VK} (hq : rdE X W pin (eComp m vs fi g tt te) σ H Q) : tLc (rdI X W pin fi) (rdG X [] vs g) (rdT X W0 [] tt) (rdE X W0 [] te) vs σ H Q := by
  obtain ⟨G, ms, s, h, hh, sl, q⟩ := hq
  refine ⟨G, ms, s, h, hh, sl, Post.bind q fun it h1 J H1 G1 ms1 e1 p1 hh1 ij q1 => ?_⟩
  intro Dd hD
  have hF := hh1.fnone hD
  have hh2 : Hh X.K (fupd G1 Dd (.lst [])) ms1 h1 (upd H1 Dd (.lst [])) := hh1.frame hD
  have seqs : ∀ ds, Yields X.K J G1 ms1 ds → ds.length ≤ sizeLine → Post X.K X.mg (fun c d H => W c d σ H) G1 ms1 (Is X.K) (compA g tt te (wipeS s vs) (newL m) ds [] h1) Q →
      (∃ WW : Nat → Nat → Hp → Prop, (∃ m, WW 0 m (upd H1 Dd (.lst []))) ∧ ∀ i m H, WW i m H →
        (J.stop i H ∧ Q (.ref Dd) H) ∨ (J.go i H ∧ ∃ Nx : Hp → Prop, (∀ H', Nx H' → ∃ m', m' < m ∧ WW (i + 1) m' H') ∧ ∀ x H', J.yld i H x H' → rdG X [] vs g x (L2.wipe σ vs) H' fun σ2 H2 => L2.wipe σ2 vs = L2.wipe σ vs ∧ rdT X W0 [] tt σ2 H2 fun b H3 =>
          if b = true then rdE X W0 [] te σ2 H3 fun y H4 => ∃ acc, H4 Dd = some (.lst acc) ∧ acc.length < sizeLine ∧ Nx (upd H4 Dd (.lst (acc ++ [y]))) else Nx H3)) := fun ds ij hlen q => by
    refine ⟨fun i m' H' => ∃ G2 ms2 h2 acc ws, Hh X.K G2 ms2 h2 H' ∧ Same G1.1 G2.1 ∧ ms1 <+: ms2 ∧ G2.2 = upd G1.2 Dd (.lst ws) ∧ IsL X.K G2 ms2 acc ws ∧ acc.length ≤ i ∧ i ≤ ds.length ∧ m' = ds.length - i ∧
        Post X.K X.mg (fun c d H => W c d σ H) G1 ms1 (Is X.K) (compA g tt te (wipeS s vs) (newL m) (ds.drop i) acc h2) Q,
      ⟨ds.length, _, ms1, h1, [], [], hh2, Same.refl _, pre_refl _, rfl, rfl, Nat.le_refl _, Nat.zero_le _, by simp, q⟩, ?_⟩
    rintro i m' H' ⟨G2, ms2, h2, acc, ws, k1, k2, k3, k4, k5, k6, k7, rfl, k8⟩
    by_cases hi : i < ds.length
    · have hd : ds.drop i = ds[i] :: ds.drop (i + 1) := List.drop_eq_getElem_cons hi
      rw [hd] at k8
      obtain ⟨hgo, hy⟩ := (ij i h2 G2 ms2 H' k1 k2 k3).1 ds[i] (List.getElem?_eq_getElem hi)
      refine .inr ⟨hgo, fun H' => ∃ G2 ms2 h2 acc ws, Hh X.K G2 ms2 h2 H' ∧ Same G1.1 G2.1 ∧ ms1 <+: ms2 ∧ G2.2 = upd G1.2 Dd (.lst ws) ∧ IsL X.K G2 ms2 acc ws ∧ acc.length ≤ i + 1 ∧
        Post X.K X.mg (fun c d H => W c d σ H) G1 ms1 (Is X.K) (compA g tt te (wipeS s vs) (newL m) (ds.drop (i + 1)) acc h2) Q, ?_, ?_⟩
      · rintro H' ⟨G2, ms2, h2, acc, ws, k1, k2, k3, k4, k5, k6, k8⟩
        exact ⟨ds.length - (i + 1), by omega, G2, ms2, h2, acc, ws, k1, k2, k3, k4, k5, k6, hi, rfl, k8⟩
      · intro x H3 y
        obtain ⟨G3, e3, hh3, i3⟩ := hy x H3 y
        have hs3 : Sl X.K G3 ms2 [] (wipeS s vs) (L2.wipe σ vs) := (Sl.wipe (vs := vs) ((sl.mono e1 p1).mono' k2 k3)).mono e3 (pre_refl _)
        refine comp_turn rfl hh3 hs3 i3 (k2.trans e3.le) k3 (e3.fr.trans k4) (IsL.mono e3 (pre_refl _) _ _ k5) (by omega) k8 ?_ ?_
        · exact fun h5 G5 ms5 H5 a1 a2 a3 a4 a5 a6 => ⟨G5, ms5, h5, acc, ws, a1, a2, a3, a4, a5, by omega, a6⟩
        · exact fun y v h5 G5 ms5 H5 a1 a2 a3 a4 a5 a6 => ⟨G5, ms5, h5, acc ++ [y], ws ++ [v], a1, a2, a3, a4, a5, by rw [List.length_append]; simp; omega, a6⟩
    · rw [List.drop_eq_nil_of_le (by omega)] at k8
      refine .inl ⟨(ij i h2 G2 ms2 H' k1 k2 k3).2 (by omega), ?_⟩
      exact comp_end k1 k2 k3 k4 hF k5 (by omega) k8
  cases it with
  | seq ds => exact seqs ds ij.1 ij.2 q1
  | rng lo n =>
    cases ij
    dsimp only at q1
    split at q1
    · rename_i hz
      exact seqs (rgL lo n) yields_range (by unfold rgL; simpa using hz) q1
    · exact q1.elim
  | loc n =>
    obtain ⟨ad, ha, rfl⟩ := ij
    dsimp only at q1
    cases el : locAt h1 n with
    | none => rw [el] at q1; exact q1.elim
    | some xs =>
      rw [el] at q1
      dsimp only at q1
      refine ⟨fun i m' H' => ∃ G2 ms2 h2 acc ws, Hh X.K G2 ms2 h2 H' ∧ Same G1.1 G2.1 ∧ ms1 <+: ms2 ∧ G2.2 = upd G1.2 Dd (.lst ws) ∧ IsL X.K G2 ms2 acc ws ∧
          Post X.K X.mg (fun c d H => W c d σ H) G1 ms1 (Is X.K) (compL g tt te (wipeS s vs) n (newL m) m' i acc h2) Q,
        ⟨xs.length + 1, _, ms1, h1, [], [], hh2, Same.refl _, pre_refl _, rfl, rfl, q1⟩, ?_⟩
      rintro i m' H' ⟨G2, ms2, h2, acc, ws, k1, k2, k3, k4, k5, k8⟩
      cases m' with
      | zero => exact k8.elim
      | succ m' =>
        unfold compL at k8
        cases el2 : locAt h2 n with
        | none => rw [el2] at k8; exact k8.elim
        | some ys =>
          rw [el2] at k8
          dsimp only at k8
          obtain ⟨ad', zs, j1, j2, j3⟩ := k1.at (locAt_some el2)
          rw [pre_get k3 ha] at j1
          cases j1
          have hq : SqL X.K H' ad zs := .of j2
          cases ey : ys[i]? with
          | none =>
            rw [ey] at k8
            dsimp only at k8
            split at k8
            · rename_i hz
              refine .inl ⟨⟨zs, hq, ?_⟩, comp_end k1 k2 k3 k4 hF k5 hz k8⟩
              rw [← j3.length]
              exact List.getElem?_eq_none_iff.mp ey
            · exact k8.elim
          | some d =>
            rw [ey] at k8
            dsimp only at k8
            split at k8
            · rename_i hz
              obtain ⟨v, n1, n2⟩ := j3.get ey
              refine .inr ⟨⟨zs, v, hq, n1⟩, fun H' => ∃ G2 ms2 h2 acc ws, Hh X.K G2 ms2 h2 H' ∧ Same G1.1 G2.1 ∧ ms1 <+: ms2 ∧ G2.2 = upd G1.2 Dd (.lst ws) ∧ IsL X.K G2 ms2 acc ws ∧
                Post X.K X.mg (fun c d H => W c d σ H) G1 ms1 (Is X.K) (compL g tt te (wipeS s vs) n (newL m) m' (i + 1) acc h2) Q, fun H' hw => ⟨m', by omega, hw⟩, ?_⟩
              rintro x H3 ⟨rfl, y⟩
              have := y zs hq
              rw [n1] at this
              cases this
              have hs3 : Sl X.K G2 ms2 [] (wipeS s vs) (L2.wipe σ vs) := Sl.wipe (vs := vs) ((sl.mono e1 p1).mono' k2 k3)
              refine comp_turn rfl k1 hs3 n2 k2 k3 k4 k5 hz k8 ?_ ?_
              · exact fun h5 G5 ms5 H5 a1 a2 a3 a4 a5 a6 => ⟨G5, ms5, h5, acc, ws, a1, a2, a3, a4, a5, a6⟩
              · exact fun y v h5 G5 ms5 H5 a1 a2 a3 a4 a5 a6 => ⟨G5, ms5, h5, acc ++ [y], ws ++ [v], a1, a2, a3, a4, a5, a6⟩
            · exact k8.elim
theorem ve_comp (m : Bool) {elt tg iter : Expr} {ifs : List Expr} {scope : Scope} (own : List (Str × Nat)) {fi : FI} {g : Tg} {tt : FT} {te : FE} (hc : X.calm = true) (hN : X.N.Nodup) (hi : VI X W pin tg iter fi) (ok : BlkOk X.N X.env.scope scope own)
    (hg : ∀ (s : Shared) (H : Hp) (C : Addr) (cl : List (Str × Addr)) (fp : List Addr), VG (X.blk s H scope (compEnvC scope cl C X.env) fp) [] (own.map (·.2)) tg g) (ht : ∀ (s : Shared) (H : Hp) (C : Addr) (cl : List (Str × Addr)) (fp : List Addr), VTs (X.blk s H scope (compEnvC scope cl C X.env) fp) W0 [] ifs tt)
    (he : ∀ (s : Shared) (H : Hp) (C : Addr) (cl : List (Str × Addr)) (fp : List Addr), VE (X.blk s H scope (compEnvC scope cl C X.env) fp) W0 [] elt te) (hs : ∀ x, foldedSetIterable iter X.env x = pure x := by intro _; rfl) :
    VE X W pin (.ListComp elt [⟨tg, iter, ifs, 0⟩] scope pos) (eComp m (own.map (·.2)) fi g tt te) :=
  pe_imp (pe_lc (g := rdG X [] (own.map (fun (p : Str × Nat) => p.2)) g) (tt := rdT X W0 [] tt) (te := rdE X W0 [] te) hc hN hi ok hg ht he hs) fun σ H Q q => comp_read m q
theorem vs_setComp (m : Bool) (i : Nat) {y : Str} {py : Pos} {elt tg iter : Expr} {ifs : List Expr} {scope : Scope} {spos : Pos} (own : List (Str × Nat)) {fi : FI} {g : Tg} {tt : FT} {te : FE} (hc : X.calm = true) (hN : X.N.Nodup) (hi : VI X W pin tg iter fi) (ok : BlkOk X.N X.env.scope scope own)
    (hg : ∀ (s : Shared) (H : Hp) (C : Addr) (cl : List (Str × Addr)) (fp : List Addr), VG (X.blk s H scope (compEnvC scope cl C X.env) fp) [] (own.map (·.2)) tg g) (ht : ∀ (s : Shared) (H : Hp) (C : Addr) (cl : List (Str × Addr)) (fp : List Addr), VTs (X.blk s H scope (compEnvC scope cl C X.env) fp) W0 [] ifs tt)
    (he : ∀ (s : Shared) (H : Hp) (C : Addr) (cl : List (Str × Addr)) (fp : List Addr), VE (X.blk s H scope (compEnvC scope cl C X.env) fp) W0 [] elt te)
    (hy : X.N[i]? = some y := by rfl) (hyl : X.env.scope.names.lookup y = some .local := by rfl) (np : NotPin pin i := by first | exact notPin_nil | decide)
    (hsw : swapsWith (.ListComp elt [⟨tg, iter, ifs, 0⟩] scope pos) (some (.Name y py)) spos.line X.env = pure true := by exact sw_true rfl rfl rfl (by decide +kernel)) (hs : ∀ x, foldedSetIterable iter X.env x = pure x := by intro _; rfl) :
    VS X W pin (.Assign [.Name y py] (.ListComp elt [⟨tg, iter, ifs, 0⟩] scope pos) spos) (sSet i (eComp m (own.map (·.2)) fi g tt te)) := by
  refine ps_imp (ps_setLc (g := rdG X [] (own.map (fun (p : Str × Nat) => p.2)) g) (tt := rdT X W0 [] tt) (te := rdE X W0 [] te) hc hN hy hyl hsw hi ok hg ht he hs) fun D σ H ⟨G, ms, s, h, hh, sl, q⟩ => ?_
  refine comp_read m ⟨G, ms, s, h, hh, sl, PostS.ofR sl q fun d h1 v H1 G1 ms1 e1 p1 hh1 i1 q1 => ?_⟩
  exact q1 _ H1 G1 ms1 (GLe.refl _) (pre_refl _) hh1 ((sl.mono e1 p1).set i1 np)
end
end WD
namespace WD
open PySem PySem.Spec PyProof.Rows L2
mutual
def D.und (n : Nat) : D → Bool
  | .tup xs => undL n xs
  | .lst xs => undL n xs
  | .scr xs => undL n xs
  | .dic _ xs => undL n xs
  | .loc m => decide (m < n)
  | _ => true
def undL (n : Nat) : List D → Bool
  | [] => true
  | x :: xs => x.und n && undL n xs
end
def O.und (n : Nat) : O → Bool
  | .lst xs => undL n xs
section
variable {K : PySem.W.Frag} {mg : Str → Option Value} {E : XK} {G G' : GG} {H : Hp} {ms ms' : List Addr} {h h' : Hs}
theorem get_cut {n : Nat} {a : Addr} (p : ms <+: ms') (h : ms'[n]? = some a) (hn : n < ms.length) : ms[n]? = some a := by
  obtain ⟨t, rfl⟩ := p
  rw [List.getElem?_append_left hn] at h; exact h
theorem lt_of_get {α : Type} {l : List α} {n : Nat} {a : α} (h : l[n]? = some a) : n < l.length := by
  rcases Nat.lt_or_ge n l.length with q | q
  · exact q
  · rw [List.getElem?_eq_none q] at h; cases h
mutual
theorem Is.cut (p : ms <+: ms') : ∀ (d : D) (v : V), Is K G ms' d v → d.und ms.length = true → Is K G ms d v
  | .non, _, h, _ => h
  | .bl _, _, h, _ => h
  | .int _, _, h, _ => h
  | .str _, _, h, _ => h
  | .ty _, _, h, _ => h
  | .tup xs, v, h, b => by
    obtain ⟨a, vs, h1, h2, h3⟩ := h
    exact ⟨a, vs, h1, h2, IsL.cut p xs vs h3 (by simpa [D.und] using b)⟩
  | .lst xs, v, h, b => by
    obtain ⟨a, vs, h1, h2, h3⟩ := h
    exact ⟨a, vs, h1, h2, IsL.cut p xs vs h3 (by simpa [D.und] using b)⟩
  | .scr xs, v, h, b => by
    obtain ⟨a, vs, h1, h2, h3⟩ := h
    exact ⟨a, vs, h1, h2, IsL.cut p xs vs h3 (by simpa [D.und] using b)⟩
  | .dic ks xs, v, h, b => by
    obtain ⟨a, vs, h1, h2, hl, h3⟩ := h
    exact ⟨a, vs, h1, h2, hl, IsL.cut p xs vs h3 (by simpa [D.und] using b)⟩
  | .loc n, v, h, b => by
    obtain ⟨a, h1, h2⟩ := h
    exact ⟨a, get_cut p h1 (by simpa [D.und] using b), h2⟩
theorem IsL.cut (p : ms <+: ms') : ∀ (xs : List D) (vs : List V), IsL K G ms' xs vs → undL ms.length xs = true → IsL K G ms xs vs
  | [], _, h, _ => h
  | x :: xs, vs, h, b => by
    obtain ⟨v, r, h1, h2, h3⟩ := h
    simp only [undL, Bool.and_eq_true] at b
    exact ⟨v, r, h1, Is.cut p x v h2 b.1, IsL.cut p xs r h3 b.2⟩
end
mutual
theorem Is.und : ∀ (d : D) (v : V), Is K G ms d v → d.und ms.length = true
  | .non, _, _ => rfl
  | .bl _, _, _ => rfl
  | .int _, _, _ => rfl
  | .str _, _, _ => rfl
  | .ty _, _, _ => rfl
  | .tup xs, v, h => by
    obtain ⟨a, vs, h1, h2, h3⟩ := h
    simpa [D.und] using IsL.und xs vs h3
  | .lst xs, v, h => by
    obtain ⟨a, vs, h1, h2, h3⟩ := h
    simpa [D.und] using IsL.und xs vs h3
  | .scr xs, v, h => by
    obtain ⟨a, vs, h1, h2, h3⟩ := h
    simpa [D.und] using IsL.und xs vs h3
  | .dic ks xs, v, h => by
    obtain ⟨a, vs, h1, h2, hl, h3⟩ := h
    simpa [D.und] using IsL.und xs vs h3
  | .loc n, v, h => by
    obtain ⟨a, h1, h2⟩ := h
    simpa [D.und] using lt_of_get h1
theorem IsL.und : ∀ (xs : List D) (vs : List V), IsL K G ms xs vs → undL ms.length xs = true
  | [], _, _ => rfl
  | x :: xs, vs, h => by
    obtain ⟨v, r, h1, h2, h3⟩ := h
    simp only [undL, Bool.and_eq_true]
    exact ⟨Is.und x v h2, IsL.und xs r h3⟩
end
theorem Hh.und (x : Hh K G ms h H) {i : Nat} {o : O} (e : h[i]? = some o) : o.und ms.length = true := by
  have hm : i < ms.length := by rw [x.len]; exact lt_of_get e
  have q := x.obj i ms[i] o (List.getElem?_eq_getElem hm) e
  cases o with
  | lst xs =>
    obtain ⟨vs, h1, h2, _⟩ := q
    exact IsL.und xs vs h2
theorem Hh.trunc (x : Hh K G ms' h' H) (p : ms <+: ms') (hb : ∀ (i : Nat) (o : O), i < ms.length → h'[i]? = some o → o.und ms.length = true) : Hh K G ms (h'.take ms.length) H := by
  have hl : ms.length ≤ ms'.length := p.length_le
  have sub : ∀ a ∈ ms, a ∈ ms' := fun a ha => p.subset ha
  refine ⟨x.sub, x.gsz, x.frm, fun a o e => ⟨(x.frd a o e).1, fun hm => (x.frd a o e).2 (sub a hm)⟩, ?_, ?_, fun a ha => x.dis a (sub a ha), fun n a o e1 e2 => ?_⟩
  · rw [List.length_take, ← x.len]; omega
  · obtain ⟨t, rfl⟩ := p
    exact (List.nodup_append.mp x.nd).1
  · have hn := lt_of_get e1
    rw [List.getElem?_take_of_lt hn] at e2
    have q := x.obj n a o (pre_get p e1) e2
    have b := hb n o hn e2
    cases o with
    | lst xs =>
      obtain ⟨vs, h1, h2, h3⟩ := q
      exact ⟨vs, h1, IsL.cut p _ _ h2 b, h3⟩
theorem Hh.ice (x : Hh K G ms h H) {a : Addr} {o : HO} (e : H a = some o) (g1 : G.1 a = none) (g2 : G.2 a = none) (nm : a ∉ ms) (hz : SzO o) : Hh K (gupd G a o) ms h H := by
  refine ⟨fun b u q => ?_, fun b u q => ?_, x.frm, fun b u q => ⟨?_, (x.frd b u q).2⟩, x.len, x.nd, fun b hb => ?_, fun n b u e1 e2 => (x.obj n b u e1 e2).mono (gle_upd g1) (pre_refl _) rfl⟩
  · by_cases hq : b = a
    · subst hq
      have q : upd G.1 b o b = some u := q
      rw [upd_same] at q; cases q; exact e
    · have q : upd G.1 a o b = some u := q
      rw [upd_ne hq] at q; exact x.sub b u q
  · by_cases hq : b = a
    · subst hq
      have q : upd G.1 b o b = some u := q
      rw [upd_same] at q; cases q; exact hz
    · have q : upd G.1 a o b = some u := q
      rw [upd_ne hq] at q; exact x.gsz b u q
  · show upd G.1 a o b = none
    rw [upd_ne (fun z => by have q : G.2 b = some u := q; rw [z, g2] at q; cases q)]; exact (x.frd b u q).1
  · show upd G.1 a o b = none
    rw [upd_ne (fun z => nm (by rw [← z]; exact hb))]; exact x.dis b hb
end
inductive Md where
  | trunc | keep | move
def TruncOk (n : Nat) (h h' : Hs) : Prop := ∀ (i : Nat) (o : O), i < n → h'[i]? = some o → h[i]? = some o ∨ o.und n = true
def frz1 (n : Nat) (h' : Hs) (d : D) : Option D := if d.und n = true then some d else match d with
  | .loc m => match locAt h' m with
    | some xs => if undL n xs = true then some (.lst xs) else none
    | none => none
  | _ => none
open Classical in
noncomputable def exitT (h : Hs) (d : D) (h' : Hs) : R D := if TruncOk h.length h h' then (match frz1 h.length h' d with
  | some d' => .ok d' (h'.take h.length)
  | none => .bad) else .bad
open Classical in
noncomputable def exitM (h : Hs) (m : Nat) (h' : Hs) : R D := if TruncOk h.length h h' ∧ h.length ≤ m then (match locAt h' m with
  | some xs => if undL h.length xs = true then .ok (.loc h.length) (h'.take h.length ++ [.lst xs]) else .bad
  | none => .bad) else .bad
noncomputable def exitF (md : Md) (h : Hs) (d : D) (h' : Hs) : R D := match md with
  | .keep => .ok d h'
  | .trunc => exitT h d h'
  | .move => match d with
    | .loc m => exitM h m h'
    | _ => exitT h d h'
open Classical in
noncomputable def exitX (h : Hs) (x : Xn) (h' : Hs) : R D := if TruncOk h.length h h' ∧ (∀ f d, x.val = some (f, d) → d.und h.length = true) then .err x (h'.take h.length) else .bad
noncomputable def runF (n N : Nat) (md : Md) (b : FS) : List D → Hs → R D := fun ds h => if ds.length = n then (match b (ds.map some ++ List.replicate (N - n) none) h with
  | .nx _ h' => exitF md h .non h'
  | .rt d h' => exitF md h d h'
  | .er x _ h' => exitX h x h'
  | _ => .bad) else .bad
/-- a def's promise: it does what g says -/
def spF (K : PySem.W.Frag) (mg : Str → Option Value) (n : Nat) (g : List D → Hs → R D) : Sp := fun vs H Q E => vs.length = n ∧ ∃ G ms ds h, Hh K G ms h H ∧ IsL K G ms ds vs ∧ Post K mg E G ms (Is K) (g ds h) Q
section
variable {K : PySem.W.Frag} {mg : Str → Option Value} {E : XK} {G G' : GG} {H H' : Hp} {ms ms' : List Addr} {h h' : Hs}
theorem trunc_ok (x : Hh K G ms h H) (x' : Hh K G' ms' h' H') (p : ms <+: ms') (t : TruncOk h.length h h') : Hh K G' ms (h'.take h.length) H' := by
  rw [← x.len] at t ⊢
  refine x'.trunc p fun i o hi e => ?_
  rcases t i o hi e with q | q
  · exact x.und q
  · exact q
theorem exitT_post {d : D} {v : V} {Q : VK} (x : Hh K G ms h H) (e : GLe G G') (p : ms <+: ms') (x' : Hh K G' ms' h' H') (i : Is K G' ms' d v) (q : Post K mg E G ms (Is K) (exitT h d h') Q) : Q v H' := by
  unfold exitT at q
  split at q
  · rename_i t
    have xt := trunc_ok x x' p t
    unfold frz1 at q
    split at q
    · rename_i d' ed
      split at ed
      · rename_i hb
        cases ed
        exact q.fin2 e (pre_refl _) xt (Is.cut p _ _ i (by rw [x.len]; exact hb))
      · split at ed
        · rename_i m hb
          split at ed
          · rename_i xs ex
            split at ed
            · rename_i hx
              cases ed
              obtain ⟨a, vs, e1, e2, e3, e4⟩ := x'.locW i ex
              subst e1
              have g1 := x'.dis a (List.mem_of_getElem? e2)
              have g2 : G'.2 a = none := by
                cases z : G'.2 a with
                | none => rfl
                | some u => exact absurd (List.mem_of_getElem? e2) (x'.frd a u z).2
              have nm : a ∉ ms := fun hm => by
                obtain ⟨j, hj⟩ := List.getElem?_of_mem hm
                have := nd_ix x'.nd (pre_get p hj) e2
                subst this
                exact hb (by simpa [D.und, x.len] using lt_of_get hj)
              refine q.fin2 (e.trans (gle_upd g1)) (pre_refl _) (xt.ice e3 g1 g2 nm (show vs.length ≤ sizeLine by rw [← e4.length]; exact x'.atz (locAt_some ex))) ⟨a, vs, rfl, upd_same, ?_⟩
              exact IsL.mono (gle_upd g1) (pre_refl _) _ _ (IsL.cut p _ _ e4 (by rw [x.len]; exact hx))
            · cases ed
          · cases ed
        · cases ed
    · exact q.elim
  · exact q.elim
theorem exitM_post {m : Nat} {v : V} {Q : VK} (x : Hh K G ms h H) (e : GLe G G') (p : ms <+: ms') (x' : Hh K G' ms' h' H') (i : Is K G' ms' (.loc m) v) (q : Post K mg E G ms (Is K) (exitM h m h') Q) : Q v H' := by
  unfold exitM at q
  split at q
  · rename_i t
    have xt := trunc_ok x x' p t.1
    split at q
    · rename_i xs ex
      split at q
      · rename_i hx
        obtain ⟨a, vs, e1, e2, e3, e4⟩ := x'.locW i ex
        subst e1
        have e4' := IsL.cut p _ _ e4 (by rw [x.len]; exact hx)
        have hz := x'.atz (locAt_some ex)
        have nm : a ∉ ms := fun hm => by
          obtain ⟨j, hj⟩ := List.getElem?_of_mem hm
          have := nd_ix x'.nd (pre_get p hj) e2
          subst this
          have := lt_of_get hj
          rw [x.len] at this
          omega
        have hl : (h'.take h.length).length = ms.length := xt.len.symm
        have pp : ms <+: ms ++ [a] := ⟨[a], rfl⟩
        refine q.fin2 (ms' := ms ++ [a]) e pp ?_ ⟨a, by rw [← x.len]; simp, rfl⟩
        refine ⟨xt.sub, xt.gsz, xt.frm, fun b u z => ⟨(xt.frd b u z).1, fun hm => ?_⟩, by simp [hl], ?_, fun b hb => ?_, fun n b u e1 e2' => ?_⟩
        · rcases List.mem_append.mp hm with w | w
          · exact (xt.frd b u z).2 w
          · have : b = a := by simpa using w
            subst this
            exact (x'.frd b u z).2 (List.mem_of_getElem? e2)
        · refine List.nodup_append.mpr ⟨xt.nd, by simp, fun b hb c hc => ?_⟩
          have : c = a := by simpa using hc
          subst this
          exact fun z => nm (by rw [← z]; exact hb)
        · rcases List.mem_append.mp hb with w | w
          · exact xt.dis b w
          · have : b = a := by simpa using w
            subst this
            exact x'.dis _ (List.mem_of_getElem? e2)
        · by_cases hn : n < ms.length
          · rw [List.getElem?_append_left hn] at e1
            rw [List.getElem?_append_left (by rw [hl]; exact hn)] at e2'
            exact (xt.obj n b u e1 e2').mono (GLe.refl _) pp rfl
          · have hn' : n = ms.length := by
              have := lt_of_get e1
              simp at this; omega
            subst hn'
            simp at e1
            rw [← hl] at e2'
            simp at e2'
            subst e1 e2'
            exact ⟨vs, e3, IsL.mono (GLe.refl _) pp _ _ e4', hz⟩
      · exact q.elim
    · exact q.elim
  · exact q.elim
theorem exitF_post {md : Md} {d : D} {v : V} {Q : VK} (x : Hh K G ms h H) (e : GLe G G') (p : ms <+: ms') (x' : Hh K G' ms' h' H') (i : Is K G' ms' d v) (q : Post K mg E G ms (Is K) (exitF md h d h') Q) : Q v H' := by
  cases md with
  | keep => exact q.fin2 e p x' i
  | trunc => exact exitT_post x e p x' i q
  | move =>
    cases d with
    | loc m => exact exitM_post x e p x' i q
    | _ => exact exitT_post x e p x' i q
theorem exitX_post {y : Xn} {d : Option Addr} {Q : VK} (x : Hh K G ms h H) (e : GLe G G') (p : ms <+: ms') (x' : Hh K G' ms' h' H') (i : XIs K G' ms' H' y d) (q : Post K mg E G ms (Is K) (exitX h y h') Q) : E (clsV mg y) d H' := by
  unfold exitX at q
  split at q
  · rename_i t
    have xt := trunc_ok x x' p t.1
    refine q H' G' ms d e (pre_refl _) xt ?_
    unfold XIs at i ⊢
    cases ev : y.val with
    | none => rw [ev] at i; exact i
    | some fd =>
      obtain ⟨f, dd⟩ := fd
      rw [ev] at i
      obtain ⟨a, v, k1, k2, k3⟩ := i
      exact ⟨a, v, k1, k2, Is.cut p _ _ k3 (by rw [x.len]; exact t.2 f dd ev)⟩
  · exact q.elim
theorem map_start {N : List Str} {ds : List D} {vs : List V} (i : IsL K G ms ds vs) : Sl K G ms [] (ds.map some ++ List.replicate (N.length - ds.length) none) (start N vs) := by
  unfold L2.start
  have hl := i.length
  refine ⟨by simp [hl], fun j d e => ?_, fun _ h => (nomatch h)⟩
  by_cases hj : j < ds.length
  · rw [List.getElem?_append_left (by simpa using hj), List.getElem?_map] at e
    cases ed : ds[j]? with
    | none => rw [ed] at e; cases e
    | some d' =>
      rw [ed] at e
      cases e
      obtain ⟨v, k1, k2⟩ := i.get ed
      refine ⟨v, ?_, k2⟩
      rw [List.getElem?_append_left (by rw [List.length_map, ← hl]; exact hj), List.getElem?_map, k1]
      rfl
  · rw [List.getElem?_append_right (by simpa using hj)] at e
    have := List.mem_of_getElem? e
    have := List.eq_of_mem_replicate this
    cases this
end
section
variable {P : Program} {w : World} {K : PySem.W.Frag} {mg : Str → Option Value} {base : Heap}
/-- THE RULE for a def -/
theorem fn_ok (md : Md) {x qual : Str} {st : Stmt} {f : Addr} {fd : FuncData} {N ps : List Str} {k : Nat} {b : FS} (F : Fun K x qual st f fd) (S : FnScope N ps (defScope st))
    (hb : ∀ (cdv : Value) (A : Around) (outer : List Env) (s : Shared) (H : Hp) (E : XK), Room k (A.deeper (envOfC qual (defScope st) s.heap.objs.size f cdv)) → VSs (cxOf (L2.CX P w) P w K mg base N qual (defScope st) f cdv A outer s H E) (fun cls d _ H => E cls d H) [] (defBody st) b) :
    FnOk P w K mg base (L2.CX P w) (k + 1) f fd ps (spF K mg ps.length (runF ps.length N.length md b)) := by
  refine F.okX S (fun vs H Q E h => h.1) (fun cdv A outer s H vs Q E hr h => ?_)
  obtain ⟨hl, G, ms, ds, h, hh, i, q⟩ := h
  refine ⟨_, hb cdv A outer s H E hr, G, ms, _, h, hh, map_start (N := N) i, ?_⟩
  have hd : ds.length = ps.length := by rw [i.length]; exact hl
  unfold runF at q
  rw [if_pos hd] at q
  rw [hd]
  cases e : b (ds.map some ++ List.replicate (N.length - ps.length) none) h with
  | nx s' h' =>
    rw [e] at q
    exact fun σ' H' G' ms' e1 p1 hh1 sl1 => exitF_post (d := .non) hh e1 p1 hh1 rfl q
  | rt d h' =>
    rw [e] at q
    exact fun v H' G' ms' e1 p1 hh1 i1 => exitF_post hh e1 p1 hh1 i1 q
  | er y s' h' =>
    rw [e] at q
    exact fun σ' H' G' ms' d e1 p1 hh1 _ i1 => exitX_post hh e1 p1 hh1 i1 q
  | bk s' h' => rw [e] at q; exact q.elim
  | ct s' h' => rw [e] at q; exact q.elim
  | bad => rw [e] at q; exact q.elim
end
section
variable {X : Cx} {W : WX} {pin : List (Nat × V)} {pos p : Pos}
def eCall (n : Nat) (g : List D → Hs → R D) (f : FA) : FE := fun s h => (f s h).bind fun ds h1 => if ds.length = n then g ds h1 else .bad
theorem ve_call {k n : Nat} {f : Addr} {fd : FuncData} {ps : List Str} {x : Str} {e : Expr} {es : List Expr} {g : List D → Hs → R D} {fa : FA} (F : FnOk X.prog X.w X.K X.mg X.base (L2.CX X.prog X.w) k f fd ps (spF X.K X.mg n g)) (hr : Room k X.A) (hg : Gl X x) (hm : X.mg x = some (.ref f)) (hk : PySem.W.keepIn X.K (.ref f) = true) (hb : Binds X.K fd ps []) (tk : Takes X W)
    (ha : VA X W pin (e :: es) fa) (hdb : (x == ("__debug__" : Str)) = false := by decide) (he : starEach (e :: es) X.env = (false, eval e X.env) :: starEach es X.env := by rfl) (hpl : (backTo pos (starEach es X.env)).any (·.1) = false := by rfl) :
    VE X W pin (.Call (.Name x p) (e :: es) [] pos) (eCall n g fa) := by
  refine pe_imp (pe_callS F hr hg hm hk hb (fun σ => passAt tk σ) ha hdb he hpl) fun σ H Q ⟨G, ms, s, h, hh, sl, q⟩ => ⟨G, ms, s, h, hh, sl, Post.bind q fun ds h1 vs H1 G1 ms1 e1 p1 hh1 i1 q1 => ?_⟩
  by_cases hn : ds.length = n
  · rw [if_pos hn] at q1
    exact ⟨by rw [← i1.length]; exact hn, G1, ms1, ds, h1, hh1, i1, q1⟩
  · rw [if_neg hn] at q1; exact q1.elim
end
/-- the law's own promise -/
def spL (K : PySem.W.Frag) (g : List D → Hs → R D) : Sp := fun vs H Q _ => spF K (fun _ => none) 1 g vs H Q fun _ _ _ => False
theorem spL_imp {K : PySem.W.Frag} {mg : Str → Option Value} {g : List D → Hs → R D} {vs : List V} {H : Hp} {Q : VK} {E : XK} (q : spL K g vs H Q E) : spF K mg 1 g vs H Q E := by
  obtain ⟨hl, G, ms, ds, h, hh, i, q⟩ := q
  refine ⟨hl, G, ms, ds, h, hh, i, ?_⟩
  cases e : g ds h with
  | ok d h' => rw [e] at q; exact q
  | err x h' => rw [e] at q; exact fun H' G' ms' d h1 h2 h3 h4 => (q H' G' ms' d h1 h2 h3 h4).elim
  | bad => rw [e] at q; exact q
end WD
namespace WD
open PySem PySem.Spec PyProof.Rows L2
def sRaise (name : Str) : FS := fun s h => .er ⟨name, none⟩ s h
abbrev veBm : List Value := [.type "ValueError", .type "Exception", .type "BaseException", .type "object"]
/-- what is known of an own error's class -/
structure Xc (K : PySem.W.Frag) (mg : Str → Option Value) (x : Str) (C : Addr) : Prop where
  g : mg x = some (.ref C)
  q : PySem.W.excIn K C veBm "ValueError.__new__" = true
  k : PySem.W.keepIn K (.ref C) = true
  b : PySem.W.subIn K (.ref C) (.type "BaseException") = some true
  t : PySem.W.typeIn K (.ref C) = some (.type "type")
section
variable {X : Cx} {W : WX} {pin : List (Nat × V)} {pos : Pos}
theorem pmk_own0 {x : Str} {p : Pos} {C : Addr} (c : Xc X.K X.mg x C) (hg : Gl X x) (hdb : (x == ("__debug__" : Str)) = false := by decide) : PMk X (.Call (.Name x p) [] [] pos) (fun _ H Q => Q (.ref C) none H) := by
  intro pins s σ H Q I h
  refine wpAny_Call_Name_kw (ld_glob I hg c.g ?_ hdb)
  refine PySem.W.callWith_K0 I.kIn c.k ?_
  obtain ⟨bm, N, nm, qn, bs, hdct, sn, sub, ab, col, dd, k0, k1, k2, k3, k5, mN, hC, hN, hni, T⟩ := exc_obj I.kIn c.q
  refine wpAny_call_exc_subT PySem.F.excBase_ValueError T hC hN hni (fun h' e hm => ?_) (Nat.zero_le _)
  exact mk_of I hm (raises_own c.b c.t) h (I.hok.gone hm.new)
theorem vs_raise {x : Str} {p pos' : Pos} {C : Addr} (c : Xc X.K X.mg x C) (hg : Gl X x) (hc : X.calm = true) (tk : Takes X W) (hdb : (x == ("__debug__" : Str)) = false := by decide) : VS X W pin (.Raise (some (.Call (.Name x p) [] [] pos')) none pos) (sRaise x) := by
  refine ps_imp (ps_raise hc tk (pmk_own0 c hg hdb)) fun D σ H ⟨G, ms, s, h, hh, sl, q⟩ => ?_
  have e : clsV X.mg ⟨x, none⟩ = .ref C := by unfold clsV; rw [c.g]; rfl
  have := q σ H G ms none (GLe.refl _) (pre_refl _) hh sl rfl
  rw [e] at this
  exact this
end
/-- every error is a DaysError and a ValueError -/
def subX (y c : Str) : Bool := decide (y = c) || decide (c = "DaysError") || decide (c = "ValueError")
def unset (i : Nat) (r : RS) : RS := match r with
  | .nx s h => .nx (s.set i none) h
  | .bk s h => .bk (s.set i none) h
  | .ct s h => .ct (s.set i none) h
  | .rt d h => .rt d h
  | _ => .bad
def sTry (c : Str) (i : Nat) (names : List Str) (fb : FS) (fs : Str → FS) : FS := fun s h => match fb s h with
  | .er y s' h' => if y.val.isNone = true ∧ y.name ∈ names ∧ i < s'.length then (if subX y.name c = true then unset i (fs y.name (s'.set i none) h') else .er y s' h') else .bad
  | r => r
section
variable {X : Cx} {W : WX} {pin : List (Nat × V)} {pos : Pos} {K : PySem.W.Frag} {G : GG} {ms : List Addr}
theorem Sl.setPin {s : Ss} {σ : L2.St} {i : Nat} {v : V} (x : Sl K G ms pin s σ) (np : NotPin pin i) (hi : i < σ.length) : Sl K G ms ((i, v) :: pin) (s.set i none) (σ.set i (some v)) := by
  refine ⟨by simp [x.len], fun j d e => ?_, fun p hp => ?_⟩
  · by_cases hj : j = i
    · subst hj
      rw [List.getElem?_set_self (by rw [x.len]; exact hi)] at e
      cases e
    · rw [List.getElem?_set_ne (Ne.symm hj)] at e ⊢
      exact x.get j d e
  · rcases List.mem_cons.mp hp with rfl | hp
    · exact List.getElem?_set_self hi
    · rw [List.getElem?_set_ne (Ne.symm (np p hp))]
      exact x.pin p hp
theorem Sl.unPin {s : Ss} {σ : L2.St} {i : Nat} {v : V} (x : Sl K G ms ((i, v) :: pin) s σ) (np : NotPin pin i) : Sl K G ms pin (s.set i none) (σ.set i none) := by
  refine ⟨by simp [x.len], fun j d e => ?_, fun p hp => ?_⟩
  · by_cases hj : j = i
    · subst hj
      have hl := lt_of_get e
      simp at hl
      rw [List.getElem?_set_self hl] at e
      cases e
    · rw [List.getElem?_set_ne (Ne.symm hj)] at e ⊢
      exact x.get j d e
  · rw [List.getElem?_set_ne (Ne.symm (np p hp))]
    exact x.pin p (List.mem_cons_of_mem _ hp)
/-- try: body; except c as n: suite -/
theorem vs_try (i : Nat) (names : List Str) {x n : Str} {body suite : List Stmt} {b0 : Stmt} {np pos' : Pos} {fb : FS} {fs : Str → FS} {C : Addr} (hs : X.stack = X.env :: X.outer) (hf : X.env.frame = some X.env.locals) (hN : X.N.Nodup) (hg : Gl X x) (hm : X.mg x = some (.ref C)) (tk : Takes X W)
    (hex : ∀ y ∈ names, PySem.W.exmOne X.K (clsV X.mg ⟨y, none⟩) (.ref C) = some (subX y x))
    (hb : ∀ (W : WX) (pn : List (Addr × Obj)) (xe : Value → Shared → Prop), Takes (X.tr pn xe) W → PassesOwn (model X.prog X.w) X.A X.env xe → VSs (X.tr pn xe) W pin body fb)
    (hsu : ∀ (a : Addr) (oe : Obj) (y : Str) (pn : List (Addr × Obj)), y ∈ names → Zc (clsV X.mg ⟨y, none⟩) none oe → (∃ vs, oe.data = .fields vs) → VSs (X.suite a ((a, oe) :: pn)) W0 ((i, .ref a) :: pin) (b0 :: suite) (fs y))
    (hi : X.N[i]? = some n := by rfl) (hln : X.env.kindOf n = some .local := by rfl) (npn : NotPin pin i := by first | exact notPin_nil | decide) (hdb : (x == ("__debug__" : Str)) = false := by decide) :
    VS X W pin (.Try body [.ExceptHandler (some (.Name x np)) (some n) (b0 :: suite) pos'] [] [] pos) (sTry x i names fb fs) := by
  refine ⟨fun pins s σ H D I hq => ?_⟩
  have hlen := I.len
  have hil : i < σ.length := by rw [hlen]; exact lt_of_get hi
  refine (ps_try_as (tb := fun W => rdS X W pin fb) (ts := fun a cls d D σ H => ∃ y, y ∈ names ∧ cls = clsV X.mg ⟨y, none⟩ ∧ d = none ∧ rdS X W0 ((i, .ref a) :: pin) (fs y) D σ H) hs hf hN hi hln ⟨hg, hdb, .inl hm⟩ tk hb ?_).run pins s σ H D I ?_
  · intro a oe cls d pn hz hfl
    refine ⟨fun pins s σ H D I hq => ?_⟩
    obtain ⟨y, hy, rfl, rfl, hq⟩ := hq
    exact (hsu a oe y pn hy hz hfl).run pins s σ H D I hq
  · obtain ⟨G, ms, s, h, hh, sl, q⟩ := hq
    refine ⟨G, ms, s, h, hh, sl, ?_⟩
    unfold sTry at q
    cases e : fb s h with
    | nx s' h' => rw [e] at q; exact q
    | rt d h' => rw [e] at q; exact q
    | bk s' h' => rw [e] at q; exact q
    | ct s' h' => rw [e] at q; exact q
    | bad => rw [e] at q; exact q
    | er y s' h' =>
      rw [e] at q
      dsimp only at q
      split at q
      · rename_i hy
        obtain ⟨yn, yv⟩ := y
        have hv : yv = none := by
          cases yv with
          | none => rfl
          | some _ => cases hy.1
        subst hv
        intro σ' H' G' ms' d e1 p1 hh1 sl1 xi
        have hd : d = none := xi
        subst hd
        refine ⟨_, hex yn hy.2.1, fun hbt a ha => ?_, fun hbf => ?_⟩
        · rw [if_pos hbt] at q
          have hl' : i < σ'.length := by
            rw [← sl1.len]; exact hy.2.2
          refine ⟨yn, hy.2.1, rfl, rfl, G', ms', s'.set i none, h', hh1, sl1.setPin npn hl', ?_⟩
          have q' := PostS.mono (σ' := σ'.set i (some (.ref a))) (r := unset i (fs yn (s'.set i none) h')) q e1 p1
          cases er : fs yn (s'.set i none) h' with
          | nx s2 h2 => rw [er] at q'; exact fun σ2 H2 G2 ms2 e2 p2 hh2 sl2 => q' _ H2 G2 ms2 e2 p2 hh2 (sl2.unPin npn)
          | bk s2 h2 => rw [er] at q'; exact fun σ2 H2 G2 ms2 e2 p2 hh2 sl2 => q' _ H2 G2 ms2 e2 p2 hh2 (sl2.unPin npn)
          | ct s2 h2 => rw [er] at q'; exact fun σ2 H2 G2 ms2 e2 p2 hh2 sl2 => q' _ H2 G2 ms2 e2 p2 hh2 (sl2.unPin npn)
          | rt d h2 => rw [er] at q'; exact q'
          | er z s2 h2 => rw [er] at q'; exact q'.elim
          | bad => rw [er] at q'; exact q'
        · rw [if_neg (by rw [hbf]; decide)] at q
          exact q σ' H' G' ms' none e1 p1 hh1 sl1 rfl
      · exact q.elim
/-- isinstance(n, c) of the caught error -/
theorem ve_isE {a Dc : Addr} {oe : Obj} {pn : List (Addr × Obj)} (i : Nat) {n x : Str} {cv : Value} {c : V} {b : Bool} {p p1 p2 : Pos} (C : ExcC X.K Dc) (hz : Zc (.ref Dc) none oe) (hf : ∃ vs, oe.data = .fields vs) (hk : PySem.W.kitOne X.K (.ref Dc) cv = some b) (hcv : ∀ u, RelV c u → u = cv)
    (hx : PE (X.suite a ((a, oe) :: pn)) (.Name x p2) (tC c)) (hp : (i, V.ref a) ∈ pin) (hgi : Gl X "isinstance") (hmi : X.mg "isinstance" = none) (hN : X.N[i]? = some n := by rfl) (hv : Vis X.env.scope n := by first | exact Or.inl rfl | exact Or.inr (Or.inl rfl) | exact Or.inr (Or.inr rfl))
    (hd : (n == ("__debug__" : Str)) = false := by decide) (hcd : (n == ("__classdict__" : Str)) = false := by decide)
    (hs1 : starEach [.Name n p1, .Name x p2] X.env = (false, eval (.Name n p1) X.env) :: starEach [.Name x p2] X.env := by rfl) (hs2 : starEach [.Name x p2] X.env = (false, eval (.Name x p2) X.env) :: starEach [] X.env := by rfl) (hpl : (backTo pos (starEach [.Name x p2] X.env)).any (·.1) = false := by rfl) :
    VE (X.suite a ((a, oe) :: pn)) W pin (.Call (.Name "isinstance" p) [.Name n p1, .Name x p2] [] pos) (eC (.bl b)) := by
  refine pe_imp (pe_callB (call_isE C hz hf) hgi hmi (by decide +kernel) (pa_cons (pe_var (X := X.suite a ((a, oe) :: pn)) (i := i) hN hv hd hcd) (pa_cons hx pa_nil hs2) hs1) (by decide) (by decide) hs1 hpl) fun σ H Q ⟨G, ms, s, h, hh, sl, q⟩ => ?_
  refine ⟨.ref a, sl.pin _ hp, ?_⟩
  exact ⟨c, cv, b, rfl, hcv, hk, Post.fin (b := V.bl b) q hh rfl⟩
end
end WD
namespace WD
open PySem PySem.Spec PyProof.Rows L2
section
variable {X : Cx} {W : WX} {pin : List (Nat × V)} {K : PySem.W.Frag} {mg : Str → Option Value} {E : XK} {G G' : GG} {H : Hp} {ms ms' : List Addr} {h : Hs} {pos : Pos}
theorem Post.newD {ks : List Key} {xs : List D} {vs : List V} {Q : VK} {p : Addr} (q : Post K mg E G ms (Is K) (.ok (.dic ks xs) h) Q) (hh : Hh K G ms h H) (i : IsL K G ms xs vs) (hl : ks.length = vs.length) (hp : H p = none) : Q (.ref p) (upd H p (.dK (ks.zip vs))) := by
  have eg : GLe G (gupd G p (.dK (ks.zip vs))) := gle_upd (hh.gnone hp)
  exact q.fin2 eg (pre_refl _) (hh.still hp trivial) ⟨p, vs, rfl, upd_same, hl, IsL.mono eg (pre_refl _) _ _ i⟩
theorem ve_dict0 : VE X W pin (.Dict [] [] pos) (eC (.dic [] [])) :=
  pe_imp pe_dnewK fun σ H Q ⟨G, ms, s, h, hh, sl, q⟩ p hp => Post.newD (vs := []) q hh rfl rfl hp
theorem upd_upd {H : Hp} {p : Addr} {o o' : HO} : upd (upd H p o) p o' = upd H p o' := by
  funext a
  by_cases hz : a = p
  · subst hz; rw [upd_same, upd_same]
  · rw [upd_ne hz, upd_ne hz, upd_ne hz]
theorem ve_dict1 {i j : Int} {a b : Nat} {p1 p2 : Pos} : VE X W pin (.Dict [some (.Constant (.int i) a p1)] [.Constant (.int j) b p2] pos) (eC (.dic [.inl i] [.int j])) :=
  pe_imp (pe_disp (pps_cons pe_int pe_int pps_nil) rfl rfl (by simp) (by simp)) fun σ H Q ⟨G, ms, s, h, hh, sl, q⟩ p hp => by
    refine ⟨upd_same, [(.inl i, .int j)], rfl, by simp, ?_⟩
    rw [upd_upd]
    exact Post.newD (vs := [.int j]) q hh ⟨_, _, rfl, rfl, rfl⟩ rfl hp
end
end WD
namespace WD
open PySem PySem.Spec PyProof.Rows L2
theorem truncOk_app (h t : Hs) : TruncOk h.length h (h ++ t) := fun i o hi e => .inl (by rw [List.getElem?_append_left hi] at e; exact e)
theorem truncOk_refl (h : Hs) : TruncOk h.length h h := fun i o hi e => .inl e
theorem exitT_same {d : D} {h : Hs} (hd : d.und h.length = true) : exitT h d h = .ok d h := by
  unfold exitT; rw [if_pos (truncOk_refl h)]; unfold frz1; rw [if_pos hd]; simp
theorem exitT_app {d : D} {h t : Hs} (hd : d.und h.length = true) : exitT h d (h ++ t) = .ok d h := by
  unfold exitT; rw [if_pos (truncOk_app h t)]; unfold frz1; rw [if_pos hd]; simp
/-- a new list handed back becomes still -/
theorem exitT_frz {h t : Hs} {m : Nat} {xs : List D} (hm : h.length ≤ m) (e : locAt (h ++ t) m = some xs) (hx : undL h.length xs = true) : exitT h (.loc m) (h ++ t) = .ok (.lst xs) h := by
  unfold exitT; rw [if_pos (truncOk_app h t)]; unfold frz1
  rw [if_neg (by simp [D.und]; omega)]
  simp [e, hx]
theorem exitX_app {x : Str} {h t : Hs} : exitX h ⟨x, none⟩ (h ++ t) = .err ⟨x, none⟩ h := by
  unfold exitX; rw [if_pos ⟨truncOk_app h t, fun f d e => (nomatch e)⟩]; simp
@[simp] theorem exitT_bl {b : Bool} {h : Hs} : exitT h (.bl b) h = .ok (.bl b) h := exitT_same rfl
@[simp] theorem exitT_int {i : Int} {h : Hs} : exitT h (.int i) h = .ok (.int i) h := exitT_same rfl
@[simp] theorem exitT_str {i : Str} {h : Hs} : exitT h (.str i) h = .ok (.str i) h := exitT_same rfl
@[simp] theorem exitT_non {h : Hs} : exitT h .non h = .ok .non h := exitT_same rfl
@[simp] theorem exitX_same {x : Str} {h : Hs} : exitX h ⟨x, none⟩ h = .err ⟨x, none⟩ h := by
  unfold exitX; rw [if_pos ⟨truncOk_refl h, fun f d e => (nomatch e)⟩]; simp
mutual
theorem und_mono {n m : Nat} (hm : n ≤ m) : ∀ d : D, d.und n = true → d.und m = true
  | .non, _ => rfl
  | .bl _, _ => rfl
  | .int _, _ => rfl
  | .str _, _ => rfl
  | .ty _, _ => rfl
  | .tup xs, h => by simpa [D.und] using undL_mono hm xs (by simpa [D.und] using h)
  | .lst xs, h => by simpa [D.und] using undL_mono hm xs (by simpa [D.und] using h)
  | .scr xs, h => by simpa [D.und] using undL_mono hm xs (by simpa [D.und] using h)
  | .dic _ xs, h => by simpa [D.und] using undL_mono hm xs (by simpa [D.und] using h)
  | .loc k, h => by simp [D.und] at h ⊢; omega
theorem undL_mono {n m : Nat} (hm : n ≤ m) : ∀ xs : List D, undL n xs = true → undL m xs = true
  | [], _ => rfl
  | x :: xs, h => by
    simp only [undL, Bool.and_eq_true] at h ⊢
    exact ⟨und_mono hm x h.1, undL_mono hm xs h.2⟩
end
theorem undL_iff {n : Nat} : ∀ {xs : List D}, undL n xs = true ↔ ∀ x ∈ xs, x.und n = true
  | [] => by simp [undL]
  | x :: xs => by simp [undL, undL_iff (xs := xs)]
@[simp] theorem und_int {n : Nat} {i : Int} : (D.int i).und n = true := rfl
@[simp] theorem und_bl {n : Nat} {i : Bool} : (D.bl i).und n = true := rfl
@[simp] theorem und_str {n : Nat} {i : Str} : (D.str i).und n = true := rfl
@[simp] theorem und_non {n : Nat} : D.non.und n = true := rfl
@[simp] theorem und_tup {n : Nat} {xs : List D} : (D.tup xs).und n = undL n xs := by simp [D.und]
@[simp] theorem und_lst {n : Nat} {xs : List D} : (D.lst xs).und n = undL n xs := by simp [D.und]
@[simp] theorem und_loc {n k : Nat} : (D.loc k).und n = decide (k < n) := by simp [D.und]
@[simp] theorem undL_nil {n : Nat} : undL n [] = true := rfl
@[simp] theorem undL_cons {n : Nat} {x : D} {xs : List D} : undL n (x :: xs) = (x.und n && undL n xs) := rfl
@[simp] theorem undL_append {n : Nat} {xs ys : List D} : undL n (xs ++ ys) = (undL n xs && undL n ys) := by
  induction xs with
  | nil => simp
  | cons x xs ih => simp [ih, Bool.and_assoc]
@[simp] theorem undL_ints {n : Nat} (ns : List Int) : undL n (ns.map D.int) = true := undL_iff.mpr (by simp)
section
variable {s : Ss} {h : Hs} {d : D} {f g fa fb fc : FE} {t u : FT} {a b : FS}
@[simp] theorem x_c : eC d s h = .ok d h := rfl
@[simp] theorem x_var {i : Nat} : eVar i s h = match s[i]? with | some (some d) => .ok d h | _ => .bad := rfl
@[simp] theorem x_anil : aNil s h = .ok [] h := rfl
@[simp] theorem x_acons {r : FA} : aCons f r s h = (f s h).bind fun d h1 => (r s h1).bind fun ds h2 => .ok (d :: ds) h2 := rfl
@[simp] theorem x_bin {o : D → D → Hs → R D} : eBin o fa fb s h = (fa s h).bind fun a h1 => (fb s h1).bind fun b h2 => calm2 o a b h2 := rfl
@[simp] theorem x_calm2 {o : D → D → Hs → R D} {x y : D} : calm2 o x y h = calm1 (o x y h) := by
  unfold calm2 calm1; rfl
@[simp] theorem x_calm1_ok : calm1 (.ok d h) = .ok d h := rfl
@[simp] theorem x_calm1_bad : calm1 .bad = .bad := rfl
@[simp] theorem x_quiet_ok {α : Type} {x : α} : quiet (.ok x h) = .ok x h := rfl
@[simp] theorem x_b {o : List D → Hs → R D} {r : FA} : eB o r s h = (r s h).bind fun ds h1 => calm1 (o ds h1) := rfl
@[simp] theorem x_call {n : Nat} {o : List D → Hs → R D} {r : FA} : eCall n o r s h = (r s h).bind fun ds h1 => if ds.length = n then o ds h1 else .bad := rfl
@[simp] theorem x_ml {o : D → List D → Hs → R D} {r : FA} : eML o f r s h = (f s h).bind fun d h1 => match lstOf h1 d with
  | some _ => (r s h1).bind fun ds h2 => calm1 (o d ds h2)
  | none => .bad := rfl
@[simp] theorem x_tup {r : FA} : eTup r s h = (r s h).bind fun ds h1 => if ds.length ≤ sizeLine then .ok (.tup ds) h1 else .bad := rfl
@[simp] theorem x_lst {m : Bool} {r : FA} : eLst m r s h = (r s h).bind fun ds h1 => if ds.length ≤ sizeLine then newL m ds h1 else .bad := rfl
@[simp] theorem x_truth_bl {k : Bool} : truth (.ok (.bl k) h) = .ok k h := rfl
@[simp] theorem x_truth_bad : truth .bad = .bad := rfl
@[simp] theorem x_truth_err {x : Xn} : truth (.err x h) = .err x h := rfl
@[simp] theorem x_tv : tV f s h = truth (f s h) := rfl
@[simp] theorem x_tnot : tNotF t s h = (t s h).bind fun b h1 => .ok (!b) h1 := rfl
@[simp] theorem x_tand : tAndF t u s h = (t s h).bind fun b h1 => if b = true then u s h1 else .ok false h1 := rfl
@[simp] theorem x_tor : tOrF t u s h = (t s h).bind fun b h1 => if b = true then .ok true h1 else u s h1 := rfl
@[simp] theorem x_tyes : tYesF s h = .ok true h := rfl
@[simp] theorem x_and : eAndF fa fb s h = (truth (fa s h)).bind fun k h1 => if k = true then fb s h1 else .ok (.bl false) h1 := rfl
@[simp] theorem x_or : eOrF fa fb s h = (truth (fa s h)).bind fun k h1 => if k = true then .ok (.bl true) h1 else fb s h1 := rfl
@[simp] theorem x_not : eNotF fa s h = (truth (fa s h)).bind fun k h1 => .ok (.bl (!k)) h1 := rfl
@[simp] theorem x_if : eIfF t fa fb s h = (t s h).bind fun k h1 => if k = true then fa s h1 else fb s h1 := rfl
@[simp] theorem x_chain {o o' : D → D → Hs → R D} : eChain o o' fa fb fc s h = (fa s h).bind fun x h1 => (fb s h1).bind fun y h2 => (truth (calm2 o x y h2)).bind fun k h3 => if k = true then (fc s h3).bind fun z h4 => calm2 o' y z h4 else .ok (.bl false) h3 := rfl
@[simp] theorem x_neg : negD fa s h = (fa s h).bind fun d h1 => match d with
  | .int i => .ok (.int (-i)) h1
  | _ => .bad := rfl
@[simp] theorem x_onone : oNone s h = .ok none h := rfl
@[simp] theorem x_osome : oSome f s h = (f s h).bind fun d h1 => match d with
  | .int i => .ok (some i) h1
  | _ => .bad := rfl
@[simp] theorem x_sl {m : Bool} {p q : FO} : eSl m f p q s h = (f s h).bind fun d h1 => (p s h1).bind fun lo h2 => (q s h2).bind fun hi h3 => slD m d lo hi h3 := rfl
@[simp] theorem x_next : sNext s h = .nx s h := rfl
@[simp] theorem x_seq : sSeq a b s h = match a s h with
  | .nx s' h' => b s' h'
  | r => r := rfl
@[simp] theorem x_sif : sIf t a b s h = match t s h with
  | .ok k h1 => if k = true then a s h1 else b s h1
  | .err x h1 => .er x s h1
  | .bad => .bad := rfl
@[simp] theorem x_set {i : Nat} : sSet i f s h = RS.ofR s (f s h) fun d h1 => .nx (s.set i (some d)) h1 := rfl
@[simp] theorem x_ret : sRet f s h = RS.ofR s (f s h) fun d h1 => .rt d h1 := rfl
@[simp] theorem x_expr : sExpr f s h = RS.ofR s (f s h) fun _ h1 => .nx s h1 := rfl
@[simp] theorem x_raise {n : Str} : sRaise n s h = .er ⟨n, none⟩ s h := rfl
@[simp] theorem x_break : sBreak s h = .bk s h := rfl
@[simp] theorem x_cont : sCont s h = .ct s h := rfl
@[simp] theorem x_item {fo fi fe : FE} : sItem fo fi fe s h = RS.ofR s (fe s h) fun v h1 => RS.ofR s (fo s h1) fun o h2 => RS.ofR s (fi s h2) fun i h3 => match setD o i v h3 with
  | some h4 => .nx s h4
  | none => .bad := rfl
@[simp] theorem x_aug {i : Nat} {o : D → D → Hs → R D} : sAug i o f s h = match s[i]? with
  | some (some x) => RS.ofR s (f s h) fun y h1 => RS.ofR s (calm2 o x y h1) fun z h2 => .nx (s.set i (some z)) h2
  | _ => .bad := rfl
@[simp] theorem x_un {o : Tg} : sUn o f s h = RS.ofR s (f s h) fun d h1 => match o d s h1 with
  | some s' => .nx s' h1
  | none => .bad := rfl
@[simp] theorem x_par {i j : Nat} {r : FA} : sPar i j r s h = match r s h with
  | .ok [x, y] h1 => .nx ((s.set i (some x)).set j (some y)) h1
  | .ok _ _ => .bad
  | .err x h1 => .er x s h1
  | .bad => .bad := rfl
@[simp] theorem x_gvar {i : Nat} : gVar i d s h = some (s.set i (some d)) := rfl
@[simp] theorem x_after_nx {k : Ss → Hs → RS} : afterT (.nx s h) k = k s h := rfl
@[simp] theorem x_after_ct {k : Ss → Hs → RS} : afterT (.ct s h) k = k s h := rfl
@[simp] theorem x_after_bk {k : Ss → Hs → RS} : afterT (.bk s h) k = .nx s h := rfl
@[simp] theorem x_after_rt {k : Ss → Hs → RS} : afterT (.rt d h) k = .rt d h := rfl
@[simp] theorem x_after_er {k : Ss → Hs → RS} {x : Xn} : afterT (.er x s h) k = .er x s h := rfl
@[simp] theorem x_newF {xs : List D} : newL false xs h = .ok (.lst xs) h := rfl
@[simp] theorem x_newT {xs : List D} : newL true xs h = .ok (.loc h.length) (h ++ [.lst xs]) := rfl
@[simp] theorem x_add {i j : Int} : addD (.int i) (.int j) h = .ok (.int (i + j)) h := rfl
@[simp] theorem x_sub {i j : Int} : subD (.int i) (.int j) h = .ok (.int (i - j)) h := rfl
open Classical in
@[simp] theorem x_mul {i j : Int} : mulD (.int i) (.int j) h = if smallI i ∨ smallI j then .ok (.int (i * j)) h else .bad := rfl
open Classical in
@[simp] theorem x_fdiv {i j : Int} : fdivD (.int i) (.int j) h = if 0 < j ∧ j.natAbs.log2 < 9000 then .ok (.int (i / j)) h else .bad := rfl
@[simp] theorem x_mod {i j : Int} : modD (.int i) (.int j) h = if 0 < j then .ok (.int (i % j)) h else .bad := rfl
open Classical in
@[simp] theorem x_pow {i j : Int} : powD (.int i) (.int j) h = if 0 ≤ j ∧ j ≤ 1000000 ∧ i.natAbs < 2 ^ 64 then .ok (.int (i ^ j.toNat)) h else .bad := rfl
@[simp] theorem x_cmp {p : Int → Int → Bool} {i j : Int} : cmpI p (.int i) (.int j) h = .ok (.bl (p i j)) h := rfl
@[simp] theorem x_ipadd {i j : Int} : ipAddD (.int i) (.int j) h = .ok (.int (i + j)) h := rfl
@[simp] theorem x_ipsub {i j : Int} : ipSubD (.int i) (.int j) h = .ok (.int (i - j)) h := rfl
@[simp] theorem x_row_tup {xs : List D} : rowOf h (.tup xs) = some xs := rfl
@[simp] theorem x_row_lst {xs : List D} : rowOf h (.lst xs) = some xs := rfl
@[simp] theorem x_row_scr {xs : List D} : rowOf h (.scr xs) = some xs := rfl
@[simp] theorem x_row_loc {n : Nat} : rowOf h (.loc n) = locAt h n := rfl
@[simp] theorem x_lo_lst {xs : List D} : lstOf h (.lst xs) = some xs := rfl
@[simp] theorem x_lo_loc {n : Nat} : lstOf h (.loc n) = locAt h n := rfl
@[simp] theorem x_lx_lst {xs : List D} : lstX h (.lst xs) = some xs := rfl
@[simp] theorem x_lx_loc {n : Nat} : lstX h (.loc n) = locAt h n := rfl
@[simp] theorem x_len_tup {xs : List D} : lenD [.tup xs] h = .ok (.int xs.length) h := rfl
@[simp] theorem x_len_lst {xs : List D} : lenD [.lst xs] h = .ok (.int xs.length) h := rfl
theorem x_len {xs : List D} (e : rowOf h d = some xs) : lenD [d] h = .ok (.int xs.length) h := by
  cases d <;> first | (simp [rowOf, lstOf, lstX] at e; done) | (simp only [lenD]; rw [e])
@[simp] theorem x_max2 {i j : Int} : maxD [.int i, .int j] h = .ok (.int (if j > i then j else i)) h := rfl
@[simp] theorem x_min2 {i j : Int} : minD [.int i, .int j] h = .ok (.int (if j < i then j else i)) h := rfl
@[simp] theorem x_intb {k : Bool} : intD [.bl k] h = .ok (.int (if k = true then 1 else 0)) h := rfl
@[simp] theorem x_inti {k : Int} : intD [.int k] h = .ok (.int k) h := rfl
theorem x_tuple {xs : List D} (e : rowOf h d = some xs) : tupleD [d] h = .ok (.tup xs) h := by simp only [tupleD]; rw [e]
@[simp] theorem x_tuple_lst {xs : List D} : tupleD [.lst xs] h = .ok (.tup xs) h := rfl
@[simp] theorem x_tuple_tup {xs : List D} : tupleD [.tup xs] h = .ok (.tup xs) h := rfl
theorem x_list {m : Bool} {xs : List D} (e : rowOf h d = some xs) : listD m [d] h = newL m xs h := by simp only [listD]; rw [e]
@[simp] theorem x_list_tup {m : Bool} {xs : List D} : listD m [.tup xs] h = newL m xs h := rfl
@[simp] theorem x_list_scr {m : Bool} {xs : List D} : listD m [.scr xs] h = newL m xs h := rfl
@[simp] theorem x_sum_lst {ns : List Int} : sumD [.lst (ns.map D.int)] h = .ok (.int ns.sum) h := by simp [sumD]
@[simp] theorem x_sum_tup {ns : List Int} : sumD [.tup (ns.map D.int)] h = .ok (.int ns.sum) h := by simp [sumD]
@[simp] theorem x_exit_keep {h' : Hs} : exitF .keep h d h' = .ok d h' := rfl
@[simp] theorem x_exit_trunc {h' : Hs} : exitF .trunc h d h' = exitT h d h' := rfl
end
theorem run_eq {n N : Nat} {md : Md} {b : FS} {ds : List D} {h : Hs} (hn : ds.length = n) : runF n N md b ds h = match b (ds.map some ++ List.replicate (N - n) none) h with
  | .nx _ h' => exitF md h .non h'
  | .rt d h' => exitF md h d h'
  | .er x _ h' => exitX h x h'
  | _ => .bad := by
  unfold runF
  exact if_pos hn
theorem compA_pure {g : Tg} {tt : FT} {te : FE} {s : Ss} {k : List D → Hs → R D} {h : Hs} (p : D → Bool) (f : D → D) : ∀ (ds acc : List D),
    (∀ d ∈ ds, ∃ s2, g d s h = some s2 ∧ tt s2 h = .ok (p d) h ∧ (p d = true → te s2 h = .ok (f d) h)) → compA g tt te s k ds acc h = k (acc ++ (ds.filter p).map f) h
  | [], acc, _ => by simp [compA]
  | d :: ds, acc, hs => by
    obtain ⟨s2, h1, h2, h3⟩ := hs d List.mem_cons_self
    have ih := fun acc => compA_pure (k := k) p f ds acc fun d hd => hs d (List.mem_cons_of_mem _ hd)
    unfold compA stepC
    simp only [h1, h2, x_quiet_ok, R.bind_ok]
    cases hp : p d with
    | true => simp [h3 hp, ih, hp]
    | false => simp [ih, hp]
theorem compL_pure {g : Tg} {tt : FT} {te : FE} {s : Ss} {n : Nat} {k : List D → Hs → R D} {h : Hs} {xs : List D} (p : D → Bool) (f : D → D) (e : locAt h n = some xs) (hz : xs.length ≤ sizeLine)
    (hs : ∀ d ∈ xs, ∃ s2, g d s h = some s2 ∧ tt s2 h = .ok (p d) h ∧ (p d = true → te s2 h = .ok (f d) h)) : ∀ (m i : Nat) (acc : List D), xs.length - i < m → acc.length ≤ i → i ≤ xs.length → compL g tt te s n k m i acc h = k (acc ++ ((xs.drop i).filter p).map f) h
  | 0, _, _, hm, _, _ => absurd hm (by omega)
  | m + 1, i, acc, hm, ha, hi => by
    unfold compL
    simp only [e]
    by_cases hl : i < xs.length
    · rw [List.getElem?_eq_getElem hl, List.drop_eq_getElem_cons hl]
      obtain ⟨s2, h1, h2, h3⟩ := hs xs[i] (List.getElem_mem hl)
      dsimp only
      rw [if_pos (by omega)]
      unfold stepC
      simp only [h1, h2, x_quiet_ok, R.bind_ok]
      have ih := fun acc ha => compL_pure (k := k) p f e hz hs m (i + 1) acc (by omega) ha hl
      cases hp : p xs[i] with
      | true =>
        simp only [if_true, h3 hp, x_quiet_ok, R.bind_ok]
        rw [ih _ (by simp; omega), List.filter_cons_of_pos hp, List.map_cons]
        simp only [List.append_assoc, List.singleton_append]
      | false =>
        simp only [Bool.false_eq_true, if_false]
        rw [ih _ (by omega), List.filter_cons_of_neg (by rw [hp]; decide)]
    · rw [List.getElem?_eq_none (by omega), List.drop_eq_nil_of_le (by omega)]
      dsimp only
      rw [if_pos (by omega)]
      simp
/-- the items that a walk takes, where nothing changes -/
def itemsOf (h : Hs) : It0 → Option (List D)
  | .seq ds => some ds
  | .rng lo n => if n ≤ sizeLine then some (rgL lo n) else none
  | .loc n => match locAt h n with
    | some xs => if xs.length ≤ sizeLine then some xs else none
    | none => none
theorem comp_pure {m : Bool} {vs : List Nat} {fi : FI} {g : Tg} {tt : FT} {te : FE} {s : Ss} {h h1 : Hs} {it : It0} {ds : List D} (p : D → Bool) (f : D → D) (hi : fi s h = .ok it h1) (hd : itemsOf h1 it = some ds)
    (hs : ∀ d ∈ ds, ∃ s2, g d (wipeS s vs) h1 = some s2 ∧ tt s2 h1 = .ok (p d) h1 ∧ (p d = true → te s2 h1 = .ok (f d) h1)) : eComp m vs fi g tt te s h = newL m ((ds.filter p).map f) h1 := by
  unfold eComp
  rw [hi]
  simp only [R.bind_ok]
  cases it with
  | seq xs =>
    cases hd
    exact (compA_pure p f ds [] hs).trans (by simp)
  | rng lo n =>
    simp only [itemsOf] at hd
    dsimp only
    split at hd
    · rename_i hz
      cases hd
      rw [if_pos hz]
      exact (compA_pure p f _ [] hs).trans (by simp)
    · cases hd
  | loc n =>
    unfold itemsOf at hd
    dsimp only at hd ⊢
    cases e : locAt h1 n with
    | none => rw [e] at hd; cases hd
    | some xs =>
      rw [e] at hd
      dsimp only at hd ⊢
      split at hd
      · rename_i hz
        cases hd
        exact (compL_pure p f e hz hs _ 0 [] (by omega) (Nat.le_refl _) (Nat.zero_le _)).trans (by simp)
      · cases hd
/-- the walk over a row -/
theorem iRow_ok {f : FE} {s : Ss} {h h1 : Hs} {d : D} {xs : List D} (e : f s h = .ok d h1) (hr : rowOf h1 d = some xs) (hz : xs.length ≤ sizeLine) : ∃ it, iRow f s h = .ok it h1 ∧ itemsOf h1 it = some xs := by
  unfold iRow
  rw [e]
  cases d with
  | tup ys => cases hr; exact ⟨_, rfl, rfl⟩
  | lst ys => cases hr; exact ⟨_, rfl, rfl⟩
  | scr ys => cases hr; exact ⟨_, rfl, rfl⟩
  | loc n =>
    have hr : locAt h1 n = some xs := hr
    have hl : n < h1.length := by
      have := locAt_some hr
      exact lt_of_get this
    refine ⟨.loc n, by simp [hl], ?_⟩
    unfold itemsOf
    simp [hr, hz]
  | _ => cases hr
theorem loopL_eq {g : Tg} {b : FS} {n : Nat} {xs : List D} (Inv : Nat → Ss → Hs → Prop) (hinv : ∀ i s h, Inv i s h → locAt h n = some xs)
    (hstep : ∀ i d s s' h, Inv i s h → xs[i]? = some d → g d s h = some s' → (∀ s2 h2, b s' h = .nx s2 h2 ∨ b s' h = .ct s2 h2 → Inv (i + 1) s2 h2)) :
    ∀ (m i : Nat) (s : Ss) (h : Hs), xs.length - i < m → Inv i s h → loopL g b n m i s h = loopS g b (xs.drop i) s h
  | 0, _, _, _, hm, _ => absurd hm (by omega)
  | m + 1, i, s, h, hm, hv => by
    unfold loopL
    simp only [hinv i s h hv]
    by_cases hl : i < xs.length
    · rw [List.getElem?_eq_getElem hl, List.drop_eq_getElem_cons hl]
      dsimp only
      conv => rhs; unfold loopS
      cases eg : g xs[i] s h with
      | none => rfl
      | some s' =>
        dsimp only
        have st := hstep i xs[i] s s' h hv (List.getElem?_eq_getElem hl) eg
        cases eb : b s' h with
        | nx s2 h2 => exact loopL_eq Inv hinv hstep m (i + 1) s2 h2 (by omega) (st s2 h2 (.inl eb))
        | ct s2 h2 => exact loopL_eq Inv hinv hstep m (i + 1) s2 h2 (by omega) (st s2 h2 (.inr eb))
        | _ => rfl
    · rw [List.getElem?_eq_none (by omega), List.drop_eq_nil_of_le (by omega)]
      rfl
theorem sFor_rng {fi : FI} {g : Tg} {b : FS} {s : Ss} {h h1 : Hs} {lo : Int} {n : Nat} (e : fi s h = .ok (.rng lo n) h1) : sFor fi g b s h = loopS g b (rgL lo n) s h1 := by unfold sFor; rw [e]
theorem sFor_seq {fi : FI} {g : Tg} {b : FS} {s : Ss} {h h1 : Hs} {ds : List D} (e : fi s h = .ok (.seq ds) h1) : sFor fi g b s h = loopS g b ds s h1 := by unfold sFor; rw [e]
theorem sFor_loc {fi : FI} {g : Tg} {b : FS} {s : Ss} {h h1 : Hs} {n : Nat} {xs : List D} (e : fi s h = .ok (.loc n) h1) (el : locAt h1 n = some xs) : sFor fi g b s h = loopL g b n (xs.length + 1) 0 s h1 := by unfold sFor; rw [e]; simp only [el]
theorem r62_nat {n : Nat} (h : n ≤ 1000000000) : r62 (n : Int) := by
  have h1 : (n : Int) ≤ 1000000000 := by omega
  exact ⟨Int.le_trans (by decide) (Int.natCast_nonneg n), Int.lt_of_le_of_lt h1 (by decide)⟩
theorem iRng1_ok {f : FA} {s : Ss} {h h1 : Hs} {n : Nat} (e : f s h = .ok [.int n] h1) (hn : n ≤ 1000000000) : iRng1 f s h = .ok (.rng 0 n) h1 := by
  have hz := r62_nat hn
  unfold iRng1
  rw [e, R.bind_ok]
  dsimp only
  rw [if_pos hz, Int.toNat_natCast]
theorem iRng1_okI {f : FA} {s : Ss} {h h1 : Hs} {n : Int} (e : f s h = .ok [.int n] h1) (h0 : 0 ≤ n) (hn : n ≤ 1000000000) : iRng1 f s h = .ok (.rng 0 n.toNat) h1 := by
  have : n = (n.toNat : Int) := by omega
  rw [this] at e
  rw [iRng1_ok e (by omega)]
theorem iRng2_ok {f : FA} {s : Ss} {h h1 : Hs} {i j : Int} (e : f s h = .ok [.int i, .int j] h1) (hi : -1000000000 ≤ i ∧ i ≤ 1000000000) (hj : -1000000000 ≤ j ∧ j ≤ 1000000000) : iRng2 f s h = .ok (.rng i (j - i).toNat) h1 := by
  unfold iRng2
  rw [e, R.bind_ok]
  have h1 : r62 i := ⟨Int.le_trans (by decide) hi.1, Int.lt_of_le_of_lt hi.2 (by decide)⟩
  have h2 : r62 j := ⟨Int.le_trans (by decide) hj.1, Int.lt_of_le_of_lt hj.2 (by decide)⟩
  dsimp only
  rw [if_pos ⟨h1, h2⟩]
theorem rgL_ints (lo : Int) (n : Nat) : rgL lo n = ((List.range n).map fun (i : Nat) => lo + (i : Int)).map D.int := by
  unfold rgL; simp
theorem seq_nx {a b : FS} {s s' : Ss} {h h' : Hs} (e : a s h = .nx s' h') : sSeq a b s h = b s' h' := by rw [x_seq, e]
theorem seq_rt {a b : FS} {s : Ss} {h h' : Hs} {d : D} (e : a s h = .rt d h') : sSeq a b s h = .rt d h' := by rw [x_seq, e]
theorem seq_er {a b : FS} {s s' : Ss} {h h' : Hs} {x : Xn} (e : a s h = .er x s' h') : sSeq a b s h = .er x s' h' := by rw [x_seq, e]
theorem loop_nx {g : Tg} {b : FS} {d : D} {ds : List D} {s s1 s2 : Ss} {h h2 : Hs} (eg : g d s h = some s1) (e : b s1 h = .nx s2 h2) : loopS g b (d :: ds) s h = loopS g b ds s2 h2 := by
  conv => lhs; unfold loopS
  rw [eg]; dsimp only; rw [e]; rfl
theorem loop_rt {g : Tg} {b : FS} {d : D} {ds : List D} {s s1 : Ss} {h h2 : Hs} {v : D} (eg : g d s h = some s1) (e : b s1 h = .rt v h2) : loopS g b (d :: ds) s h = .rt v h2 := by
  conv => lhs; unfold loopS
  rw [eg]; dsimp only; rw [e]; rfl
end WD
namespace WD
open PySem PySem.Spec PyProof.Rows L2
@[simp] theorem toP_int {h : Hs} {n : Nat} {i : Int} : toP h n (.int i) = some (.int i) := by cases n <;> rfl
@[simp] theorem toP_bl {h : Hs} {n : Nat} {i : Bool} : toP h n (.bl i) = some (.bool i) := by cases n <;> rfl
@[simp] theorem toP_non {h : Hs} {n : Nat} : toP h n .non = some .none := by cases n <;> rfl
theorem mapM_some {α β : Type} {f : α → Option β} {g : α → β} : ∀ {xs : List α}, (∀ x ∈ xs, f x = some (g x)) → xs.mapM f = some (xs.map g)
  | [], _ => rfl
  | x :: xs, hx => by
    rw [List.mapM_cons, hx x List.mem_cons_self, mapM_some fun y hy => hx y (List.mem_cons_of_mem _ hy)]
    rfl
theorem toP_tup {h : Hs} {n : Nat} {xs : List D} {ps : List PyData} (e : xs.mapM (toP h n) = some ps) : toP h (n + 1) (.tup xs) = some (.tuple ps) := by
  simp only [toP, e]; rfl
theorem toP_lst {h : Hs} {n : Nat} {d : D} {xs : List D} {ps : List PyData} (hd : lstOf h d = some xs) (e : xs.mapM (toP h n) = some ps) : toP h (n + 1) d = some (.list ps) := by
  cases d <;> first | (simp [lstOf, lstX] at hd; done) | (simp only [toP]; rw [hd]; simp only [e]; rfl)
theorem mapM_ints {h : Hs} {n : Nat} (ns : List Int) : (ns.map D.int).mapM (toP h n) = some (ns.map PyData.int) := by
  rw [mapM_some (g := fun d => match d with | .int i => PyData.int i | _ => .none) (by simp)]
  simp
theorem eqv_ints : ∀ ns ms : List Int, PyData.eqvAll (ns.map PyData.int) (ms.map PyData.int) = decide (ns = ms)
  | [], [] => by simp [PyData.eqvAll]
  | [], _ :: _ => by simp [PyData.eqvAll]
  | _ :: _, [] => by simp [PyData.eqvAll]
  | n :: ns, m :: ms => by
    simp only [List.map_cons, PyData.eqvAll, PyData.eqv, eqv_ints ns ms, List.cons.injEq]
    by_cases h1 : n = m <;> by_cases h2 : ns = ms <;> simp [h1, h2]
@[simp] theorem x_eqI {n : Bool} {h : Hs} {i j : Int} : eqD n (.int i) (.int j) h = .ok (.bl (if n = true then !(i == j) else i == j)) h := by
  simp [eqD, PyData.eqv]
theorem x_eqL {n : Bool} {h : Hs} {d e : D} {ns ms : List Int} (hd : lstOf h d = some (ns.map D.int)) (he : lstOf h e = some (ms.map D.int)) : eqD n d e h = .ok (.bl (if n = true then !decide (ns = ms) else decide (ns = ms))) h := by
  unfold eqD
  rw [toP_lst hd (mapM_ints ns), toP_lst he (mapM_ints ms)]
  simp [PyData.eqv, eqv_ints]
theorem x_eqT {n : Bool} {h : Hs} {ns ms : List Int} : eqD n (.tup (ns.map D.int)) (.tup (ms.map D.int)) h = .ok (.bl (if n = true then !decide (ns = ms) else decide (ns = ms))) h := by
  unfold eqD
  rw [toP_tup (mapM_ints ns), toP_tup (mapM_ints ms)]
  simp [PyData.eqv, eqv_ints]
@[simp] theorem locAt_cons0 {xs : List D} {t : Hs} : locAt (.lst xs :: t) 0 = some xs := rfl
theorem locAt_app {g : Hs} {n : Nat} {t : Hs} (hn : n < g.length) : locAt (g ++ t) n = locAt g n := by
  unfold locAt; rw [List.getElem?_append_left hn]
@[simp] theorem locAt_end {g : Hs} {xs : List D} {t : Hs} : locAt (g ++ (.lst xs :: t)) g.length = some xs := by
  unfold locAt; simp [O.items]
theorem locAt_lt {g : Hs} {n : Nat} {xs : List D} (e : locAt g n = some xs) : n < g.length := lt_of_get (locAt_some e)
@[simp] theorem set_end {α : Type} {g : List α} {o x : α} {t : List α} : (g ++ (o :: t)).set g.length x = g ++ (x :: t) := by
  rw [List.set_append_right _ _ (Nat.le_refl _)]; simp
theorem set_app {α : Type} {g t : List α} {n : Nat} {x : α} (hn : n < g.length) : (g ++ t).set n x = g.set n x ++ t := List.set_append_left _ _ hn
theorem locAt_set {g : Hs} {n : Nat} {xs : List D} (hn : n < g.length) : locAt (g.set n (.lst xs)) n = some xs := by
  unfold locAt; rw [List.getElem?_set_self hn]; rfl
theorem locAt_set_ne {g : Hs} {n m : Nat} {o : O} (hn : n ≠ m) : locAt (g.set n o) m = locAt g m := by
  unfold locAt; rw [List.getElem?_set_ne hn]
theorem atI_in {α : Type} {xs : List α} {i : Int} (h0 : 0 ≤ i) (h1 : i < xs.length) : atI xs i = some (xs[i.toNat]'(by omega)) := by
  have hl : i.toNat < xs.length := by omega
  have := atI_nat (xs := xs) (j := i.toNat) (v := xs[i.toNat]) (List.getElem?_eq_getElem hl)
  rwa [Int.toNat_of_nonneg h0] at this
theorem ixN_in {n : Nat} {i : Int} (h0 : 0 ≤ i) (h1 : i < n) : ixN n i = some i.toNat := by
  unfold ixN; rw [if_pos h0, if_pos h1]
theorem x_ix_row {h : Hs} {d e : D} {xs : List D} {i : Int} (hr : rowOf h d = some xs) (he : atI xs i = some e) : ixD d (.int i) h = .ok e h := by
  cases d <;> first | (simp [rowOf, lstOf, lstX] at hr; done) | (simp only [ixD]; rw [hr]; simp only [he])
/-- an item of a row of ints, somewhere in bounds -/
theorem x_ix_ints {h : Hs} {d : D} {ns : List Int} {i : Int} (hr : rowOf h d = some (ns.map D.int)) (h0 : 0 ≤ i) (h1 : i < ns.length) : ixD d (.int i) h = .ok (.int (ns[i.toNat]'(by omega))) h := by
  rw [x_ix_row hr (atI_in h0 (by simpa using h1))]
  simp
theorem small_of {i : Int} (h0 : 0 ≤ i) (h1 : i < 2 ^ 64) : smallI i := ⟨by omega, h1⟩
theorem small_nat {n : Nat} (h : n < 2 ^ 64) : smallI (n : Int) := ⟨by omega, by omega⟩
end WD
namespace WD
open PySem PySem.Spec PyProof.Rows L2
theorem set_same {g : Hs} {r : Nat} {xs : List D} (h : locAt g r = some xs) : g.set r (.lst xs) = g := by
  have h1 := locAt_some h
  have hl := lt_of_get h1
  apply List.ext_getElem?
  intro j
  by_cases hj : r = j
  · subst hj; rw [List.getElem?_set_self hl, h1]
  · rw [List.getElem?_set_ne hj]
theorem app_last {g : Hs} {xs : List D} {d : D} (hz : xs.length < sizeLine) : appendD (.loc g.length) [d] (g ++ [.lst xs]) = .ok .non (g ++ [.lst (xs ++ [d])]) := by
  simp [appendD, hz]
theorem und_of_prefix {h q : Hs} : TruncOk h.length h (h ++ q) := truncOk_app h q
def isW (lo hi : Int) : D → Bool
  | .int i => decide (lo ≤ i) && decide (i ≤ hi)
  | _ => false
def isRow : D → Bool
  | .tup _ => true
  | .lst _ => true
  | .scr _ => true
  | .loc _ => true
  | _ => false
theorem size_small {n : Nat} (h : n ≤ 1000000) : n ≤ sizeLine := Nat.le_trans h (by decide)
theorem row_not_ty {d : D} {h : Hs} {xs : List D} (hr : rowOf h d = some xs) : ∀ n, d ≠ .ty n := fun n e => by subst e; cases hr
theorem row_is {d : D} {h : Hs} {xs : List D} (hr : rowOf h d = some xs) : isRow d = true := by
  cases d <;> first | rfl | cases hr
/-- numbers -/
def NumOk (ns : List Int) : Prop := ns.length ≤ 8 ∧ ∀ n ∈ ns, 1 ≤ n ∧ n ≤ 40
def toI (ms : List Nat) : List Int := ms.map fun (m : Nat) => (m : Int)
@[simp] theorem toI_len (ms : List Nat) : (toI ms).length = ms.length := by simp [toI]
theorem toI_cons (m : Nat) (ms : List Nat) : toI (m :: ms) = (m : Int) :: toI ms := rfl
theorem mem_toI {n : Int} {ms : List Nat} (h : n ∈ toI ms) : ∃ m ∈ ms, (m : Int) = n := List.mem_map.mp h
def NumN (ms : List Nat) : Prop := ms.length ≤ 8 ∧ ∀ m ∈ ms, 1 ≤ m ∧ m ≤ 40
theorem NumN.ok {ms : List Nat} (h : NumN ms) : NumOk (toI ms) := by
  refine ⟨by simpa using h.1, fun n hn => ?_⟩
  obtain ⟨m, hm, rfl⟩ := mem_toI hn
  have := h.2 m hm
  omega
theorem log2_small {g : Nat} (h : g < 2 ^ 64) : g.log2 < 9000 := by
  by_cases h0 : g = 0
  · subst h0; decide
  · have := (Nat.log2_lt h0).mpr h
    omega
theorem sum_toI (ms : List Nat) : (toI ms).sum = ((ms.sum : Nat) : Int) := by
  induction ms with
  | nil => rfl
  | cons m ms ih => rw [toI_cons, List.sum_cons, List.sum_cons, ih]; omega
theorem split_last {α : Type} {l : List α} (h : 0 < l.length) : ∃ ds d, l = ds ++ [d] :=
  ⟨l.dropLast, l.getLast (by intro e; subst e; simp at h), (List.dropLast_concat_getLast _).symm⟩
theorem pop_head {ds : List Int} {d : Int} {t : Hs} : popD (.loc 0) [] (.lst ((ds ++ [d]).map D.int) :: t) = .ok (.int d) (.lst (ds.map D.int) :: t) := by
  simp [popD]
theorem pop_head' {ds : List Int} {d : Int} {t : Hs} : popD (.loc 0) [] (.lst (ds.map D.int ++ [D.int d]) :: t) = .ok (.int d) (.lst (ds.map D.int) :: t) := by
  have := pop_head (ds := ds) (d := d) (t := t)
  rwa [List.map_append] at this
@[simp] theorem lstOf_head {xs : List D} {t : Hs} : lstOf (.lst xs :: t) (.loc 0) = some xs := rfl
theorem locAt_cons_end {o : O} {r : Hs} {xs : List D} {t : Hs} : locAt (o :: (r ++ (.lst xs :: t))) (r.length + 1) = some xs := by
  have := locAt_end (g := o :: r) (xs := xs) (t := t)
  simpa using this
theorem trunc_head {o o' : O} {r t : Hs} (ho : o'.und (r.length + 1) = true) : TruncOk (o :: r).length (o :: r) (o' :: (r ++ t)) := fun i u hi e => by
  cases i with
  | zero => cases e; exact .inr ho
  | succ i =>
    simp only [List.length_cons] at hi
    rw [List.getElem?_cons_succ, List.getElem?_append_left (by omega)] at e
    exact .inl (by rw [List.getElem?_cons_succ]; exact e)
theorem exitT_head {o o' : O} {r t : Hs} {d : D} (ho : o'.und (r.length + 1) = true) (hd : d.und (r.length + 1) = true) : exitT (o :: r) d (o' :: (r ++ t)) = .ok d (o' :: r) := by
  unfold exitT
  rw [if_pos (trunc_head ho)]
  unfold frz1
  rw [if_pos (by simpa using hd)]
  simp
end WD
namespace WD
open PySem PySem.Spec PyProof.Rows L2
theorem ix_any {h : Hs} {d : D} {xs : List D} {i : Int} (hr : rowOf h d = some xs) (h0 : 0 ≤ i) (h1 : i < xs.length) : ∃ e ∈ xs, ixD d (.int i) h = .ok e h := by
  have hl : i.toNat < xs.length := by omega
  refine ⟨xs[i.toNat], List.getElem_mem hl, x_ix_row hr (atI_in h0 h1)⟩
end WD
namespace WD
open PySem PySem.Spec PyProof.Rows L2
theorem compA_step {g : Tg} {tt : FT} {te : FE} {s s2 : Ss} {k : List D → Hs → R D} {h h' : Hs} {d y : D} {ds acc : List D} (hg : g d s h = some s2) (ht : tt s2 h = .ok true h) (he : te s2 h = .ok y h') : compA g tt te s k (d :: ds) acc h = compA g tt te s k ds (acc ++ [y]) h' := by
  rw [compA]
  unfold stepC
  simp only [hg, ht, he, x_quiet_ok, R.bind_ok, if_true]
@[simp] theorem x_eqB {n : Bool} {h : Hs} {i j : Bool} : eqD n (.bl i) (.bl j) h = .ok (.bl (if n = true then !(i == j) else i == j)) h := by
  unfold eqD
  simp only [toP_bl]
  cases i <;> cases j <;> cases n <;> rfl
theorem toP_cons {h : Hs} {n : Nat} {y : D} {ys : List D} {p : PyData} (e : toP h (n + 1) (.lst (y :: ys)) = some p) : ∃ q qs, p = .list (q :: qs) := by
  have e' : ((y :: ys).mapM (toP h n)).map PyData.list = some p := e
  cases em : (y :: ys).mapM (toP h n) with
  | none => rw [em] at e'; cases e'
  | some r =>
    rw [em] at e'
    obtain ⟨a, b, _, _, rfl⟩ := mapM_cons_some em
    cases e'
    exact ⟨a, b, rfl⟩
theorem x_eqNil {h : Hs} {ys : List D} : eqD false (.lst ys) (.lst []) h = .ok (.bl ys.isEmpty) h := by
  unfold eqD
  have e0 : toP h 64 (.lst []) = some (.list []) := toP_lst (d := .lst []) (xs := []) rfl rfl
  cases ys with
  | nil => rw [e0]; rfl
  | cons y ys =>
    cases e : toP h 64 (.lst (y :: ys)) with
    | none =>
      rw [e0]
      simp only [x_lx_lst]
      rw [if_pos (by simp)]
      rfl
    | some p =>
      rw [e0]
      obtain ⟨q, qs, rfl⟩ := toP_cons e
      simp [PyData.eqv, PyData.eqvAll]
/-- closed data, whose row holds no class -/
def rowD : D → Option (List D)
  | .tup xs => some xs
  | .lst xs => some xs
  | .scr xs => some xs
  | _ => none
structure Fine (d : D) : Prop where
  und : d.und 0 = true
  ty : ∀ n, d ≠ .ty n
  row : ∀ xs, rowD d = some xs → xs.length ≤ 1000 ∧ ∀ x ∈ xs, ∀ n, x ≠ .ty n
theorem Fine.rowOf {d : D} (f : Fine d) {h : Hs} : rowOf h d = rowD d := by
  have := f.und
  cases d <;> first | rfl | (simp at this)
end WD
namespace WD
open PySem PySem.Spec PyProof.Rows L2
theorem exitT_headF {o o' : O} {r t : Hs} {xs : List D} (ho : o'.und (r.length + 1) = true) (hx : undL (r.length + 1) xs = true) : exitT (o :: r) (.loc (r.length + 1)) (o' :: (r ++ (.lst xs :: t))) = .ok (.lst xs) (o' :: r) := by
  unfold exitT
  rw [if_pos (trunc_head ho)]
  unfold frz1
  rw [if_neg (by simp [D.und])]
  have e : locAt (o' :: (r ++ (.lst xs :: t))) (r.length + 1) = some xs := locAt_cons_end
  simp [e, hx]
theorem set_cons_end {o x y : O} {r t : Hs} : (o :: (r ++ (x :: t))).set (r.length + 1) y = o :: (r ++ (y :: t)) := by
  have := set_end (g := o :: r) (o := x) (x := y) (t := t)
  simpa using this
theorem set_item {o : O} {r : Hs} {xs : List D} {i : Int} {v : D} (h0 : 0 ≤ i) (h1 : i < xs.length) : setD (.loc (r.length + 1)) (.int i) v (o :: (r ++ [.lst xs])) = some (o :: (r ++ [.lst (xs.set i.toNat v)])) := by
  unfold setD
  have e : locAt (o :: (r ++ [.lst xs])) (r.length + 1) = some xs := locAt_cons_end
  simp only [e, ixN_in h0 h1, set_cons_end]
theorem pop_var {i : Nat} {ds : List Int} {d : Int} {t : Hs} {s : Ss} (h1 : s[i]? = some (some (.loc 0))) : eML popD (eVar i) aNil s (.lst ((ds ++ [d]).map D.int) :: t) = .ok (.int d) (.lst (ds.map D.int) :: t) := by
  rw [x_ml, x_var, h1]
  simp only [R.bind_ok, lstOf_head, x_anil, pop_head, x_calm1_ok]
@[simp] theorem und_O_ints {n : Nat} {ds : List Int} : (O.lst (ds.map D.int)).und n = true := by simp [O.und]
end WD
namespace WD
open PySem PySem.Spec PyProof.Rows L2
@[simp] noncomputable def t_is_whole_0 : FS := (sRet (eAndF (eB isiD (aCons (eVar 0) (aCons (eC (.ty "int")) aNil))) (eAndF (eNotF (eB isiD (aCons (eVar 0) (aCons (eC (.ty "bool")) aNil)))) (eChain leD leD (eVar 1) (eVar 0) (eVar 2)))))
noncomputable def b_is_whole : FS :=
  t_is_whole_0
noncomputable def F_is_whole : List D → Hs → R D := runF 3 3 .trunc b_is_whole
@[simp] noncomputable def t_is_row_0 : FS := (sRet (eB isiD (aCons (eVar 0) (aCons (eTup (aCons (eC (.ty "list")) (aCons (eC (.ty "tuple")) aNil))) aNil))))
noncomputable def b_is_row : FS :=
  t_is_row_0
noncomputable def F_is_row : List D → Hs → R D := runF 1 1 .trunc b_is_row
@[simp] noncomputable def t_is_numbers_0a_0 : FS := (sRet (eC (.bl false)))
@[simp] noncomputable def t_is_numbers_0 : FS := (sIf (tOrF (tNotF (tV (eCall 1 F_is_row (aCons (eVar 0) aNil)))) (tV (eBin gtD (eB lenD (aCons (eVar 0) aNil)) (eC (.int 8))))) t_is_numbers_0a_0 sNext)
@[simp] noncomputable def t_is_numbers_1 : FS := (sRet (eBin (eqD false) (eComp false [1] (iRow (eVar 0)) (gVar 1) (tNotF (tV (eCall 3 F_is_whole (aCons (eVar 1) (aCons (eC (.int 1)) (aCons (eC (.int 40)) aNil)))))) (eVar 1)) (eLst false aNil)))
noncomputable def b_is_numbers : FS :=
  (sSeq t_is_numbers_0 t_is_numbers_1)
noncomputable def F_is_numbers : List D → Hs → R D := runF 1 2 .trunc b_is_numbers
@[simp] noncomputable def t_asked_numbers_0a_0 : FS := (sRaise "NoNumbers")
@[simp] noncomputable def t_asked_numbers_0 : FS := (sIf (tNotF (tV (eCall 1 F_is_numbers (aCons (eVar 0) aNil)))) t_asked_numbers_0a_0 sNext)
@[simp] noncomputable def t_asked_numbers_1 : FS := (sRet (eB tupleD (aCons (eVar 0) aNil)))
noncomputable def b_asked_numbers : FS :=
  (sSeq t_asked_numbers_0 t_asked_numbers_1)
noncomputable def F_asked_numbers : List D → Hs → R D := runF 1 1 .trunc b_asked_numbers
@[simp] noncomputable def t_divisor_0_0 : FS := (sPar 0 1 (aCons (eVar 1) (aCons (eBin modD (eVar 0) (eVar 1)) aNil)))
@[simp] noncomputable def k_divisor_0 : FS := t_divisor_0_0
@[simp] noncomputable def t_divisor_0 : FS := (sWhile (tV (eBin gtD (eVar 1) (eC (.int 0)))) k_divisor_0)
@[simp] noncomputable def t_divisor_1 : FS := (sRet (eVar 0))
noncomputable def b_divisor : FS :=
  (sSeq t_divisor_0 t_divisor_1)
noncomputable def F_divisor : List D → Hs → R D := runF 2 2 .trunc b_divisor
@[simp] noncomputable def t_common_of_0 : FS := (sSet 1 (eC (.int 1)))
@[simp] noncomputable def t_common_of_1_0 : FS := (sSet 1 (eBin mulD (eBin fdivD (eVar 1) (eCall 2 F_divisor (aCons (eVar 1) (aCons (eVar 2) aNil)))) (eVar 2)))
@[simp] noncomputable def k_common_of_1 : FS := t_common_of_1_0
@[simp] noncomputable def t_common_of_1 : FS := (sFor (iRow (eVar 0)) (gVar 2) k_common_of_1)
@[simp] noncomputable def t_common_of_2 : FS := (sRet (eVar 1))
noncomputable def b_common_of : FS :=
  (sSeq t_common_of_0 (sSeq t_common_of_1 t_common_of_2))
noncomputable def F_common_of : List D → Hs → R D := runF 1 3 .trunc b_common_of
@[simp] noncomputable def t_common_0 : FS := (sRet (eCall 1 F_common_of (aCons (eCall 1 F_asked_numbers (aCons (eVar 0) aNil)) aNil)))
noncomputable def b_common : FS :=
  t_common_0
noncomputable def F_common : List D → Hs → R D := runF 1 1 .trunc b_common
@[simp] noncomputable def t_wanted_0 : FS := (sSet 0 (eCall 1 F_asked_numbers (aCons (eVar 0) aNil)))
@[simp] noncomputable def t_wanted_1a_0 : FS := (sRaise "NoDays")
@[simp] noncomputable def t_wanted_1 : FS := (sIf (tNotF (tV (eCall 3 F_is_whole (aCons (eVar 1) (aCons (eC (.int 0)) (aCons (eC (.int 1000000)) aNil)))))) t_wanted_1a_0 sNext)
@[simp] noncomputable def t_wanted_2 : FS := (sRet (eB sumD (aCons (eComp false [2] (iRow (eVar 0)) (gVar 2) tYesF (eBin fdivD (eVar 1) (eVar 2))) aNil)))
noncomputable def b_wanted : FS :=
  (sSeq t_wanted_0 (sSeq t_wanted_1 t_wanted_2))
noncomputable def F_wanted : List D → Hs → R D := runF 2 3 .trunc b_wanted
@[simp] noncomputable def t_share_of_0 : FS := (sSet 1 (eCall 1 F_common_of (aCons (eVar 0) aNil)))
@[simp] noncomputable def t_share_of_1 : FS := (sSet 2 (eB sumD (aCons (eComp false [3] (iRow (eVar 0)) (gVar 3) tYesF (eBin fdivD (eVar 1) (eVar 3))) aNil)))
@[simp] noncomputable def t_share_of_2 : FS := (sSet 4 (eCall 2 F_divisor (aCons (eVar 2) (aCons (eVar 1) aNil))))
@[simp] noncomputable def t_share_of_3 : FS := (sRet (eTup (aCons (eBin fdivD (eVar 2) (eVar 4)) (aCons (eBin fdivD (eVar 1) (eVar 4)) aNil))))
noncomputable def b_share_of : FS :=
  (sSeq t_share_of_0 (sSeq t_share_of_1 (sSeq t_share_of_2 t_share_of_3)))
noncomputable def F_share_of : List D → Hs → R D := runF 1 5 .trunc b_share_of
@[simp] noncomputable def t_share_0 : FS := (sRet (eCall 1 F_share_of (aCons (eCall 1 F_asked_numbers (aCons (eVar 0) aNil)) aNil)))
noncomputable def b_share : FS :=
  t_share_0
noncomputable def F_share : List D → Hs → R D := runF 1 1 .trunc b_share
@[simp] noncomputable def t__law_deck_0 : FS := (sSet 2 (eB (listD true) (aCons (eVar 0) aNil)))
@[simp] noncomputable def t__law_deck_1a_0 : FS := (sSet 2 (eLst true (aCons (eC (.int 4)) aNil)))
@[simp] noncomputable def t__law_deck_1 : FS := (sIf (tV (eBin (eqD false) (eVar 2) (eLst false aNil))) t__law_deck_1a_0 sNext)
@[simp] noncomputable def t__law_deck_2 : FS := (sSet 3 (eBin modD (eBin ixD (eVar 2) (eC (.int 0))) (eC (.int 2))))
@[simp] noncomputable def t__law_deck_3 : FS := (sItem (eVar 2) (eC (.int 0)) (eBin fdivD (eBin ixD (eVar 2) (eC (.int 0))) (eC (.int 2))))
@[simp] noncomputable def t__law_deck_4 : FS := (sSet 4 (eLst true aNil))
@[simp] noncomputable def t__law_deck_5_0 : FS := (sSet 6 (eBin modD (eVar 5) (eB lenD (aCons (eVar 2) aNil))))
@[simp] noncomputable def t__law_deck_5_1 : FS := (sSet 7 (eBin modD (eBin ixD (eVar 2) (eVar 6)) (eC (.int 1000000))))
@[simp] noncomputable def t__law_deck_5_2a_0 : FS := (sSet 7 (eBin modD (eBin addD (eBin addD (eBin ixD (eVar 2) (eVar 6)) (eBin mulD (eBin mulD (eVar 5) (eVar 5)) (eC (.int 16807)))) (eBin mulD (eC (.int 3)) (eVar 5))) (eC (.int 2147483629))))
@[simp] noncomputable def t__law_deck_5_2a_1 : FS := (sSet 7 (eBin modD (eBin addD (eBin mulD (eVar 7) (eBin ixD (eLst false (aCons (eC (.int 48271)) (aCons (eC (.int 69621)) (aCons (eC (.int 39373)) (aCons (eC (.int 40692)) aNil))))) (eBin modD (eVar 5) (eC (.int 4))))) (eC (.int 7))) (eC (.int 2147483647))))
@[simp] noncomputable def t__law_deck_5_2a_2 : FS := (sSet 7 (eBin modD (eBin mulD (eVar 7) (eVar 7)) (eC (.int 2147483629))))
@[simp] noncomputable def t__law_deck_5_2b_0 : FS := (sItem (eVar 2) (eVar 6) (eBin fdivD (eBin ixD (eVar 2) (eVar 6)) (eC (.int 1000000))))
@[simp] noncomputable def t__law_deck_5_2 : FS := (sIf (tV (eBin (eqD false) (eVar 3) (eC (.int 0)))) (sSeq t__law_deck_5_2a_0 (sSeq t__law_deck_5_2a_1 t__law_deck_5_2a_2)) t__law_deck_5_2b_0)
@[simp] noncomputable def t__law_deck_5_3 : FS := (sExpr (eML appendD (eVar 4) (aCons (eVar 7) aNil)))
@[simp] noncomputable def k__law_deck_5 : FS := (sSeq t__law_deck_5_0 (sSeq t__law_deck_5_1 (sSeq t__law_deck_5_2 t__law_deck_5_3)))
@[simp] noncomputable def t__law_deck_5 : FS := (sFor (iRng1 (aCons (eVar 1) aNil)) (gVar 5) k__law_deck_5)
@[simp] noncomputable def t__law_deck_6 : FS := (sExpr (eML reverseD (eVar 4) aNil))
@[simp] noncomputable def t__law_deck_7 : FS := (sRet (eVar 4))
noncomputable def b__law_deck : FS :=
  (sSeq t__law_deck_0 (sSeq t__law_deck_1 (sSeq t__law_deck_2 (sSeq t__law_deck_3 (sSeq t__law_deck_4 (sSeq t__law_deck_5 (sSeq t__law_deck_6 t__law_deck_7)))))))
noncomputable def F__law_deck : List D → Hs → R D := runF 2 8 .move b__law_deck
@[simp] noncomputable def t__law_whole_0 : FS := (sRet (eAndF (eB isiD (aCons (eVar 0) (aCons (eC (.ty "int")) aNil))) (eAndF (eNotF (eB isiD (aCons (eVar 0) (aCons (eC (.ty "bool")) aNil)))) (eChain leD leD (eVar 1) (eVar 0) (eVar 2)))))
noncomputable def b__law_whole : FS :=
  t__law_whole_0
noncomputable def F__law_whole : List D → Hs → R D := runF 3 3 .trunc b__law_whole
@[simp] noncomputable def t__law_odd_0 : FS := (sSet 1 (eLst false (aCons (eC .non) (aCons (eC (.bl true)) (aCons (eC (.bl false)) (aCons (eC (.str "3")) (aCons (eC (.str "")) (aCons (eTup aNil) (aCons (eLst false aNil) (aCons (eC (.dic [] [])) (aCons (eTup (aCons (eC (.int 1)) aNil)) (aCons (eLst false (aCons (eLst false (aCons (eC (.int 2)) aNil)) aNil)) (aCons (negD (eC (.int 1))) (aCons (eBin powD (eC (.int 10)) (eC (.int 60))) (aCons (eBin subD (eC (.int 0)) (eBin powD (eC (.int 10)) (eC (.int 60)))) (aCons (eC (.str "abc")) (aCons (eC (.dic [.inl 1] [.int 2])) (aCons (eTup (aCons (eC .non) aNil)) aNil))))))))))))))))))
@[simp] noncomputable def t__law_odd_1 : FS := (sRet (eBin ixD (eVar 1) (eBin modD (eVar 0) (eC (.int 16)))))
noncomputable def b__law_odd : FS :=
  (sSeq t__law_odd_0 t__law_odd_1)
noncomputable def F__law_odd : List D → Hs → R D := runF 1 2 .trunc b__law_odd
@[simp] noncomputable def t__law_truth_0 : FS := (sRet (eAndF (eB isiD (aCons (eVar 0) (aCons (eC (.ty "bool")) aNil))) (eBin (eqD false) (eVar 0) (eVar 1))))
noncomputable def b__law_truth : FS :=
  t__law_truth_0
noncomputable def F__law_truth : List D → Hs → R D := runF 2 2 .trunc b__law_truth
@[simp] noncomputable def t__law_is_0a_0 : FS := (sRet (eC (.bl false)))
@[simp] noncomputable def t__law_is_0 : FS := (sIf (tOrF (tNotF (tV (eB isiD (aCons (eVar 0) (aCons (eTup (aCons (eC (.ty "list")) (aCons (eC (.ty "tuple")) aNil))) aNil))))) (tV (eBin gtD (eB lenD (aCons (eVar 0) aNil)) (eC (.int 8))))) t__law_is_0a_0 sNext)
@[simp] noncomputable def t__law_is_1 : FS := (sRet (eBin (eqD false) (eComp false [1] (iRow (eVar 0)) (gVar 1) (tNotF (tV (eCall 3 F__law_whole (aCons (eVar 1) (aCons (eC (.int 1)) (aCons (eC (.int 40)) aNil)))))) (eVar 1)) (eLst false aNil)))
noncomputable def b__law_is : FS :=
  (sSeq t__law_is_0 t__law_is_1)
noncomputable def F__law_is : List D → Hs → R D := runF 1 2 .trunc b__law_is
@[simp] noncomputable def t__law_row_0 : FS := (sSet 1 (eBin ixD (eLst false (aCons (eC (.int 0)) (aCons (eC (.int 1)) (aCons (eC (.int 8)) (aCons (eC (.int 9)) (aCons (eC (.int 2)) (aCons (eC (.int 3)) (aCons (eC (.int 4)) (aCons (eC (.int 7)) aNil))))))))) (eBin modD (eML popD (eVar 0) aNil) (eC (.int 8)))))
@[simp] noncomputable def t__law_row_1 : FS := (sSet 2 (eComp true [3] (iRng1 (aCons (eVar 1) aNil)) (gVar 3) tYesF (eBin addD (eC (.int 1)) (eBin modD (eML popD (eVar 0) aNil) (eC (.int 40))))))
@[simp] noncomputable def t__law_row_2 : FS := (sSet 4 (eML popD (eVar 0) aNil))
@[simp] noncomputable def t__law_row_3a_0 : FS := (sSet 5 (eBin modD (eBin fdivD (eVar 4) (eC (.int 2))) (eVar 1)))
@[simp] noncomputable def t__law_row_3a_1 : FS := (sItem (eVar 2) (eVar 5) (eBin ixD (eLst false (aCons (eC (.int 0)) (aCons (eC (.int 41)) (aCons (eC (.int 42)) (aCons (eCall 1 F__law_odd (aCons (eBin fdivD (eVar 4) (eC (.int 64))) aNil)) (aCons (eC (.bl true)) (aCons (eC (.int 40)) (aCons (eC (.int 1)) (aCons (negD (eC (.int 1))) aNil))))))))) (eBin modD (eBin fdivD (eVar 4) (eC (.int 4096))) (eC (.int 8)))))
@[simp] noncomputable def t__law_row_3 : FS := (sIf (tAndF (tV (eBin gtD (eVar 1) (eC (.int 0)))) (tV (eBin (eqD false) (eBin modD (eVar 4) (eC (.int 2))) (eC (.int 0))))) (sSeq t__law_row_3a_0 t__law_row_3a_1) sNext)
@[simp] noncomputable def t__law_row_4a_0 : FS := (sRet (eB tupleD (aCons (eVar 2) aNil)))
@[simp] noncomputable def t__law_row_4 : FS := (sIf (tV (eBin (eqD false) (eBin modD (eBin fdivD (eVar 4) (eC (.int 32768))) (eC (.int 2))) (eC (.int 0)))) t__law_row_4a_0 sNext)
@[simp] noncomputable def t__law_row_5 : FS := (sRet (eVar 2))
noncomputable def b__law_row : FS :=
  (sSeq t__law_row_0 (sSeq t__law_row_1 (sSeq t__law_row_2 (sSeq t__law_row_3 (sSeq t__law_row_4 t__law_row_5)))))
noncomputable def F__law_row : List D → Hs → R D := runF 1 6 .trunc b__law_row
@[simp] noncomputable def t__law_refusal_0_0a_0 : FS := (sExpr (eCall 1 F_share (aCons (eVar 1) aNil)))
@[simp] noncomputable def t__law_refusal_0_0b_0a_0 : FS := (sExpr (eCall 1 F_common (aCons (eVar 1) aNil)))
@[simp] noncomputable def t__law_refusal_0_0b_0b_0 : FS := (sExpr (eCall 2 F_wanted (aCons (eVar 1) (aCons (eVar 2) aNil))))
@[simp] noncomputable def t__law_refusal_0_0b_0 : FS := (sIf (tV (eBin (eqD false) (eVar 0) (eC (.int 1)))) t__law_refusal_0_0b_0a_0 t__law_refusal_0_0b_0b_0)
@[simp] noncomputable def t__law_refusal_0_0 : FS := (sIf (tV (eBin (eqD false) (eVar 0) (eC (.int 0)))) t__law_refusal_0_0a_0 t__law_refusal_0_0b_0)
@[simp] noncomputable def k__law_refusal_0 : FS := t__law_refusal_0_0
@[simp] noncomputable def t__law_refusal_0 : FS := (sTry "DaysError" 3 ["NoNumbers", "NoDays"] k__law_refusal_0 (fun y => (sRet (eLst false (aCons (eC (.bl (subX y "NoNumbers"))) (aCons (eC (.bl (subX y "NoDays"))) (aCons (eC (.bl (subX y "ValueError"))) aNil)))))))
@[simp] noncomputable def t__law_refusal_1 : FS := (sRet (eC (.str "told")))
noncomputable def b__law_refusal : FS :=
  (sSeq t__law_refusal_0 t__law_refusal_1)
noncomputable def F__law_refusal : List D → Hs → R D := runF 3 4 .trunc b__law_refusal
@[simp] noncomputable def t_law_0 : FS := (sSet 1 (eCall 2 F__law_deck (aCons (eVar 0) (aCons (eC (.int 90)) aNil))))
@[simp] noncomputable def t_law_1_0 : FS := (sSet 3 (eCall 1 F__law_row (aCons (eVar 1) aNil)))
@[simp] noncomputable def t_law_1_1a_0 : FS := (sSet 3 (eCall 1 F__law_odd (aCons (eML popD (eVar 1) aNil) aNil)))
@[simp] noncomputable def t_law_1_1 : FS := (sIf (tV (eBin gtD (eVar 2) (eC (.int 3)))) t_law_1_1a_0 sNext)
@[simp] noncomputable def t_law_1_2 : FS := (sSet 4 (eCall 1 F__law_is (aCons (eVar 3) aNil)))
@[simp] noncomputable def t_law_1_3a_0 : FS := (sRet (eC (.bl false)))
@[simp] noncomputable def t_law_1_3 : FS := (sIf (tNotF (tV (eCall 2 F__law_truth (aCons (eCall 1 F_is_numbers (aCons (eVar 3) aNil)) (aCons (eVar 4) aNil))))) t_law_1_3a_0 sNext)
@[simp] noncomputable def t_law_1_4 : FS := (sSet 5 (eBin ixD (eLst false (aCons (eC (.int 0)) (aCons (eC (.int 5)) (aCons (eC (.int 1000000)) (aCons (negD (eC (.int 1))) (aCons (eC .non) (aCons (eC (.bl true)) (aCons (eC (.str "7")) (aCons (eC (.int 1000001)) aNil))))))))) (eBin modD (eML popD (eVar 1) aNil) (eC (.int 8)))))
@[simp] noncomputable def t_law_1_5_0 : FS := (sSet 7 (eC (.str "told")))
@[simp] noncomputable def t_law_1_5_1a_0 : FS := (sSet 7 (eLst false (aCons (eC (.bl true)) (aCons (eC (.bl false)) (aCons (eC (.bl true)) aNil)))))
@[simp] noncomputable def t_law_1_5_1b_0a_0 : FS := (sSet 7 (eLst false (aCons (eC (.bl false)) (aCons (eC (.bl true)) (aCons (eC (.bl true)) aNil)))))
@[simp] noncomputable def t_law_1_5_1b_0 : FS := (sIf (tAndF (tV (eBin (eqD false) (eVar 6) (eC (.int 2)))) (tNotF (tV (eCall 3 F__law_whole (aCons (eVar 5) (aCons (eC (.int 0)) (aCons (eC (.int 1000000)) aNil))))))) t_law_1_5_1b_0a_0 sNext)
@[simp] noncomputable def t_law_1_5_1 : FS := (sIf (tNotF (tV (eVar 4))) t_law_1_5_1a_0 t_law_1_5_1b_0)
@[simp] noncomputable def t_law_1_5_2a_0 : FS := (sRet (eC (.bl false)))
@[simp] noncomputable def t_law_1_5_2 : FS := (sIf (tV (eBin (eqD true) (eCall 3 F__law_refusal (aCons (eVar 6) (aCons (eVar 3) (aCons (eVar 5) aNil)))) (eVar 7))) t_law_1_5_2a_0 sNext)
@[simp] noncomputable def k_law_1_5 : FS := (sSeq t_law_1_5_0 (sSeq t_law_1_5_1 t_law_1_5_2))
@[simp] noncomputable def t_law_1_5 : FS := (sFor (iRng1 (aCons (eC (.int 3)) aNil)) (gVar 6) k_law_1_5)
@[simp] noncomputable def k_law_1 : FS := (sSeq t_law_1_0 (sSeq t_law_1_1 (sSeq t_law_1_2 (sSeq t_law_1_3 (sSeq t_law_1_4 t_law_1_5)))))
@[simp] noncomputable def t_law_1 : FS := (sFor (iRng1 (aCons (eC (.int 6)) aNil)) (gVar 2) k_law_1)
@[simp] noncomputable def t_law_2 : FS := (sRet (eC (.bl true)))
noncomputable def b_law : FS :=
  (sSeq t_law_0 (sSeq t_law_1 t_law_2))
noncomputable def F_law : List D → Hs → R D := runF 1 8 .trunc b_law
end WD
namespace WD
open PySem PySem.Spec PyProof.Rows L2
def topS (i : Nat) : Stmt := PySem.Challenge.pw_withindays_k01_numbers_told.main.body.getD i (.Pass ⟨0, 0, 0, 0⟩)
abbrev s_is_whole : Stmt := topS 5
theorem sc_is_whole : FnScope ["thing", "least", "most"] ["thing", "least", "most"] (defScope s_is_whole) := ⟨rfl, rfl, rfl, by decide +kernel, rfl, by decide +kernel, by decide +kernel⟩
abbrev s_is_row : Stmt := topS 6
theorem sc_is_row : FnScope ["thing"] ["thing"] (defScope s_is_row) := ⟨rfl, rfl, rfl, by decide +kernel, rfl, by decide +kernel, by decide +kernel⟩
abbrev s_is_numbers : Stmt := topS 11
theorem sc_is_numbers : FnScope ["thing", "one"] ["thing"] (defScope s_is_numbers) := ⟨rfl, rfl, rfl, by decide +kernel, rfl, by decide +kernel, by decide +kernel⟩
abbrev s_asked_numbers : Stmt := topS 12
theorem sc_asked_numbers : FnScope ["thing"] ["thing"] (defScope s_asked_numbers) := ⟨rfl, rfl, rfl, by decide +kernel, rfl, by decide +kernel, by decide +kernel⟩
abbrev s_divisor : Stmt := topS 13
theorem sc_divisor : FnScope ["one", "other"] ["one", "other"] (defScope s_divisor) := ⟨rfl, rfl, rfl, by decide +kernel, rfl, by decide +kernel, by decide +kernel⟩
abbrev s_common_of : Stmt := topS 14
theorem sc_common_of : FnScope ["numbers", "found", "number"] ["numbers"] (defScope s_common_of) := ⟨rfl, rfl, rfl, by decide +kernel, rfl, by decide +kernel, by decide +kernel⟩
abbrev s_common : Stmt := topS 15
theorem sc_common : FnScope ["numbers"] ["numbers"] (defScope s_common) := ⟨rfl, rfl, rfl, by decide +kernel, rfl, by decide +kernel, by decide +kernel⟩
abbrev s_wanted : Stmt := topS 16
theorem sc_wanted : FnScope ["numbers", "days", "number"] ["numbers", "days"] (defScope s_wanted) := ⟨rfl, rfl, rfl, by decide +kernel, rfl, by decide +kernel, by decide +kernel⟩
abbrev s_share_of : Stmt := topS 18
theorem sc_share_of : FnScope ["numbers", "below", "above", "number", "by"] ["numbers"] (defScope s_share_of) := ⟨rfl, rfl, rfl, by decide +kernel, rfl, by decide +kernel, by decide +kernel⟩
abbrev s_share : Stmt := topS 19
theorem sc_share : FnScope ["numbers"] ["numbers"] (defScope s_share) := ⟨rfl, rfl, rfl, by decide +kernel, rfl, by decide +kernel, by decide +kernel⟩
abbrev s__law_deck : Stmt := topS 21
theorem sc__law_deck : FnScope ["_law_script", "_law_many", "_law_row_here", "_law_odd_here", "_law_deck_here", "_law_k", "_law_at", "_law_one"] ["_law_script", "_law_many"] (defScope s__law_deck) := ⟨rfl, rfl, rfl, by decide +kernel, rfl, by decide +kernel, by decide +kernel⟩
abbrev s__law_whole : Stmt := topS 22
theorem sc__law_whole : FnScope ["_law_thing", "_law_least", "_law_most"] ["_law_thing", "_law_least", "_law_most"] (defScope s__law_whole) := ⟨rfl, rfl, rfl, by decide +kernel, rfl, by decide +kernel, by decide +kernel⟩
abbrev s__law_odd : Stmt := topS 23
theorem sc__law_odd : FnScope ["_law_draw", "_law_some"] ["_law_draw"] (defScope s__law_odd) := ⟨rfl, rfl, rfl, by decide +kernel, rfl, by decide +kernel, by decide +kernel⟩
abbrev s__law_truth : Stmt := topS 24
theorem sc__law_truth : FnScope ["_law_found", "_law_due"] ["_law_found", "_law_due"] (defScope s__law_truth) := ⟨rfl, rfl, rfl, by decide +kernel, rfl, by decide +kernel, by decide +kernel⟩
abbrev s__law_is : Stmt := topS 25
theorem sc__law_is : FnScope ["_law_thing", "_law_one"] ["_law_thing"] (defScope s__law_is) := ⟨rfl, rfl, rfl, by decide +kernel, rfl, by decide +kernel, by decide +kernel⟩
abbrev s__law_row : Stmt := topS 26
theorem sc__law_row : FnScope ["_law_deck_here", "_law_many", "_law_found", "_law_k", "_law_draw", "_law_at"] ["_law_deck_here"] (defScope s__law_row) := ⟨rfl, rfl, rfl, by decide +kernel, rfl, by decide +kernel, by decide +kernel⟩
abbrev s__law_refusal : Stmt := topS 27
theorem sc__law_refusal : FnScope ["_law_which", "_law_thing", "_law_days", "error"] ["_law_which", "_law_thing", "_law_days"] (defScope s__law_refusal) := ⟨rfl, rfl, rfl, by decide +kernel, rfl, by decide +kernel, by decide +kernel⟩
abbrev s_law : Stmt := topS 28
theorem sc_law : FnScope ["_law_script", "_law_deck_here", "_law_turn", "_law_thing", "_law_due", "_law_days", "_law_which", "_law_wanted_here"] ["_law_script"] (defScope s_law) := ⟨rfl, rfl, rfl, by decide +kernel, rfl, by decide +kernel, by decide +kernel⟩
structure Adr where
  f_is_whole : Addr
  d_is_whole : FuncData
  f_is_row : Addr
  d_is_row : FuncData
  f_is_numbers : Addr
  d_is_numbers : FuncData
  f_asked_numbers : Addr
  d_asked_numbers : FuncData
  f_divisor : Addr
  d_divisor : FuncData
  f_common_of : Addr
  d_common_of : FuncData
  f_common : Addr
  d_common : FuncData
  f_wanted : Addr
  d_wanted : FuncData
  f_share_of : Addr
  d_share_of : FuncData
  f_share : Addr
  d_share : FuncData
  f__law_deck : Addr
  d__law_deck : FuncData
  f__law_whole : Addr
  d__law_whole : FuncData
  f__law_odd : Addr
  d__law_odd : FuncData
  f__law_truth : Addr
  d__law_truth : FuncData
  f__law_is : Addr
  d__law_is : FuncData
  f__law_row : Addr
  d__law_row : FuncData
  f__law_refusal : Addr
  d__law_refusal : FuncData
  f_law : Addr
  d_law : FuncData
  c_DaysError : Addr
  c_NoNumbers : Addr
  c_NoDays : Addr
  t_GREATEST : Tok
  t_MOST_DAYS : Tok
  t_MOST_THINGS : Tok
structure Txt (K : PySem.W.Frag) (mg : Str → Option Value) (A : Adr) : Prop where
  u_is_whole : Fun K "is_whole" "is_whole" s_is_whole A.f_is_whole A.d_is_whole
  g_is_whole : mg "is_whole" = some (.ref A.f_is_whole)
  b_is_whole : Binds K A.d_is_whole ["thing", "least", "most"] []
  u_is_row : Fun K "is_row" "is_row" s_is_row A.f_is_row A.d_is_row
  g_is_row : mg "is_row" = some (.ref A.f_is_row)
  b_is_row : Binds K A.d_is_row ["thing"] []
  u_is_numbers : Fun K "is_numbers" "is_numbers" s_is_numbers A.f_is_numbers A.d_is_numbers
  g_is_numbers : mg "is_numbers" = some (.ref A.f_is_numbers)
  b_is_numbers : Binds K A.d_is_numbers ["thing"] []
  u_asked_numbers : Fun K "asked_numbers" "asked_numbers" s_asked_numbers A.f_asked_numbers A.d_asked_numbers
  g_asked_numbers : mg "asked_numbers" = some (.ref A.f_asked_numbers)
  b_asked_numbers : Binds K A.d_asked_numbers ["thing"] []
  u_divisor : Fun K "divisor" "divisor" s_divisor A.f_divisor A.d_divisor
  g_divisor : mg "divisor" = some (.ref A.f_divisor)
  b_divisor : Binds K A.d_divisor ["one", "other"] []
  u_common_of : Fun K "common_of" "common_of" s_common_of A.f_common_of A.d_common_of
  g_common_of : mg "common_of" = some (.ref A.f_common_of)
  b_common_of : Binds K A.d_common_of ["numbers"] []
  u_common : Fun K "common" "common" s_common A.f_common A.d_common
  g_common : mg "common" = some (.ref A.f_common)
  b_common : Binds K A.d_common ["numbers"] []
  u_wanted : Fun K "wanted" "wanted" s_wanted A.f_wanted A.d_wanted
  g_wanted : mg "wanted" = some (.ref A.f_wanted)
  b_wanted : Binds K A.d_wanted ["numbers", "days"] []
  u_share_of : Fun K "share_of" "share_of" s_share_of A.f_share_of A.d_share_of
  g_share_of : mg "share_of" = some (.ref A.f_share_of)
  b_share_of : Binds K A.d_share_of ["numbers"] []
  u_share : Fun K "share" "share" s_share A.f_share A.d_share
  g_share : mg "share" = some (.ref A.f_share)
  b_share : Binds K A.d_share ["numbers"] []
  u__law_deck : Fun K "_law_deck" "_law_deck" s__law_deck A.f__law_deck A.d__law_deck
  g__law_deck : mg "_law_deck" = some (.ref A.f__law_deck)
  b__law_deck : Binds K A.d__law_deck ["_law_script", "_law_many"] []
  u__law_whole : Fun K "_law_whole" "_law_whole" s__law_whole A.f__law_whole A.d__law_whole
  g__law_whole : mg "_law_whole" = some (.ref A.f__law_whole)
  b__law_whole : Binds K A.d__law_whole ["_law_thing", "_law_least", "_law_most"] []
  u__law_odd : Fun K "_law_odd" "_law_odd" s__law_odd A.f__law_odd A.d__law_odd
  g__law_odd : mg "_law_odd" = some (.ref A.f__law_odd)
  b__law_odd : Binds K A.d__law_odd ["_law_draw"] []
  u__law_truth : Fun K "_law_truth" "_law_truth" s__law_truth A.f__law_truth A.d__law_truth
  g__law_truth : mg "_law_truth" = some (.ref A.f__law_truth)
  b__law_truth : Binds K A.d__law_truth ["_law_found", "_law_due"] []
  u__law_is : Fun K "_law_is" "_law_is" s__law_is A.f__law_is A.d__law_is
  g__law_is : mg "_law_is" = some (.ref A.f__law_is)
  b__law_is : Binds K A.d__law_is ["_law_thing"] []
  u__law_row : Fun K "_law_row" "_law_row" s__law_row A.f__law_row A.d__law_row
  g__law_row : mg "_law_row" = some (.ref A.f__law_row)
  b__law_row : Binds K A.d__law_row ["_law_deck_here"] []
  u__law_refusal : Fun K "_law_refusal" "_law_refusal" s__law_refusal A.f__law_refusal A.d__law_refusal
  g__law_refusal : mg "_law_refusal" = some (.ref A.f__law_refusal)
  b__law_refusal : Binds K A.d__law_refusal ["_law_which", "_law_thing", "_law_days"] []
  u_law : Fun K "law" "law" s_law A.f_law A.d_law
  g_law : mg "law" = some (.ref A.f_law)
  b_law : Binds K A.d_law ["_law_script"] []
  z_ValueError : mg "ValueError" = none
  z_bool : mg "bool" = none
  z_int : mg "int" = none
  z_isinstance : mg "isinstance" = none
  z_len : mg "len" = none
  z_list : mg "list" = none
  z_range : mg "range" = none
  z_sum : mg "sum" = none
  z_tuple : mg "tuple" = none
  x_DaysError : Xc K mg "DaysError" A.c_DaysError
  x_NoNumbers : Xc K mg "NoNumbers" A.c_NoNumbers
  x_NoDays : Xc K mg "NoDays" A.c_NoDays
  e_NoNumbers : ExcC K A.c_NoNumbers
  e_NoDays : ExcC K A.c_NoDays
  m_NoNumbers_DaysError : PySem.W.exmOne K (.ref A.c_NoNumbers) (.ref A.c_DaysError) = some (subX "NoNumbers" "DaysError")
  m_NoDays_DaysError : PySem.W.exmOne K (.ref A.c_NoDays) (.ref A.c_DaysError) = some (subX "NoDays" "DaysError")
  k_NoNumbers_NoDays : PySem.W.kitOne K (.ref A.c_NoNumbers) (.ref A.c_NoDays) = some (subX "NoNumbers" "NoDays")
  k_NoDays_NoDays : PySem.W.kitOne K (.ref A.c_NoDays) (.ref A.c_NoDays) = some (subX "NoDays" "NoDays")
  k_NoNumbers_NoNumbers : PySem.W.kitOne K (.ref A.c_NoNumbers) (.ref A.c_NoNumbers) = some (subX "NoNumbers" "NoNumbers")
  k_NoDays_NoNumbers : PySem.W.kitOne K (.ref A.c_NoDays) (.ref A.c_NoNumbers) = some (subX "NoDays" "NoNumbers")
  k_NoNumbers_ValueError : PySem.W.kitOne K (.ref A.c_NoNumbers) (.type "ValueError") = some (subX "NoNumbers" "ValueError")
  k_NoDays_ValueError : PySem.W.kitOne K (.ref A.c_NoDays) (.type "ValueError") = some (subX "NoDays" "ValueError")
  c_GREATEST : mg "GREATEST" = some (.int 40 A.t_GREATEST)
  c_MOST_DAYS : mg "MOST_DAYS" = some (.int 1000000 A.t_MOST_DAYS)
  c_MOST_THINGS : mg "MOST_THINGS" = some (.int 8 A.t_MOST_THINGS)
section
variable {P : Program} {w : World} {K : PySem.W.Frag} {mg : Str → Option Value} {base : Heap} {A : Adr}
theorem cls_at (T : Txt K mg A) : ∀ y ∈ (["NoNumbers", "NoDays"] : List Str), (y = "NoNumbers" ∧ clsV mg ⟨y, none⟩ = .ref A.c_NoNumbers) ∨ (y = "NoDays" ∧ clsV mg ⟨y, none⟩ = .ref A.c_NoDays) := by
  intro y hy
  simp only [List.mem_cons, List.not_mem_nil, or_false] at hy
  rcases hy with rfl | rfl
  · exact .inl ⟨rfl, by unfold clsV; rw [T.x_NoNumbers.g]; rfl⟩
  · exact .inr (⟨rfl, by unfold clsV; rw [T.x_NoDays.g]; rfl⟩)
theorem exc_at (T : Txt K mg A) : ∀ y ∈ (["NoNumbers", "NoDays"] : List Str), ∃ Dc, clsV mg ⟨y, none⟩ = .ref Dc ∧ ExcC K Dc := by
  intro y hy
  rcases cls_at T y hy with ⟨rfl, e⟩ | ⟨rfl, e⟩
  · exact ⟨A.c_NoNumbers, e, T.e_NoNumbers⟩
  · exact ⟨A.c_NoDays, e, T.e_NoDays⟩
theorem exm_DaysError (T : Txt K mg A) : ∀ y ∈ (["NoNumbers", "NoDays"] : List Str), PySem.W.exmOne K (clsV mg ⟨y, none⟩) (.ref A.c_DaysError) = some (subX y "DaysError") := by
  intro y hy
  rcases cls_at T y hy with ⟨rfl, e⟩ | ⟨rfl, e⟩
  · rw [e]; exact T.m_NoNumbers_DaysError
  · rw [e]; exact T.m_NoDays_DaysError
theorem kit_NoDays (T : Txt K mg A) : ∀ y ∈ (["NoNumbers", "NoDays"] : List Str), PySem.W.kitOne K (clsV mg ⟨y, none⟩) (.ref A.c_NoDays) = some (subX y "NoDays") := by
  intro y hy
  rcases cls_at T y hy with ⟨rfl, e⟩ | ⟨rfl, e⟩
  · rw [e]; exact T.k_NoNumbers_NoDays
  · rw [e]; exact T.k_NoDays_NoDays
theorem kit_NoNumbers (T : Txt K mg A) : ∀ y ∈ (["NoNumbers", "NoDays"] : List Str), PySem.W.kitOne K (clsV mg ⟨y, none⟩) (.ref A.c_NoNumbers) = some (subX y "NoNumbers") := by
  intro y hy
  rcases cls_at T y hy with ⟨rfl, e⟩ | ⟨rfl, e⟩
  · rw [e]; exact T.k_NoNumbers_NoNumbers
  · rw [e]; exact T.k_NoDays_NoNumbers
theorem kit_ValueError (T : Txt K mg A) : ∀ y ∈ (["NoNumbers", "NoDays"] : List Str), PySem.W.kitOne K (clsV mg ⟨y, none⟩) (.type "ValueError") = some (subX y "ValueError") := by
  intro y hy
  rcases cls_at T y hy with ⟨rfl, e⟩ | ⟨rfl, e⟩
  · rw [e]; exact T.k_NoNumbers_ValueError
  · rw [e]; exact T.k_NoDays_ValueError
theorem ok_is_whole (T : Txt K mg A) : FnOk P w K mg base (L2.CX P w) 1 A.f_is_whole A.d_is_whole ["thing", "least", "most"] (spF K mg 3 F_is_whole) := by
    refine fn_ok (k := 0) .trunc T.u_is_whole sc_is_whole fun cdv Ar outer s H E hr => ?_
    have tk := takes_of (X := cxOf (L2.CX P w) P w K mg base ["thing", "least", "most"] "is_whole" (defScope s_is_whole) A.f_is_whole cdv Ar outer s H E) rfl rfl rfl rfl
    have hp := passes_of (X := cxOf (L2.CX P w) P w K mg base ["thing", "least", "most"] "is_whole" (defScope s_is_whole) A.f_is_whole cdv Ar outer s H E) rfl
    exact (vss_one (vs_ret (ve_and (ve_callB cd_isi (by rfl) T.z_isinstance (by decide +kernel) (va_cons (ve_var 0) (va_cons (ve_ty (by rfl) T.z_int (by decide +kernel)) va_nil))) (ve_and (ve_not (ve_callB cd_isi (by rfl) T.z_isinstance (by decide +kernel) (va_cons (ve_var 0) (va_cons (ve_ty (by rfl) T.z_bool (by decide +kernel)) va_nil)))) (ve_one (ve_chain od_le od_le (ve_var 1) (ve_var 0) (ve_var 2)))))))
theorem ok_is_row (T : Txt K mg A) : FnOk P w K mg base (L2.CX P w) 1 A.f_is_row A.d_is_row ["thing"] (spF K mg 1 F_is_row) := by
    refine fn_ok (k := 0) .trunc T.u_is_row sc_is_row fun cdv Ar outer s H E hr => ?_
    have tk := takes_of (X := cxOf (L2.CX P w) P w K mg base ["thing"] "is_row" (defScope s_is_row) A.f_is_row cdv Ar outer s H E) rfl rfl rfl rfl
    have hp := passes_of (X := cxOf (L2.CX P w) P w K mg base ["thing"] "is_row" (defScope s_is_row) A.f_is_row cdv Ar outer s H E) rfl
    exact (vss_one (vs_ret (ve_callB cd_isi (by rfl) T.z_isinstance (by decide +kernel) (va_cons (ve_var 0) (va_cons (ve_tup (va_cons (ve_ty (by rfl) T.z_list (by decide +kernel)) (va_cons (ve_ty (by rfl) T.z_tuple (by decide +kernel)) va_nil))) va_nil)))))
theorem ok_is_numbers (T : Txt K mg A) : FnOk P w K mg base (L2.CX P w) 2 A.f_is_numbers A.d_is_numbers ["thing"] (spF K mg 1 F_is_numbers) := by
    refine fn_ok (k := 1) .trunc T.u_is_numbers sc_is_numbers fun cdv Ar outer s H E hr => ?_
    have tk := takes_of (X := cxOf (L2.CX P w) P w K mg base ["thing", "one"] "is_numbers" (defScope s_is_numbers) A.f_is_numbers cdv Ar outer s H E) rfl rfl rfl rfl
    have hp := passes_of (X := cxOf (L2.CX P w) P w K mg base ["thing", "one"] "is_numbers" (defScope s_is_numbers) A.f_is_numbers cdv Ar outer s H E) rfl
    exact (vss_cons (vs_if (vt_w (vw_or (vt_not (vt_val (ve_call (ok_is_row T) (hr.mono (by decide)) (by rfl) T.g_is_row T.u_is_row.kp T.b_is_row tk (va_cons (ve_var 0) va_nil)))) (vw_or1 (vt_cmp od_gt (ve_callB cd_len (by rfl) T.z_len (by decide +kernel) (va_cons (ve_var 0) va_nil)) (ve_globI (by rfl) T.c_MOST_THINGS))))) (vss_one (vs_ret ve_bl)) vss_nil)
      (vss_one (vs_ret (ve_cmp (od_eq hr.units) (ve_comp false [("one", 1)] rfl sc_is_numbers.nd (vi_row (ve_var 0)) (blkOk_by (own := [("one", 1)]) (N := ["thing", "one"]) (sc := defScope s_is_numbers) (by decide +kernel)) (fun _ _ _ _ _ => (vg_name 1 sc_is_numbers.nd)) (fun _ _ _ _ _ => (vts_one (vt_not (vt_val (ve_call (ok_is_whole T) (hr.mono (by decide)) (by rfl) T.g_is_whole T.u_is_whole.kp T.b_is_whole takes0 (va_cons (ve_var 1) (va_cons ve_int (va_cons (ve_globI (by rfl) T.c_GREATEST) va_nil)))))))) (fun _ _ _ _ _ => (ve_var 1))) (ve_lst false va_nil)))))
theorem ok_asked_numbers (T : Txt K mg A) : FnOk P w K mg base (L2.CX P w) 3 A.f_asked_numbers A.d_asked_numbers ["thing"] (spF K mg 1 F_asked_numbers) := by
    refine fn_ok (k := 2) .trunc T.u_asked_numbers sc_asked_numbers fun cdv Ar outer s H E hr => ?_
    have tk := takes_of (X := cxOf (L2.CX P w) P w K mg base ["thing"] "asked_numbers" (defScope s_asked_numbers) A.f_asked_numbers cdv Ar outer s H E) rfl rfl rfl rfl
    have hp := passes_of (X := cxOf (L2.CX P w) P w K mg base ["thing"] "asked_numbers" (defScope s_asked_numbers) A.f_asked_numbers cdv Ar outer s H E) rfl
    exact (vss_cons (vs_if (vt_not (vt_val (ve_call (ok_is_numbers T) (hr.mono (by decide)) (by rfl) T.g_is_numbers T.u_is_numbers.kp T.b_is_numbers tk (va_cons (ve_var 0) va_nil)))) (vss_one (vs_raise T.x_NoNumbers (by rfl) rfl tk)) vss_nil)
      (vss_one (vs_ret (ve_callTy cd_tuple (by rfl) T.z_tuple (by decide +kernel) (va_cons (ve_var 0) va_nil)))))
theorem ok_divisor (T : Txt K mg A) : FnOk P w K mg base (L2.CX P w) 1 A.f_divisor A.d_divisor ["one", "other"] (spF K mg 2 F_divisor) := by
    refine fn_ok (k := 0) .trunc T.u_divisor sc_divisor fun cdv Ar outer s H E hr => ?_
    have tk := takes_of (X := cxOf (L2.CX P w) P w K mg base ["one", "other"] "divisor" (defScope s_divisor) A.f_divisor cdv Ar outer s H E) rfl rfl rfl rfl
    have hp := passes_of (X := cxOf (L2.CX P w) P w K mg base ["one", "other"] "divisor" (defScope s_divisor) A.f_divisor cdv Ar outer s H E) rfl
    exact (vss_cons (vs_while hp (vt_cmp od_gt (ve_var 1) ve_int) (vss_one (vs_par 0 1 rfl sc_divisor.nd (va_cons (ve_var 1) (va_cons (ve_bin od_mod (ve_var 0) (ve_var 1)) va_nil)))))
      (vss_one (vs_ret (ve_var 0))))
theorem ok_common_of (T : Txt K mg A) : FnOk P w K mg base (L2.CX P w) 2 A.f_common_of A.d_common_of ["numbers"] (spF K mg 1 F_common_of) := by
    refine fn_ok (k := 1) .trunc T.u_common_of sc_common_of fun cdv Ar outer s H E hr => ?_
    have tk := takes_of (X := cxOf (L2.CX P w) P w K mg base ["numbers", "found", "number"] "common_of" (defScope s_common_of) A.f_common_of cdv Ar outer s H E) rfl rfl rfl rfl
    have hp := passes_of (X := cxOf (L2.CX P w) P w K mg base ["numbers", "found", "number"] "common_of" (defScope s_common_of) A.f_common_of cdv Ar outer s H E) rfl
    exact (vss_cons (vs_set 1 sc_common_of.nd ve_int)
      (vss_cons (vs_for (vs := [2]) hp rfl (vi_row (ve_var 0)) (vg_name 2 sc_common_of.nd) (vss_one (vs_set 1 sc_common_of.nd (ve_bin od_mul (ve_bin od_fdiv (ve_var 1) (ve_call (ok_divisor T) (hr.mono (by decide)) (by rfl) T.g_divisor T.u_divisor.kp T.b_divisor tk (va_cons (ve_var 1) (va_cons (ve_var 2) va_nil)))) (ve_var 2)))))
      (vss_one (vs_ret (ve_var 1)))))
theorem ok_common (T : Txt K mg A) : FnOk P w K mg base (L2.CX P w) 4 A.f_common A.d_common ["numbers"] (spF K mg 1 F_common) := by
    refine fn_ok (k := 3) .trunc T.u_common sc_common fun cdv Ar outer s H E hr => ?_
    have tk := takes_of (X := cxOf (L2.CX P w) P w K mg base ["numbers"] "common" (defScope s_common) A.f_common cdv Ar outer s H E) rfl rfl rfl rfl
    have hp := passes_of (X := cxOf (L2.CX P w) P w K mg base ["numbers"] "common" (defScope s_common) A.f_common cdv Ar outer s H E) rfl
    exact (vss_one (vs_ret (ve_call (ok_common_of T) (hr.mono (by decide)) (by rfl) T.g_common_of T.u_common_of.kp T.b_common_of tk (va_cons (ve_call (ok_asked_numbers T) (hr.mono (by decide)) (by rfl) T.g_asked_numbers T.u_asked_numbers.kp T.b_asked_numbers tk (va_cons (ve_var 0) va_nil)) va_nil))))
theorem ok_wanted (T : Txt K mg A) : FnOk P w K mg base (L2.CX P w) 4 A.f_wanted A.d_wanted ["numbers", "days"] (spF K mg 2 F_wanted) := by
    refine fn_ok (k := 3) .trunc T.u_wanted sc_wanted fun cdv Ar outer s H E hr => ?_
    have tk := takes_of (X := cxOf (L2.CX P w) P w K mg base ["numbers", "days", "number"] "wanted" (defScope s_wanted) A.f_wanted cdv Ar outer s H E) rfl rfl rfl rfl
    have hp := passes_of (X := cxOf (L2.CX P w) P w K mg base ["numbers", "days", "number"] "wanted" (defScope s_wanted) A.f_wanted cdv Ar outer s H E) rfl
    exact (vss_cons (vs_set 0 sc_wanted.nd (ve_call (ok_asked_numbers T) (hr.mono (by decide)) (by rfl) T.g_asked_numbers T.u_asked_numbers.kp T.b_asked_numbers tk (va_cons (ve_var 0) va_nil)))
      (vss_cons (vs_if (vt_not (vt_val (ve_call (ok_is_whole T) (hr.mono (by decide)) (by rfl) T.g_is_whole T.u_is_whole.kp T.b_is_whole tk (va_cons (ve_var 1) (va_cons ve_int (va_cons (ve_globI (by rfl) T.c_MOST_DAYS) va_nil)))))) (vss_one (vs_raise T.x_NoDays (by rfl) rfl tk)) vss_nil)
      (vss_one (vs_ret (ve_callB (cd_sum rfl) (by rfl) T.z_sum (by decide +kernel) (va_cons (ve_comp false [("number", 2)] rfl sc_wanted.nd (vi_row (ve_var 0)) (blkOk_by (own := [("number", 2)]) (N := ["numbers", "days", "number"]) (sc := defScope s_wanted) (by decide +kernel)) (fun _ _ _ _ _ => (vg_name 2 sc_wanted.nd)) (fun _ _ _ _ _ => vts_nil) (fun _ _ _ _ _ => (ve_bin od_fdiv (ve_var 1) (ve_var 2)))) va_nil))))))
theorem ok_share_of (T : Txt K mg A) : FnOk P w K mg base (L2.CX P w) 3 A.f_share_of A.d_share_of ["numbers"] (spF K mg 1 F_share_of) := by
    refine fn_ok (k := 2) .trunc T.u_share_of sc_share_of fun cdv Ar outer s H E hr => ?_
    have tk := takes_of (X := cxOf (L2.CX P w) P w K mg base ["numbers", "below", "above", "number", "by"] "share_of" (defScope s_share_of) A.f_share_of cdv Ar outer s H E) rfl rfl rfl rfl
    have hp := passes_of (X := cxOf (L2.CX P w) P w K mg base ["numbers", "below", "above", "number", "by"] "share_of" (defScope s_share_of) A.f_share_of cdv Ar outer s H E) rfl
    exact (vss_cons (vs_set 1 sc_share_of.nd (ve_call (ok_common_of T) (hr.mono (by decide)) (by rfl) T.g_common_of T.u_common_of.kp T.b_common_of tk (va_cons (ve_var 0) va_nil)))
      (vss_cons (vs_set 2 sc_share_of.nd (ve_callB (cd_sum rfl) (by rfl) T.z_sum (by decide +kernel) (va_cons (ve_comp false [("number", 3)] rfl sc_share_of.nd (vi_row (ve_var 0)) (blkOk_by (own := [("number", 3)]) (N := ["numbers", "below", "above", "number", "by"]) (sc := defScope s_share_of) (by decide +kernel)) (fun _ _ _ _ _ => (vg_name 3 sc_share_of.nd)) (fun _ _ _ _ _ => vts_nil) (fun _ _ _ _ _ => (ve_bin od_fdiv (ve_var 1) (ve_var 3)))) va_nil)))
      (vss_cons (vs_set 4 sc_share_of.nd (ve_call (ok_divisor T) (hr.mono (by decide)) (by rfl) T.g_divisor T.u_divisor.kp T.b_divisor tk (va_cons (ve_var 2) (va_cons (ve_var 1) va_nil))))
      (vss_one (vs_ret (ve_tup (va_cons (ve_bin od_fdiv (ve_var 2) (ve_var 4)) (va_cons (ve_bin od_fdiv (ve_var 1) (ve_var 4)) va_nil))))))))
theorem ok_share (T : Txt K mg A) : FnOk P w K mg base (L2.CX P w) 4 A.f_share A.d_share ["numbers"] (spF K mg 1 F_share) := by
    refine fn_ok (k := 3) .trunc T.u_share sc_share fun cdv Ar outer s H E hr => ?_
    have tk := takes_of (X := cxOf (L2.CX P w) P w K mg base ["numbers"] "share" (defScope s_share) A.f_share cdv Ar outer s H E) rfl rfl rfl rfl
    have hp := passes_of (X := cxOf (L2.CX P w) P w K mg base ["numbers"] "share" (defScope s_share) A.f_share cdv Ar outer s H E) rfl
    exact (vss_one (vs_ret (ve_call (ok_share_of T) (hr.mono (by decide)) (by rfl) T.g_share_of T.u_share_of.kp T.b_share_of tk (va_cons (ve_call (ok_asked_numbers T) (hr.mono (by decide)) (by rfl) T.g_asked_numbers T.u_asked_numbers.kp T.b_asked_numbers tk (va_cons (ve_var 0) va_nil)) va_nil))))
theorem ok__law_deck (T : Txt K mg A) : FnOk P w K mg base (L2.CX P w) 1 A.f__law_deck A.d__law_deck ["_law_script", "_law_many"] (spF K mg 2 F__law_deck) := by
    refine fn_ok (k := 0) .move T.u__law_deck sc__law_deck fun cdv Ar outer s H E hr => ?_
    have tk := takes_of (X := cxOf (L2.CX P w) P w K mg base ["_law_script", "_law_many", "_law_row_here", "_law_odd_here", "_law_deck_here", "_law_k", "_law_at", "_law_one"] "_law_deck" (defScope s__law_deck) A.f__law_deck cdv Ar outer s H E) rfl rfl rfl rfl
    have hp := passes_of (X := cxOf (L2.CX P w) P w K mg base ["_law_script", "_law_many", "_law_row_here", "_law_odd_here", "_law_deck_here", "_law_k", "_law_at", "_law_one"] "_law_deck" (defScope s__law_deck) A.f__law_deck cdv Ar outer s H E) rfl
    exact (vss_cons (vs_set 2 sc__law_deck.nd (ve_callTy (cd_list true) (by rfl) T.z_list (by decide +kernel) (va_cons (ve_var 0) va_nil)))
      (vss_cons (vs_if (vt_cmp (od_eq hr.units) (ve_var 2) (ve_lst false va_nil)) (vss_one (vs_set 2 sc__law_deck.nd (ve_lst true (va_cons ve_int va_nil)))) vss_nil)
      (vss_cons (vs_set 3 sc__law_deck.nd (ve_bin od_mod (ve_ix (ve_var 2) ve_int) ve_int))
      (vss_cons (vs_item (ve_bin od_fdiv (ve_ix (ve_var 2) ve_int) ve_int) (ve_var 2) ve_int)
      (vss_cons (vs_set 4 sc__law_deck.nd (ve_lst true va_nil))
      (vss_cons (vs_for (vs := [5]) hp rfl (vi_range1 (by rfl) T.z_range (va_cons (ve_var 1) va_nil)) (vg_name 5 sc__law_deck.nd) (vss_cons (vs_set 6 sc__law_deck.nd (ve_bin od_mod (ve_var 5) (ve_callB cd_len (by rfl) T.z_len (by decide +kernel) (va_cons (ve_var 2) va_nil))))
      (vss_cons (vs_set 7 sc__law_deck.nd (ve_bin od_mod (ve_ix (ve_var 2) (ve_var 6)) ve_int))
      (vss_cons (vs_if (vt_cmp (od_eq hr.units) (ve_var 3) ve_int) (vss_cons (vs_set 7 sc__law_deck.nd (ve_bin od_mod (ve_bin od_add (ve_bin od_add (ve_ix (ve_var 2) (ve_var 6)) (ve_bin od_mul (ve_bin od_mul (ve_var 5) (ve_var 5)) ve_int)) (ve_bin od_mul ve_int (ve_var 5))) ve_int))
      (vss_cons (vs_set 7 sc__law_deck.nd (ve_bin od_mod (ve_bin od_add (ve_bin od_mul (ve_var 7) (ve_ix (ve_lst false (va_cons ve_int (va_cons ve_int (va_cons ve_int (va_cons ve_int va_nil))))) (ve_bin od_mod (ve_var 5) ve_int))) ve_int) ve_int))
      (vss_one (vs_set 7 sc__law_deck.nd (ve_bin od_mod (ve_bin od_mul (ve_var 7) (ve_var 7)) ve_int))))) (vss_one (vs_item (ve_bin od_fdiv (ve_ix (ve_var 2) (ve_var 6)) ve_int) (ve_var 2) (ve_var 6))))
      (vss_one (vs_expr (ve_ml PySem.F.slot_list_append PySem.F.type_list_append md_append (ve_var 4) (va_cons (ve_var 7) va_nil))))))))
      (vss_cons (vs_expr (ve_ml0 PySem.F.slot_list_reverse PySem.F.type_list_reverse md_reverse (ve_var 4)))
      (vss_one (vs_ret (ve_var 4))))))))))
theorem ok__law_whole (T : Txt K mg A) : FnOk P w K mg base (L2.CX P w) 1 A.f__law_whole A.d__law_whole ["_law_thing", "_law_least", "_law_most"] (spF K mg 3 F__law_whole) := by
    refine fn_ok (k := 0) .trunc T.u__law_whole sc__law_whole fun cdv Ar outer s H E hr => ?_
    have tk := takes_of (X := cxOf (L2.CX P w) P w K mg base ["_law_thing", "_law_least", "_law_most"] "_law_whole" (defScope s__law_whole) A.f__law_whole cdv Ar outer s H E) rfl rfl rfl rfl
    have hp := passes_of (X := cxOf (L2.CX P w) P w K mg base ["_law_thing", "_law_least", "_law_most"] "_law_whole" (defScope s__law_whole) A.f__law_whole cdv Ar outer s H E) rfl
    exact (vss_one (vs_ret (ve_and (ve_callB cd_isi (by rfl) T.z_isinstance (by decide +kernel) (va_cons (ve_var 0) (va_cons (ve_ty (by rfl) T.z_int (by decide +kernel)) va_nil))) (ve_and (ve_not (ve_callB cd_isi (by rfl) T.z_isinstance (by decide +kernel) (va_cons (ve_var 0) (va_cons (ve_ty (by rfl) T.z_bool (by decide +kernel)) va_nil)))) (ve_one (ve_chain od_le od_le (ve_var 1) (ve_var 0) (ve_var 2)))))))
theorem ok__law_odd (T : Txt K mg A) : FnOk P w K mg base (L2.CX P w) 1 A.f__law_odd A.d__law_odd ["_law_draw"] (spF K mg 1 F__law_odd) := by
    refine fn_ok (k := 0) .trunc T.u__law_odd sc__law_odd fun cdv Ar outer s H E hr => ?_
    have tk := takes_of (X := cxOf (L2.CX P w) P w K mg base ["_law_draw", "_law_some"] "_law_odd" (defScope s__law_odd) A.f__law_odd cdv Ar outer s H E) rfl rfl rfl rfl
    have hp := passes_of (X := cxOf (L2.CX P w) P w K mg base ["_law_draw", "_law_some"] "_law_odd" (defScope s__law_odd) A.f__law_odd cdv Ar outer s H E) rfl
    exact (vss_cons (vs_set 1 sc__law_odd.nd (ve_lst false (va_cons ve_non (va_cons ve_bl (va_cons ve_bl (va_cons ve_str (va_cons ve_str (va_cons (ve_tup va_nil) (va_cons (ve_lst false va_nil) (va_cons ve_dict0 (va_cons (ve_tup (va_cons ve_int va_nil)) (va_cons (ve_lst false (va_cons (ve_lst false (va_cons ve_int va_nil)) va_nil)) (va_cons (ve_neg ve_int) (va_cons (ve_bin od_pow ve_int ve_int) (va_cons (ve_bin od_sub ve_int (ve_bin od_pow ve_int ve_int)) (va_cons ve_str (va_cons ve_dict1 (va_cons (ve_tup (va_cons ve_non va_nil)) va_nil))))))))))))))))))
      (vss_one (vs_ret (ve_ix (ve_var 1) (ve_bin od_mod (ve_var 0) ve_int)))))
theorem ok__law_truth (T : Txt K mg A) : FnOk P w K mg base (L2.CX P w) 1 A.f__law_truth A.d__law_truth ["_law_found", "_law_due"] (spF K mg 2 F__law_truth) := by
    refine fn_ok (k := 0) .trunc T.u__law_truth sc__law_truth fun cdv Ar outer s H E hr => ?_
    have tk := takes_of (X := cxOf (L2.CX P w) P w K mg base ["_law_found", "_law_due"] "_law_truth" (defScope s__law_truth) A.f__law_truth cdv Ar outer s H E) rfl rfl rfl rfl
    have hp := passes_of (X := cxOf (L2.CX P w) P w K mg base ["_law_found", "_law_due"] "_law_truth" (defScope s__law_truth) A.f__law_truth cdv Ar outer s H E) rfl
    exact (vss_one (vs_ret (ve_and (ve_callB cd_isi (by rfl) T.z_isinstance (by decide +kernel) (va_cons (ve_var 0) (va_cons (ve_ty (by rfl) T.z_bool (by decide +kernel)) va_nil))) (ve_one (ve_cmp (od_eq hr.units) (ve_var 0) (ve_var 1))))))
theorem ok__law_is (T : Txt K mg A) : FnOk P w K mg base (L2.CX P w) 2 A.f__law_is A.d__law_is ["_law_thing"] (spF K mg 1 F__law_is) := by
    refine fn_ok (k := 1) .trunc T.u__law_is sc__law_is fun cdv Ar outer s H E hr => ?_
    have tk := takes_of (X := cxOf (L2.CX P w) P w K mg base ["_law_thing", "_law_one"] "_law_is" (defScope s__law_is) A.f__law_is cdv Ar outer s H E) rfl rfl rfl rfl
    have hp := passes_of (X := cxOf (L2.CX P w) P w K mg base ["_law_thing", "_law_one"] "_law_is" (defScope s__law_is) A.f__law_is cdv Ar outer s H E) rfl
    exact (vss_cons (vs_if (vt_w (vw_or (vt_not (vt_val (ve_callB cd_isi (by rfl) T.z_isinstance (by decide +kernel) (va_cons (ve_var 0) (va_cons (ve_tup (va_cons (ve_ty (by rfl) T.z_list (by decide +kernel)) (va_cons (ve_ty (by rfl) T.z_tuple (by decide +kernel)) va_nil))) va_nil))))) (vw_or1 (vt_cmp od_gt (ve_callB cd_len (by rfl) T.z_len (by decide +kernel) (va_cons (ve_var 0) va_nil)) ve_int)))) (vss_one (vs_ret ve_bl)) vss_nil)
      (vss_one (vs_ret (ve_cmp (od_eq hr.units) (ve_comp false [("_law_one", 1)] rfl sc__law_is.nd (vi_row (ve_var 0)) (blkOk_by (own := [("_law_one", 1)]) (N := ["_law_thing", "_law_one"]) (sc := defScope s__law_is) (by decide +kernel)) (fun _ _ _ _ _ => (vg_name 1 sc__law_is.nd)) (fun _ _ _ _ _ => (vts_one (vt_not (vt_val (ve_call (ok__law_whole T) (hr.mono (by decide)) (by rfl) T.g__law_whole T.u__law_whole.kp T.b__law_whole takes0 (va_cons (ve_var 1) (va_cons ve_int (va_cons ve_int va_nil)))))))) (fun _ _ _ _ _ => (ve_var 1))) (ve_lst false va_nil)))))
theorem ok__law_row (T : Txt K mg A) : FnOk P w K mg base (L2.CX P w) 2 A.f__law_row A.d__law_row ["_law_deck_here"] (spF K mg 1 F__law_row) := by
    refine fn_ok (k := 1) .trunc T.u__law_row sc__law_row fun cdv Ar outer s H E hr => ?_
    have tk := takes_of (X := cxOf (L2.CX P w) P w K mg base ["_law_deck_here", "_law_many", "_law_found", "_law_k", "_law_draw", "_law_at"] "_law_row" (defScope s__law_row) A.f__law_row cdv Ar outer s H E) rfl rfl rfl rfl
    have hp := passes_of (X := cxOf (L2.CX P w) P w K mg base ["_law_deck_here", "_law_many", "_law_found", "_law_k", "_law_draw", "_law_at"] "_law_row" (defScope s__law_row) A.f__law_row cdv Ar outer s H E) rfl
    exact (vss_cons (vs_set 1 sc__law_row.nd (ve_ix (ve_lst false (va_cons ve_int (va_cons ve_int (va_cons ve_int (va_cons ve_int (va_cons ve_int (va_cons ve_int (va_cons ve_int (va_cons ve_int va_nil))))))))) (ve_bin od_mod (ve_ml0 PySem.F.slot_list_pop PySem.F.type_list_pop md_pop (ve_var 0)) ve_int)))
      (vss_cons (vs_setComp true 2 [("_law_k", 3)] rfl sc__law_row.nd (vi_range1 (by rfl) T.z_range (va_cons (ve_var 1) va_nil)) (blkOk_by (own := [("_law_k", 3)]) (N := ["_law_deck_here", "_law_many", "_law_found", "_law_k", "_law_draw", "_law_at"]) (sc := defScope s__law_row) (by decide +kernel)) (fun _ _ _ _ _ => (vg_name 3 sc__law_row.nd)) (fun _ _ _ _ _ => vts_nil) (fun _ _ _ _ _ => (ve_bin od_add ve_int (ve_bin od_mod (ve_ml0 PySem.F.slot_list_pop PySem.F.type_list_pop md_pop (ve_var 0)) ve_int))))
      (vss_cons (vs_set 4 sc__law_row.nd (ve_ml0 PySem.F.slot_list_pop PySem.F.type_list_pop md_pop (ve_var 0)))
      (vss_cons (vs_if (vt_w (vw_and (vt_cmp od_gt (ve_var 1) ve_int) (vw_and1 (vt_cmp (od_eq hr.units) (ve_bin od_mod (ve_var 4) ve_int) ve_int)))) (vss_cons (vs_set 5 sc__law_row.nd (ve_bin od_mod (ve_bin od_fdiv (ve_var 4) ve_int) (ve_var 1)))
      (vss_one (vs_item (ve_ix (ve_lst false (va_cons ve_int (va_cons ve_int (va_cons ve_int (va_cons (ve_call (ok__law_odd T) (hr.mono (by decide)) (by rfl) T.g__law_odd T.u__law_odd.kp T.b__law_odd tk (va_cons (ve_bin od_fdiv (ve_var 4) ve_int) va_nil)) (va_cons ve_bl (va_cons ve_int (va_cons ve_int (va_cons (ve_neg ve_int) va_nil))))))))) (ve_bin od_mod (ve_bin od_fdiv (ve_var 4) ve_int) ve_int)) (ve_var 2) (ve_var 5)))) vss_nil)
      (vss_cons (vs_if (vt_cmp (od_eq hr.units) (ve_bin od_mod (ve_bin od_fdiv (ve_var 4) ve_int) ve_int) ve_int) (vss_one (vs_ret (ve_callTy cd_tuple (by rfl) T.z_tuple (by decide +kernel) (va_cons (ve_var 2) va_nil)))) vss_nil)
      (vss_one (vs_ret (ve_var 2))))))))
theorem ok__law_refusal (T : Txt K mg A) : FnOk P w K mg base (L2.CX P w) 5 A.f__law_refusal A.d__law_refusal ["_law_which", "_law_thing", "_law_days"] (spF K mg 3 F__law_refusal) := by
    refine fn_ok (k := 4) .trunc T.u__law_refusal sc__law_refusal fun cdv Ar outer s H E hr => ?_
    have tk := takes_of (X := cxOf (L2.CX P w) P w K mg base ["_law_which", "_law_thing", "_law_days", "error"] "_law_refusal" (defScope s__law_refusal) A.f__law_refusal cdv Ar outer s H E) rfl rfl rfl rfl
    have hp := passes_of (X := cxOf (L2.CX P w) P w K mg base ["_law_which", "_law_thing", "_law_days", "error"] "_law_refusal" (defScope s__law_refusal) A.f__law_refusal cdv Ar outer s H E) rfl
    exact (vss_cons (vs_try 3 ["NoNumbers", "NoDays"] rfl rfl sc__law_refusal.nd (by rfl) T.x_DaysError.g tk (exm_DaysError T) (fun W' pn xe tk' hp' => (vss_one (vs_if (vt_cmp (od_eq hr.units) (ve_var 0) ve_int) (vss_one (vs_expr (ve_call (ok_share T) (hr.mono (by decide)) (by rfl) T.g_share T.u_share.kp T.b_share tk' (va_cons (ve_var 1) va_nil)))) (vss_one (vs_if (vt_cmp (od_eq hr.units) (ve_var 0) ve_int) (vss_one (vs_expr (ve_call (ok_common T) (hr.mono (by decide)) (by rfl) T.g_common T.u_common.kp T.b_common tk' (va_cons (ve_var 1) va_nil)))) (vss_one (vs_expr (ve_call (ok_wanted T) (hr.mono (by decide)) (by rfl) T.g_wanted T.u_wanted.kp T.b_wanted tk' (va_cons (ve_var 1) (va_cons (ve_var 2) va_nil))))))))))
      (fun a oe y pn hy hz hf => by
        have hK_NoDays : ∀ y ∈ (["NoNumbers", "NoDays"] : List Str), PySem.W.kitOne K (clsV mg ⟨y, none⟩) (.ref A.c_NoDays) = some (subX y "NoDays") := kit_NoDays T
        have hK_NoNumbers : ∀ y ∈ (["NoNumbers", "NoDays"] : List Str), PySem.W.kitOne K (clsV mg ⟨y, none⟩) (.ref A.c_NoNumbers) = some (subX y "NoNumbers") := kit_NoNumbers T
        have hK_ValueError : ∀ y ∈ (["NoNumbers", "NoDays"] : List Str), PySem.W.kitOne K (clsV mg ⟨y, none⟩) (.type "ValueError") = some (subX y "ValueError") := kit_ValueError T
        obtain ⟨Dc, eD, hC⟩ := exc_at T y hy
        replace hz : Zc (clsV mg ⟨y, none⟩) none oe := hz
        rw [eD] at hz
        have hKr := eD
        exact (vss_one (vs_ret (ve_lst false (va_cons (ve_isE (c := .ref A.c_NoNumbers) (cv := .ref A.c_NoNumbers) 3 hC hz hf (by rw [← eD]; exact hK_NoNumbers y hy) (fun _ z => z) (pe_glob (v := .ref A.c_NoNumbers) (by rfl) T.x_NoNumbers.g rfl) List.mem_cons_self (by rfl) T.z_isinstance) (va_cons (ve_isE (c := .ref A.c_NoDays) (cv := .ref A.c_NoDays) 3 hC hz hf (by rw [← eD]; exact hK_NoDays y hy) (fun _ z => z) (pe_glob (v := .ref A.c_NoDays) (by rfl) T.x_NoDays.g rfl) List.mem_cons_self (by rfl) T.z_isinstance) (va_cons (ve_isE (c := .ty "ValueError") (cv := .type "ValueError") 3 hC hz hf (by rw [← eD]; exact hK_ValueError y hy) (fun _ z => z) (pe_bltn (v := .ty "ValueError") (by rfl) T.z_ValueError (by decide +kernel) rfl) List.mem_cons_self (by rfl) T.z_isinstance) va_nil))))))))
      (vss_one (vs_ret ve_str)))
theorem ok_law (T : Txt K mg A) : FnOk P w K mg base (L2.CX P w) 6 A.f_law A.d_law ["_law_script"] (spF K mg 1 F_law) := by
    refine fn_ok (k := 5) .trunc T.u_law sc_law fun cdv Ar outer s H E hr => ?_
    have tk := takes_of (X := cxOf (L2.CX P w) P w K mg base ["_law_script", "_law_deck_here", "_law_turn", "_law_thing", "_law_due", "_law_days", "_law_which", "_law_wanted_here"] "law" (defScope s_law) A.f_law cdv Ar outer s H E) rfl rfl rfl rfl
    have hp := passes_of (X := cxOf (L2.CX P w) P w K mg base ["_law_script", "_law_deck_here", "_law_turn", "_law_thing", "_law_due", "_law_days", "_law_which", "_law_wanted_here"] "law" (defScope s_law) A.f_law cdv Ar outer s H E) rfl
    exact (vss_cons (vs_set 1 sc_law.nd (ve_call (ok__law_deck T) (hr.mono (by decide)) (by rfl) T.g__law_deck T.u__law_deck.kp T.b__law_deck tk (va_cons (ve_var 0) (va_cons ve_int va_nil))))
      (vss_cons (vs_for (vs := [2]) hp rfl (vi_range1 (by rfl) T.z_range (va_cons ve_int va_nil)) (vg_name 2 sc_law.nd) (vss_cons (vs_set 3 sc_law.nd (ve_call (ok__law_row T) (hr.mono (by decide)) (by rfl) T.g__law_row T.u__law_row.kp T.b__law_row tk (va_cons (ve_var 1) va_nil)))
      (vss_cons (vs_if (vt_cmp od_gt (ve_var 2) ve_int) (vss_one (vs_set 3 sc_law.nd (ve_call (ok__law_odd T) (hr.mono (by decide)) (by rfl) T.g__law_odd T.u__law_odd.kp T.b__law_odd tk (va_cons (ve_ml0 PySem.F.slot_list_pop PySem.F.type_list_pop md_pop (ve_var 1)) va_nil)))) vss_nil)
      (vss_cons (vs_set 4 sc_law.nd (ve_call (ok__law_is T) (hr.mono (by decide)) (by rfl) T.g__law_is T.u__law_is.kp T.b__law_is tk (va_cons (ve_var 3) va_nil)))
      (vss_cons (vs_if (vt_not (vt_val (ve_call (ok__law_truth T) (hr.mono (by decide)) (by rfl) T.g__law_truth T.u__law_truth.kp T.b__law_truth tk (va_cons (ve_call (ok_is_numbers T) (hr.mono (by decide)) (by rfl) T.g_is_numbers T.u_is_numbers.kp T.b_is_numbers tk (va_cons (ve_var 3) va_nil)) (va_cons (ve_var 4) va_nil))))) (vss_one (vs_ret ve_bl)) vss_nil)
      (vss_cons (vs_set 5 sc_law.nd (ve_ix (ve_lst false (va_cons ve_int (va_cons ve_int (va_cons ve_int (va_cons (ve_neg ve_int) (va_cons ve_non (va_cons ve_bl (va_cons ve_str (va_cons ve_int va_nil))))))))) (ve_bin od_mod (ve_ml0 PySem.F.slot_list_pop PySem.F.type_list_pop md_pop (ve_var 1)) ve_int)))
      (vss_one (vs_for (vs := [6]) hp rfl (vi_range1 (by rfl) T.z_range (va_cons ve_int va_nil)) (vg_name 6 sc_law.nd) (vss_cons (vs_set 7 sc_law.nd ve_str)
      (vss_cons (vs_if (vt_not (vt_val (ve_var 4))) (vss_one (vs_set 7 sc_law.nd (ve_lst false (va_cons ve_bl (va_cons ve_bl (va_cons ve_bl va_nil)))))) (vss_one (vs_if (vt_w (vw_and (vt_cmp (od_eq hr.units) (ve_var 6) ve_int) (vw_and1 (vt_not (vt_val (ve_call (ok__law_whole T) (hr.mono (by decide)) (by rfl) T.g__law_whole T.u__law_whole.kp T.b__law_whole tk (va_cons (ve_var 5) (va_cons ve_int (va_cons ve_int va_nil))))))))) (vss_one (vs_set 7 sc_law.nd (ve_lst false (va_cons ve_bl (va_cons ve_bl (va_cons ve_bl va_nil)))))) vss_nil)))
      (vss_one (vs_if (vt_cmp (od_ne hr.units) (ve_call (ok__law_refusal T) (hr.mono (by decide)) (by rfl) T.g__law_refusal T.u__law_refusal.kp T.b__law_refusal tk (va_cons (ve_var 6) (va_cons (ve_var 3) (va_cons (ve_var 5) va_nil)))) (ve_var 7)) (vss_one (vs_ret ve_bl)) vss_nil))))))))))))
      (vss_one (vs_ret ve_bl))))
end
theorem all_mk {l : PySem.W.OpenLaw} {w : World} {K : PySem.W.Frag} {h : Heap} {mg : Str → Option Value} {fa : Addr} (X : K.In h) (G : h.Ns mainGlobals mg) (hfa : mg "law" = some (.ref fa))
    {f0 : Addr} {od0 an0 : Option Addr} {sl0 : Array (Option Value)} {oc0 kV0 dc0 pm0 cd0 ct0 : Value}
    {f1 : Addr} {od1 an1 : Option Addr} {sl1 : Array (Option Value)} {oc1 kV1 dc1 pm1 cd1 ct1 : Value}
    {f2 : Addr} {od2 an2 : Option Addr} {sl2 : Array (Option Value)} {oc2 kV2 dc2 pm2 cd2 ct2 : Value}
    {f3 : Addr} {od3 an3 : Option Addr} {sl3 : Array (Option Value)} {oc3 kV3 dc3 pm3 cd3 ct3 : Value}
    {f4 : Addr} {od4 an4 : Option Addr} {sl4 : Array (Option Value)} {oc4 kV4 dc4 pm4 cd4 ct4 : Value}
    {f5 : Addr} {od5 an5 : Option Addr} {sl5 : Array (Option Value)} {oc5 kV5 dc5 pm5 cd5 ct5 : Value}
    {f6 : Addr} {od6 an6 : Option Addr} {sl6 : Array (Option Value)} {oc6 kV6 dc6 pm6 cd6 ct6 : Value}
    {f7 : Addr} {od7 an7 : Option Addr} {sl7 : Array (Option Value)} {oc7 kV7 dc7 pm7 cd7 ct7 : Value}
    {f8 : Addr} {od8 an8 : Option Addr} {sl8 : Array (Option Value)} {oc8 kV8 dc8 pm8 cd8 ct8 : Value}
    {f9 : Addr} {od9 an9 : Option Addr} {sl9 : Array (Option Value)} {oc9 kV9 dc9 pm9 cd9 ct9 : Value}
    {f10 : Addr} {od10 an10 : Option Addr} {sl10 : Array (Option Value)} {oc10 kV10 dc10 pm10 cd10 ct10 : Value}
    {f11 : Addr} {od11 an11 : Option Addr} {sl11 : Array (Option Value)} {oc11 kV11 dc11 pm11 cd11 ct11 : Value}
    {f12 : Addr} {od12 an12 : Option Addr} {sl12 : Array (Option Value)} {oc12 kV12 dc12 pm12 cd12 ct12 : Value}
    {f13 : Addr} {od13 an13 : Option Addr} {sl13 : Array (Option Value)} {oc13 kV13 dc13 pm13 cd13 ct13 : Value}
    {f14 : Addr} {od14 an14 : Option Addr} {sl14 : Array (Option Value)} {oc14 kV14 dc14 pm14 cd14 ct14 : Value}
    {f15 : Addr} {od15 an15 : Option Addr} {sl15 : Array (Option Value)} {oc15 kV15 dc15 pm15 cd15 ct15 : Value}
    {f16 : Addr} {od16 an16 : Option Addr} {sl16 : Array (Option Value)} {oc16 kV16 dc16 pm16 cd16 ct16 : Value}
    {f17 : Addr} {od17 an17 : Option Addr} {sl17 : Array (Option Value)} {oc17 kV17 dc17 pm17 cd17 ct17 : Value}
    {C_DaysError : Addr}
    {C_NoNumbers : Addr}
    {C_NoDays : Addr}
    {t_GREATEST : Tok}
    {t_MOST_DAYS : Tok}
    {t_MOST_THINGS : Tok}
    (a0 : PySem.W.nsIn K mainGlobals "is_whole" = some (some (.ref f0)))
    (l0 : K.lookup f0 = some ⟨oc0, od0, .func (PySem.W.fnOf "is_whole" "is_whole" (defArgs s_is_whole) (defBody s_is_whole) (defScope s_is_whole) .none kV0 dc0 pm0 an0 cd0 ct0), sl0⟩)
    (c0 : PySem.W.codeIn K cd0 "is_whole" = true)
    (k0 : PySem.W.keepIn K (.ref f0) = true)
    (a1 : PySem.W.nsIn K mainGlobals "is_row" = some (some (.ref f1)))
    (l1 : K.lookup f1 = some ⟨oc1, od1, .func (PySem.W.fnOf "is_row" "is_row" (defArgs s_is_row) (defBody s_is_row) (defScope s_is_row) .none kV1 dc1 pm1 an1 cd1 ct1), sl1⟩)
    (c1 : PySem.W.codeIn K cd1 "is_row" = true)
    (k1 : PySem.W.keepIn K (.ref f1) = true)
    (a2 : PySem.W.nsIn K mainGlobals "is_numbers" = some (some (.ref f2)))
    (l2 : K.lookup f2 = some ⟨oc2, od2, .func (PySem.W.fnOf "is_numbers" "is_numbers" (defArgs s_is_numbers) (defBody s_is_numbers) (defScope s_is_numbers) .none kV2 dc2 pm2 an2 cd2 ct2), sl2⟩)
    (c2 : PySem.W.codeIn K cd2 "is_numbers" = true)
    (k2 : PySem.W.keepIn K (.ref f2) = true)
    (a3 : PySem.W.nsIn K mainGlobals "asked_numbers" = some (some (.ref f3)))
    (l3 : K.lookup f3 = some ⟨oc3, od3, .func (PySem.W.fnOf "asked_numbers" "asked_numbers" (defArgs s_asked_numbers) (defBody s_asked_numbers) (defScope s_asked_numbers) .none kV3 dc3 pm3 an3 cd3 ct3), sl3⟩)
    (c3 : PySem.W.codeIn K cd3 "asked_numbers" = true)
    (k3 : PySem.W.keepIn K (.ref f3) = true)
    (a4 : PySem.W.nsIn K mainGlobals "divisor" = some (some (.ref f4)))
    (l4 : K.lookup f4 = some ⟨oc4, od4, .func (PySem.W.fnOf "divisor" "divisor" (defArgs s_divisor) (defBody s_divisor) (defScope s_divisor) .none kV4 dc4 pm4 an4 cd4 ct4), sl4⟩)
    (c4 : PySem.W.codeIn K cd4 "divisor" = true)
    (k4 : PySem.W.keepIn K (.ref f4) = true)
    (a5 : PySem.W.nsIn K mainGlobals "common_of" = some (some (.ref f5)))
    (l5 : K.lookup f5 = some ⟨oc5, od5, .func (PySem.W.fnOf "common_of" "common_of" (defArgs s_common_of) (defBody s_common_of) (defScope s_common_of) .none kV5 dc5 pm5 an5 cd5 ct5), sl5⟩)
    (c5 : PySem.W.codeIn K cd5 "common_of" = true)
    (k5 : PySem.W.keepIn K (.ref f5) = true)
    (a6 : PySem.W.nsIn K mainGlobals "common" = some (some (.ref f6)))
    (l6 : K.lookup f6 = some ⟨oc6, od6, .func (PySem.W.fnOf "common" "common" (defArgs s_common) (defBody s_common) (defScope s_common) .none kV6 dc6 pm6 an6 cd6 ct6), sl6⟩)
    (c6 : PySem.W.codeIn K cd6 "common" = true)
    (k6 : PySem.W.keepIn K (.ref f6) = true)
    (a7 : PySem.W.nsIn K mainGlobals "wanted" = some (some (.ref f7)))
    (l7 : K.lookup f7 = some ⟨oc7, od7, .func (PySem.W.fnOf "wanted" "wanted" (defArgs s_wanted) (defBody s_wanted) (defScope s_wanted) .none kV7 dc7 pm7 an7 cd7 ct7), sl7⟩)
    (c7 : PySem.W.codeIn K cd7 "wanted" = true)
    (k7 : PySem.W.keepIn K (.ref f7) = true)
    (a8 : PySem.W.nsIn K mainGlobals "share_of" = some (some (.ref f8)))
    (l8 : K.lookup f8 = some ⟨oc8, od8, .func (PySem.W.fnOf "share_of" "share_of" (defArgs s_share_of) (defBody s_share_of) (defScope s_share_of) .none kV8 dc8 pm8 an8 cd8 ct8), sl8⟩)
    (c8 : PySem.W.codeIn K cd8 "share_of" = true)
    (k8 : PySem.W.keepIn K (.ref f8) = true)
    (a9 : PySem.W.nsIn K mainGlobals "share" = some (some (.ref f9)))
    (l9 : K.lookup f9 = some ⟨oc9, od9, .func (PySem.W.fnOf "share" "share" (defArgs s_share) (defBody s_share) (defScope s_share) .none kV9 dc9 pm9 an9 cd9 ct9), sl9⟩)
    (c9 : PySem.W.codeIn K cd9 "share" = true)
    (k9 : PySem.W.keepIn K (.ref f9) = true)
    (a10 : PySem.W.nsIn K mainGlobals "_law_deck" = some (some (.ref f10)))
    (l10 : K.lookup f10 = some ⟨oc10, od10, .func (PySem.W.fnOf "_law_deck" "_law_deck" (defArgs s__law_deck) (defBody s__law_deck) (defScope s__law_deck) .none kV10 dc10 pm10 an10 cd10 ct10), sl10⟩)
    (c10 : PySem.W.codeIn K cd10 "_law_deck" = true)
    (k10 : PySem.W.keepIn K (.ref f10) = true)
    (a11 : PySem.W.nsIn K mainGlobals "_law_whole" = some (some (.ref f11)))
    (l11 : K.lookup f11 = some ⟨oc11, od11, .func (PySem.W.fnOf "_law_whole" "_law_whole" (defArgs s__law_whole) (defBody s__law_whole) (defScope s__law_whole) .none kV11 dc11 pm11 an11 cd11 ct11), sl11⟩)
    (c11 : PySem.W.codeIn K cd11 "_law_whole" = true)
    (k11 : PySem.W.keepIn K (.ref f11) = true)
    (a12 : PySem.W.nsIn K mainGlobals "_law_odd" = some (some (.ref f12)))
    (l12 : K.lookup f12 = some ⟨oc12, od12, .func (PySem.W.fnOf "_law_odd" "_law_odd" (defArgs s__law_odd) (defBody s__law_odd) (defScope s__law_odd) .none kV12 dc12 pm12 an12 cd12 ct12), sl12⟩)
    (c12 : PySem.W.codeIn K cd12 "_law_odd" = true)
    (k12 : PySem.W.keepIn K (.ref f12) = true)
    (a13 : PySem.W.nsIn K mainGlobals "_law_truth" = some (some (.ref f13)))
    (l13 : K.lookup f13 = some ⟨oc13, od13, .func (PySem.W.fnOf "_law_truth" "_law_truth" (defArgs s__law_truth) (defBody s__law_truth) (defScope s__law_truth) .none kV13 dc13 pm13 an13 cd13 ct13), sl13⟩)
    (c13 : PySem.W.codeIn K cd13 "_law_truth" = true)
    (k13 : PySem.W.keepIn K (.ref f13) = true)
    (a14 : PySem.W.nsIn K mainGlobals "_law_is" = some (some (.ref f14)))
    (l14 : K.lookup f14 = some ⟨oc14, od14, .func (PySem.W.fnOf "_law_is" "_law_is" (defArgs s__law_is) (defBody s__law_is) (defScope s__law_is) .none kV14 dc14 pm14 an14 cd14 ct14), sl14⟩)
    (c14 : PySem.W.codeIn K cd14 "_law_is" = true)
    (k14 : PySem.W.keepIn K (.ref f14) = true)
    (a15 : PySem.W.nsIn K mainGlobals "_law_row" = some (some (.ref f15)))
    (l15 : K.lookup f15 = some ⟨oc15, od15, .func (PySem.W.fnOf "_law_row" "_law_row" (defArgs s__law_row) (defBody s__law_row) (defScope s__law_row) .none kV15 dc15 pm15 an15 cd15 ct15), sl15⟩)
    (c15 : PySem.W.codeIn K cd15 "_law_row" = true)
    (k15 : PySem.W.keepIn K (.ref f15) = true)
    (a16 : PySem.W.nsIn K mainGlobals "_law_refusal" = some (some (.ref f16)))
    (l16 : K.lookup f16 = some ⟨oc16, od16, .func (PySem.W.fnOf "_law_refusal" "_law_refusal" (defArgs s__law_refusal) (defBody s__law_refusal) (defScope s__law_refusal) .none kV16 dc16 pm16 an16 cd16 ct16), sl16⟩)
    (c16 : PySem.W.codeIn K cd16 "_law_refusal" = true)
    (k16 : PySem.W.keepIn K (.ref f16) = true)
    (a17 : PySem.W.nsIn K mainGlobals "law" = some (some (.ref f17)))
    (l17 : K.lookup f17 = some ⟨oc17, od17, .func (PySem.W.fnOf "law" "law" (defArgs s_law) (defBody s_law) (defScope s_law) .none kV17 dc17 pm17 an17 cd17 ct17), sl17⟩)
    (c17 : PySem.W.codeIn K cd17 "law" = true)
    (k17 : PySem.W.keepIn K (.ref f17) = true)
    (z_ValueError : PySem.W.nsIn K mainGlobals "ValueError" = some none)
    (z_bool : PySem.W.nsIn K mainGlobals "bool" = some none)
    (z_int : PySem.W.nsIn K mainGlobals "int" = some none)
    (z_isinstance : PySem.W.nsIn K mainGlobals "isinstance" = some none)
    (z_len : PySem.W.nsIn K mainGlobals "len" = some none)
    (z_list : PySem.W.nsIn K mainGlobals "list" = some none)
    (z_range : PySem.W.nsIn K mainGlobals "range" = some none)
    (z_sum : PySem.W.nsIn K mainGlobals "sum" = some none)
    (z_tuple : PySem.W.nsIn K mainGlobals "tuple" = some none)
    (xa_DaysError : PySem.W.nsIn K mainGlobals "DaysError" = some (some (.ref C_DaysError)))
    (xq_DaysError : PySem.W.excIn K C_DaysError veBm "ValueError.__new__" = true)
    (xk_DaysError : PySem.W.keepIn K (.ref C_DaysError) = true)
    (xb_DaysError : PySem.W.subIn K (.ref C_DaysError) (.type "BaseException") = some true)
    (xt_DaysError : PySem.W.typeIn K (.ref C_DaysError) = some (.type "type"))
    (xa_NoNumbers : PySem.W.nsIn K mainGlobals "NoNumbers" = some (some (.ref C_NoNumbers)))
    (xq_NoNumbers : PySem.W.excIn K C_NoNumbers veBm "ValueError.__new__" = true)
    (xk_NoNumbers : PySem.W.keepIn K (.ref C_NoNumbers) = true)
    (xb_NoNumbers : PySem.W.subIn K (.ref C_NoNumbers) (.type "BaseException") = some true)
    (xt_NoNumbers : PySem.W.typeIn K (.ref C_NoNumbers) = some (.type "type"))
    (xa_NoDays : PySem.W.nsIn K mainGlobals "NoDays" = some (some (.ref C_NoDays)))
    (xq_NoDays : PySem.W.excIn K C_NoDays veBm "ValueError.__new__" = true)
    (xk_NoDays : PySem.W.keepIn K (.ref C_NoDays) = true)
    (xb_NoDays : PySem.W.subIn K (.ref C_NoDays) (.type "BaseException") = some true)
    (xt_NoDays : PySem.W.typeIn K (.ref C_NoDays) = some (.type "type"))
    (ehg_NoNumbers : PySem.W.findIn K (.ref C_NoNumbers) "__getattribute__" = some (some (.builtin "BaseException.__getattribute__")))
    (ehk_NoNumbers : PySem.W.findIn K (.ref C_NoNumbers) "__getattr__" = some none)
    (ehs_NoNumbers : PySem.W.subIn K (.ref C_NoNumbers) (.type "BaseException") = some true)
    (ehd_NoNumbers : PySem.W.hasDictIn K C_NoNumbers = true)
    (eha_NoNumbers : PySem.W.findIn K (.ref C_NoNumbers) "__class__" = some (some (.builtin "object.__class__")))
    (ehn_NoNumbers : PySem.W.specialIn K (.builtin "object.__class__") "__get__" = some (some (.builtin "getset_descriptor.__get__")))
    (eht_NoNumbers : PySem.W.takesIn K (.builtin "object.__class__") = some true)
    (ehm_NoNumbers : PySem.W.mroIn K C_NoNumbers (.type "object") = some true)
    (ehg_NoDays : PySem.W.findIn K (.ref C_NoDays) "__getattribute__" = some (some (.builtin "BaseException.__getattribute__")))
    (ehk_NoDays : PySem.W.findIn K (.ref C_NoDays) "__getattr__" = some none)
    (ehs_NoDays : PySem.W.subIn K (.ref C_NoDays) (.type "BaseException") = some true)
    (ehd_NoDays : PySem.W.hasDictIn K C_NoDays = true)
    (eha_NoDays : PySem.W.findIn K (.ref C_NoDays) "__class__" = some (some (.builtin "object.__class__")))
    (ehn_NoDays : PySem.W.specialIn K (.builtin "object.__class__") "__get__" = some (some (.builtin "getset_descriptor.__get__")))
    (eht_NoDays : PySem.W.takesIn K (.builtin "object.__class__") = some true)
    (ehm_NoDays : PySem.W.mroIn K C_NoDays (.type "object") = some true)
    (m_NoNumbers_DaysError : PySem.W.exmOne K (.ref C_NoNumbers) (.ref C_DaysError) = some true)
    (m_NoDays_DaysError : PySem.W.exmOne K (.ref C_NoDays) (.ref C_DaysError) = some true)
    (k_NoNumbers_NoDays : PySem.W.kitOne K (.ref C_NoNumbers) (.ref C_NoDays) = some false)
    (k_NoDays_NoDays : PySem.W.kitOne K (.ref C_NoDays) (.ref C_NoDays) = some true)
    (k_NoNumbers_NoNumbers : PySem.W.kitOne K (.ref C_NoNumbers) (.ref C_NoNumbers) = some true)
    (k_NoDays_NoNumbers : PySem.W.kitOne K (.ref C_NoDays) (.ref C_NoNumbers) = some false)
    (k_NoNumbers_ValueError : PySem.W.kitOne K (.ref C_NoNumbers) (.type "ValueError") = some true)
    (k_NoDays_ValueError : PySem.W.kitOne K (.ref C_NoDays) (.type "ValueError") = some true)
    (cc_GREATEST : PySem.W.nsIn K mainGlobals "GREATEST" = some (some (.int 40 t_GREATEST)))
    (cc_MOST_DAYS : PySem.W.nsIn K mainGlobals "MOST_DAYS" = some (some (.int 1000000 t_MOST_DAYS)))
    (cc_MOST_THINGS : PySem.W.nsIn K mainGlobals "MOST_THINGS" = some (some (.int 8 t_MOST_THINGS))) :
    ∃ fd : FuncData, (∀ (s : Shared) (v : Value), BindsTo s fd ⟨[v], []⟩ [("_law_script", v)]) ∧ ∀ base : Heap, K.In base → base.Ns mainGlobals mg → FnOk l.prog w K mg base (L2.CX l.prog w) 6 fa fd ["_law_script"] (spL K F_law) := by
  have e := hfa.symm.trans (PySem.W.mg_of X G a17)
  cases e
  have T : Txt K mg ⟨f0, _, f1, _, f2, _, f3, _, f4, _, f5, _, f6, _, f7, _, f8, _, f9, _, f10, _, f11, _, f12, _, f13, _, f14, _, f15, _, f16, _, fa, _, C_DaysError, C_NoNumbers, C_NoDays, t_GREATEST, t_MOST_DAYS, t_MOST_THINGS⟩ :=
    ⟨fun_mk (st := s_is_whole) l0 c0 k0, PySem.W.mg_of X G a0, (fun_mk (st := s_is_whole) l0 c0 k0).binds (ps := ["thing", "least", "most"]) fun _ _ _ _ _ _ us hl => match us, hl with | [_, _, _], _ => rfl,
    fun_mk (st := s_is_row) l1 c1 k1, PySem.W.mg_of X G a1, (fun_mk (st := s_is_row) l1 c1 k1).binds (ps := ["thing"]) fun _ _ _ _ _ _ us hl => match us, hl with | [_], _ => rfl,
    fun_mk (st := s_is_numbers) l2 c2 k2, PySem.W.mg_of X G a2, (fun_mk (st := s_is_numbers) l2 c2 k2).binds (ps := ["thing"]) fun _ _ _ _ _ _ us hl => match us, hl with | [_], _ => rfl,
    fun_mk (st := s_asked_numbers) l3 c3 k3, PySem.W.mg_of X G a3, (fun_mk (st := s_asked_numbers) l3 c3 k3).binds (ps := ["thing"]) fun _ _ _ _ _ _ us hl => match us, hl with | [_], _ => rfl,
    fun_mk (st := s_divisor) l4 c4 k4, PySem.W.mg_of X G a4, (fun_mk (st := s_divisor) l4 c4 k4).binds (ps := ["one", "other"]) fun _ _ _ _ _ _ us hl => match us, hl with | [_, _], _ => rfl,
    fun_mk (st := s_common_of) l5 c5 k5, PySem.W.mg_of X G a5, (fun_mk (st := s_common_of) l5 c5 k5).binds (ps := ["numbers"]) fun _ _ _ _ _ _ us hl => match us, hl with | [_], _ => rfl,
    fun_mk (st := s_common) l6 c6 k6, PySem.W.mg_of X G a6, (fun_mk (st := s_common) l6 c6 k6).binds (ps := ["numbers"]) fun _ _ _ _ _ _ us hl => match us, hl with | [_], _ => rfl,
    fun_mk (st := s_wanted) l7 c7 k7, PySem.W.mg_of X G a7, (fun_mk (st := s_wanted) l7 c7 k7).binds (ps := ["numbers", "days"]) fun _ _ _ _ _ _ us hl => match us, hl with | [_, _], _ => rfl,
    fun_mk (st := s_share_of) l8 c8 k8, PySem.W.mg_of X G a8, (fun_mk (st := s_share_of) l8 c8 k8).binds (ps := ["numbers"]) fun _ _ _ _ _ _ us hl => match us, hl with | [_], _ => rfl,
    fun_mk (st := s_share) l9 c9 k9, PySem.W.mg_of X G a9, (fun_mk (st := s_share) l9 c9 k9).binds (ps := ["numbers"]) fun _ _ _ _ _ _ us hl => match us, hl with | [_], _ => rfl,
    fun_mk (st := s__law_deck) l10 c10 k10, PySem.W.mg_of X G a10, (fun_mk (st := s__law_deck) l10 c10 k10).binds (ps := ["_law_script", "_law_many"]) fun _ _ _ _ _ _ us hl => match us, hl with | [_, _], _ => rfl,
    fun_mk (st := s__law_whole) l11 c11 k11, PySem.W.mg_of X G a11, (fun_mk (st := s__law_whole) l11 c11 k11).binds (ps := ["_law_thing", "_law_least", "_law_most"]) fun _ _ _ _ _ _ us hl => match us, hl with | [_, _, _], _ => rfl,
    fun_mk (st := s__law_odd) l12 c12 k12, PySem.W.mg_of X G a12, (fun_mk (st := s__law_odd) l12 c12 k12).binds (ps := ["_law_draw"]) fun _ _ _ _ _ _ us hl => match us, hl with | [_], _ => rfl,
    fun_mk (st := s__law_truth) l13 c13 k13, PySem.W.mg_of X G a13, (fun_mk (st := s__law_truth) l13 c13 k13).binds (ps := ["_law_found", "_law_due"]) fun _ _ _ _ _ _ us hl => match us, hl with | [_, _], _ => rfl,
    fun_mk (st := s__law_is) l14 c14 k14, PySem.W.mg_of X G a14, (fun_mk (st := s__law_is) l14 c14 k14).binds (ps := ["_law_thing"]) fun _ _ _ _ _ _ us hl => match us, hl with | [_], _ => rfl,
    fun_mk (st := s__law_row) l15 c15 k15, PySem.W.mg_of X G a15, (fun_mk (st := s__law_row) l15 c15 k15).binds (ps := ["_law_deck_here"]) fun _ _ _ _ _ _ us hl => match us, hl with | [_], _ => rfl,
    fun_mk (st := s__law_refusal) l16 c16 k16, PySem.W.mg_of X G a16, (fun_mk (st := s__law_refusal) l16 c16 k16).binds (ps := ["_law_which", "_law_thing", "_law_days"]) fun _ _ _ _ _ _ us hl => match us, hl with | [_, _, _], _ => rfl,
    fun_mk (st := s_law) l17 c17 k17, PySem.W.mg_of X G a17, (fun_mk (st := s_law) l17 c17 k17).binds (ps := ["_law_script"]) fun _ _ _ _ _ _ us hl => match us, hl with | [_], _ => rfl,
    PySem.W.mg_none_of X G z_ValueError,
    PySem.W.mg_none_of X G z_bool,
    PySem.W.mg_none_of X G z_int,
    PySem.W.mg_none_of X G z_isinstance,
    PySem.W.mg_none_of X G z_len,
    PySem.W.mg_none_of X G z_list,
    PySem.W.mg_none_of X G z_range,
    PySem.W.mg_none_of X G z_sum,
    PySem.W.mg_none_of X G z_tuple,
    ⟨PySem.W.mg_of X G xa_DaysError, xq_DaysError, xk_DaysError, xb_DaysError, xt_DaysError⟩,
    ⟨PySem.W.mg_of X G xa_NoNumbers, xq_NoNumbers, xk_NoNumbers, xb_NoNumbers, xt_NoNumbers⟩,
    ⟨PySem.W.mg_of X G xa_NoDays, xq_NoDays, xk_NoDays, xb_NoDays, xt_NoDays⟩,
    ⟨ehg_NoNumbers, ehk_NoNumbers, ehs_NoNumbers, ehd_NoNumbers, eha_NoNumbers, ehn_NoNumbers, eht_NoNumbers, ehm_NoNumbers⟩,
    ⟨ehg_NoDays, ehk_NoDays, ehs_NoDays, ehd_NoDays, eha_NoDays, ehn_NoDays, eht_NoDays, ehm_NoDays⟩,
    m_NoNumbers_DaysError.trans (by decide),
    m_NoDays_DaysError.trans (by decide),
    k_NoNumbers_NoDays.trans (by decide),
    k_NoDays_NoDays.trans (by decide),
    k_NoNumbers_NoNumbers.trans (by decide),
    k_NoDays_NoNumbers.trans (by decide),
    k_NoNumbers_ValueError.trans (by decide),
    k_NoDays_ValueError.trans (by decide),
    PySem.W.mg_of X G cc_GREATEST,
    PySem.W.mg_of X G cc_MOST_DAYS,
    PySem.W.mg_of X G cc_MOST_THINGS⟩
  exact ⟨_, fun s v => .of_eq rfl, fun base _ _ => (ok_law T).imp fun vs H Q E q => spL_imp q⟩
end WD
namespace WD
open PySem PySem.Spec PyProof.Rows L2
noncomputable def deckBody : FS := (sSeq (sSet 6 (eBin modD (eVar 5) (eB lenD (aCons (eVar 2) aNil)))) (sSeq (sSet 7 (eBin modD (eBin ixD (eVar 2) (eVar 6)) (eC (.int 1000000)))) (sSeq (sIf (tV (eBin (eqD false) (eVar 3) (eC (.int 0)))) (sSeq (sSet 7 (eBin modD (eBin addD (eBin addD (eBin ixD (eVar 2) (eVar 6)) (eBin mulD (eBin mulD (eVar 5) (eVar 5)) (eC (.int 16807)))) (eBin mulD (eC (.int 3)) (eVar 5))) (eC (.int 2147483629)))) (sSeq (sSet 7 (eBin modD (eBin addD (eBin mulD (eVar 7) (eBin ixD (eLst false (aCons (eC (.int 48271)) (aCons (eC (.int 69621)) (aCons (eC (.int 39373)) (aCons (eC (.int 40692)) aNil))))) (eBin modD (eVar 5) (eC (.int 4))))) (eC (.int 7))) (eC (.int 2147483647)))) (sSet 7 (eBin modD (eBin mulD (eVar 7) (eVar 7)) (eC (.int 2147483629)))))) (sItem (eVar 2) (eVar 6) (eBin fdivD (eBin ixD (eVar 2) (eVar 6)) (eC (.int 1000000))))) (sExpr (eML appendD (eVar 4) (aCons (eVar 7) aNil))))))
/-- one turn of the deck's loop -/
theorem deck_turn {a m : D} {r : Nat} {kk : Int} {row deck : List Int} {odd : Int} {x6 x7 : Option D} {g : Hs} (hr : locAt g r = some (row.map D.int)) (hrow : 0 < row.length) (hk0 : 0 ≤ kk) (hk : kk < 100000) (hd : deck.length < 100000) :
    ∃ (row' : List Int) (one : Int) (y6 : Option D), row'.length = row.length ∧ deckBody [some a, some m, some (.loc r), some (.int odd), some (.loc g.length), some (.int kk), x6, x7] (g ++ [.lst (deck.map D.int)]) =
      .nx [some a, some m, some (.loc r), some (.int odd), some (.loc g.length), some (.int kk), y6, some (.int one)] (g.set r (.lst (row'.map D.int)) ++ [.lst ((deck ++ [one]).map D.int)]) := by
  have hrl := locAt_lt hr
  have h1 : locAt (g ++ [.lst (deck.map D.int)]) r = some (row.map D.int) := by rw [locAt_app hrl]; exact hr
  have hlen : lenD [.loc r] (g ++ [.lst (deck.map D.int)]) = .ok (.int row.length) (g ++ [.lst (deck.map D.int)]) := by
    rw [x_len (d := .loc r) h1]; simp
  have hpos : (0 : Int) < (row.length : Int) := by omega
  have hm0 : 0 ≤ kk % (row.length : Int) := Int.emod_nonneg _ (by omega)
  have hm1 : kk % (row.length : Int) < row.length := Int.emod_lt_of_pos _ hpos
  obtain ⟨one0, hix⟩ : ∃ one0, ixD (.loc r) (.int (kk % (row.length : Int))) (g ++ [.lst (deck.map D.int)]) = .ok (.int one0) (g ++ [.lst (deck.map D.int)]) := ⟨_, x_ix_ints (d := .loc r) h1 hm0 hm1⟩
  generalize hat : kk % (row.length : Int) = at_ at *
  have hk4 : 0 ≤ kk % 4 ∧ kk % 4 < 4 := ⟨Int.emod_nonneg _ (by omega), Int.emod_lt_of_pos _ (by omega)⟩
  have hkk : smallI kk := small_of (by omega) (by omega)
  have s1 : smallI 16807 := ⟨by decide, by decide⟩
  have s2 : smallI 3 := ⟨by decide, by decide⟩
  have hz : (deck.map D.int).length < sizeLine := by rw [List.length_map]; exact Nat.lt_trans hd (by decide)
  by_cases ho : odd = 0
  · have sm1 : ∀ c : Int, smallI (c % 2147483629) := fun c => small_of (Int.emod_nonneg _ (by omega)) (by have := Int.emod_lt_of_pos c (show (0:Int) < 2147483629 by omega); omega)
    have sm2 : ∀ c : Int, smallI (c % 2147483647) := fun c => small_of (Int.emod_nonneg _ (by omega)) (by have := Int.emod_lt_of_pos c (show (0:Int) < 2147483647 by omega); omega)
    obtain ⟨z, hz4⟩ : ∃ z : Int, ixD (.lst [.int 48271, .int 69621, .int 39373, .int 40692]) (.int (kk % 4)) (g ++ [O.lst (deck.map D.int)]) = .ok (.int z) (g ++ [O.lst (deck.map D.int)]) :=
      ⟨_, x_ix_ints (h := g ++ [O.lst (deck.map D.int)]) (ns := [48271, 69621, 39373, 40692]) (d := .lst ([48271, 69621, 39373, 40692].map D.int)) rfl hk4.1 hk4.2⟩
    have hs4 : (4 : Nat) ≤ sizeLine := by decide
    refine ⟨row, (((one0 + kk * kk * 16807 + 3 * kk) % 2147483629 * z + 7) % 2147483647) * (((one0 + kk * kk * 16807 + 3 * kk) % 2147483629 * z + 7) % 2147483647) % 2147483629, some (.int at_), rfl, ?_⟩
    rw [set_same hr]
    simp [deckBody, hlen, hpos, hrow, hat, hix, ho, hkk, s1, s2, sm1, sm2, hz4, hs4, app_last hz]
  · refine ⟨row.set at_.toNat (one0 / 1000000), one0 % 1000000, some (.int at_), by simp, ?_⟩
    have hl6 : Nat.log2 1000000 < 9000 := by decide
    have hset : setD (.loc r) (.int at_) (.int (one0 / 1000000)) (g ++ [.lst (deck.map D.int)]) = some (g.set r (.lst ((row.set at_.toNat (one0 / 1000000)).map D.int)) ++ [.lst (deck.map D.int)]) := by
      simp only [setD, h1, List.length_map, ixN_in hm0 hm1, set_app hrl, List.map_set]
    have hap : ∀ w : O, appendD (.loc g.length) [.int (one0 % 1000000)] (g.set r w ++ [.lst (deck.map D.int)]) = .ok .non (g.set r w ++ [.lst (deck.map D.int ++ [.int (one0 % 1000000)])]) := fun w => by
      have := app_last (g := g.set r w) (d := .int (one0 % 1000000)) hz
      simpa using this
    have hlo : ∀ w : O, locAt (g.set r w ++ [.lst (deck.map D.int)]) g.length = some (deck.map D.int) := fun w => by
      have := locAt_end (g := g.set r w) (xs := deck.map D.int) (t := [])
      simpa using this
    simp [deckBody, hlen, hpos, hrow, hat, hix, ho, hl6, hset, hap, hlo]
theorem deck_loop {a m : D} {r : Nat} {odd : Int} (n : Nat) : ∀ (ds : List Int) (row deck : List Int) (x5 x6 x7 : Option D) (g : Hs), (∀ k ∈ ds, 0 ≤ k ∧ k < 100000) → locAt g r = some (row.map D.int) → 0 < row.length → deck.length + ds.length ≤ 100000 →
    ∃ (row' deck' : List Int) (y5 y6 y7 : Option D), row'.length = row.length ∧ deck'.length = deck.length + ds.length ∧ loopS (gVar 5) deckBody (ds.map D.int) [some a, some m, some (.loc r), some (.int odd), some (.loc g.length), x5, x6, x7] (g ++ [.lst (deck.map D.int)]) =
      .nx [some a, some m, some (.loc r), some (.int odd), some (.loc g.length), y5, y6, y7] (g.set r (.lst (row'.map D.int)) ++ [.lst (deck'.map D.int)])
  | [], row, deck, x5, x6, x7, g, _, hr, _, _ => ⟨row, deck, x5, x6, x7, rfl, by simp, by rw [set_same hr]; rfl⟩
  | k :: ds, row, deck, x5, x6, x7, g, hk, hr, hrow, hd => by
    simp only [List.length_cons] at hd
    obtain ⟨row1, one, y6, h1, h2⟩ := deck_turn (a := a) (m := m) (odd := odd) (x6 := x6) (x7 := x7) hr hrow (hk k List.mem_cons_self).1 (hk k List.mem_cons_self).2 (deck := deck) (by omega)
    have hrl := locAt_lt hr
    have hr1 : locAt (g.set r (.lst (row1.map D.int))) r = some (row1.map D.int) := locAt_set hrl
    obtain ⟨row2, deck2, y5, y6', y7, h3, h4, h5⟩ := deck_loop n ds row1 (deck ++ [one]) (some (.int k)) y6 (some (.int one)) (g.set r (.lst (row1.map D.int))) (fun k hk' => hk k (List.mem_cons_of_mem _ hk')) hr1 (by omega) (by simp; omega)
    rw [List.length_set] at h5
    refine ⟨row2, deck2, y5, y6', y7, by omega, by simp at h4 ⊢; omega, ?_⟩
    simp only [List.map_cons, loopS, x_gvar, List.set_cons_succ, List.set_cons_zero]
    rw [h2]
    simp only [x_after_nx]
    rw [h5, List.set_set]
theorem deck_t1 {a : D} {n r : Nat} {one0 : Int} {h : Hs} (hix : ixD (.loc r) (.int 0) h = .ok (.int one0) h) : (sSet 3 (eBin modD (eBin ixD (eVar 2) (eC (.int 0))) (eC (.int 2)))) [some a, some (.int n), some (.loc r), none, none, none, none, none] h = .nx [some a, some (.int n), some (.loc r), some (.int (one0 % 2)), none, none, none, none] h := by
  simp [hix]
theorem deck_t2 {a : D} {n r : Nat} {one0 : Int} {h h1 : Hs} (hix : ixD (.loc r) (.int 0) h = .ok (.int one0) h) (hset : setD (.loc r) (.int 0) (.int (one0 / 2)) h = some h1) : (sItem (eVar 2) (eC (.int 0)) (eBin fdivD (eBin ixD (eVar 2) (eC (.int 0))) (eC (.int 2)))) [some a, some (.int n), some (.loc r), some (.int (one0 % 2)), none, none, none, none] h = .nx [some a, some (.int n), some (.loc r), some (.int (one0 % 2)), none, none, none, none] h1 := by
  have hl2 : Nat.log2 2 < 9000 := by decide
  simp [hix, hset, hl2]
theorem deck_t3 {a : D} {n r : Nat} {one0 : Int} {h : Hs} : (sSet 4 (eLst true aNil)) [some a, some (.int n), some (.loc r), some (.int (one0 % 2)), none, none, none, none] h = .nx [some a, some (.int n), some (.loc r), some (.int (one0 % 2)), some (.loc h.length), none, none, none] (h ++ [.lst []]) := by
  simp
theorem deck_rest {a : D} {n r : Nat} {row : List Int} {h q : Hs} (hn : n ≤ 1000) (hr : locAt (h ++ q) r = some (row.map D.int)) (hrow : 0 < row.length) (hh : h.length ≤ r) :
    ∃ (deck : List Int) (q' : Hs), deck.length = n ∧ q'.length = q.length ∧ (sSeq (sSet 3 (eBin modD (eBin ixD (eVar 2) (eC (.int 0))) (eC (.int 2)))) (sSeq (sItem (eVar 2) (eC (.int 0)) (eBin fdivD (eBin ixD (eVar 2) (eC (.int 0))) (eC (.int 2)))) (sSeq (sSet 4 (eLst true aNil)) (sSeq (sFor (iRng1 (aCons (eVar 1) aNil)) (gVar 5) deckBody) (sSeq (sExpr (eML reverseD (eVar 4) aNil)) (sRet (eVar 4)))))))
      [some a, some (.int n), some (.loc r), none, none, none, none, none] (h ++ q) = .rt (.loc (h ++ q).length) (h ++ q' ++ [.lst (deck.map D.int)]) := by
  have hrl := locAt_lt hr
  obtain ⟨one0, hix⟩ : ∃ one0, ixD (.loc r) (.int 0) (h ++ q) = .ok (.int one0) (h ++ q) := ⟨_, x_ix_ints (d := .loc r) hr (by decide) (by omega)⟩
  have hl2 : Nat.log2 2 < 9000 := by decide
  have hset : setD (.loc r) (.int 0) (.int (one0 / 2)) (h ++ q) = some ((h ++ q).set r (.lst ((row.set 0 (one0 / 2)).map D.int))) := by
    simp only [setD, hr, List.length_map, ixN_in (show (0 : Int) ≤ 0 by decide) (show (0 : Int) < row.length by omega), List.map_set, Int.toNat_zero]
  generalize hg : (h ++ q).set r (.lst ((row.set 0 (one0 / 2)).map D.int)) = g1 at *
  have hgl : g1.length = (h ++ q).length := by rw [← hg]; simp
  have hr1 : locAt g1 r = some ((row.set 0 (one0 / 2)).map D.int) := by rw [← hg]; exact locAt_set hrl
  obtain ⟨row2, deck2, y5, y6, y7, h3, h4, h5⟩ := deck_loop (a := a) (m := .int n) (odd := one0 % 2) n ((List.range n).map fun (i : Nat) => 0 + (i : Int)) (row.set 0 (one0 / 2)) [] none none none g1 (by
    intro k hk
    simp only [List.mem_map, List.mem_range] at hk
    obtain ⟨i, hi, rfl⟩ := hk
    omega) hr1 (by simpa using hrow) (by simp; omega)
  simp only [List.map_nil, List.length_nil, Nat.zero_add, List.length_map, List.length_range] at h4 h5
  rw [← rgL_ints] at h5
  have hs0 : (0 : Nat) ≤ sizeLine := Nat.zero_le _
  have hset2 : g1.set r (.lst (row2.map D.int)) = h ++ (q.set (r - h.length) (.lst (row2.map D.int))) := by
    rw [← hg, List.set_set, List.set_append_right _ _ hh]
  refine ⟨deck2.reverse, q.set (r - h.length) (.lst (row2.map D.int)), by simp [h4], by simp, ?_⟩
  have hrev : reverseD (.loc g1.length) [] (g1.set r (.lst (row2.map D.int)) ++ [.lst (deck2.map D.int)]) = .ok .non (h ++ (q.set (r - h.length) (.lst (row2.map D.int))) ++ [.lst (deck2.reverse.map D.int)]) := by
    rw [hset2]
    have e1 : g1.length = (h ++ (q.set (r - h.length) (.lst (row2.map D.int)))).length := by rw [hgl]; simp
    rw [e1]
    simp only [reverseD, locAt_end, set_end, List.map_reverse]
  have hlo : locAt (g1.set r (.lst (row2.map D.int)) ++ [.lst (deck2.map D.int)]) g1.length = some (deck2.map D.int) := by
    have := locAt_end (g := g1.set r (.lst (row2.map D.int))) (xs := deck2.map D.int) (t := [])
    simpa using this
  have hfor : sFor (iRng1 (aCons (eVar 1) aNil)) (gVar 5) deckBody [some a, some (.int n), some (.loc r), some (.int (one0 % 2)), some (.loc g1.length), none, none, none] (g1 ++ [.lst []]) =
      .nx [some a, some (.int n), some (.loc r), some (.int (one0 % 2)), some (.loc g1.length), y5, y6, y7] (g1.set r (.lst (row2.map D.int)) ++ [.lst (deck2.map D.int)]) := by
    rw [sFor_rng (iRng1_ok (by rfl) (by omega))]
    exact h5
  rw [← hgl]
  have e5 : (sSeq (sExpr (eML reverseD (eVar 4) aNil)) (sRet (eVar 4))) [some a, some (.int n), some (.loc r), some (.int (one0 % 2)), some (.loc g1.length), y5, y6, y7] (g1.set r (.lst (row2.map D.int)) ++ [.lst (deck2.map D.int)]) = .rt (.loc g1.length) (h ++ (q.set (r - h.length) (.lst (row2.map D.int))) ++ [.lst (deck2.reverse.map D.int)]) := by
    simp only [x_seq, x_expr, x_ml, x_var, List.getElem?_cons_succ, List.getElem?_cons_zero, R.bind_ok, x_lo_loc, hlo, x_anil, hrev, x_calm1_ok, RS.ofR_ok, x_ret]
  exact (seq_nx (deck_t1 hix)).trans ((seq_nx (deck_t2 hix hset)).trans ((seq_nx deck_t3).trans ((seq_nx hfor).trans e5)))
theorem F_deck {ns : List Int} {n : Nat} {h : Hs} (hn : n ≤ 1000) : ∃ deck : List Int, deck.length = n ∧ F__law_deck [.scr (ns.map D.int), .int n] h = .ok (.loc h.length) (h ++ [.lst (deck.map D.int)]) := by
  have fin : ∀ (q : Hs) (r : Nat) (row : List Int), locAt (h ++ q) r = some (row.map D.int) → 0 < row.length → h.length ≤ r → (∀ k : FS, (sSeq (sSet 2 (eB (listD true) (aCons (eVar 0) aNil))) (sSeq (sIf (tV (eBin (eqD false) (eVar 2) (eLst false aNil))) (sSet 2 (eLst true (aCons (eC (.int 4)) aNil))) sNext) k)) [some (.scr (ns.map D.int)), some (.int n), none, none, none, none, none, none] h = k [some (.scr (ns.map D.int)), some (.int n), some (.loc r), none, none, none, none, none] (h ++ q)) →
      ∃ deck : List Int, deck.length = n ∧ F__law_deck [.scr (ns.map D.int), .int n] h = .ok (.loc h.length) (h ++ [.lst (deck.map D.int)]) := fun q r row hr hrow hh hk => by
    obtain ⟨deck, q', h1, h2, h3⟩ := deck_rest (a := .scr (ns.map D.int)) (n := n) hn hr hrow hh
    refine ⟨deck, h1, ?_⟩
    unfold F__law_deck
    rw [run_eq (n := 2) rfl]
    have e : b__law_deck ([D.scr (ns.map D.int), D.int n].map some ++ List.replicate (8 - 2) none) h = .rt (.loc (h ++ q).length) (h ++ q' ++ [.lst (deck.map D.int)]) := by
      have := hk (sSeq (sSet 3 (eBin modD (eBin ixD (eVar 2) (eC (.int 0))) (eC (.int 2)))) (sSeq (sItem (eVar 2) (eC (.int 0)) (eBin fdivD (eBin ixD (eVar 2) (eC (.int 0))) (eC (.int 2)))) (sSeq (sSet 4 (eLst true aNil)) (sSeq (sFor (iRng1 (aCons (eVar 1) aNil)) (gVar 5) deckBody) (sSeq (sExpr (eML reverseD (eVar 4) aNil)) (sRet (eVar 4)))))))
      rw [h3] at this
      exact this
    rw [e]
    dsimp only
    show exitM h (h ++ q).length (h ++ q' ++ [.lst (deck.map D.int)]) = _
    unfold exitM
    rw [List.append_assoc, if_pos ⟨truncOk_app _ _, by simp⟩]
    have e2 : (h ++ q).length = (h ++ q').length := by simp [h2]
    rw [← List.append_assoc, e2, locAt_end]
    simp
  cases ns with
  | nil =>
    refine fin [.lst [], .lst [.int 4]] (h.length + 1) [4] ?_ (by decide) (by omega) fun k => ?_
    · have := locAt_end (g := h ++ [.lst []]) (xs := [.int 4]) (t := [])
      simpa using this
    · have hs1 : (1 : Nat) ≤ sizeLine := by decide
      have he : eqD false (.loc h.length) (.lst []) (h ++ [.lst []]) = .ok (.bl true) (h ++ [.lst []]) := by
        rw [x_eqL (ns := []) (ms := []) (by simp) (by simp)]; simp
      simp [he, hs1]
  | cons a ns =>
    refine fin [.lst ((a :: ns).map D.int)] h.length (a :: ns) (by simp) (by simp) (Nat.le_refl _) fun k => ?_
    have he : eqD false (.loc h.length) (.lst []) (h ++ [.lst ((a :: ns).map D.int)]) = .ok (.bl false) (h ++ [.lst ((a :: ns).map D.int)]) := by
      rw [x_eqL (ns := a :: ns) (ms := []) (by simp) (by simp)]; simp
    simp only [List.map_cons] at he
    simp [he]

end WD
namespace WD
open PySem PySem.Spec PyProof.Rows L2
theorem F_is_whole_eq {d : D} {lo hi : Int} {h : Hs} (hd : ∀ n, d ≠ .ty n) : F_is_whole [d, .int lo, .int hi] h = .ok (.bl (isW lo hi d)) h := by
  unfold F_is_whole b_is_whole
  rw [run_eq (n := 3) rfl]
  cases d with
  | ty n => exact absurd rfl (hd n)
  | int i => by_cases h1 : lo ≤ i <;> by_cases h2 : i ≤ hi <;> simp [isiD, tyD, clsD, isSub, isW, h1, h2]
  | _ => simp [isiD, tyD, clsD, isSub, isW]
theorem F_is_row_eq {d : D} {h : Hs} (hd : ∀ n, d ≠ .ty n) : F_is_row [d] h = .ok (.bl (isRow d)) h := by
  unfold F_is_row b_is_row
  rw [run_eq (n := 1) rfl]
  have h2 : (2 : Nat) ≤ sizeLine := by decide
  cases d with
  | ty n => exact absurd rfl (hd n)
  | _ => simp [isiD, tyD, tysOf, clsD, isSub, isRow, h2]
theorem F_is_numbers_eq {d : D} {h : Hs} {ns : List Int} (hr : rowOf h d = some (ns.map D.int)) (hn : NumOk ns) : F_is_numbers [d] h = .ok (.bl true) h := by
  unfold F_is_numbers b_is_numbers
  rw [run_eq (n := 1) rfl]
  have hc : eComp false [1] (iRow (eVar 0)) (gVar 1) (tNotF (tV (eCall 3 F_is_whole (aCons (eVar 1) (aCons (eC (.int 1)) (aCons (eC (.int 40)) aNil)))))) (eVar 1) [some d, none] h = .ok (.lst []) h := by
    obtain ⟨it, e1, e2⟩ := iRow_ok (f := eVar 0) (s := [some d, none]) (h := h) (h1 := h) rfl hr (by rw [List.length_map]; exact size_small (by have := hn.1; omega))
    rw [comp_pure (fun _ => false) id e1 e2 fun x hx => ?_]
    · simp
    · obtain ⟨n, hn', rfl⟩ := List.mem_map.mp hx
      refine ⟨[some d, some (.int n)], rfl, ?_, by simp⟩
      have := hn.2 n hn'
      simp [F_is_whole_eq, isW, this.1, this.2]
  have hl : ¬ (8 : Int) < (ns.length : Int) := by have := hn.1; omega
  have he : eqD false (.lst []) (.lst []) h = .ok (.bl true) h := by
    rw [x_eqL (ns := []) (ms := []) rfl rfl]; simp
  have h0 : lenD [d] h = .ok (.int ns.length) h := by rw [x_len hr]; simp
  simp [F_is_row_eq (row_not_ty hr), row_is hr, h0, hc, he, hl]
theorem F_asked_numbers_eq {d : D} {h : Hs} {ns : List Int} (hr : rowOf h d = some (ns.map D.int)) (hn : NumOk ns) : F_asked_numbers [d] h = .ok (.tup (ns.map D.int)) h := by
  unfold F_asked_numbers b_asked_numbers
  rw [run_eq (n := 1) rfl]
  simp [F_is_numbers_eq hr hn, x_tuple hr, exitT_same]
end WD
namespace WD
open PySem PySem.Spec PyProof.Rows L2
theorem div_loop {h : Hs} : ∀ (b a : Nat), ∃ n, whileF (tV (eBin gtD (eVar 1) (eC (.int 0)))) (sPar 0 1 (aCons (eVar 1) (aCons (eBin modD (eVar 0) (eVar 1)) aNil))) n [some (.int a), some (.int b)] h = .nx [some (.int (Nat.gcd a b)), some (.int 0)] h := by
  intro b
  induction b using Nat.strongRecOn with
  | ind b ih =>
    intro a
    by_cases hb : b = 0
    · subst hb
      exact ⟨1, by simp [whileF]⟩
    · obtain ⟨n, e⟩ := ih (a % b) (Nat.mod_lt _ (by omega)) b
      refine ⟨n + 1, ?_⟩
      have hpos : 0 < b := by omega
      have hm : (a : Int) % (b : Int) = ((a % b : Nat) : Int) := by omega
      unfold whileF
      simp [hpos]
      rw [hm, e, Nat.gcd_comm b (a % b), ← Nat.gcd_rec, Nat.gcd_comm]
theorem F_divisor_eq {a b : Nat} {h : Hs} : F_divisor [.int a, .int b] h = .ok (.int (Nat.gcd a b)) h := by
  unfold F_divisor b_divisor
  rw [run_eq (n := 2) rfl]
  obtain ⟨n, e⟩ := div_loop (h := h) b a
  have := sWhile_eq e (by simp)
  simp [this]
def lcmL (ms : List Nat) : Nat := ms.foldl Nat.lcm 1
theorem foldl_lcm_pos : ∀ (ms : List Nat) (f : Nat), 0 < f → (∀ m ∈ ms, 0 < m) → 0 < ms.foldl Nat.lcm f
  | [], f, hf, _ => hf
  | m :: ms, f, hf, hm => foldl_lcm_pos ms _ (Nat.lcm_pos hf (hm m List.mem_cons_self)) fun k hk => hm k (List.mem_cons_of_mem _ hk)
theorem lcm_step {f m : Nat} : f / Nat.gcd f m * m = Nat.lcm f m := by
  unfold Nat.lcm
  exact Nat.div_mul_right_comm (Nat.gcd_dvd_left f m) m
theorem common_loop {t : D} {h : Hs} : ∀ (ms : List Nat) (f : Nat) (x : Option D), 0 < f → (∀ m ∈ ms, 1 ≤ m ∧ m ≤ 40) → ∃ y, loopS (gVar 2) (sSet 1 (eBin mulD (eBin fdivD (eVar 1) (eCall 2 F_divisor (aCons (eVar 1) (aCons (eVar 2) aNil)))) (eVar 2))) ((toI ms).map D.int) [some t, some (.int f), x] h = .nx [some t, some (.int (ms.foldl Nat.lcm f : Nat)), y] h
  | [], f, x, _, _ => ⟨x, rfl⟩
  | m :: ms, f, x, hf, hm => by
    have h1 := hm m List.mem_cons_self
    obtain ⟨y, e⟩ := common_loop ms (Nat.lcm f m) (some (.int m)) (Nat.lcm_pos hf (by omega)) fun k hk => hm k (List.mem_cons_of_mem _ hk)
    refine ⟨y, ?_⟩
    have hg : 0 < Nat.gcd f m := Nat.gcd_pos_of_pos_left _ hf
    have hgm : Nat.gcd f m ≤ 40 := Nat.le_trans (Nat.gcd_le_right f (show 0 < m by omega)) h1.2
    have hlog : (Nat.gcd f m).log2 < 9000 := log2_small (by omega)
    have hs : smallI (m : Int) := small_of (by omega) (by omega)
    have hb : (sSet 1 (eBin mulD (eBin fdivD (eVar 1) (eCall 2 F_divisor (aCons (eVar 1) (aCons (eVar 2) aNil)))) (eVar 2))) [some t, some (.int f), some (.int m)] h = .nx [some t, some (.int (Nat.lcm f m : Nat)), some (.int m)] h := by
      have : (f : Int) / ((Nat.gcd f m : Nat) : Int) * (m : Int) = ((Nat.lcm f m : Nat) : Int) := by rw [← lcm_step]; simp
      simp [F_divisor_eq, hg, hlog, hs, this]
    exact (loop_nx (s1 := [some t, some (.int f), some (.int m)]) rfl hb).trans e
theorem F_common_of_eq {ms : List Nat} {h : Hs} (hm : NumN ms) : F_common_of [.tup ((toI ms).map D.int)] h = .ok (.int (lcmL ms)) h := by
  unfold F_common_of
  rw [run_eq (n := 1) rfl]
  obtain ⟨y, e⟩ := common_loop (t := .tup ((toI ms).map D.int)) (h := h) ms 1 none (by decide) hm.2
  have ef : sFor (iRow (eVar 0)) (gVar 2) (sSet 1 (eBin mulD (eBin fdivD (eVar 1) (eCall 2 F_divisor (aCons (eVar 1) (aCons (eVar 2) aNil)))) (eVar 2))) [some (.tup ((toI ms).map D.int)), some (.int 1), none] h = .nx [some (.tup ((toI ms).map D.int)), some (.int (ms.foldl Nat.lcm 1 : Nat)), y] h :=
    (sFor_seq (ds := (toI ms).map D.int) (h1 := h) rfl).trans e
  have e2 : b_common_of ([D.tup ((toI ms).map D.int)].map some ++ List.replicate (3 - 1) none) h = .rt (.int (lcmL ms)) h :=
    (seq_nx (s' := [some (.tup ((toI ms).map D.int)), some (.int 1), none]) (h' := h) rfl).trans ((seq_nx ef).trans rfl)
  rw [e2]
  simp
theorem F_common_eq {d : D} {ms : List Nat} {h : Hs} (hr : rowOf h d = some ((toI ms).map D.int)) (hm : NumN ms) : F_common [d] h = .ok (.int (lcmL ms)) h := by
  unfold F_common b_common
  rw [run_eq (n := 1) rfl]
  simp [F_asked_numbers_eq hr hm.ok, F_common_of_eq hm]
def overL (L : Nat) (ms : List Nat) : Nat := (ms.map fun m => L / m).sum
theorem prod_le : ∀ (ms : List Nat) (f : Nat), (∀ m ∈ ms, 1 ≤ m ∧ m ≤ 40) → ms.foldl Nat.lcm f ≤ f * 40 ^ ms.length
  | [], f, _ => by simp
  | m :: ms, f, hm => by
    have h1 := hm m List.mem_cons_self
    refine Nat.le_trans (prod_le ms _ fun k hk => hm k (List.mem_cons_of_mem _ hk)) ?_
    have : Nat.lcm f m ≤ f * m := Nat.div_le_self _ _
    calc Nat.lcm f m * 40 ^ ms.length ≤ (f * m) * 40 ^ ms.length := Nat.mul_le_mul_right _ this
      _ ≤ (f * 40) * 40 ^ ms.length := Nat.mul_le_mul_right _ (Nat.mul_le_mul_left _ h1.2)
      _ = f * 40 ^ (m :: ms).length := by rw [List.length_cons, Nat.pow_succ, Nat.mul_assoc, Nat.mul_comm 40]
theorem lcm_bound {ms : List Nat} (hm : NumN ms) : lcmL ms ≤ 6553600000000 := by
  refine Nat.le_trans (prod_le ms 1 hm.2) ?_
  rw [Nat.one_mul]
  exact Nat.le_trans (Nat.pow_le_pow_right (by decide) hm.1) (by decide)
theorem lcm_pos {ms : List Nat} (hm : NumN ms) : 0 < lcmL ms := foldl_lcm_pos ms 1 (by decide) fun m h => by have := hm.2 m h; omega
theorem F_share_of_eq {ms : List Nat} {h : Hs} (hm : NumN ms) : F_share_of [.tup ((toI ms).map D.int)] h =
    .ok (.tup [.int ((overL (lcmL ms) ms / Nat.gcd (overL (lcmL ms) ms) (lcmL ms) : Nat)), .int ((lcmL ms / Nat.gcd (overL (lcmL ms) ms) (lcmL ms) : Nat))]) h := by
  unfold F_share_of
  rw [run_eq (n := 1) rfl]
  have hb := lcm_bound hm
  have hp := lcm_pos hm
  have hc : eComp false [3] (iRow (eVar 0)) (gVar 3) tYesF (eBin fdivD (eVar 1) (eVar 3)) [some (.tup ((toI ms).map D.int)), some (.int (lcmL ms)), none, none, none] h = .ok (.lst ((toI (ms.map fun m => lcmL ms / m)).map D.int)) h := by
    obtain ⟨it, e1, e2⟩ := iRow_ok (f := eVar 0) (s := [some (.tup ((toI ms).map D.int)), some (.int (lcmL ms)), none, none, none]) (h := h) (h1 := h) rfl rfl (by rw [List.length_map, toI_len]; exact size_small (by have := hm.1; omega))
    rw [comp_pure (fun _ => true) (fun d => match d with | .int i => .int ((lcmL ms : Int) / i) | d => d) e1 e2 fun x hx => ?_]
    · rw [x_newF, List.filter_eq_self.mpr (by simp)]
      simp [toI]
    · obtain ⟨n, hn', rfl⟩ := List.mem_map.mp hx
      obtain ⟨m, hm', rfl⟩ := mem_toI hn'
      have h1 := hm.2 m hm'
      refine ⟨[some (.tup ((toI ms).map D.int)), some (.int (lcmL ms)), none, some (.int m), none], rfl, rfl, fun _ => ?_⟩
      have h2 : 0 < m := by omega
      have h3 : m.log2 < 9000 := log2_small (by omega)
      simp [h2, h3]
  generalize hA : overL (lcmL ms) ms = A
  have hsum : (toI (ms.map fun m => lcmL ms / m)).sum = (A : Int) := by rw [sum_toI]; exact congrArg _ hA
  have hg : 0 < Nat.gcd A (lcmL ms) := Nat.gcd_pos_of_pos_right _ hp
  have hlog : (Nat.gcd A (lcmL ms)).log2 < 9000 := log2_small (Nat.lt_of_le_of_lt (Nat.gcd_le_right _ hp) (by omega))
  have h2 : (2 : Nat) ≤ sizeLine := by decide
  have t1 : (sSet 1 (eCall 1 F_common_of (aCons (eVar 0) aNil))) [some (.tup ((toI ms).map D.int)), none, none, none, none] h = .nx [some (.tup ((toI ms).map D.int)), some (.int (lcmL ms)), none, none, none] h := by
    simp [F_common_of_eq hm]
  have t2 : (sSet 2 (eB sumD (aCons (eComp false [3] (iRow (eVar 0)) (gVar 3) tYesF (eBin fdivD (eVar 1) (eVar 3))) aNil))) [some (.tup ((toI ms).map D.int)), some (.int (lcmL ms)), none, none, none] h = .nx [some (.tup ((toI ms).map D.int)), some (.int (lcmL ms)), some (.int A), none, none] h := by
    simp only [x_set, x_b, x_acons, hc, R.bind_ok, x_anil, x_sum_lst, hsum, x_calm1_ok, RS.ofR_ok]
    rfl
  have t3 : (sSet 4 (eCall 2 F_divisor (aCons (eVar 2) (aCons (eVar 1) aNil)))) [some (.tup ((toI ms).map D.int)), some (.int (lcmL ms)), some (.int A), none, none] h = .nx [some (.tup ((toI ms).map D.int)), some (.int (lcmL ms)), some (.int A), none, some (.int (Nat.gcd A (lcmL ms) : Nat))] h := by
    simp [F_divisor_eq]
  have t4 : (sRet (eTup (aCons (eBin fdivD (eVar 2) (eVar 4)) (aCons (eBin fdivD (eVar 1) (eVar 4)) aNil)))) [some (.tup ((toI ms).map D.int)), some (.int (lcmL ms)), some (.int A), none, some (.int (Nat.gcd A (lcmL ms) : Nat))] h = .rt (.tup [.int ((A / Nat.gcd A (lcmL ms) : Nat)), .int ((lcmL ms / Nat.gcd A (lcmL ms) : Nat))]) h := by
    simp [hg, hlog, h2]
  have e2 : b_share_of ([D.tup ((toI ms).map D.int)].map some ++ List.replicate (5 - 1) none) h = _ := (seq_nx t1).trans ((seq_nx t2).trans ((seq_nx t3).trans t4))
  rw [e2]
  simp [exitT_same]
theorem F_share_eq {d : D} {ms : List Nat} {h : Hs} (hr : rowOf h d = some ((toI ms).map D.int)) (hm : NumN ms) : F_share [d] h =
    .ok (.tup [.int ((overL (lcmL ms) ms / Nat.gcd (overL (lcmL ms) ms) (lcmL ms) : Nat)), .int ((lcmL ms / Nat.gcd (overL (lcmL ms) ms) (lcmL ms) : Nat))]) h := by
  unfold F_share b_share
  rw [run_eq (n := 1) rfl]
  simp [F_asked_numbers_eq hr hm.ok, F_share_of_eq hm, exitT_same]

end WD
namespace WD
open PySem PySem.Spec PyProof.Rows L2
theorem F_law_whole_eq {d : D} {lo hi : Int} {h : Hs} (hd : ∀ n, d ≠ .ty n) : F__law_whole [d, .int lo, .int hi] h = .ok (.bl (isW lo hi d)) h := F_is_whole_eq hd
end WD
namespace WD
open PySem PySem.Spec PyProof.Rows L2
def wantL (dy : Nat) (ms : List Nat) : Nat := (ms.map fun m => dy / m).sum
theorem want_le {dy : Nat} : ∀ (ms : List Nat), wantL dy ms ≤ ms.length * dy
  | [] => by simp [wantL]
  | m :: ms => by
    have ih := want_le (dy := dy) ms
    have : dy / m ≤ dy := Nat.div_le_self _ _
    unfold wantL at ih ⊢
    simp only [List.map_cons, List.sum_cons, List.length_cons, Nat.add_mul, Nat.one_mul]
    omega
theorem F_wanted_eq {d : D} {ms : List Nat} {dy : Nat} {h : Hs} (hr : rowOf h d = some ((toI ms).map D.int)) (hm : NumN ms) (hd : dy ≤ 1000000) : F_wanted [d, .int dy] h = .ok (.int (wantL dy ms)) h := by
  unfold F_wanted
  rw [run_eq (n := 2) rfl]
  have hw : F_is_whole [.int dy, .int 0, .int 1000000] h = .ok (.bl true) h := by
    rw [F_is_whole_eq (fun n => by simp)]
    simp [isW]; omega
  have hc : eComp false [2] (iRow (eVar 0)) (gVar 2) tYesF (eBin fdivD (eVar 1) (eVar 2)) [some (.tup ((toI ms).map D.int)), some (.int dy), none] h = .ok (.lst ((toI (ms.map fun m => dy / m)).map D.int)) h := by
    obtain ⟨it, e1, e2⟩ := iRow_ok (f := eVar 0) (s := [some (.tup ((toI ms).map D.int)), some (.int dy), none]) (h := h) (h1 := h) rfl rfl (by rw [List.length_map, toI_len]; exact size_small (by have := hm.1; omega))
    rw [comp_pure (fun _ => true) (fun d => match d with | .int i => .int ((dy : Int) / i) | d => d) e1 e2 fun x hx => ?_]
    · rw [x_newF, List.filter_eq_self.mpr (by simp)]
      simp [toI]
    · obtain ⟨n, hn', rfl⟩ := List.mem_map.mp hx
      obtain ⟨m, hm', rfl⟩ := mem_toI hn'
      have h1 := hm.2 m hm'
      refine ⟨[some (.tup ((toI ms).map D.int)), some (.int dy), some (.int m)], rfl, rfl, fun _ => ?_⟩
      have h2 : 0 < m := by omega
      have h3 : m.log2 < 9000 := log2_small (by omega)
      simp [h2, h3]
  have hsum : (toI (ms.map fun m => dy / m)).sum = (wantL dy ms : Int) := sum_toI _
  have e : b_wanted ([d, .int dy].map some ++ List.replicate (3 - 2) none) h = .rt (.int (wantL dy ms)) h := by
    unfold b_wanted
    refine Eq.trans (seq_nx (s' := ?_) (h' := ?_) ?e30) ?_
    case e30 => (conv => lhs; simp [F_asked_numbers_eq hr hm.ok]); try rfl
    refine Eq.trans (seq_nx (s' := ?_) (h' := ?_) ?e32) ?_
    case e32 => (conv => lhs; simp [hw]); try rfl
    simp [hc, hsum]
  rw [e]
  simp
theorem F_wanted_no {d y : D} {ms : List Nat} {h : Hs} (hr : rowOf h d = some ((toI ms).map D.int)) (hm : NumN ms) (hy : ∀ n, y ≠ .ty n) (hw : isW 0 1000000 y = false) : F_wanted [d, y] h = .err ⟨"NoDays", none⟩ h := by
  unfold F_wanted
  rw [run_eq (n := 2) rfl]
  have hw : F_is_whole [y, .int 0, .int 1000000] h = .ok (.bl false) h := by
    rw [F_is_whole_eq hy, hw]
  have e : b_wanted ([d, y].map some ++ List.replicate (3 - 2) none) h = .er ⟨"NoDays", none⟩ [some (.tup ((toI ms).map D.int)), some y, none] h := by
    unfold b_wanted
    refine Eq.trans (seq_nx (s' := ?_) (h' := ?_) ?e44) ?_
    case e44 => (conv => lhs; simp [F_asked_numbers_eq hr hm.ok]); try rfl
    exact seq_er (by simp [hw])
  rw [e]
  simp
end WD
namespace WD
open PySem PySem.Spec PyProof.Rows L2
noncomputable def oddL : List D := [.non, .bl true, .bl false, .str "3", .str "", .tup [], .lst [], .dic [] [], .tup [.int 1], .lst [.lst [.int 2]], .int (-1), .int (10 ^ 60), .int (0 - 10 ^ 60), .str "abc", .dic [.inl 1] [.int 2], .tup [.non]]
theorem odd_und {e : D} {n : Nat} (h : e ∈ oddL) : e.und n = true := by
  simp only [oddL, List.mem_cons, List.not_mem_nil, or_false] at h
  rcases h with rfl | rfl | rfl | rfl | rfl | rfl | rfl | rfl | rfl | rfl | rfl | rfl | rfl | rfl | rfl | rfl <;> simp [D.und, undL]
theorem odd_ty {e : D} (h : e ∈ oddL) : ∀ n, e ≠ .ty n := by
  intro n q
  subst q
  simp [oddL] at h
theorem F_odd_eq {dr : Int} {h : Hs} : ∃ e ∈ oddL, F__law_odd [.int dr] h = .ok e h := by
  obtain ⟨e, he, ex⟩ := ix_any (h := h) (d := .lst oddL) (i := dr % 16) rfl (by omega) (by simp [oddL]; omega)
  refine ⟨e, he, ?_⟩
  unfold F__law_odd
  rw [run_eq (n := 1) rfl]
  have z0 : (0 : Nat) ≤ sizeLine := Nat.zero_le _
  have z1 : (1 : Nat) ≤ sizeLine := size_small (by decide)
  have z16 : (16 : Nat) ≤ sizeLine := size_small (by decide)
  have t1 : t__law_odd_0 [some (.int dr), none] h = .nx [some (.int dr), some (.lst oddL)] h := by
    have hp : powD (.int 10) (.int 60) h = .ok (.int (10 ^ 60)) h := by
      rw [x_pow, if_pos ⟨by decide, by decide, by decide⟩]; rfl
    simp only [t__law_odd_0, x_set, x_lst, x_acons, x_c, R.bind_ok, x_anil, x_tup, x_neg, x_bin, x_calm2, hp, x_calm1_ok, x_sub, List.length_cons, List.length_nil, if_pos z0, if_pos z1, if_pos z16, x_newF, Nat.zero_add, Nat.reduceAdd, RS.ofR_ok]
    rfl
  have e2 : b__law_odd ([D.int dr].map some ++ List.replicate (2 - 1) none) h = .rt e h := by
    refine (seq_nx t1).trans ?_
    simp [ex]
  rw [e2]
  exact exitT_same (odd_und he)
end WD
namespace WD
open PySem PySem.Spec PyProof.Rows L2
def isNum (d : D) : Bool := match rowD d with
  | some xs => decide (xs.length ≤ 8) && xs.all (isW 1 40)
  | none => false
theorem row_isD {d : D} (f : Fine d) : isRow d = (rowD d).isSome := by
  have := f.und
  cases d <;> first | rfl | (simp at this)
theorem filt_all {α : Type} {p : α → Bool} : ∀ (xs : List α), (xs.filter fun x => !p x).isEmpty = xs.all p
  | [] => rfl
  | x :: xs => by
    cases h : p x with
    | true => rw [List.filter_cons_of_neg (by simp [h]), filt_all xs]; simp [h]
    | false => rw [List.filter_cons_of_pos (by simp [h])]; simp [h]
theorem F_is_numbers_gen {d : D} {h : Hs} (f : Fine d) : F_is_numbers [d] h = .ok (.bl (isNum d)) h := by
  unfold F_is_numbers b_is_numbers
  rw [run_eq (n := 1) rfl]
  have hrow := F_is_row_eq (h := h) f.ty
  rw [row_isD f] at hrow
  unfold isNum
  cases hr : rowD d with
  | none =>
    rw [hr] at hrow
    simp [hrow]
  | some xs =>
    rw [hr] at hrow
    have hr' : rowOf h d = some xs := f.rowOf.trans hr
    obtain ⟨hl, hx⟩ := f.row xs hr
    have h0 := x_len hr'
    by_cases h8 : xs.length ≤ 8
    · have hc : eComp false [1] (iRow (eVar 0)) (gVar 1) (tNotF (tV (eCall 3 F_is_whole (aCons (eVar 1) (aCons (eC (.int 1)) (aCons (eC (.int 40)) aNil)))))) (eVar 1) [some d, none] h = .ok (.lst (xs.filter fun x => !isW 1 40 x)) h := by
        obtain ⟨it, e1, e2⟩ := iRow_ok (f := eVar 0) (s := [some d, none]) (h := h) (h1 := h) rfl hr' (size_small (by omega))
        rw [comp_pure (fun x => !isW 1 40 x) id e1 e2 fun x hx' => ?_]
        · simp
        · refine ⟨[some d, some x], rfl, ?_, fun _ => rfl⟩
          simp [F_is_whole_eq (hx x hx')]
      have hl' : ¬ (8 : Int) < (xs.length : Int) := by omega
      have hx := x_eqNil (h := h) (ys := xs.filter fun x => !isW 1 40 x)
      rw [filt_all] at hx
      simp [hrow, h0, hc, hx, hl', h8]
    · have hl' : (8 : Int) < (xs.length : Int) := by omega
      simp [hrow, h0, hl', h8]
theorem F_asked_no {d : D} {h : Hs} (f : Fine d) (hn : isNum d = false) : F_asked_numbers [d] h = .err ⟨"NoNumbers", none⟩ h := by
  unfold F_asked_numbers b_asked_numbers
  rw [run_eq (n := 1) rfl]
  simp [F_is_numbers_gen f, hn]
theorem all_nums : ∀ {xs : List D}, xs.all (isW 1 40) = true → ∃ ms : List Nat, xs = (toI ms).map D.int ∧ ∀ m ∈ ms, 1 ≤ m ∧ m ≤ 40
  | [], _ => ⟨[], rfl, fun _ h => nomatch h⟩
  | x :: xs, h => by
    rw [List.all_cons, Bool.and_eq_true] at h
    obtain ⟨ms, e, hm⟩ := all_nums h.2
    cases x with
    | int i =>
      have hi := h.1
      simp [isW] at hi
      refine ⟨i.toNat :: ms, ?_, fun m hm' => ?_⟩
      · rw [toI_cons, List.map_cons, ← e, Int.toNat_of_nonneg (by omega)]
      · rcases List.mem_cons.mp hm' with rfl | hm'
        · omega
        · exact hm m hm'
    | _ => cases h.1
theorem num_view {d : D} (f : Fine d) (hn : isNum d = true) : ∃ ms, NumN ms ∧ ∀ h, rowOf h d = some ((toI ms).map D.int) := by
  unfold isNum at hn
  cases hr : rowD d with
  | none => rw [hr] at hn; cases hn
  | some xs =>
    rw [hr] at hn
    simp only [Bool.and_eq_true, decide_eq_true_eq] at hn
    obtain ⟨ms, rfl, hm⟩ := all_nums hn.2
    exact ⟨ms, ⟨by simpa using hn.1, hm⟩, fun h => f.rowOf.trans hr⟩
end WD
namespace WD
open PySem PySem.Spec PyProof.Rows L2
theorem F_law_is_gen {d : D} {h : Hs} (f : Fine d) : F__law_is [d] h = .ok (.bl (isNum d)) h := by
  unfold F__law_is b__law_is
  rw [run_eq (n := 1) rfl]
  have h2 : (2 : Nat) ≤ sizeLine := size_small (by decide)
  have hrow : isiD [d, .tup [.ty "list", .ty "tuple"]] h = .ok (.bl (isRow d)) h := by
    have := f.ty
    cases d with
    | ty n => exact absurd rfl (this n)
    | _ => simp [isiD, tyD, tysOf, clsD, isSub, isRow]
  rw [row_isD f] at hrow
  unfold isNum
  cases hr : rowD d with
  | none =>
    rw [hr] at hrow
    simp [hrow, h2]
  | some xs =>
    rw [hr] at hrow
    have hr' : rowOf h d = some xs := f.rowOf.trans hr
    obtain ⟨hl, hx⟩ := f.row xs hr
    have h0 := x_len hr'
    by_cases h8 : xs.length ≤ 8
    · have hc : eComp false [1] (iRow (eVar 0)) (gVar 1) (tNotF (tV (eCall 3 F__law_whole (aCons (eVar 1) (aCons (eC (.int 1)) (aCons (eC (.int 40)) aNil)))))) (eVar 1) [some d, none] h = .ok (.lst (xs.filter fun x => !isW 1 40 x)) h := by
        obtain ⟨it, e1, e2⟩ := iRow_ok (f := eVar 0) (s := [some d, none]) (h := h) (h1 := h) rfl hr' (size_small (by omega))
        rw [comp_pure (fun x => !isW 1 40 x) id e1 e2 fun x hx' => ?_]
        · simp
        · refine ⟨[some d, some x], rfl, ?_, fun _ => rfl⟩
          simp [F_law_whole_eq (hx x hx')]
      have hl' : ¬ (8 : Int) < (xs.length : Int) := by omega
      have hx := x_eqNil (h := h) (ys := xs.filter fun x => !isW 1 40 x)
      rw [filt_all] at hx
      simp [hrow, h2, h0, hc, hx, hl', h8]
    · have hl' : (8 : Int) < (xs.length : Int) := by omega
      simp [hrow, h2, h0, hl', h8]
theorem F_truth_eq {a b : Bool} {h : Hs} : F__law_truth [.bl a, .bl b] h = .ok (.bl (a == b)) h := by
  unfold F__law_truth b__law_truth
  rw [run_eq (n := 2) rfl]
  simp [isiD, tyD, clsD, isSub]
def b3 (a b c : Bool) : D := .lst [.bl a, .bl b, .bl c]
def dueR (d y : D) (w : Int) : D := if isNum d = false then b3 true false true else if w = 2 ∧ isW 0 1000000 y = false then b3 false true true else .str "told"
theorem F_refusal_eq {d y : D} {w : Int} {h : Hs} (f : Fine d) (hy : ∀ n, y ≠ .ty n) (hw : w = 0 ∨ w = 1 ∨ w = 2) : F__law_refusal [.int w, d, y] h = .ok (dueR d y w) h := by
  unfold F__law_refusal
  rw [run_eq (n := 3) rfl]
  have h3 : (3 : Nat) ≤ sizeLine := size_small (by decide)
  have toldE : k__law_refusal_0 [some (.int w), some d, some y, none] h = .nx [some (.int w), some d, some y, none] h → b__law_refusal ([.int w, d, y].map some ++ List.replicate (4 - 3) none) h = .rt (.str "told") h := fun e => by
    refine (seq_nx (s' := [some (.int w), some d, some y, none]) (h' := h) ?_).trans rfl
    show t__law_refusal_0 [some (.int w), some d, some y, none] h = _
    unfold t__law_refusal_0 sTry
    rw [e]
  have errE : ∀ x : Str, x ∈ (["NoNumbers", "NoDays"] : List Str) → k__law_refusal_0 [some (.int w), some d, some y, none] h = .er ⟨x, none⟩ [some (.int w), some d, some y, none] h → b__law_refusal ([.int w, d, y].map some ++ List.replicate (4 - 3) none) h = .rt (b3 (subX x "NoNumbers") (subX x "NoDays") (subX x "ValueError")) h := fun x hx e => by
    refine seq_rt ?_
    show t__law_refusal_0 [some (.int w), some d, some y, none] h = _
    unfold t__law_refusal_0 sTry
    rw [e]
    have hs : subX x "DaysError" = true := by simp [subX]
    simp only [List.length_cons, List.length_nil]
    rw [if_pos ⟨rfl, hx, by omega⟩, if_pos hs]
    simp [unset, h3, b3]
  unfold dueR
  cases hn : isNum d with
  | false =>
    rw [if_pos rfl]
    have ha := F_asked_no (h := h) f hn
    have hsh : F_share [d] h = .err ⟨"NoNumbers", none⟩ h := by
      unfold F_share b_share
      rw [run_eq (n := 1) rfl]
      simp [ha]
    have hco : F_common [d] h = .err ⟨"NoNumbers", none⟩ h := by
      unfold F_common b_common
      rw [run_eq (n := 1) rfl]
      simp [ha]
    have hwa : F_wanted [d, y] h = .err ⟨"NoNumbers", none⟩ h := by
      unfold F_wanted b_wanted
      rw [run_eq (n := 2) rfl]
      simp [ha]
    have ek : k__law_refusal_0 [some (.int w), some d, some y, none] h = .er ⟨"NoNumbers", none⟩ [some (.int w), some d, some y, none] h := by
      rcases hw with rfl | rfl | rfl <;> simp [hsh, hco, hwa]
    rw [errE _ (by simp) ek, show subX "NoNumbers" "NoNumbers" = true by decide, show subX "NoNumbers" "NoDays" = false by decide, show subX "NoNumbers" "ValueError" = true by decide]
    exact exitT_same (d := b3 true false true) (by simp [b3])
  | true =>
    rw [if_neg (by decide)]
    obtain ⟨ms, hm, hr⟩ := num_view f hn
    have hsh := F_share_eq (hr h) hm
    have hco := F_common_eq (hr h) hm
    by_cases hq : w = 2 ∧ isW 0 1000000 y = false
    · obtain ⟨rfl, hq⟩ := hq
      rw [if_pos ⟨rfl, hq⟩]
      have hwa := F_wanted_no (hr h) hm hy hq
      have ek : k__law_refusal_0 [some (.int 2), some d, some y, none] h = .er ⟨"NoDays", none⟩ [some (.int 2), some d, some y, none] h := by
        simp [hwa]
      rw [errE _ (by simp) ek, show subX "NoDays" "NoNumbers" = false by decide, show subX "NoDays" "NoDays" = true by decide, show subX "NoDays" "ValueError" = true by decide]
      exact exitT_same (d := b3 false true true) (by simp [b3])
    · rw [if_neg hq]
      have ek : k__law_refusal_0 [some (.int w), some d, some y, none] h = .nx [some (.int w), some d, some y, none] h := by
        rcases hw with rfl | rfl | rfl
        · simp [hsh]
        · simp [hco]
        · have hyw : isW 0 1000000 y = true := by
            cases hz : isW 0 1000000 y with
            | true => rfl
            | false => exact absurd ⟨rfl, hz⟩ hq
          cases y with
          | int i =>
            simp [isW] at hyw
            have hwa := F_wanted_eq (dy := i.toNat) (hr h) hm (by omega)
            rw [Int.toNat_of_nonneg (by omega)] at hwa
            simp [hwa]
          | _ => cases hyw
      rw [toldE ek]
      exact exitT_same (d := .str "told") rfl
end WD
namespace WD
open PySem PySem.Spec PyProof.Rows L2
theorem row_comp {r : Hs} {mm : D} {x2 x4 x5 : Option D} : ∀ (ks : List Int) (dk : List Int) (acc : List Int), ks.length ≤ dk.length → ∃ (vs dk' : List Int), vs.length = ks.length ∧ dk.length = dk'.length + ks.length ∧
    compA (gVar 3) tYesF (eBin addD (eC (.int 1)) (eBin modD (eML popD (eVar 0) aNil) (eC (.int 40)))) [some (.loc 0), some mm, x2, none, x4, x5] (newL true) (ks.map D.int) (acc.map D.int) (.lst (dk.map D.int) :: r) = newL true ((acc ++ vs).map D.int) (.lst (dk'.map D.int) :: r)
  | [], dk, acc, _ => ⟨[], dk, rfl, rfl, by simp [compA]⟩
  | k :: ks, dk, acc, hd => by
    simp only [List.length_cons] at hd
    obtain ⟨d1, a, rfl⟩ := split_last (l := dk) (by omega)
    obtain ⟨vs, dk', h1, h2, e⟩ := row_comp (r := r) (mm := mm) (x2 := x2) (x4 := x4) (x5 := x5) ks d1 (acc ++ [1 + a % 40]) (by simp at hd; omega)
    refine ⟨(1 + a % 40) :: vs, dk', by simp [h1], by simp at h2 ⊢; omega, ?_⟩
    rw [List.map_cons]
    refine (compA_step (s2 := [some (.loc 0), some mm, x2, some (.int k), x4, x5]) (y := .int (1 + a % 40)) (h' := .lst (d1.map D.int) :: r) rfl rfl ?_).trans ?_
    · simp only [x_bin, x_c, R.bind_ok, pop_var (i := 0) (s := [some (.loc 0), some mm, x2, some (.int k), x4, x5]) rfl, x_calm2, x_mod, if_pos (show (0 : Int) < 40 by decide), x_calm1_ok, x_add]
    · rw [show acc.map D.int ++ [D.int (1 + a % 40)] = (acc ++ [1 + a % 40]).map D.int by simp, e]
      simp
theorem F_row_eq {dk : List Int} {r : Hs} (hd : 11 ≤ dk.length) : ∃ (d : D) (dk' : List Int), Fine d ∧ dk.length ≤ dk'.length + 11 ∧ F__law_row [.loc 0] (.lst (dk.map D.int) :: r) = .ok d (.lst (dk'.map D.int) :: r) := by
  obtain ⟨d1, a, rfl⟩ := split_last (l := dk) (by omega)
  have hz : (8 : Nat) ≤ sizeLine := size_small (by decide)
  -- how many
  have hix := x_ix_ints (h := .lst (d1.map D.int) :: r) (d := .lst ([0, 1, 8, 9, 2, 3, 4, 7].map D.int)) (ns := [0, 1, 8, 9, 2, 3, 4, 7]) (i := a % 8) rfl (by omega) (by simp; omega)
  have hall : ∀ n ∈ ([0, 1, 8, 9, 2, 3, 4, 7] : List Int), 0 ≤ n ∧ n ≤ 9 := by decide
  have hl : (a % 8).toNat < ([0, 1, 8, 9, 2, 3, 4, 7] : List Int).length := by simp; omega
  have hin := hall _ (List.getElem_mem hl)
  generalize ([0, 1, 8, 9, 2, 3, 4, 7] : List Int)[(a % 8).toNat] = Y at hix hin
  obtain ⟨many, rfl⟩ : ∃ n : Nat, Y = n := ⟨Y.toNat, by omega⟩
  have hm : many ≤ 9 := by omega
  simp only [List.map_cons, List.map_nil] at hix
  have t0 : t__law_row_0 [some (.loc 0), none, none, none, none, none] (.lst ((d1 ++ [a]).map D.int) :: r) = .nx [some (.loc 0), some (.int many), none, none, none, none] (.lst (d1.map D.int) :: r) := by
    simp only [t__law_row_0, x_set, x_bin, x_lst, x_acons, x_c, R.bind_ok, x_anil, List.length_cons, List.length_nil, Nat.zero_add, Nat.reduceAdd, if_pos hz, x_newF, pop_var (i := 0) (s := [some (.loc 0), none, none, none, none, none]) rfl, x_calm2, x_mod, if_pos (show (0 : Int) < 8 by decide), x_calm1_ok, hix, RS.ofR_ok]
    rfl
  obtain ⟨vs, dk2, hv, h2, ec⟩ := row_comp (r := r) (mm := .int many) (x2 := none) (x4 := none) (x5 := none) ((List.range many).map fun (i : Nat) => 0 + (i : Int)) d1 [] (by simp at hd ⊢; omega)
  rw [← rgL_ints] at ec
  simp at hv h2
  have t1 : t__law_row_1 [some (.loc 0), some (.int many), none, none, none, none] (.lst (d1.map D.int) :: r) = .nx [some (.loc 0), some (.int many), some (.loc (r.length + 1)), none, none, none] (.lst (dk2.map D.int) :: (r ++ [.lst (vs.map D.int)])) := by
    have ei : iRng1 (aCons (eVar 1) aNil) [some (.loc 0), some (.int many), none, none, none, none] (.lst (d1.map D.int) :: r) = .ok (.rng 0 many) (.lst (d1.map D.int) :: r) := iRng1_ok rfl (by omega)
    have ec' : eComp true [3] (iRng1 (aCons (eVar 1) aNil)) (gVar 3) tYesF (eBin addD (eC (.int 1)) (eBin modD (eML popD (eVar 0) aNil) (eC (.int 40)))) [some (.loc 0), some (.int many), none, none, none, none] (.lst (d1.map D.int) :: r) = .ok (.loc (r.length + 1)) (.lst (dk2.map D.int) :: (r ++ [.lst (vs.map D.int)])) := by
      unfold eComp
      rw [ei]
      simp only [R.bind_ok]
      rw [if_pos (size_small (by omega))]
      exact ec
    unfold t__law_row_1
    rw [x_set, ec']
    rfl
  obtain ⟨dk3, dr, rfl⟩ := split_last (l := dk2) (by simp at hd; omega)
  have t2 : t__law_row_2 [some (.loc 0), some (.int many), some (.loc (r.length + 1)), none, none, none] (.lst ((dk3 ++ [dr]).map D.int) :: (r ++ [.lst (vs.map D.int)])) = .nx [some (.loc 0), some (.int many), some (.loc (r.length + 1)), none, some (.int dr), none] (.lst (dk3.map D.int) :: (r ++ [.lst (vs.map D.int)])) := by
    simp only [t__law_row_2, x_set, pop_var (i := 0) (s := [some (.loc 0), some (.int many), some (.loc (r.length + 1)), none, none, none]) rfl, RS.ofR_ok]
    rfl
  have t3 : ∃ (xs : List D) (y5 : Option D), (xs.length ≤ 9 ∧ (∀ x ∈ xs, x.und 0 = true ∧ ∀ n, x ≠ .ty n)) ∧ t__law_row_3 [some (.loc 0), some (.int many), some (.loc (r.length + 1)), none, some (.int dr), none] (.lst (dk3.map D.int) :: (r ++ [.lst (vs.map D.int)])) = .nx [some (.loc 0), some (.int many), some (.loc (r.length + 1)), none, some (.int dr), y5] (.lst (dk3.map D.int) :: (r ++ [.lst xs])) := by
    have hint : ∀ x ∈ vs.map D.int, x.und 0 = true ∧ ∀ n, x ≠ .ty n := fun x hx => by
      obtain ⟨v, _, rfl⟩ := List.mem_map.mp hx
      exact ⟨rfl, fun n e => nomatch e⟩
    by_cases hc : 0 < many ∧ dr % 2 = 0
    · generalize hH : (O.lst (dk3.map D.int) :: (r ++ [.lst (vs.map D.int)]) : Hs) = H
      obtain ⟨e, he, eo⟩ := F_odd_eq (dr := dr / 64) (h := H)
      obtain ⟨y, hy, ey⟩ := ix_any (h := H) (d := .lst [.int 0, .int 41, .int 42, e, .bl true, .int 40, .int 1, .int (-1)]) (i := dr / 4096 % 8) rfl (by omega) (by simp; omega)
      have hyf : y.und 0 = true ∧ ∀ n, y ≠ .ty n := by
        simp only [List.mem_cons, List.not_mem_nil, or_false] at hy
        rcases hy with rfl | rfl | rfl | rfl | rfl | rfl | rfl | rfl
        case inr.inr.inr.inl => exact ⟨odd_und he, odd_ty he⟩
        all_goals exact ⟨rfl, fun n e => nomatch e⟩
      have hat : 0 ≤ dr / 2 % (many : Int) ∧ dr / 2 % (many : Int) < many := ⟨Int.emod_nonneg _ (by omega), Int.emod_lt_of_pos _ (by omega)⟩
      have hset : setD (.loc (r.length + 1)) (.int (dr / 2 % (many : Int))) y H = some (.lst (dk3.map D.int) :: (r ++ [.lst ((vs.map D.int).set (dr / 2 % (many : Int)).toNat y)])) := by
        rw [← hH]
        exact set_item hat.1 (by simp [hv]; exact hat.2)
      refine ⟨(vs.map D.int).set (dr / 2 % (many : Int)).toNat y, some (.int (dr / 2 % (many : Int))), ⟨by simp [hv]; omega, fun x hx => ?_⟩, ?_⟩
      · rcases List.mem_or_eq_of_mem_set hx with hx | rfl
        · exact hint x hx
        · exact hyf
      · have l1 : ((2 : Int)).natAbs.log2 < 9000 := by decide
        have l2 : ((64 : Int)).natAbs.log2 < 9000 := by decide
        have l3 : ((4096 : Int)).natAbs.log2 < 9000 := by decide
        have hmp : (0 : Int) < many := by omega
        have ht : (tAndF (tV (eBin gtD (eVar 1) (eC (.int 0)))) (tV (eBin (eqD false) (eBin modD (eVar 4) (eC (.int 2))) (eC (.int 0))))) [some (.loc 0), some (.int many), some (.loc (r.length + 1)), none, some (.int dr), none] H = .ok true H := by
          simp [hc.1, hc.2]
        have u0 : t__law_row_3a_0 [some (.loc 0), some (.int many), some (.loc (r.length + 1)), none, some (.int dr), none] H = .nx [some (.loc 0), some (.int many), some (.loc (r.length + 1)), none, some (.int dr), some (.int (dr / 2 % (many : Int)))] H := by
          have l1' : Nat.log2 2 < 9000 := by decide
          simp [l1', hc.1]
        have u1 : t__law_row_3a_1 [some (.loc 0), some (.int many), some (.loc (r.length + 1)), none, some (.int dr), some (.int (dr / 2 % (many : Int)))] H = .nx [some (.loc 0), some (.int many), some (.loc (r.length + 1)), none, some (.int dr), some (.int (dr / 2 % (many : Int)))] (.lst (dk3.map D.int) :: (r ++ [.lst ((vs.map D.int).set (dr / 2 % (many : Int)).toNat y)])) := by
          have hn : negD (eC (.int 1)) [some (.loc 0), some (.int many), some (.loc (r.length + 1)), none, some (.int dr), some (.int (dr / 2 % (many : Int)))] H = .ok (.int (-1)) H := by simp
          simp only [t__law_row_3a_1, x_item, x_bin, x_lst, x_acons, x_c, x_call, x_var, List.getElem?_cons_succ, List.getElem?_cons_zero, R.bind_ok, x_calm2, x_fdiv, if_pos (show (0 : Int) < 64 ∧ ((64 : Int)).natAbs.log2 < 9000 from ⟨by decide, l2⟩), if_pos (show (0 : Int) < 4096 ∧ ((4096 : Int)).natAbs.log2 < 9000 from ⟨by decide, l3⟩), x_calm1_ok, x_anil, List.length_cons, List.length_nil, Nat.zero_add, Nat.reduceAdd, if_true, eo, hn, if_pos hz, x_newF, x_mod, if_pos (show (0 : Int) < 8 by decide), ey, RS.ofR_ok, hset]
        unfold t__law_row_3
        rw [x_sif, ht]
        exact (seq_nx u0).trans u1
    · refine ⟨vs.map D.int, none, ⟨by simp [hv]; omega, hint⟩, ?_⟩
      have ht : (tAndF (tV (eBin gtD (eVar 1) (eC (.int 0)))) (tV (eBin (eqD false) (eBin modD (eVar 4) (eC (.int 2))) (eC (.int 0))))) [some (.loc 0), some (.int many), some (.loc (r.length + 1)), none, some (.int dr), none] (.lst (dk3.map D.int) :: (r ++ [.lst (vs.map D.int)])) = .ok false (.lst (dk3.map D.int) :: (r ++ [.lst (vs.map D.int)])) := by
        by_cases hp : 0 < many
        · have : ¬ dr % 2 = 0 := fun z => hc ⟨hp, z⟩
          simp [hp, this]
        · simp [hp]
      unfold t__law_row_3
      rw [x_sif, ht]
      rfl
  obtain ⟨xs, y5, ⟨hxl, hxf⟩, t3⟩ := t3
  have hund : undL (r.length + 1) xs = true := undL_iff.mpr fun x hx => und_mono (Nat.zero_le _) x (hxf x hx).1
  have hund0 : undL 0 xs = true := undL_iff.mpr fun x hx => (hxf x hx).1
  have hlen : (d1 ++ [a]).length ≤ dk3.length + 11 := by simp at h2 ⊢; omega
  have hrow : rowOf (.lst (dk3.map D.int) :: (r ++ [.lst xs])) (.loc (r.length + 1)) = some xs := locAt_cons_end
  have hb : ∀ d, sSeq t__law_row_4 t__law_row_5 [some (.loc 0), some (.int many), some (.loc (r.length + 1)), none, some (.int dr), y5] (.lst (dk3.map D.int) :: (r ++ [.lst xs])) = .rt d (.lst (dk3.map D.int) :: (r ++ [.lst xs])) →
      b__law_row ([D.loc 0].map some ++ List.replicate (6 - 1) none) (.lst ((d1 ++ [a]).map D.int) :: r) = .rt d (.lst (dk3.map D.int) :: (r ++ [.lst xs])) := fun d e => (seq_nx t0).trans ((seq_nx t1).trans ((seq_nx t2).trans ((seq_nx t3).trans e)))
  have l4 : Nat.log2 32768 < 9000 := by decide
  by_cases hc : dr / 32768 % 2 = 0
  · refine ⟨.tup xs, dk3, ⟨by simpa using hund0, fun n e => (nomatch e), fun ys e => by cases e; exact ⟨by omega, fun x hx => (hxf x hx).2⟩⟩, hlen, ?_⟩
    unfold F__law_row
    rw [run_eq (n := 1) rfl, hb (.tup xs) (seq_rt (by simp [l4, hc, x_tuple hrow]))]
    exact exitT_head (by simp) (by simpa using hund)
  · refine ⟨.lst xs, dk3, ⟨by simpa using hund0, fun n e => (nomatch e), fun ys e => by cases e; exact ⟨by omega, fun x hx => (hxf x hx).2⟩⟩, hlen, ?_⟩
    unfold F__law_row
    rw [run_eq (n := 1) rfl, hb (.loc (r.length + 1)) ((seq_nx (s' := [some (.loc 0), some (.int many), some (.loc (r.length + 1)), none, some (.int dr), y5]) (h' := .lst (dk3.map D.int) :: (r ++ [.lst xs])) (by simp [l4, hc])).trans rfl)]
    exact exitT_headF (by simp) hund
end WD
namespace WD
open PySem PySem.Spec PyProof.Rows L2
theorem odd_fine {e : D} (h : e ∈ oddL) : Fine e := by
  refine ⟨odd_und h, odd_ty h, fun xs hx => ?_⟩
  simp only [oddL, List.mem_cons, List.not_mem_nil, or_false] at h
  rcases h with rfl | rfl | rfl | rfl | rfl | rfl | rfl | rfl | rfl | rfl | rfl | rfl | rfl | rfl | rfl | rfl <;> cases hx <;> simp
theorem ne_told {h : Hs} : eqD true (.str "told") (.str "told") h = .ok (.bl false) h := by
  unfold eqD
  have : toP h 64 (.str "told") = some (.str "told") := if_pos (by decide +kernel)
  rw [this]
  have : PyData.eqv (.str "told") (.str "told") = true := by decide +kernel
  simp [this]
theorem ne_b3 {h : Hs} {a b c : Bool} : eqD true (b3 a b c) (b3 a b c) h = .ok (.bl false) h := by
  unfold eqD b3
  have : toP h 64 (.lst [.bl a, .bl b, .bl c]) = some (.list [.bool a, .bool b, .bool c]) := toP_lst (d := .lst [.bl a, .bl b, .bl c]) rfl rfl
  rw [this]
  have : PyData.eqv (.list [.bool a, .bool b, .bool c]) (.list [.bool a, .bool b, .bool c]) = true := by cases a <;> cases b <;> cases c <;> decide
  simp [this]
theorem ne_due {d y : D} {w : Int} {h : Hs} : eqD true (dueR d y w) (dueR d y w) h = .ok (.bl false) h := by
  unfold dueR
  split
  · exact ne_b3
  · split
    · exact ne_b3
    · exact ne_told
theorem which_turn {q d y : D} {t w : Int} {x7 : Option D} {H : Hs} (f : Fine d) (hy : ∀ n, y ≠ .ty n) (hw : w = 0 ∨ w = 1 ∨ w = 2) :
    k_law_1_5 [some q, some (.loc 0), some (.int t), some d, some (.bl (isNum d)), some y, some (.int w), x7] H = .nx [some q, some (.loc 0), some (.int t), some d, some (.bl (isNum d)), some y, some (.int w), some (dueR d y w)] H := by
  have h3 : (3 : Nat) ≤ sizeLine := size_small (by decide)
  have hr := F_refusal_eq (w := w) (h := H) f hy hw
  have hl := F_law_whole_eq (d := y) (lo := 0) (hi := 1000000) (h := H) hy
  have hne := ne_due (d := d) (y := y) (w := w) (h := H)
  refine (seq_nx (s' := [some q, some (.loc 0), some (.int t), some d, some (.bl (isNum d)), some y, some (.int w), some (.str "told")]) (h' := H) rfl).trans ?_
  refine (seq_nx (s' := [some q, some (.loc 0), some (.int t), some d, some (.bl (isNum d)), some y, some (.int w), some (dueR d y w)]) (h' := H) ?_).trans ?_
  · unfold dueR b3
    cases hn : isNum d with
    | false => simp [h3]
    | true =>
      by_cases h2 : w = 2
      · subst h2
        cases hq : isW 0 1000000 y with
        | false => rw [hq] at hl; simp [hl, h3]
        | true => rw [hq] at hl; simp [hl]
      · simp [h2]
  · simp [hr, hne]
theorem which_loop {q d y : D} {t : Int} {H : Hs} (f : Fine d) (hy : ∀ n, y ≠ .ty n) : ∀ (ws : List Int) (x6 x7 : Option D), (∀ w ∈ ws, w = 0 ∨ w = 1 ∨ w = 2) → ∃ y6 y7,
    loopS (gVar 6) k_law_1_5 (ws.map D.int) [some q, some (.loc 0), some (.int t), some d, some (.bl (isNum d)), some y, x6, x7] H = .nx [some q, some (.loc 0), some (.int t), some d, some (.bl (isNum d)), some y, y6, y7] H
  | [], x6, x7, _ => ⟨x6, x7, rfl⟩
  | w :: ws, x6, x7, hw => by
    obtain ⟨y6, y7, e⟩ := which_loop (q := q) (t := t) (H := H) f hy ws (some (.int w)) (some (dueR d y w)) fun v hv => hw v (List.mem_cons_of_mem _ hv)
    exact ⟨y6, y7, (loop_nx (s1 := [some q, some (.loc 0), some (.int t), some d, some (.bl (isNum d)), some y, some (.int w), x7]) rfl (which_turn f hy (hw w List.mem_cons_self))).trans e⟩
theorem k1_turn {q : D} {x3 x4 x5 x6 x7 : Option D} {t : Int} {dk : List Int} {r : Hs} (hd : 13 ≤ dk.length) : ∃ (y3 y4 y5 y6 y7 : Option D) (dk' : List Int), dk.length ≤ dk'.length + 13 ∧
    k_law_1 [some q, some (.loc 0), some (.int t), x3, x4, x5, x6, x7] (.lst (dk.map D.int) :: r) = .nx [some q, some (.loc 0), some (.int t), y3, y4, y5, y6, y7] (.lst (dk'.map D.int) :: r) := by
  obtain ⟨d0, dk1, f0, h1, er⟩ := F_row_eq (dk := dk) (r := r) (by omega)
  have e0 : t_law_1_0 [some q, some (.loc 0), some (.int t), x3, x4, x5, x6, x7] (.lst (dk.map D.int) :: r) = .nx [some q, some (.loc 0), some (.int t), some d0, x4, x5, x6, x7] (.lst (dk1.map D.int) :: r) := by
    simp [er]
  have e1 : ∃ (d : D) (dk2 : List Int), Fine d ∧ dk1.length ≤ dk2.length + 1 ∧ t_law_1_1 [some q, some (.loc 0), some (.int t), some d0, x4, x5, x6, x7] (.lst (dk1.map D.int) :: r) = .nx [some q, some (.loc 0), some (.int t), some d, x4, x5, x6, x7] (.lst (dk2.map D.int) :: r) := by
    by_cases ht : 3 < t
    · obtain ⟨dk2, a, rfl⟩ := split_last (l := dk1) (by omega)
      obtain ⟨e, he, eo⟩ := F_odd_eq (dr := a) (h := .lst (dk2.map D.int) :: r)
      refine ⟨e, dk2, odd_fine he, by simp, ?_⟩
      have hb : t_law_1_1a_0 [some q, some (.loc 0), some (.int t), some d0, x4, x5, x6, x7] (.lst ((dk2 ++ [a]).map D.int) :: r) = .nx [some q, some (.loc 0), some (.int t), some e, x4, x5, x6, x7] (.lst (dk2.map D.int) :: r) := by
        simp only [t_law_1_1a_0, x_set, x_call, x_acons, pop_var (i := 1) (s := [some q, some (.loc 0), some (.int t), some d0, x4, x5, x6, x7]) rfl, R.bind_ok, x_anil, List.length_cons, List.length_nil, Nat.zero_add, if_true, eo, RS.ofR_ok]
        rfl
      have htt : (tV (eBin gtD (eVar 2) (eC (.int 3)))) [some q, some (.loc 0), some (.int t), some d0, x4, x5, x6, x7] (.lst ((dk2 ++ [a]).map D.int) :: r) = .ok true (.lst ((dk2 ++ [a]).map D.int) :: r) := by
        simp [ht]
      unfold t_law_1_1
      rw [x_sif, htt]
      exact hb
    · refine ⟨d0, dk1, f0, by omega, ?_⟩
      simp [ht]
  obtain ⟨d, dk2, f, h2, e1⟩ := e1
  obtain ⟨dk3, a, rfl⟩ := split_last (l := dk2) (by omega)
  have e2 : t_law_1_2 [some q, some (.loc 0), some (.int t), some d, x4, x5, x6, x7] (.lst ((dk3 ++ [a]).map D.int) :: r) = .nx [some q, some (.loc 0), some (.int t), some d, some (.bl (isNum d)), x5, x6, x7] (.lst ((dk3 ++ [a]).map D.int) :: r) := by
    have := F_law_is_gen (h := .lst ((dk3 ++ [a]).map D.int) :: r) f
    generalize (O.lst ((dk3 ++ [a]).map D.int) :: r : Hs) = H at *
    simp [this]
  have e3 : t_law_1_3 [some q, some (.loc 0), some (.int t), some d, some (.bl (isNum d)), x5, x6, x7] (.lst ((dk3 ++ [a]).map D.int) :: r) = .nx [some q, some (.loc 0), some (.int t), some d, some (.bl (isNum d)), x5, x6, x7] (.lst ((dk3 ++ [a]).map D.int) :: r) := by
    have := F_is_numbers_gen (h := .lst ((dk3 ++ [a]).map D.int) :: r) f
    generalize (O.lst ((dk3 ++ [a]).map D.int) :: r : Hs) = H at *
    simp [this, F_truth_eq]
  have hz : (8 : Nat) ≤ sizeLine := size_small (by decide)
  obtain ⟨y, hy, ey⟩ := ix_any (h := .lst (dk3.map D.int) :: r) (d := .lst [.int 0, .int 5, .int 1000000, .int (-1), .non, .bl true, .str "7", .int 1000001]) (i := a % 8) rfl (by omega) (by simp; omega)
  have hyt : ∀ n, y ≠ .ty n := by
    intro n e
    subst e
    simp at hy
  have e4 : t_law_1_4 [some q, some (.loc 0), some (.int t), some d, some (.bl (isNum d)), x5, x6, x7] (.lst ((dk3 ++ [a]).map D.int) :: r) = .nx [some q, some (.loc 0), some (.int t), some d, some (.bl (isNum d)), some y, x6, x7] (.lst (dk3.map D.int) :: r) := by
    have hn : negD (eC (.int 1)) [some q, some (.loc 0), some (.int t), some d, some (.bl (isNum d)), x5, x6, x7] (.lst ((dk3 ++ [a]).map D.int) :: r) = .ok (.int (-1)) (.lst ((dk3 ++ [a]).map D.int) :: r) := by simp
    simp only [t_law_1_4, x_set, x_bin, x_lst, x_acons, x_c, hn, R.bind_ok, x_anil, List.length_cons, List.length_nil, Nat.zero_add, Nat.reduceAdd, if_pos hz, x_newF, pop_var (i := 1) (s := [some q, some (.loc 0), some (.int t), some d, some (.bl (isNum d)), x5, x6, x7]) rfl, x_calm2, x_mod, if_pos (show (0 : Int) < 8 by decide), x_calm1_ok, ey, RS.ofR_ok]
    rfl
  obtain ⟨y6, y7, e5⟩ := which_loop (q := q) (t := t) (H := .lst (dk3.map D.int) :: r) f hyt ((List.range 3).map fun (i : Nat) => 0 + (i : Int)) x6 x7 (by simp; omega)
  rw [← rgL_ints] at e5
  have e5' : t_law_1_5 [some q, some (.loc 0), some (.int t), some d, some (.bl (isNum d)), some y, x6, x7] (.lst (dk3.map D.int) :: r) = .nx [some q, some (.loc 0), some (.int t), some d, some (.bl (isNum d)), some y, y6, y7] (.lst (dk3.map D.int) :: r) :=
    (sFor_rng (iRng1_ok (n := 3) rfl (by decide))).trans e5
  exact ⟨_, _, _, _, _, dk3, by simp at h2; omega, (seq_nx e0).trans ((seq_nx e1).trans ((seq_nx e2).trans ((seq_nx e3).trans ((seq_nx e4).trans e5'))))⟩
theorem k1_loop {q : D} : ∀ (ts : List Int) (x2 x3 x4 x5 x6 x7 : Option D) (dk : List Int) (r : Hs), ts.length * 13 ≤ dk.length → ∃ (y2 y3 y4 y5 y6 y7 : Option D) (o : O),
    loopS (gVar 2) k_law_1 (ts.map D.int) [some q, some (.loc 0), x2, x3, x4, x5, x6, x7] (.lst (dk.map D.int) :: r) = .nx [some q, some (.loc 0), y2, y3, y4, y5, y6, y7] (o :: r)
  | [], x2, x3, x4, x5, x6, x7, dk, r, _ => ⟨x2, x3, x4, x5, x6, x7, _, rfl⟩
  | t :: ts, x2, x3, x4, x5, x6, x7, dk, r, hd => by
    rw [List.length_cons] at hd
    obtain ⟨y3, y4, y5, y6, y7, dk', hk, e⟩ := k1_turn (q := q) (x3 := x3) (x4 := x4) (x5 := x5) (x6 := x6) (x7 := x7) (t := t) (dk := dk) (r := r) (by omega)
    obtain ⟨z2, z3, z4, z5, z6, z7, o, e2⟩ := k1_loop (q := q) ts (some (.int t)) y3 y4 y5 y6 y7 dk' r (by omega)
    exact ⟨z2, z3, z4, z5, z6, z7, o, (loop_nx (s1 := [some q, some (.loc 0), some (.int t), x3, x4, x5, x6, x7]) rfl e).trans e2⟩
theorem law_pure : ∀ ns : List Int, ns.length ≤ 63 → ∃ h, F_law [.scr (ns.map D.int)] [] = .ok (.bl true) h := fun ns _ => by
  obtain ⟨deck, hl, ed⟩ := F_deck (ns := ns) (n := 90) (h := []) (by decide)
  obtain ⟨y2, y3, y4, y5, y6, y7, o, e⟩ := k1_loop (q := .scr (ns.map D.int)) ((List.range 6).map fun (i : Nat) => 0 + (i : Int)) none none none none none none deck [] (by simp; omega)
  rw [← rgL_ints] at e
  refine ⟨[], ?_⟩
  unfold F_law
  rw [run_eq (n := 1) rfl]
  have t1 : t_law_0 [some (.scr (ns.map D.int)), none, none, none, none, none, none, none] [] = .nx [some (.scr (ns.map D.int)), some (.loc 0), none, none, none, none, none, none] [.lst (deck.map D.int)] := by
    have ed' : F__law_deck [.scr (ns.map D.int), .int 90] [] = .ok (.loc 0) [.lst (deck.map D.int)] := ed
    simp [ed']
  have t2 : t_law_1 [some (.scr (ns.map D.int)), some (.loc 0), none, none, none, none, none, none] [.lst (deck.map D.int)] = .nx [some (.scr (ns.map D.int)), some (.loc 0), y2, y3, y4, y5, y6, y7] [o] :=
    (sFor_rng (iRng1_ok (n := 6) rfl (by decide))).trans e
  have e2 : b_law ([D.scr (ns.map D.int)].map some ++ List.replicate (8 - 1) none) [] = .rt (.bl true) [o] :=
    (seq_nx t1).trans ((seq_nx t2).trans rfl)
  rw [e2]
  exact exitT_app (d := .bl true) (h := []) (t := [o]) rfl
end WD
namespace WD
open PySem PySem.Spec PyProof.Rows L2
theorem law_sp {K : PySem.W.Frag} (pure : ∀ ns : List Int, ns.length ≤ 63 → ∃ h, F_law [.scr (ns.map D.int)] [] = .ok (.bl true) h) (H : Hp) (a : Addr) (ns : List Int) (hl : ns.length ≤ 63) (hO : Only H) (hS : SqL K H a (ns.map V.int)) : spL K F_law [.ref a] H (fun v _ => v = .bl true) fun _ _ _ => False := by
  obtain ⟨h, e⟩ := pure ns hl
  have key : ∀ g : Hp, Same g H → (∀ b o, g b = some o → SzO o) → SqL K g a (ns.map V.int) → spL K F_law [.ref a] H (fun v _ => v = .bl true) fun _ _ _ => False := fun g hg hz hs => by
    refine ⟨rfl, (g, fun _ => none), [], [.scr (ns.map D.int)], [], ⟨hg, hz, fun _ _ e => (nomatch e), fun _ _ e => (nomatch e), rfl, .nil, fun _ h => (nomatch h), fun n a o e => by simp at e⟩, ⟨.ref a, [], rfl, ⟨a, _, rfl, hs, .of_ints ns⟩, rfl⟩, ?_⟩
    rw [e]
    intro v H' G' ms' _ _ _ i
    exact i
  have one : ∀ u, H a = some u → SzO u → SqL K (fun b => if b = a then some u else none) a (ns.map V.int) → spL K F_law [.ref a] H (fun v _ => v = .bl true) fun _ _ _ => False := fun u hu hz hs => by
    refine key _ (fun b o e => ?_) (fun b o e => ?_) hs
    · split at e
      · rename_i hb; cases e; rw [hb]; exact hu
      · cases e
    · split at e
      · cases e; exact hz
      · cases e
  have len : (ns.map V.int).length ≤ sizeLine := by rw [List.length_map]; exact Nat.le_trans hl (by decide)
  rcases hS with (q | ⟨o, q⟩) | q
  · exact one _ q len (.inl (.inl (if_pos rfl)))
  · exact one _ q len (.inl (.inr ⟨o, if_pos rfl⟩))
  · exact key (fun _ => none) (fun _ _ e => (nomatch e)) (fun _ _ e => (nomatch e)) (.inr q)
end WD
open PySem PySem.W PyProof.Rows
set_option maxHeartbeats 0 in
theorem PySem.Challenge.cw_withindays_k01_numbers_told_holds : PySem.Challenge.rw_withindays_k01_numbers_told.Holds := by
  w_on; o_law; k_head; (case hw => w_witness2)
  k_fill
  refine L2.walk_of (l := PySem.Challenge.rw_withindays_k01_numbers_told) (n := 63) (k := 6) (x := "_law_script") (CX := fun w => L2.CX (PySem.Challenge.rw_withindays_k01_numbers_told).prog w) (sp := fun w => WD.spL _ WD.F_law) rfl (by decide) rfl ⟨rfl, by decide, by decide⟩ (fun w h Y => PySem.W.kIn_of Y) ?F (fun _ H a ns hl hO hS => WD.law_sp WD.law_pure H a ns hl hO hS) (fun _ _ _ _ _ (h : L2.CX _ _ _ _ _ _ _ _) => by obtain ⟨_, _, _, _, _, _, _, _, _, _, _, _, z⟩ := h; exact z.elim)
  case F =>
    intro w mg fa h KX G hmg
    refine' WD.all_mk KX G hmg ?a0 ?l0 ?c0 ?k0 ?a1 ?l1 ?c1 ?k1 ?a2 ?l2 ?c2 ?k2 ?a3 ?l3 ?c3 ?k3 ?a4 ?l4 ?c4 ?k4 ?a5 ?l5 ?c5 ?k5 ?a6 ?l6 ?c6 ?k6 ?a7 ?l7 ?c7 ?k7 ?a8 ?l8 ?c8 ?k8 ?a9 ?l9 ?c9 ?k9 ?a10 ?l10 ?c10 ?k10 ?a11 ?l11 ?c11 ?k11 ?a12 ?l12 ?c12 ?k12 ?a13 ?l13 ?c13 ?k13 ?a14 ?l14 ?c14 ?k14 ?a15 ?l15 ?c15 ?k15 ?a16 ?l16 ?c16 ?k16 ?a17 ?l17 ?c17 ?k17 ?z_ValueError ?z_bool ?z_int ?z_isinstance ?z_len ?z_list ?z_range ?z_sum ?z_tuple ?xa_DaysError ?xq_DaysError ?xk_DaysError ?xb_DaysError ?xt_DaysError ?xa_NoNumbers ?xq_NoNumbers ?xk_NoNumbers ?xb_NoNumbers ?xt_NoNumbers ?xa_NoDays ?xq_NoDays ?xk_NoDays ?xb_NoDays ?xt_NoDays ?ehg_NoNumbers ?ehk_NoNumbers ?ehs_NoNumbers ?ehd_NoNumbers ?eha_NoNumbers ?ehn_NoNumbers ?eht_NoNumbers ?ehm_NoNumbers ?ehg_NoDays ?ehk_NoDays ?ehs_NoDays ?ehd_NoDays ?eha_NoDays ?ehn_NoDays ?eht_NoDays ?ehm_NoDays ?m_NoNumbers_DaysError ?m_NoDays_DaysError ?k_NoNumbers_NoDays ?k_NoDays_NoDays ?k_NoNumbers_NoNumbers ?k_NoDays_NoNumbers ?k_NoNumbers_ValueError ?k_NoDays_ValueError ?cc_GREATEST ?cc_MOST_DAYS ?cc_MOST_THINGS
    (case a0 => k_is); (case l0 => k_is); (case c0 => k_is); (case k0 => k_is); (case a1 => k_is); (case l1 => k_is); (case c1 => k_is); (case k1 => k_is); (case a2 => k_is); (case l2 => k_is); (case c2 => k_is); (case k2 => k_is); (case a3 => k_is); (case l3 => k_is); (case c3 => k_is); (case k3 => k_is); (case a4 => k_is); (case l4 => k_is); (case c4 => k_is); (case k4 => k_is); (case a5 => k_is); (case l5 => k_is); (case c5 => k_is); (case k5 => k_is); (case a6 => k_is); (case l6 => k_is); (case c6 => k_is); (case k6 => k_is); (case a7 => k_is); (case l7 => k_is); (case c7 => k_is); (case k7 => k_is); (case a8 => k_is); (case l8 => k_is); (case c8 => k_is); (case k8 => k_is); (case a9 => k_is); (case l9 => k_is); (case c9 => k_is); (case k9 => k_is); (case a10 => k_is); (case l10 => k_is); (case c10 => k_is); (case k10 => k_is); (case a11 => k_is); (case l11 => k_is); (case c11 => k_is); (case k11 => k_is); (case a12 => k_is); (case l12 => k_is); (case c12 => k_is); (case k12 => k_is); (case a13 => k_is); (case l13 => k_is); (case c13 => k_is); (case k13 => k_is); (case a14 => k_is); (case l14 => k_is); (case c14 => k_is); (case k14 => k_is); (case a15 => k_is); (case l15 => k_is); (case c15 => k_is); (case k15 => k_is); (case a16 => k_is); (case l16 => k_is); (case c16 => k_is); (case k16 => k_is); (case a17 => k_is); (case l17 => k_is); (case c17 => k_is); (case k17 => k_is); (case z_ValueError => k_is); (case z_bool => k_is); (case z_int => k_is); (case z_isinstance => k_is); (case z_len => k_is); (case z_list => k_is); (case z_range => k_is); (case z_sum => k_is); (case z_tuple => k_is); (case xa_DaysError => k_is); (case xq_DaysError => k_exc); (case xk_DaysError => k_is); (case xb_DaysError => k_is); (case xt_DaysError => k_is); (case xa_NoNumbers => k_is); (case xq_NoNumbers => k_exc); (case xk_NoNumbers => k_is); (case xb_NoNumbers => k_is); (case xt_NoNumbers => k_is); (case xa_NoDays => k_is); (case xq_NoDays => k_exc); (case xk_NoDays => k_is); (case xb_NoDays => k_is); (case xt_NoDays => k_is); (case ehg_NoNumbers => k_is); (case ehk_NoNumbers => k_is); (case ehs_NoNumbers => k_is); (case ehd_NoNumbers => k_is); (case eha_NoNumbers => k_is); (case ehn_NoNumbers => k_is); (case eht_NoNumbers => k_is); (case ehm_NoNumbers => k_is); (case ehg_NoDays => k_is); (case ehk_NoDays => k_is); (case ehs_NoDays => k_is); (case ehd_NoDays => k_is); (case eha_NoDays => k_is); (case ehn_NoDays => k_is); (case eht_NoDays => k_is); (case ehm_NoDays => k_is); (case m_NoNumbers_DaysError => kts_exm); (case m_NoDays_DaysError => kts_exm); (case k_NoNumbers_NoDays => kit_is); (case k_NoDays_NoDays => kit_is); (case k_NoNumbers_NoNumbers => kit_is); (case k_NoDays_NoNumbers => kit_is); (case k_NoNumbers_ValueError => kit_is); (case k_NoDays_ValueError => kit_is); (case cc_GREATEST => k_is); (case cc_MOST_DAYS => k_is); (case cc_MOST_THINGS => k_is)
